import PyProof.Rows.All
import Wide.All
import OpenK.AllK
import Wide.FinOn
import HandS.ForMost
import HandS.Wide
import HandS.IsInst
import HandS.More
import HandS.Deep
import HandS.Style
import HandS.Zip
import HandS.TupSets
import HandS.TupAny
import HandS.Keys
import HandS.Small
import HandS.Conv
import HandS.Exc
import HandS.ExcOwn
import HandS.ExcIs
import HandS.ExcInit
import HandS.ExcField
import HandS.WordsExc
import KE.KExcIs
import HandS.Text
import HandS.Codes
import HandS.Iter
import HandS.SetFor
import HandS.Remove
import HandS.Replace
import PyProof.StrOps2
import HandS.DictEq
import HandS.DictTup
import HandS.NoneIn
import KE.KDictKeyed
import HandS.TupLen
import KE.SortData
import HandS.ReplaceLit
import KE.GoesMore
import KE.GoesEnum
import KE.DataFind
import PyProof.ToksMono
import PyProof.ReprRoads
import PyProof.ReprLen
import HandS.HeadEnd
import HandS.Head0
import HandS.Head1
import HandS.Head2
import HandS.HeadEnd
import HandS.HeadHook1
import Wide.Once
import PySem.Challenge.RW_leadtimes_k23_shapes_of_waiting
set_option Elab.async false
set_option linter.all false
set_option maxRecDepth 100000
set_option autoImplicit false
set_option maxHeartbeats 4000000
/-! A layer of data over the hand layer: tuples are values, lists stand in a store. -/
namespace DL
open PySem PySem.Spec PyProof.Rows L2
/-- data: a tuple is a value; a list that nobody writes (fl) is one, too; a list that may be written is told by its address -/
inductive D where
  | non | bl (b : Bool) | int (i : Int) | str (x : Str) | ty (n : String) | ref (a : Addr) | tup (ds : List D) | fl (ds : List D) | exc (x : Str) (f : Option (Str × Int))
/-- a class: its name, and its objects' fields in the order in which they are first written -/
structure Kls where
  name : Str
  fields : List Str
/-- what stands in the store -/
inductive O where
  | lst (ds : List D) | ins (k : Kls) (ds : List D) | dic (kvs : List (Key × D)) | fdc (o : Obj) (kvs : List (Key × D)) | dct (kvs : List (List Key × D)) | fdt (o : Obj) (kvs : List (List Key × D)) | ndc (ks : List ((Int × Int) × (Int × Int)))
abbrev Sto := Addr → Option O
/-- of a list that stands -/
def getO : Option O → (List D → Prop) → Prop
  | some (.lst xs), k => k xs
  | _, _ => False
theorem getO_get {o : Option O} {k : List D → Prop} (h : getO o k) : ∃ xs, o = some (.lst xs) ∧ k xs := by
  unfold getO at h
  split at h
  · exact ⟨_, rfl, h⟩
  · exact h.elim
theorem getO_of {o : Option O} {k : List D → Prop} {xs : List D} (e : o = some (.lst xs)) (h : k xs) : getO o k := by subst e; exact h
def onS {α : Type} : Option α → (α → Prop) → Prop
  | some x, k => k x
  | none, _ => False
theorem onS_get {α : Type} {o : Option α} {k : α → Prop} (h : onS o k) : ∃ x, o = some x ∧ k x := by
  cases o with
  | none => exact h.elim
  | some x => exact ⟨x, rfl, h⟩
theorem onS_of {α : Type} {o : Option α} {k : α → Prop} {x : α} (e : o = some x) (h : k x) : onS o k := by subst e; exact h
def ups (S : Sto) (a : Addr) (o : O) : Sto := fun b => if b = a then some o else S b
theorem ups_same {S : Sto} {a : Addr} {o : O} : ups S a o a = some o := by unfold ups; rw [if_pos rfl]
theorem ups_ne {S : Sto} {a b : Addr} {o : O} (h : b ≠ a) : ups S a o b = S b := by unfold ups; rw [if_neg h]
theorem ups_ups {S : Sto} {a : Addr} {o u : O} : ups (ups S a o) a u = ups S a u := by
  funext b; unfold ups; split <;> rfl
/-- all that stands in the one stands in the other -/
def Sub (S S' : Sto) : Prop := ∀ a o, S a = some o → S' a = some o
theorem Sub.refl (S : Sto) : Sub S S := fun _ _ h => h
theorem Sub.trans {S S1 S2 : Sto} (a : Sub S S1) (b : Sub S1 S2) : Sub S S2 := fun c o h => b c o (a c o h)
theorem ne_of_st {S : Sto} {a b : Addr} {o : O} (h : S a = some o) (h' : S b = none) : a ≠ b := by
  intro e; subst e; rw [h] at h'; cases h'
theorem Sub.new {S S' : Sto} {p : Addr} {o : O} (h : Sub S S') (n : S p = none) : Sub S (ups S' p o) := fun a u e => by
  rw [ups_ne (ne_of_st e n)]; exact h a u e
theorem Sub.none {S S' : Sto} {p : Addr} (h : Sub S S') (n : S' p = none) : S p = none := by
  cases q : S p with
  | none => rfl
  | some o => rw [h p o q] at n; cases n
theorem Sub.upd {S S' : Sto} {p : Addr} {o : O} (h : Sub S S') : Sub (ups S p o) (ups S' p o) := fun a u e => by
  by_cases ha : a = p
  · subst ha; rw [ups_same] at e ⊢; exact e
  · rw [ups_ne ha] at e ⊢; exact h a u e
/-- a list that nobody writes: known to its object, or of the module -/
def FrzL (K : PySem.W.Frag) (H : Hp) (a : Addr) (xs : List V) : Prop :=
  (∃ o, H a = some (.frz o (.lst xs))) ∨
    ∃ (o : Obj) (its : Array Value) (n : Nat), K.lookup a = some o ∧ o.cls = .type "list" ∧ o.dict = none ∧ o.data = .seq its n ∧ its.size ≤ sizeLine ∧ Vals xs its.toList
theorem FrzL.sq {K : PySem.W.Frag} {H : Hp} {a : Addr} {xs : List V} (h : FrzL K H a xs) : SqL K H a xs := by
  rcases h with h | h
  · exact .inl (.inr h)
  · exact .inr h
/-- a class of the module, by its name -/
def cA (K : PySem.W.Frag) (x : Str) : Addr := match PySem.W.nsIn K mainGlobals x with
  | some (some (.ref a)) => a
  | _ => 0
/-- something stands at a -/
def anyO (a : Addr) : HO := .ext fun h => ∃ o, h.get? a = some o
/-- the dict of an exception that nobody writes any more: no field, or one -/
def XDict (H : Hp) : Option Addr → Option (Str × Int) → Prop
  | none, none => True
  | some d, some (n, i) => ∃ od, H d = some (.frz od (.xd [(n, .int i)]))
  | _, _ => False
/-- an exception that was caught, of the class x, with its field -/
def ExcAt (K : PySem.W.Frag) (H : Hp) (a : Addr) (x : Str) (f : Option (Str × Int)) : Prop :=
  ∃ oe : Obj, H a = some (.frz oe (anyO a)) ∧ oe.cls = .ref (cA K x) ∧ (∃ vs, oe.data = .fields vs) ∧ XDict H oe.dict f
mutual
/-- d stands for v -/
inductive Dv (K : PySem.W.Frag) (H : Hp) : D → V → Prop
  | non : Dv K H .non .non
  | bl (b : Bool) : Dv K H (.bl b) (.bl b)
  | int (i : Int) : Dv K H (.int i) (.int i)
  | str (x : Str) : Dv K H (.str x) (.str x)
  | ty (n : String) : Dv K H (.ty n) (.ty n)
  | ref (a : Addr) : Dv K H (.ref a) (.ref a)
  | tup {p : Addr} {vs : List V} {ds : List D} : SqT K H p vs → Dvs K H ds vs → Dv K H (.tup ds) (.ref p)
  | fl {p : Addr} {vs : List V} {ds : List D} : FrzL K H p vs → Dvs K H ds vs → Dv K H (.fl ds) (.ref p)
  | exc {a : Addr} {x : Str} {f : Option (Str × Int)} : ExcAt K H a x f → Dv K H (.exc x f) (.ref a)
inductive Dvs (K : PySem.W.Frag) (H : Hp) : List D → List V → Prop
  | nil : Dvs K H [] []
  | cons {d : D} {v : V} {ds : List D} {vs : List V} : Dv K H d v → Dvs K H ds vs → Dvs K H (d :: ds) (v :: vs)
end
/-- the tuples, and the lists that nobody writes, stand as they stood -/
structure Good0 (K : PySem.W.Frag) (H H' : Hp) : Prop where
  tp : ∀ a xs, SqT K H a xs → SqT K H' a xs
  fz : ∀ a xs, FrzL K H a xs → FrzL K H' a xs
  xe : ∀ a x f, ExcAt K H a x f → ExcAt K H' a x f
/-- .. and what is locked -/
structure Good (K : PySem.W.Frag) (H H' : Hp) : Prop extends Good0 K H H' where
  fd : ∀ a o u, H a = some (.frz o u) → H' a = some (.frz o u)
theorem XDict.by {H H' : Hp} (g : ∀ a o u, H a = some (.frz o u) → H' a = some (.frz o u)) : ∀ {d : Option Addr} {f : Option (Str × Int)}, XDict H d f → XDict H' d f
  | none, none, _ => trivial
  | some _, some (_, _), ⟨od, q⟩ => ⟨od, g _ _ _ q⟩
  | none, some _, h => h.elim
  | some _, none, h => h.elim
theorem ExcAt.by {K : PySem.W.Frag} {H H' : Hp} (g : ∀ a o u, H a = some (.frz o u) → H' a = some (.frz o u)) {a : Addr} {x : Str} {f : Option (Str × Int)} : ExcAt K H a x f → ExcAt K H' a x f := fun ⟨oe, h1, h2, h3, h4⟩ => by
  exact ⟨oe, g _ _ _ h1, h2, h3, h4.by g⟩
theorem Good.refl {K : PySem.W.Frag} (H : Hp) : Good K H H := ⟨⟨fun _ _ h => h, fun _ _ h => h, fun _ _ _ h => h⟩, fun _ _ _ h => h⟩
theorem Good.trans {K : PySem.W.Frag} {H H1 H2 : Hp} (a : Good K H H1) (b : Good K H1 H2) : Good K H H2 := ⟨⟨fun p xs h => b.tp p xs (a.tp p xs h), fun p xs h => b.fz p xs (a.fz p xs h), fun p x f h => b.xe p x f (a.xe p x f h)⟩, fun p o u h => b.fd p o u (a.fd p o u h)⟩
mutual
theorem Dv.keep0 {K : PySem.W.Frag} {H H' : Hp} (g : Good0 K H H') : ∀ (d : D) (v : V), Dv K H d v → Dv K H' d v
  | .non, _, h => by cases h; exact .non
  | .bl b, _, h => by cases h; exact .bl b
  | .int b, _, h => by cases h; exact .int b
  | .str b, _, h => by cases h; exact .str b
  | .ty b, _, h => by cases h; exact .ty b
  | .ref b, _, h => by cases h; exact .ref b
  | .tup ds, _, h => by
    cases h with
    | tup h1 h2 => exact .tup (g.tp _ _ h1) (Dvs.keep0 g ds _ h2)
  | .fl ds, _, h => by
    cases h with
    | fl h1 h2 => exact .fl (g.fz _ _ h1) (Dvs.keep0 g ds _ h2)
  | .exc x f, _, h => by
    cases h with
    | exc h1 => exact .exc (g.xe _ _ _ h1)
theorem Dvs.keep0 {K : PySem.W.Frag} {H H' : Hp} (g : Good0 K H H') : ∀ (ds : List D) (vs : List V), Dvs K H ds vs → Dvs K H' ds vs
  | [], _, h => by cases h; exact .nil
  | d :: ds, _, h => by
    cases h with
    | cons h1 h2 => exact .cons (Dv.keep0 g d _ h1) (Dvs.keep0 g ds _ h2)
end
theorem Dv.keep {K : PySem.W.Frag} {H H' : Hp} (g : Good K H H') (d : D) (v : V) (h : Dv K H d v) : Dv K H' d v := Dv.keep0 g.toGood0 d v h
theorem Dvs.keep {K : PySem.W.Frag} {H H' : Hp} (g : Good K H H') (ds : List D) (vs : List V) (h : Dvs K H ds vs) : Dvs K H' ds vs := Dvs.keep0 g.toGood0 ds vs h
theorem Dvs.length {K : PySem.W.Frag} {H : Hp} : ∀ {ds : List D} {vs : List V}, Dvs K H ds vs → ds.length = vs.length
  | [], _, h => by cases h; rfl
  | _ :: ds, _, h => by
    cases h with
    | cons h1 h2 => rw [List.length_cons, List.length_cons, Dvs.length h2]
theorem Dvs.at {K : PySem.W.Frag} {H : Hp} : ∀ {ds : List D} {vs : List V} {i : Nat} {d : D}, Dvs K H ds vs → ds[i]? = some d → ∃ v, vs[i]? = some v ∧ Dv K H d v
  | [], _, _, _, _, e => by simp at e
  | _ :: ds, _, 0, d, h, e => by
    cases h with
    | cons h1 h2 =>
      obtain rfl := Option.some.inj e
      exact ⟨_, rfl, h1⟩
  | _ :: ds, _, i + 1, d, h, e => by
    cases h with
    | cons h1 h2 => exact Dvs.at (i := i) h2 e
theorem Dvs.at' {K : PySem.W.Frag} {H : Hp} : ∀ {ds : List D} {vs : List V} {i : Nat} {v : V}, Dvs K H ds vs → vs[i]? = some v → ∃ d, ds[i]? = some d ∧ Dv K H d v
  | [], _, _, _, h, e => by cases h; simp at e
  | _ :: ds, _, 0, v, h, e => by
    cases h with
    | cons h1 h2 =>
      obtain rfl := Option.some.inj e
      exact ⟨_, rfl, h1⟩
  | _ :: ds, _, i + 1, v, h, e => by
    cases h with
    | cons h1 h2 => exact Dvs.at' (i := i) h2 e
theorem Dvs.append {K : PySem.W.Frag} {H : Hp} : ∀ {ds es : List D} {vs us : List V}, Dvs K H ds vs → Dvs K H es us → Dvs K H (ds ++ es) (vs ++ us)
  | [], _, _, _, h, k => by cases h; exact k
  | _ :: ds, _, _, _, h, k => by
    cases h with
    | cons h1 h2 => exact .cons h1 (Dvs.append h2 k)
theorem Dvs.set {K : PySem.W.Frag} {H : Hp} {d : D} {v : V} (r : Dv K H d v) : ∀ {ds : List D} {vs : List V} (i : Nat), Dvs K H ds vs → Dvs K H (ds.set i d) (vs.set i v)
  | [], _, _, h => by cases h; exact .nil
  | _ :: ds, _, 0, h => by
    cases h with
    | cons h1 h2 => exact .cons r h2
  | _ :: ds, _, i + 1, h => by
    cases h with
    | cons h1 h2 => exact .cons h1 (Dvs.set r i h2)
theorem Dvs.take {K : PySem.W.Frag} {H : Hp} : ∀ {ds : List D} {vs : List V} (n : Nat), Dvs K H ds vs → Dvs K H (ds.take n) (vs.take n)
  | _, _, 0, _ => by simpa using Dvs.nil
  | [], _, _ + 1, h => by cases h; exact .nil
  | _ :: ds, _, n + 1, h => by
    cases h with
    | cons h1 h2 => exact .cons h1 (Dvs.take n h2)
theorem Dvs.drop {K : PySem.W.Frag} {H : Hp} : ∀ {ds : List D} {vs : List V} (n : Nat), Dvs K H ds vs → Dvs K H (ds.drop n) (vs.drop n)
  | _, _, 0, h => h
  | [], _, _ + 1, h => by cases h; exact .nil
  | _ :: ds, _, n + 1, h => by
    cases h with
    | cons h1 h2 => exact Dvs.drop n h2
theorem Dvs.dropLast {K : PySem.W.Frag} {H : Hp} {ds : List D} {vs : List V} (h : Dvs K H ds vs) : Dvs K H ds.dropLast vs.dropLast := by
  rw [List.dropLast_eq_take, List.dropLast_eq_take, h.length]
  exact h.take _
theorem Dvs.eraseIdx {K : PySem.W.Frag} {H : Hp} : ∀ {ds : List D} {vs : List V} (i : Nat), Dvs K H ds vs → Dvs K H (ds.eraseIdx i) (vs.eraseIdx i)
  | [], _, _, h => by cases h; exact .nil
  | _ :: ds, _, 0, h => by
    cases h with
    | cons h1 h2 => exact h2
  | _ :: ds, _, i + 1, h => by
    cases h with
    | cons h1 h2 => exact .cons h1 (Dvs.eraseIdx i h2)
theorem Dvs.reverse {K : PySem.W.Frag} {H : Hp} : ∀ {ds : List D} {vs : List V}, Dvs K H ds vs → Dvs K H ds.reverse vs.reverse
  | [], _, h => by cases h; exact .nil
  | _ :: ds, _, h => by
    cases h with
    | cons h1 h2 =>
      rw [List.reverse_cons, List.reverse_cons]
      exact (Dvs.reverse h2).append (.cons h1 .nil)
theorem Dvs.ints {K : PySem.W.Frag} {H : Hp} : ∀ (ns : List Int), Dvs K H (ns.map D.int) (ns.map V.int)
  | [] => .nil
  | n :: ns => .cons (.int n) (Dvs.ints ns)
theorem Dvs.ints_of {K : PySem.W.Frag} {H : Hp} : ∀ {ns : List Int} {vs : List V}, Dvs K H (ns.map D.int) vs → vs = ns.map V.int
  | [], _, h => by cases h; rfl
  | n :: ns, _, h => by
    cases h with
    | cons h1 h2 =>
      cases h1
      rw [Dvs.ints_of h2]
      rfl
/-- fields, item by item -/
inductive Flds (K : PySem.W.Frag) (H : Hp) : List (Str × D) → List (Str × V) → Prop
  | nil : Flds K H [] []
  | cons {f : Str} {d : D} {v : V} {ds : List (Str × D)} {vs : List (Str × V)} : Dv K H d v → Flds K H ds vs → Flds K H ((f, d) :: ds) ((f, v) :: vs)
theorem Flds.keep0 {K : PySem.W.Frag} {H H' : Hp} (g : Good0 K H H') {ds : List (Str × D)} {vs : List (Str × V)} (h : Flds K H ds vs) : Flds K H' ds vs := by
  induction h with
  | nil => exact .nil
  | cons h1 _ ih => exact .cons (Dv.keep0 g _ _ h1) ih
theorem Flds.keep {K : PySem.W.Frag} {H H' : Hp} (g : Good K H H') {ds : List (Str × D)} {vs : List (Str × V)} (h : Flds K H ds vs) : Flds K H' ds vs := h.keep0 g.toGood0
/-! a dict whose keys are pairs of pairs of whole numbers, each with the value True -/
abbrev PK := (Int × Int) × (Int × Int)
def ePK (k : PK) : D := .tup [.tup [.int k.1.1, .int k.1.2], .tup [.int k.2.1, .int k.2.2]]
def hP (k : PK) : Int := reduceHash (Builtin.Tuple.tupleHashOf [reduceHash (Builtin.Tuple.tupleHashOf [hashInt k.1.1, hashInt k.1.2]), reduceHash (Builtin.Tuple.tupleHashOf [hashInt k.2.1, hashInt k.2.2])])
def NdAt (a : Addr) (xs : List (PK × Addr)) : Heap → Prop := fun h => (a == sysModules) = false ∧ xs.length ≤ 1000 ∧
  ∃ o es ep, h.get? a = some o ∧ o.ExactDict ∧ o.data = .dict es ep ∧ es.toList = xs.map (fun x => (⟨hP x.1, .ref x.2, .bool true⟩ : DictEntry)) ∧ (xs.map (·.1)).Nodup
inductive KVs {κ : Type} (K : PySem.W.Frag) (H : Hp) : List (κ × D) → List (κ × V) → Prop
  | nil : KVs K H [] []
  | cons {f : κ} {d : D} {v : V} {ds : List (κ × D)} {vs : List (κ × V)} : Dv K H d v → KVs K H ds vs → KVs K H ((f, d) :: ds) ((f, v) :: vs)
theorem KVs.keep0 {κ : Type} {K : PySem.W.Frag} {H H' : Hp} (g : Good0 K H H') {ds : List (κ × D)} {vs : List (κ × V)} (h : KVs K H ds vs) : KVs K H' ds vs := by
  induction h with
  | nil => exact .nil
  | cons h1 _ ih => exact .cons (Dv.keep0 g _ _ h1) ih
theorem KVs.keep {κ : Type} {K : PySem.W.Frag} {H H' : Hp} (g : Good K H H') {ds : List (κ × D)} {vs : List (κ × V)} (h : KVs K H ds vs) : KVs K H' ds vs := h.keep0 g.toGood0
def OOk (K : PySem.W.Frag) (H : Hp) (a : Addr) : O → Prop
  | .lst ds => ∃ vs, H a = some (.lst vs) ∧ Dvs K H ds vs
  | .ins k ds => ∃ dx gs, H a = some (.ins (cA K k.name) dx gs) ∧ Flds K H (k.fields.zip ds) gs
  | .dic kvs => ∃ ks, H a = some (.dK ks) ∧ KVs K H kvs ks
  | .fdc o kvs => ∃ ks, H a = some (.frz o (.dK ks)) ∧ KVs K H kvs ks
  | .dct kvs => ∃ ks, H a = some (.dT ks) ∧ KVs K H kvs ks
  | .fdt o kvs => ∃ ks, H a = some (.frz o (.dT ks)) ∧ KVs K H kvs ks
  | .ndc ks => ∃ xs : List (PK × Addr), xs.map (·.1) = ks ∧ H a = some (.ext (NdAt a xs)) ∧ ∀ x ∈ xs, Dv K H (ePK x.1) (.ref x.2)
/-- the store is held -/
def RelS (K : PySem.W.Frag) (S : Sto) (H : Hp) : Prop := ∀ a o, S a = some o → OOk K H a o
section
variable {K : PySem.W.Frag} {S S' : Sto} {H H' : Hp} {a p : Addr} {o : O}
theorem OOk.some (h : OOk K H a o) : H a ≠ none := by
  cases o with
  | lst ds => obtain ⟨vs, e, _⟩ := h; rw [e]; simp
  | ins C fs => obtain ⟨dx, gs, e, _⟩ := h; rw [e]; simp
  | dic kvs => obtain ⟨ks, e, _⟩ := h; rw [e]; simp
  | fdc ob kvs => obtain ⟨ks, e, _⟩ := h; rw [e]; simp
  | dct kvs => obtain ⟨ks, e, _⟩ := h; rw [e]; simp
  | fdt ob kvs => obtain ⟨ks, e, _⟩ := h; rw [e]; simp
  | ndc ks => obtain ⟨xs, _, e, _⟩ := h; rw [e]; simp
theorem OOk.keep0 (g : Good0 K H H') (e : H' a = H a) (h : OOk K H a o) : OOk K H' a o := by
  cases o with
  | lst ds => obtain ⟨vs, q, r⟩ := h; exact ⟨vs, e.trans q, Dvs.keep0 g _ _ r⟩
  | ins C fs => obtain ⟨dx, gs, q, r⟩ := h; exact ⟨dx, gs, e.trans q, r.keep0 g⟩
  | dic kvs => obtain ⟨ks, q, r⟩ := h; exact ⟨ks, e.trans q, r.keep0 g⟩
  | fdc ob kvs => obtain ⟨ks, q, r⟩ := h; exact ⟨ks, e.trans q, r.keep0 g⟩
  | dct kvs => obtain ⟨ks, q, r⟩ := h; exact ⟨ks, e.trans q, r.keep0 g⟩
  | fdt ob kvs => obtain ⟨ks, q, r⟩ := h; exact ⟨ks, e.trans q, r.keep0 g⟩
  | ndc ks => obtain ⟨xs, q0, q, r⟩ := h; exact ⟨xs, q0, e.trans q, fun x hx => Dv.keep0 g _ _ (r x hx)⟩
theorem OOk.keep (g : Good K H H') (e : H' a = H a) (h : OOk K H a o) : OOk K H' a o := h.keep0 g.toGood0 e
theorem RelS.fresh (h : RelS K S H) (n : H p = none) : S p = none := by
  cases q : S p with
  | none => rfl
  | some o => exact absurd n (h p o q).some
theorem RelS.sub (h : RelS K S' H) (s : Sub S S') : RelS K S H := fun a o e => h a o (s a o e)
theorem RelS.keep (h : RelS K S H) (g : Good K H H') (e : ∀ a, S a ≠ none → H' a = H a) : RelS K S H' := fun a o q =>
  (h a o q).keep g (e a (by rw [q]; simp))
theorem good_new {u : HO} (n : H p = none) : Good K H (upd H p u) where
  xe := fun b x f => ExcAt.by fun b ob w h => by rw [upd_ne (ne_of_none h n)]; exact h
  fd := fun b ob w h => by rw [upd_ne (ne_of_none h n)]; exact h
  tp := fun b xs h => by
    rcases h with (h | ⟨ob, h⟩) | h
    · exact .inl (.inl (by rw [upd_ne (ne_of_none h n)]; exact h))
    · exact .inl (.inr ⟨ob, by rw [upd_ne (ne_of_none h n)]; exact h⟩)
    · exact .inr h
  fz := fun b xs h => by
    rcases h with ⟨ob, h⟩ | h
    · exact .inl ⟨ob, by rw [upd_ne (ne_of_none h n)]; exact h⟩
    · exact .inr h
/-- a thing that is no tuple and no known one is written -/
theorem good_write {u u' : HO} (h0 : H a = some u) (m : Mut (some u)) : Good K H (upd H a u') where
  xe := fun b x f => ExcAt.by fun b ob w h => by rw [upd_ne (fun z => by subst z; rw [h0] at h; cases h; exact m)]; exact h
  fd := fun b ob w h => by rw [upd_ne (fun z => by subst z; rw [h0] at h; cases h; exact m)]; exact h
  tp := fun b xs h => by
    rcases h with (h | ⟨ob, h⟩) | h
    · exact .inl (.inl (by rw [upd_ne (fun z => by subst z; rw [h0] at h; cases h; exact m)]; exact h))
    · exact .inl (.inr ⟨ob, by rw [upd_ne (fun z => by subst z; rw [h0] at h; cases h; exact m)]; exact h⟩)
    · exact .inr h
  fz := fun b xs h => by
    rcases h with ⟨ob, h⟩ | h
    · exact .inl ⟨ob, by rw [upd_ne (fun z => by subst z; rw [h0] at h; cases h; exact m)]; exact h⟩
    · exact .inr h
theorem RelS.newT {u : HO} (h : RelS K S H) (n : H p = none) : RelS K S (upd H p u) :=
  h.keep (good_new n) fun b hb => upd_ne fun z => by subst z; exact hb (h.fresh n)
theorem RelS.new {u : HO} (h : RelS K S H) (n : H p = none) (ok : OOk K (upd H p u) p o) : RelS K (ups S p o) (upd H p u) := fun b q e => by
  by_cases hb : b = p
  · subst hb; rw [ups_same] at e; cases e; exact ok
  · rw [ups_ne hb] at e; exact h.newT n b q e
theorem RelS.write {u u' : HO} (h : RelS K S H) (h0 : H a = some u) (m : Mut (some u)) (ok : OOk K (upd H a u') a o) : RelS K (ups S a o) (upd H a u') := fun b q e => by
  by_cases hb : b = a
  · subst hb; rw [ups_same] at e; cases e; exact ok
  · rw [ups_ne hb] at e; exact (h b q e).keep (good_write h0 m) (upd_ne hb)
theorem Dvs.new {u : HO} {ds : List D} {vs : List V} (r : Dvs K H ds vs) (n : H p = none) : Dvs K (upd H p u) ds vs := Dvs.keep (good_new n) _ _ r
end
/-- by a truth value -/
def Cnd (b : Bool) (A B : Prop) : Prop := match b with
  | true => A
  | false => B
theorem cnd_dec {p : Prop} {_ : Decidable p} {A B : Prop} (h1 : p → A) (h2 : ¬ p → B) : Cnd (decide p) A B := by
  by_cases h : p
  · rw [decide_eq_true h]; exact h1 h
  · rw [decide_eq_false h]; exact h2 h
theorem cnd_not {b : Bool} {A B : Prop} : Cnd (!b) A B = Cnd b B A := by cases b <;> rfl
theorem cnd_t {b : Bool} {A B : Prop} (e : b = true) (h : A) : Cnd b A B := by subst e; exact h
theorem cnd_f {b : Bool} {A B : Prop} (e : b = false) (h : B) : Cnd b A B := by subst e; exact h
abbrev St2 := List (Option D)
/-- the slots -/
structure Rl (K : PySem.W.Frag) (H : Hp) (τ : St2) (σ : L2.St) : Prop where
  len : τ.length = σ.length
  at_ : ∀ (i : Nat) (d : D), τ[i]? = some (some d) → ∃ v, σ[i]? = some (some v) ∧ Dv K H d v
theorem Rl.keep0 {K : PySem.W.Frag} {H H' : Hp} {τ : St2} {σ : L2.St} (g : Good0 K H H') (h : Rl K H τ σ) : Rl K H' τ σ :=
  ⟨h.len, fun i d e => let ⟨v, q, r⟩ := h.at_ i d e; ⟨v, q, Dv.keep0 g _ _ r⟩⟩
theorem Rl.keep {K : PySem.W.Frag} {H H' : Hp} {τ : St2} {σ : L2.St} (g : Good K H H') (h : Rl K H τ σ) : Rl K H' τ σ := h.keep0 g.toGood0
theorem Rl.set {K : PySem.W.Frag} {H : Hp} {τ : St2} {σ : L2.St} {d : D} {v : V} (h : Rl K H τ σ) (i : Nat) (r : Dv K H d v) : Rl K H (τ.set i (some d)) (σ.set i (some v)) := by
  refine ⟨by simp [h.len], fun j e q => ?_⟩
  by_cases hj : i = j
  · subst hj
    by_cases hl : i < τ.length
    · rw [List.getElem?_set_self hl] at q
      cases q
      exact ⟨v, List.getElem?_set_self (by rw [← h.len]; exact hl), r⟩
    · rw [List.getElem?_eq_none (by simpa using hl)] at q
      cases q
  · rw [List.getElem?_set_ne hj] at q
    rw [List.getElem?_set_ne hj]
    exact h.at_ j e q
theorem Rl.start {K : PySem.W.Frag} {H : Hp} {N : List Str} {ds : List D} {vs : List V} (r : Dvs K H ds vs) : Rl K H (ds.map some ++ List.replicate (N.length - ds.length) none) (L2.start N vs) := by
  refine ⟨by unfold L2.start; simp [r.length], fun i d e => ?_⟩
  by_cases hi : i < ds.length
  · rw [List.getElem?_append_left (by simpa using hi), List.getElem?_map] at e
    cases q : ds[i]? with
    | none => rw [q] at e; cases e
    | some x =>
      rw [q] at e
      obtain rfl : x = d := by simpa using e
      obtain ⟨v, e2, r2⟩ := r.at q
      refine ⟨v, ?_, r2⟩
      unfold L2.start
      rw [List.getElem?_append_left (by simpa [← r.length] using hi), List.getElem?_map, e2]
      rfl
  · rw [List.getElem?_append_right (by simpa using hi)] at e
    rw [List.getElem?_replicate] at e
    split at e <;> cases e
def start2 (N : List Str) (ds : List D) : St2 := ds.map some ++ List.replicate (N.length - ds.length) none
abbrev VK2 := D → Sto → Prop
abbrev TE2 := St2 → Sto → VK2 → Prop
abbrev TT2 := St2 → Sto → (Bool → Sto → Prop) → Prop
abbrev TA2 := St2 → Sto → (List D → Sto → Prop) → Prop
/-- what is wanted of an exception: its class, its own fields -/
abbrev XK2 := Str → Option (Str × Int) → Sto → Prop
structure Ends2 where
  nx : St2 → Sto → Prop
  rt : VK2
  bk : St2 → Sto → Prop := fun _ _ => False
  ct : St2 → Sto → Prop := fun _ _ => False
abbrev TS2 := Ends2 → St2 → Sto → Prop
/-- the readings of the layer below -/
def dn (K : PySem.W.Frag) (t : TE2) : TE := fun σ H Q => ∃ τ S Q2, Rl K H τ σ ∧ RelS K S H ∧ t τ S Q2 ∧ ∀ d v S' H', Good K H H' → RelS K S' H' → Dv K H' d v → Q2 d S' → Q v H'
def dnT (K : PySem.W.Frag) (t : TT2) : TT := fun σ H Q => ∃ τ S Q2, Rl K H τ σ ∧ RelS K S H ∧ t τ S Q2 ∧ ∀ b S' H', Good K H H' → RelS K S' H' → Q2 b S' → Q b H'
def dnA (K : PySem.W.Frag) (t : TA2) : TA := fun σ H Q => ∃ τ S Q2, Rl K H τ σ ∧ RelS K S H ∧ t τ S Q2 ∧ ∀ ds vs S' H', Good K H H' → RelS K S' H' → Dvs K H' ds vs → Q2 ds S' → Q vs H'
def wants (K : PySem.W.Frag) (H : Hp) (P2 : St2 → Sto → Prop) (P : L2.St → Hp → Prop) : Prop := ∀ τ S σ H', Good K H H' → Rl K H' τ σ → RelS K S H' → P2 τ S → P σ H'
structure EndsR (K : PySem.W.Frag) (H : Hp) (D2 : Ends2) (D : Ends) : Prop where
  nx : wants K H D2.nx D.nx
  rt : ∀ d v S H', Good K H H' → RelS K S H' → Dv K H' d v → D2.rt d S → D.rt v H'
  bk : wants K H D2.bk D.bk
  ct : wants K H D2.ct D.ct
theorem wants.keep {K : PySem.W.Frag} {H H' : Hp} {P2 : St2 → Sto → Prop} {P : L2.St → Hp → Prop} (g : Good K H H') (h : wants K H P2 P) : wants K H' P2 P := fun τ S σ H2 g2 => h τ S σ H2 (g.trans g2)
theorem EndsR.keep {K : PySem.W.Frag} {H H' : Hp} {D2 : Ends2} {D : Ends} (g : Good K H H') (h : EndsR K H D2 D) : EndsR K H' D2 D :=
  ⟨h.nx.keep g, fun d v S H2 g2 => h.rt d v S H2 (g.trans g2), h.bk.keep g, h.ct.keep g⟩
def dnS (K : PySem.W.Frag) (t : TS2) : TS := fun D σ H => ∃ τ S D2, Rl K H τ σ ∧ RelS K S H ∧ t D2 τ S ∧ EndsR K H D2 D
abbrev QE (X : Cx) (e : Expr) (t : TE2) : Prop := PE X e (dn X.K t)
abbrev QT (X : Cx) (e : Expr) (t : TT2) : Prop := PT X e (dnT X.K t)
abbrev QW (X : Cx) (e : Expr) (t : TT2) : Prop := PW X e (dnT X.K t)
abbrev QA (X : Cx) (es : List Expr) (t : TA2) : Prop := PA X es (dnA X.K t)
abbrev QS (X : Cx) (s : Stmt) (t : TS2) : Prop := PS X s (dnS X.K t)
abbrev QSs (X : Cx) (s : List Stmt) (t : TS2) : Prop := PSs X s (dnS X.K t)
theorem PE.wk {X : Cx} {e : Expr} {t t' : TE} (h : PE X e t) (w : ∀ σ H Q, t' σ H Q → t σ H Q) : PE X e t' := ⟨fun pins s σ H Q I q => h.run pins s σ H Q I (w _ _ _ q)⟩
theorem PT.wk {X : Cx} {e : Expr} {t t' : TT} (h : PT X e t) (w : ∀ σ H Q, t' σ H Q → t σ H Q) : PT X e t' := ⟨fun pins s σ H Q I q => h.run pins s σ H Q I (w _ _ _ q)⟩
theorem PW.wk {X : Cx} {e : Expr} {t t' : TT} (h : PW X e t) (w : ∀ σ H Q, t' σ H Q → t σ H Q) : PW X e t' := ⟨fun wh pins s σ H Q I q => h.run wh pins s σ H Q I (w _ _ _ q)⟩
theorem PA.wk {X : Cx} {e : List Expr} {t t' : TA} (h : PA X e t) (w : ∀ σ H Q, t' σ H Q → t σ H Q) : PA X e t' := ⟨fun p pins s σ H Q I q => h.run p pins s σ H Q I (w _ _ _ q)⟩
theorem PS.wk {X : Cx} {e : Stmt} {t t' : TS} (h : PS X e t) (w : ∀ D σ H, t' D σ H → t D σ H) : PS X e t' := ⟨fun pins s σ H D I q => h.run pins s σ H D I (w _ _ _ q)⟩
theorem PSs.wk {X : Cx} {e : List Stmt} {t t' : TS} (h : PSs X e t) (w : ∀ D σ H, t' D σ H → t D σ H) : PSs X e t' := ⟨fun pins s σ H D I q => h.run pins s σ H D I (w _ _ _ q)⟩
/-! ### names, constants -/
def uVar (i : Nat) : TE2 := fun τ S Q => match τ[i]? with
  | some (some d) => Q d S
  | _ => False
def uC (d : D) : TE2 := fun _ S Q => Q d S
section
variable {X : Cx} {pos : Pos}
theorem qv (i : Nat) {x : Str} (h : PE X (.Name x pos) (tVar i)) : QE X (.Name x pos) (uVar i) := PE.wk h fun σ H Q ⟨τ, S, Q2, r, rs, t, k⟩ => by
  unfold uVar at t
  split at t
  · next d e =>
    obtain ⟨v, e2, rv⟩ := r.at_ i d e
    exact ⟨v, e2, k d v S H (.refl H) rs rv t⟩
  · exact t.elim
theorem q_const {e : Expr} {v : V} {d : D} (h : PE X e (tC v)) (r : ∀ H, Dv X.K H d v) : QE X e (uC d) := PE.wk h fun σ H Q ⟨τ, S, Q2, _, rs, t, k⟩ => k d v S H (.refl H) rs (r H) t
theorem q_int {i j} : QE X (.Constant (.int i) j pos) (uC (.int i)) := q_const pe_int fun _ => .int i
theorem q_bl {b j} : QE X (.Constant (.bool b) j pos) (uC (.bl b)) := q_const pe_bl fun _ => .bl b
theorem q_non {j} : QE X (.Constant .none j pos) (uC .non) := q_const pe_non fun _ => .non
end
/-! ### two expressions -/
abbrev R22 := D → D → Sto → VK2 → Prop
def uOp (r : R22) (ta tb : TE2) : TE2 := fun τ S Q => ta τ S fun x S1 => tb τ S1 fun y S2 => r x y S2 Q
/-- an operator's rule of the layer below serves r -/
def Srv (K : PySem.W.Frag) (r0 : R2) (r : R22) : Prop := ∀ d e v u S H Q Q2, RelS K S H → Dv K H d v → Dv K H e u → r d e S Q2 → (∀ d v S' H', Good K H H' → RelS K S' H' → Dv K H' d v → Q2 d S' → Q v H') → r0 v u H Q
section
variable {X : Cx} {pos : Pos} {a b : Expr} {ta tb : TE2}
theorem q_two {R : TE} {r0 : R2} {r : R22} (s : Srv X.K r0 r) (hR : ∀ σ H Q, tOp r0 (dn X.K ta) (dn X.K tb) σ H Q → R σ H Q) {e : Expr} (h : PE X e R) : QE X e (uOp r ta tb) :=
  PE.wk h fun σ H Q ⟨τ, S, Q2, rl, rs, t, k⟩ => hR σ H Q ⟨τ, S, _, rl, rs, t, fun d v S1 H1 g1 rs1 dv1 t1 =>
    ⟨τ, S1, _, rl.keep g1, rs1, t1, fun e u S2 H2 g2 rs2 dv2 t2 => s d e v u S2 H2 Q Q2 rs2 (Dv.keep g2 _ _ dv1) dv2 t2 fun d v S' H' g => k d v S' H' (g1.trans (g2.trans g))⟩⟩
theorem q_op {op : Operator} {r0 : R2} {r : R22} (ho : OpR X (binaryOp op) r0) (s : Srv X.K r0 r) (ha : QE X a ta) (hb : QE X b tb) : QE X (.BinOp a op b pos) (uOp r ta tb) := q_two s (fun _ _ _ h => h) (pe_op ho ha hb)
theorem q_cmp {op : CmpOp} {r0 : R2} {r : R22} (ho : OpR X (compareOp op) r0) (s : Srv X.K r0 r) (hm : behindInMarks op b = false) (ha : QE X a ta) (hb : QE X b tb) : QE X (.Compare a [op] [b] pos) (uOp r ta tb) := q_two s (fun _ _ _ h => h) (pe_cmpR ho ha hb hm)
theorem q_ix {r0 : R2} {r : R22} (ho : IxR X r0) (s : Srv X.K r0 r) (hs : PlainIx b) (ha : QE X a ta) (hb : QE X b tb) : QE X (.Subscript a b pos) (uOp r ta tb) := q_two s (fun _ _ _ h => h) (pe_ix ho ha hb hs)
/-- a test -/
def uTest (t : TE2) : TT2 := fun τ S Q => t τ S fun x S1 => match x with
  | .bl k => Q k S1
  | _ => False
theorem test_dn {t : TE2} {T : TT} {e : Expr} (hT : ∀ σ H Q, (dn X.K t σ H fun x H' => ∃ k, x = V.bl k ∧ Q k H') → T σ H Q) (h : PT X e T) : QT X e (uTest t) := PT.wk h fun σ H Q ⟨τ, S, Q2, rl, rs, t, k⟩ =>
  hT σ H Q ⟨τ, S, _, rl, rs, t, fun d v S1 H1 g1 rs1 dv1 t1 => by
    cases d with
    | bl b =>
      cases dv1
      exact ⟨b, rfl, k b S1 H1 g1 rs1 t1⟩
    | _ => exact t1.elim⟩
theorem t_cmp {op : CmpOp} {r0 : R2} {r : R22} (ho : OpR X (compareOp op) r0) (s : Srv X.K r0 r) (hm : behindInMarks op b = false) (ha : QE X a ta) (hb : QE X b tb) : QT X (.Compare a [op] [b] pos) (uTest (uOp r ta tb)) := by
  refine test_dn ?_ (pt_cmpR ho ha hb hm)
  rintro σ H Q ⟨τ, S, Q2, rl, rs, t, k⟩
  exact ⟨τ, S, _, rl, rs, t, fun d v S1 H1 g1 rs1 dv1 t1 =>
    ⟨τ, S1, _, rl.keep g1, rs1, t1, fun e u S2 H2 g2 rs2 dv2 t2 => s d e v u S2 H2 _ Q2 rs2 (Dv.keep g2 _ _ dv1) dv2 t2 fun d v S' H' g => k d v S' H' (g1.trans (g2.trans g))⟩⟩
/-- a value that is True or False -/
theorem t_val {e : Expr} {t : TE2} (h : QE X e t) (he : ∀ whole, isTrue e X.env whole = (do let v ← whole; standAt e.pos; holding [v] (truthy v)) := by intro _; rfl) : QT X e (uTest t) :=
  test_dn (fun _ _ _ h => h) (pt_val h he)
end
end DL
/-! What the end leans on, asked of the heap's objects by lists of questions; the head by some runs of the kernel (asked in parts: a run's memory). -/
namespace DL
open PySem PySem.Spec PyProof.Rows L2
def isub (x y : Str) : Bool := x == y || (y == "LeadError" || y == "ValueError")
def glB (K : PySem.W.Frag) (y : Str) : Bool := decide (PySem.W.nsIn K mainGlobals y = some (some (.ref (cA K y))))
def klB (K : PySem.W.Frag) (k : Kls) : Bool :=
  let C := cA K k.name
  (PySem.W.plainGet K C Str.empty && (PySem.W.hasDictIn K C && (PySem.W.plainOver K C && decide (PySem.W.findIn K (.ref C) "__setattr__" = some (some (.builtin "object.__setattr__")))))) && k.fields.all fun f => decide (PySem.W.findIn K (.ref C) f = some none)
def tabE (e : DictEntry) : Option (Str × Int × D) := match e.key, e.val with
  | .str x _, .int i _ => some (x, e.hash, .int i)
  | .str x _, .str y _ => some (x, e.hash, .str y)
  | _, _ => none
def tabV (K : PySem.W.Frag) (a : Addr) : Option (List (Option (Str × Int × D))) := match K.lookup a with
  | some ⟨.type c, none, .dict es _, sl⟩ => (match decide (c = "dict") && (sl.isEmpty && !(a == sysModules)) with
    | true => some (es.toList.map tabE)
    | false => none)
  | _ => none
def tabD (P : Params) (kvs : List (Str × D)) : List (Option (Str × Int × D)) := kvs.map fun p => some (p.1, PyData.keyHash P p.1, p.2)
abbrev TabT : Type := Option (List (Option (Str × Int × D)))
abbrev AlJ : Type := Bool × List He.FnV × List TabT
def obsJ (bs : List (PySem.W.Frag → Bool)) (fn : List He.FnD) (ts : List (Str × List (Str × D))) (K : PySem.W.Frag) : AlJ :=
  ((bs.all fun b => b K) && fn.all fun d => (He.Fa.code d.at_ d.qual).ok K, fn.map fun d => He.fnObs K d.at_, ts.map fun t => tabV K (cA K t.1))
def valJ (fn : List He.FnD) (ts : List (Str × List (Str × D))) (w : World) : AlJ := (true, fn.map He.FnD.val, ts.map fun t => some (tabD w.params t.2))
def SaysJ (bs : List (PySem.W.Frag → Bool)) (fn : List He.FnD) (ts : List (Str × List (Str × D))) (w : World) (K : PySem.W.Frag) : Prop := obsJ bs fn ts K = valJ fn ts w
def obJ (as : List Addr) (bs : List (PySem.W.Frag → Bool)) (fn : List He.FnD) (ts : List (Str × List (Str × D))) (s : PySem.W.SharedT) : AlJ := obsJ bs fn ts (He.frG (HandSHeadRun.getT s) as)
abbrev PartJ : Type := List (PySem.W.Frag → Bool) × List He.FnD × List (Str × List (Str × D))
def obP (as : List Addr) (ps : List PartJ) (s : PySem.W.SharedT) : List AlJ := ps.map fun p => obJ as p.1 p.2.1 p.2.2 s
/-- the run, a part of the questions asked behind it -/
def RunP (r : PySem.W.OpenRow) (M : Nat) (as : List Addr) (p : PartJ) (w : World) : Prop :=
  ∀ os : OsState, (HandSHeadRun.endF (HandSHeadRun.stepQ (HandSHeadRun.denQ HandSHeadRun.tabQ) r.prog w) M r.prog w os).map (fun s => obJ as p.1 p.2.1 p.2.2 s) = some (valJ p.2.1 p.2.2 w)
def RunsP (r : PySem.W.OpenRow) (M : Nat) (as : List Addr) (w : World) : List PartJ → Prop
  | [] => True
  | p :: ps => RunP r M as p w ∧ RunsP r M as w ps
theorem RunsP.of {r : PySem.W.OpenRow} {M : Nat} {as : List Addr} {w : World} {os : OsState} {s : PySem.W.SharedT} (e : HandSHeadRun.endF (HandSHeadRun.stepQ (HandSHeadRun.denQ HandSHeadRun.tabQ) r.prog w) M r.prog w os = some s) :
    ∀ {ps : List PartJ}, RunsP r M as w ps → obP as ps s = ps.map fun p => valJ p.2.1 p.2.2 w
  | [], _ => rfl
  | p :: ps, h => by
    have h1 := h.1 os
    rw [e] at h1
    have h2 : obJ as p.1 p.2.1 p.2.2 s = valJ p.2.1 p.2.2 w := Option.some.inj h1
    show obJ as p.1 p.2.1 p.2.2 s :: obP as ps s = _
    rw [h2, RunsP.of e h.2]
    rfl
theorem SaysP.at {ps : List PartJ} {w : World} {K : PySem.W.Frag} (c : ps.map (fun p => obsJ p.1 p.2.1 p.2.2 K) = ps.map fun p => valJ p.2.1 p.2.2 w) (j : Nat) {p : PartJ} (h : ps[j]? = some p := by rfl) : SaysJ p.1 p.2.1 p.2.2 w K := by
  have e := congrArg (fun l : List AlJ => l[j]?) c
  simp only [List.getElem?_map, h, Option.map_some] at e
  exact Option.some.inj e
end DL
namespace DL
open PySem PySem.Spec PyProof.Rows L2
/-! ### operators by values -/
def rAdd : D → D → Sto → VK2 → Prop
  | .int i, .int j, S, Q => Q (.int (i + j)) S
  | .str x, .str y, S, Q => x.length + y.length ≤ sizeLine ∧ Q (.str (x ++ y)) S
  | .ref a, .ref b, S, Q => getO (S a) fun xs => getO (S b) fun ys => xs.length + ys.length ≤ sizeLine ∧ ∀ p, S p = none → Q (.ref p) (ups S p (.lst (xs ++ ys)))
  | .tup xs, .tup ys, S, Q => xs.length + ys.length ≤ sizeLine ∧ Q (.tup (xs ++ ys)) S
  | _, _, _, _ => False
def rSub : D → D → Sto → VK2 → Prop
  | .int i, .int j, S, Q => Q (.int (i - j)) S
  | _, _, _, _ => False
/-- a number of less than so many bits -/
def Sz (n : Nat) (i : Int) : Prop := i.natAbs < 2 ^ n
def MulOk (i j : Int) : Prop := (∃ m n, Sz m i ∧ Sz n j ∧ m + n < 900000) ∨ Sz 64 i ∨ Sz 64 j
def DivOk (j : Int) : Prop := j ≠ 0 ∧ Sz 9000 j
def rMul : D → D → Sto → VK2 → Prop
  | .int i, .int j, S, Q => MulOk i j ∧ Q (.int (i * j)) S
  | .ref a, .int k, S, Q => getO (S a) fun xs => (0 ≤ k ∧ k ≤ 1000 ∧ xs.length ≤ 1000) ∧ ∀ p, S p = none → Q (.ref p) (ups S p (.lst (List.replicate k.toNat xs).flatten))
  | _, _, _, _ => False
def rMod : D → D → Sto → VK2 → Prop
  | .int i, .int j, S, Q => j ≠ 0 ∧ Q (.int (i.fmod j)) S
  | _, _, _, _ => False
def rFdiv : D → D → Sto → VK2 → Prop
  | .int i, .int j, S, Q => DivOk j ∧ Q (.int (i.fdiv j)) S
  | _, _, _, _ => False
def rPow : D → D → Sto → VK2 → Prop
  | .int i, .int j, S, Q => (0 ≤ j ∧ j ≤ 1000000 ∧ i.natAbs < 2 ^ 64) ∧ Q (.int (i ^ j.toNat)) S
  | _, _, _, _ => False
def rCmpI (p : Int → Int → Bool) : D → D → Sto → VK2 → Prop
  | .int i, .int j, S, Q => Q (.bl (p i j)) S
  | _, _, _, _ => False
section
variable {X : Cx} {K : PySem.W.Frag}
theorem srv_add : Srv K (fun x y H Q => rI0 (fun i j => .int (i + j)) x y H Q ∨ (∃ i j, x = .str i ∧ y = .str j ∧ i.length + j.length ≤ sizeLine ∧ Q (.str (i ++ j)) H) ∨ rCat x y H Q ∨ rCatA K x y H Q) rAdd := by
  intro d e v u S H Q Q2 rs dv du t k
  unfold rAdd at t
  split at t
  · cases dv; cases du
    exact .inl ⟨_, _, rfl, rfl, k _ _ _ _ (.refl H) rs (.int _) t⟩
  · cases dv; cases du
    exact .inr (.inl ⟨_, _, rfl, rfl, t.1, k _ _ _ _ (.refl H) rs (.str _) t.2⟩)
  · cases dv; cases du
    obtain ⟨xs, h1, t⟩ := getO_get t
    obtain ⟨ys, h2, hl, t⟩ := getO_get t
    obtain ⟨vs, e1, r1⟩ := rs _ _ h1
    obtain ⟨us, e2, r2⟩ := rs _ _ h2
    refine .inr (.inr (.inl ⟨_, _, vs, us, rfl, rfl, e1, e2, by rw [← r1.length, ← r2.length]; exact hl, fun p np => ?_⟩))
    exact k _ _ _ _ (good_new np) (rs.new (o := .lst (xs ++ ys)) np ⟨_, upd_same, (r1.append r2).new np⟩) (.ref p) (t p (rs.fresh np))
  · cases dv with
    | tup h1 d1 =>
      cases du with
      | tup h2 d2 =>
        refine .inr (.inr (.inr ⟨_, _, _, _, rfl, rfl, h1, h2, by rw [← d1.length, ← d2.length]; exact t.1, fun e => ?_, fun e e2 => ?_, fun e e2 p np => ?_⟩))
        · subst e; cases d1; exact k _ _ _ _ (.refl H) rs (.tup h2 d2) t.2
        · subst e2; cases d2; rw [List.append_nil] at t; exact k _ _ _ _ (.refl H) rs (.tup h1 d1) t.2
        · exact k _ _ _ _ (good_new np) (rs.newT np) (.tup (SqT.of upd_same) ((d1.append d2).new np)) t.2
  · exact t.elim
theorem srv_sub : Srv K (rI0 fun i j => .int (i - j)) rSub := by
  intro d e v u S H Q Q2 rs dv du t k
  unfold rSub at t
  split at t
  · cases dv; cases du
    exact ⟨_, _, rfl, rfl, k _ _ _ _ (.refl H) rs (.int _) t⟩
  · exact t.elim
theorem Sz.le {m n : Nat} {i : Int} (h : Sz m i) (l : m ≤ n) : Sz n i := Nat.lt_of_lt_of_le h (Nat.pow_le_pow_right (by decide) l)
theorem Sz.up {n : Nat} {i : Int} (h : Sz n i) : i.natAbs < 2 ^ (n + 1) := (h.le (Nat.le_succ n))
theorem MulOk.ok {i j : Int} (h : MulOk i j) : IntMulOk i j := by
  rcases h with ⟨m, n, h1, h2, h3⟩ | h | h
  · exact (wide_mul h1.up h2.up (Nat.succ_pos m) (Nat.succ_pos n) (by omega)).ok
  · have h' : i.natAbs < 2 ^ 64 := h
    exact CMul.ok (.inl ⟨by omega, by omega⟩)
  · have h' : j.natAbs < 2 ^ 64 := h
    exact CMul.ok (.inr ⟨by omega, by omega⟩)
theorem op_mulZ : OpR X (binaryOp .Mult) (rI MulOk fun i j => .int (i * j)) := opI fun _ _ _ _ _ _ _ hc q => mul_int q hc.ok
theorem op_fdivZ : OpR X (binaryOp .FloorDiv) (rI (fun _ j => DivOk j) fun i j => .int (i.fdiv j)) := opI fun i j _ _ _ _ _ hc q => by
  refine floordiv_int hc.1 q (.inl (PyProof.noPylong_of_log2 ?_))
  have h2 : j.natAbs < 2 ^ 9000 := hc.2
  exact PySem.Flt.log2_lt_of (by decide) h2
theorem Dvs.rep {H : Hp} {ds : List D} {vs : List V} (h : Dvs K H ds vs) : ∀ n : Nat, Dvs K H (List.replicate n ds).flatten (List.replicate n vs).flatten
  | 0 => .nil
  | n + 1 => by rw [List.replicate_succ, List.replicate_succ, List.flatten_cons, List.flatten_cons]; exact h.append (Dvs.rep h n)
theorem srv_mul : Srv K (fun x y H Q => rI MulOk (fun i j => .int (i * j)) x y H Q ∨ rRep x y H Q) rMul := by
  intro d e v u S H Q Q2 rs dv du t k
  unfold rMul at t
  split at t
  · cases dv; cases du
    exact .inl ⟨_, _, rfl, rfl, t.1, k _ _ _ _ (.refl H) rs (.int _) t.2⟩
  · rename_i aa kk
    cases dv; cases du
    obtain ⟨xs, h1, ⟨k0, k1, hl⟩, t⟩ := getO_get t
    obtain ⟨vs, e1, r1⟩ := rs _ _ h1
    have : vs.length * kk.toNat ≤ 1000 * 1000 := Nat.mul_le_mul (by rw [← r1.length]; exact hl) (by omega)
    refine .inr ⟨_, _, vs, rfl, rfl, e1, by omega, by omega, Nat.le_trans this (by rw [sizeLine_eq]; exact (by decide : 1000 * 1000 ≤ 16777216)), fun p np => ?_⟩
    exact k _ _ _ _ (good_new np) (rs.new (o := .lst (List.replicate kk.toNat xs).flatten) np ⟨_, upd_same, (r1.rep _).new np⟩) (.ref p) (t p (rs.fresh np))
  · exact t.elim
theorem srv_mod : Srv K (rI (fun _ j => j ≠ 0) fun i j => .int (i.fmod j)) rMod := by
  intro d e v u S H Q Q2 rs dv du t k
  unfold rMod at t
  split at t
  · cases dv; cases du
    exact ⟨_, _, rfl, rfl, t.1, k _ _ _ _ (.refl H) rs (.int _) t.2⟩
  · exact t.elim
theorem srv_fdiv : Srv K (rI (fun _ j => DivOk j) fun i j => .int (i.fdiv j)) rFdiv := by
  intro d e v u S H Q Q2 rs dv du t k
  unfold rFdiv at t
  split at t
  · cases dv; cases du
    exact ⟨_, _, rfl, rfl, t.1, k _ _ _ _ (.refl H) rs (.int _) t.2⟩
  · exact t.elim
theorem srv_pow : Srv K (rI CPow fun i j => .int (i ^ j.toNat)) rPow := by
  intro d e v u S H Q Q2 rs dv du t k
  unfold rPow at t
  split at t
  · cases dv; cases du
    exact ⟨_, _, rfl, rfl, t.1, k _ _ _ _ (.refl H) rs (.int _) t.2⟩
  · exact t.elim
theorem srv_cmpI {p : Int → Int → Bool} : Srv K (rI0 fun i j => .bl (p i j)) (rCmpI p) := by
  intro d e v u S H Q Q2 rs dv du t k
  unfold rCmpI at t
  split at t
  · cases dv; cases du
    exact ⟨_, _, rfl, rfl, k _ _ _ _ (.refl H) rs (.bl _) t⟩
  · exact t.elim
variable {pos : Pos} {a b : Expr} {ta tb : TE2}
theorem q_add (ha : QE X a ta) (hb : QE X b tb) : QE X (.BinOp a .Add b pos) (uOp rAdd ta tb) := q_op (op_add.or (op_add_str.or (op_cat.or op_catA))) srv_add ha hb
theorem q_sub (ha : QE X a ta) (hb : QE X b tb) : QE X (.BinOp a .Sub b pos) (uOp rSub ta tb) := q_op op_sub srv_sub ha hb
theorem q_mul (ha : QE X a ta) (hb : QE X b tb) : QE X (.BinOp a .Mult b pos) (uOp rMul ta tb) := q_op (op_mulZ.or op_rep) srv_mul ha hb
theorem q_mod (ha : QE X a ta) (hb : QE X b tb) : QE X (.BinOp a .Mod b pos) (uOp rMod ta tb) := q_op op_modN srv_mod ha hb
theorem q_fdiv (ha : QE X a ta) (hb : QE X b tb) : QE X (.BinOp a .FloorDiv b pos) (uOp rFdiv ta tb) := q_op op_fdivZ srv_fdiv ha hb
theorem q_pow (ha : QE X a ta) (hb : QE X b tb) : QE X (.BinOp a .Pow b pos) (uOp rPow ta tb) := q_op op_pow srv_pow ha hb
def rLt : R22 := rCmpI fun i j => decide (i < j)
def rLe : R22 := rCmpI fun i j => decide (i ≤ j)
def rGt : R22 := rCmpI fun i j => decide (j < i)
def rGe : R22 := rCmpI fun i j => decide (j ≤ i)
theorem q_lt (ha : QE X a ta) (hb : QE X b tb) : QE X (.Compare a [.Lt] [b] pos) (uOp rLt ta tb) := q_cmp op_lt srv_cmpI (nomark _) ha hb
theorem q_gt (ha : QE X a ta) (hb : QE X b tb) : QE X (.Compare a [.Gt] [b] pos) (uOp rGt ta tb) := q_cmp op_gt srv_cmpI (nomark _) ha hb
theorem t_lt (ha : QE X a ta) (hb : QE X b tb) : QT X (.Compare a [.Lt] [b] pos) (uTest (uOp rLt ta tb)) := t_cmp op_lt srv_cmpI (nomark _) ha hb
theorem t_gt (ha : QE X a ta) (hb : QE X b tb) : QT X (.Compare a [.Gt] [b] pos) (uTest (uOp rGt ta tb)) := t_cmp op_gt srv_cmpI (nomark _) ha hb
theorem t_ge (ha : QE X a ta) (hb : QE X b tb) : QT X (.Compare a [.GtE] [b] pos) (uTest (uOp rGe ta tb)) := t_cmp op_ge srv_cmpI (nomark _) ha hb
/-! is None, is not None; is of bools -/
def isNon : D → Bool
  | .non => true
  | _ => false
def rIs : D → D → Sto → VK2 → Prop
  | d, .non, S, Q => Q (.bl (isNon d)) S
  | .bl a, .bl b, S, Q => Q (.bl (decide (a = b))) S
  | _, _, _, _ => False
def rIsNot : D → D → Sto → VK2 → Prop
  | d, .non, S, Q => Q (.bl (!isNon d)) S
  | .bl a, .bl b, S, Q => Q (.bl (!decide (a = b))) S
  | _, _, _, _ => False
theorem isNon_dec {H : Hp} {d : D} {v : V} (dv : Dv K H d v) : decide (v = .non) = isNon d := by cases dv <;> simp [isNon]
theorem srv_is {rB : R2} (hB : ∀ (a b : Bool) H Q, Q (.bl (decide (a = b))) H → rB (.bl a) (.bl b) H Q) : Srv K (fun x y H Q => (y = .non ∧ Q (.bl (decide (x = .non))) H) ∨ rB x y H Q) rIs := by
  intro d e v u S H Q Q2 rs dv du t k
  unfold rIs at t
  split at t
  · cases du
    refine .inl ⟨rfl, ?_⟩
    rw [isNon_dec dv]
    exact k _ _ _ _ (.refl H) rs (.bl _) t
  · cases du; cases dv
    exact .inr (hB _ _ H Q (k _ _ _ _ (.refl H) rs (.bl _) t))
  · exact t.elim
theorem srv_isNot : Srv K (fun x y H Q => (y = .non ∧ Q (.bl (!decide (x = .non))) H) ∨ (∃ a b : Bool, x = .bl a ∧ y = .bl b ∧ Q (.bl (!decide (a = b))) H)) rIsNot := by
  intro d e v u S H Q Q2 rs dv du t k
  unfold rIsNot at t
  split at t
  · cases du
    refine .inl ⟨rfl, ?_⟩
    rw [isNon_dec dv]
    exact k _ _ _ _ (.refl H) rs (.bl _) t
  · cases du; cases dv
    exact .inr ⟨_, _, rfl, rfl, k _ _ _ _ (.refl H) rs (.bl _) t⟩
  · exact t.elim
theorem op_isNotBl' : OpR X (compareOp .IsNot) (fun x y H Q => ∃ a b : Bool, x = .bl a ∧ y = .bl b ∧ Q (.bl (!decide (a = b))) H) := by
  intro pins s σ H x y v u Q I rx ry h
  obtain ⟨a, b, rfl, rfl, q⟩ := h
  cases (show v = Value.bool a from rx)
  cases (show u = Value.bool b from ry)
  by_cases e : a = b
  · subst e
    exact wpAny_isNot_self rfl ⟨.bl false, H, I, rfl, by simpa using q⟩
  · exact wpAny_isNot_other rfl (fun z => e (Value.bool.inj z)) ⟨.bl true, H, I, rfl, by simpa [e] using q⟩
theorem op_isBl' : OpR X (compareOp .Is) (fun x y H Q => ∃ a b : Bool, x = .bl a ∧ y = .bl b ∧ Q (.bl (decide (a = b))) H) := by
  intro pins s σ H x y v u Q I rx ry h
  obtain ⟨a, b, rfl, rfl, q⟩ := h
  cases (show v = Value.bool a from rx)
  cases (show u = Value.bool b from ry)
  by_cases e : a = b
  · subst e
    exact wpAny_is_self rfl ⟨.bl true, H, I, rfl, by simpa using q⟩
  · exact wpAny_is_other rfl (fun z => e (Value.bool.inj z)) ⟨.bl false, H, I, rfl, by simpa [e] using q⟩
theorem t_is (ha : QE X a ta) (hb : QE X b tb) : QT X (.Compare a [.Is] [b] pos) (uTest (uOp rIs ta tb)) := t_cmp (op_isN.or op_isBl') (srv_is fun a b H Q q => ⟨a, b, rfl, rfl, q⟩) (nomark _) ha hb
theorem q_isnot (ha : QE X a ta) (hb : QE X b tb) : QE X (.Compare a [.IsNot] [b] pos) (uOp rIsNot ta tb) := q_cmp (op_notN.or op_isNotBl') srv_isNot (nomark _) ha hb
theorem t_isnot (ha : QE X a ta) (hb : QE X b tb) : QT X (.Compare a [.IsNot] [b] pos) (uTest (uOp rIsNot ta tb)) := t_cmp (op_notN.or op_isNotBl') srv_isNot (nomark _) ha hb
/-! unary minus -/
def uNeg (ta : TE2) : TE2 := fun τ S Q => ta τ S fun x S1 => match x with
  | .int i => Q (.int (-i)) S1
  | _ => False
theorem q_neg (ha : QE X a ta) : QE X (.UnaryOp .USub a pos) (uNeg ta) := PE.wk (pe_un un_neg ha) fun σ H Q ⟨τ, S, Q2, rl, rs, t, k⟩ =>
  ⟨τ, S, _, rl, rs, t, fun d v S1 H1 g1 rs1 dv1 t1 => by
    cases d with
    | int i =>
      cases dv1
      exact ⟨i, rfl, k _ _ _ _ g1 rs1 (.int _) t1⟩
    | _ => exact t1.elim⟩
end
/-! ### data as the comparison reads it -/
mutual
inductive Py (S : Sto) : D → PyData → Prop
  | non : Py S .non .none
  | bl (b : Bool) : Py S (.bl b) (.bool b)
  | int (i : Int) : Py S (.int i) (.int i)
  | str (x : Str) : Py S (.str x) (.str x)
  | tup {ds : List D} {ps : List PyData} : Pys S ds ps → Py S (.tup ds) (.tuple ps)
  | fl {ds : List D} {ps : List PyData} : Pys S ds ps → Py S (.fl ds) (.list ps)
  | lst {a : Addr} {ds : List D} {ps : List PyData} : S a = some (.lst ds) → Pys S ds ps → Py S (.ref a) (.list ps)
inductive Pys (S : Sto) : List D → List PyData → Prop
  | nil : Pys S [] []
  | cons {d : D} {p : PyData} {ds : List D} {ps : List PyData} : Py S d p → Pys S ds ps → Pys S (d :: ds) (p :: ps)
end
mutual
theorem Py.dp {K : PySem.W.Frag} {S : Sto} {H : Hp} (rs : RelS K S H) : ∀ (p : PyData) (d : D) (v : V), Py S d p → Dv K H d v → Dp K H v p
  | .none, _, _, h, dv => by cases h; cases dv; exact .non
  | .bool b, _, _, h, dv => by cases h; cases dv; exact .bl b
  | .int b, _, _, h, dv => by cases h; cases dv; exact .int b
  | .str b, _, _, h, dv => by cases h; cases dv; exact .str b
  | .tuple ps, _, _, h, dv => by
    cases h with
    | tup hs =>
      cases dv with
      | tup h1 h2 => exact .tup h1 (Pys.dp rs ps _ _ hs h2)
  | .list ps, _, _, h, dv => by
    cases h with
    | fl hs =>
      cases dv with
      | fl h1 h2 => exact .lst h1.sq (Pys.dp rs ps _ _ hs h2)
    | lst ha hs =>
      cases dv
      obtain ⟨vs, e, r⟩ := rs _ _ ha
      exact .lst (SqL.of e) (Pys.dp rs ps _ _ hs r)
  | .dict _, _, _, h, _ => by cases h
theorem Pys.dp {K : PySem.W.Frag} {S : Sto} {H : Hp} (rs : RelS K S H) : ∀ (ps : List PyData) (ds : List D) (vs : List V), Pys S ds ps → Dvs K H ds vs → DpAll K H vs ps
  | [], _, _, h, dv => by cases h; cases dv; exact .nil
  | p :: ps, _, _, h, dv => by
    cases h with
    | cons h1 h2 =>
      cases dv with
      | cons d1 d2 => exact .cons (Py.dp rs p _ _ h1 d1) (Pys.dp rs ps _ _ h2 d2)
end
/-- the answer of == -/
def EqD (S : Sto) (x y : D) (b : Bool) : Prop := ∃ p q, Py S x p ∧ Py S y q ∧ SeqAt.shaped p = true ∧ SeqAt.shaped q = true ∧ b = PyData.eqv p q
def rEq : D → D → Sto → VK2 → Prop
  | .int i, .int j, S, Q => Q (.bl (decide (i = j))) S
  | .bl i, .bl j, S, Q => Q (.bl (decide (i = j))) S
  | .str i, .str j, S, Q => Q (.bl (decide (i = j))) S
  | d, e, S, Q => ∃ b, EqD S d e b ∧ Q (.bl b) S
def rNe : D → D → Sto → VK2 → Prop
  | .int i, .int j, S, Q => Q (.bl (!decide (i = j))) S
  | .bl i, .bl j, S, Q => Q (.bl (!decide (i = j))) S
  | .str i, .str j, S, Q => Q (.bl (!decide (i = j))) S
  | d, e, S, Q => ∃ b, EqD S d e b ∧ Q (.bl (!b)) S
section
variable {X : Cx} {K : PySem.W.Frag}
theorem dec_V {α : Type} [DecidableEq α] {f : α → V} (hf : ∀ a b, f a = f b → a = b) (i j : α) : decide (f i = f j) = decide (i = j) := decide_eq_decide.mpr ⟨hf i j, fun e => by rw [e]⟩
theorem srv_eq : Srv K (fun x y H Q => L2.rEq x y H Q ∨ rEqD K x y H Q) rEq := by
  intro d e v u S H Q Q2 rs dv du t k
  unfold rEq at t
  split at t
  · cases dv; cases du
    exact .inl ⟨rfl, by rw [dec_V (f := V.int) fun _ _ e => V.int.inj e]; exact k _ _ _ _ (.refl H) rs (.bl _) t⟩
  · cases dv; cases du
    exact .inl ⟨rfl, by rw [dec_V (f := V.bl) fun _ _ e => V.bl.inj e]; exact k _ _ _ _ (.refl H) rs (.bl _) t⟩
  · cases dv; cases du
    exact .inl ⟨rfl, by rw [dec_V (f := V.str) fun _ _ e => V.str.inj e]; exact k _ _ _ _ (.refl H) rs (.bl _) t⟩
  · obtain ⟨b, ⟨p, q, h1, h2, s1, s2, rfl⟩, t⟩ := t
    exact .inr ⟨p, q, Py.dp rs _ _ _ h1 dv, Py.dp rs _ _ _ h2 du, s1, s2, k _ _ _ _ (.refl H) rs (.bl _) t⟩
theorem srv_ne : Srv K (fun x y H Q => L2.rNe x y H Q ∨ rNeD K x y H Q) rNe := by
  intro d e v u S H Q Q2 rs dv du t k
  unfold rNe at t
  split at t
  · cases dv; cases du
    exact .inl ⟨rfl, by rw [dec_V (f := V.int) fun _ _ e => V.int.inj e]; exact k _ _ _ _ (.refl H) rs (.bl _) t⟩
  · cases dv; cases du
    exact .inl ⟨rfl, by rw [dec_V (f := V.bl) fun _ _ e => V.bl.inj e]; exact k _ _ _ _ (.refl H) rs (.bl _) t⟩
  · cases dv; cases du
    exact .inl ⟨rfl, by rw [dec_V (f := V.str) fun _ _ e => V.str.inj e]; exact k _ _ _ _ (.refl H) rs (.bl _) t⟩
  · obtain ⟨b, ⟨p, q, h1, h2, s1, s2, rfl⟩, t⟩ := t
    exact .inr ⟨p, q, Py.dp rs _ _ _ h1 dv, Py.dp rs _ _ _ h2 du, s1, s2, k _ _ _ _ (.refl H) rs (.bl _) t⟩
variable {pos : Pos} {a b : Expr} {ta tb : TE2} {k : Nat}
theorem Room.u65 {A : Around} (hr : Room k A) : A.units + 65 < cLine := by have := hr.un; omega
theorem q_eq (hr : Room k X.A) (ha : QE X a ta) (hb : QE X b tb) : QE X (.Compare a [.Eq] [b] pos) (uOp rEq ta tb) := q_cmp (op_eq.or (op_eqD hr.units)) srv_eq (nomark _) ha hb
theorem t_eq (hr : Room k X.A) (ha : QE X a ta) (hb : QE X b tb) : QT X (.Compare a [.Eq] [b] pos) (uTest (uOp rEq ta tb)) := t_cmp (op_eq.or (op_eqD hr.units)) srv_eq (nomark _) ha hb
theorem t_ne (hr : Room k X.A) (ha : QE X a ta) (hb : QE X b tb) : QT X (.Compare a [.NotEq] [b] pos) (uTest (uOp rNe ta tb)) := t_cmp (op_ne.or (op_neD hr.units)) srv_ne (nomark _) ha hb
end
/-! ### chains of ints, and, or, not -/
def uChain (r r' : R22) (ta tb tc : TE2) : TE2 := fun τ S Q => ta τ S fun x S1 => tb τ S1 fun y S2 => r x y S2 fun z S3 => match z with
  | .bl k => Cnd k (tc τ S3 fun w S4 => r' y w S4 Q) (Q (.bl false) S3)
  | _ => False
def uAnd (t u : TT2) : TT2 := fun τ S Q => t τ S fun c S1 => Cnd c (u τ S1 Q) (Q false S1)
def uOr (t u : TT2) : TT2 := fun τ S Q => t τ S fun c S1 => Cnd c (Q true S1) (u τ S1 Q)
def uNot (t : TT2) : TT2 := fun τ S Q => t τ S fun c S1 => Q (!c) S1
def uAndV (ta tb : TE2) : TE2 := fun τ S Q => ta τ S fun x S1 => match x with
  | .bl c => Cnd c (tb τ S1 Q) (Q (.bl false) S1)
  | _ => False
def uOrV (ta tb : TE2) : TE2 := fun τ S Q => ta τ S fun x S1 => match x with
  | .bl c => Cnd c (Q (.bl true) S1) (tb τ S1 Q)
  | _ => False
def uNotV (ta : TE2) : TE2 := fun τ S Q => ta τ S fun x S1 => match x with
  | .bl c => Q (.bl (!c)) S1
  | _ => False
section
variable {X : Cx} {pos : Pos} {a b c : Expr} {ta tb tc : TE2} {tA tB : TT2} {rest : List Expr}
theorem w_and1 (ha : QT X a tA) : QW X (.BoolOp .And [a] pos) tA := pw_and1 ha
theorem w_or1 (ha : QT X a tA) : QW X (.BoolOp .Or [a] pos) tA := pw_or1 ha
theorem w_and (ha : QT X a tA) (hb : QW X (.BoolOp .And (b :: rest) pos) tB) : QW X (.BoolOp .And (a :: b :: rest) pos) (uAnd tA tB) := PW.wk (pw_and ha hb) fun σ H Q ⟨τ, S, Q2, rl, rs, t, k⟩ =>
  ⟨τ, S, _, rl, rs, t, fun c S1 H1 g1 rs1 t1 => by
    cases c with
    | true =>
      rw [if_pos rfl]
      exact ⟨τ, S1, _, rl.keep g1, rs1, t1, fun b S' H' g => k b S' H' (g1.trans g)⟩
    | false =>
      rw [if_neg Bool.false_ne_true]
      exact k _ _ _ g1 rs1 t1⟩
theorem w_or (ha : QT X a tA) (hb : QW X (.BoolOp .Or (b :: rest) pos) tB) : QW X (.BoolOp .Or (a :: b :: rest) pos) (uOr tA tB) := PW.wk (pw_or ha hb) fun σ H Q ⟨τ, S, Q2, rl, rs, t, k⟩ =>
  ⟨τ, S, _, rl, rs, t, fun c S1 H1 g1 rs1 t1 => by
    cases c with
    | false =>
      rw [if_neg Bool.false_ne_true]
      exact ⟨τ, S1, _, rl.keep g1, rs1, t1, fun b S' H' g => k b S' H' (g1.trans g)⟩
    | true =>
      rw [if_pos rfl]
      exact k _ _ _ g1 rs1 t1⟩
theorem t_not (ha : QT X a tA) : QT X (.UnaryOp .Not a pos) (uNot tA) := PT.wk (pt_not ha) fun σ H Q ⟨τ, S, Q2, rl, rs, t, k⟩ => ⟨τ, S, _, rl, rs, t, fun c S1 H1 g1 rs1 t1 => k _ _ _ g1 rs1 t1⟩
theorem q_and (ha : QE X a ta) (hb : QE X (.BoolOp .And (b :: rest) pos) tb) : QE X (.BoolOp .And (a :: b :: rest) pos) (uAndV ta tb) := PE.wk (pe_and ha hb) fun σ H Q ⟨τ, S, Q2, rl, rs, t, k⟩ =>
  ⟨τ, S, _, rl, rs, t, fun d v S1 H1 g1 rs1 dv1 t1 => by
    cases d with
    | bl c =>
      cases dv1
      refine ⟨c, rfl, ?_⟩
      cases c with
      | true =>
        rw [if_pos rfl]
        exact ⟨τ, S1, _, rl.keep g1, rs1, t1, fun b v S' H' g => k b v S' H' (g1.trans g)⟩
      | false =>
        rw [if_neg Bool.false_ne_true]
        exact k _ _ _ _ g1 rs1 (.bl false) t1
    | _ => exact t1.elim⟩
theorem q_or (ha : QE X a ta) (hb : QE X (.BoolOp .Or (b :: rest) pos) tb) : QE X (.BoolOp .Or (a :: b :: rest) pos) (uOrV ta tb) := PE.wk (pe_or ha hb) fun σ H Q ⟨τ, S, Q2, rl, rs, t, k⟩ =>
  ⟨τ, S, _, rl, rs, t, fun d v S1 H1 g1 rs1 dv1 t1 => by
    cases d with
    | bl c =>
      cases dv1
      refine ⟨c, rfl, ?_⟩
      cases c with
      | false =>
        rw [if_neg Bool.false_ne_true]
        exact ⟨τ, S1, _, rl.keep g1, rs1, t1, fun b v S' H' g => k b v S' H' (g1.trans g)⟩
      | true =>
        rw [if_pos rfl]
        exact k _ _ _ _ g1 rs1 (.bl true) t1
    | _ => exact t1.elim⟩
theorem q_one {op} (h : QE X a ta) : QE X (.BoolOp op [a] pos) ta := pe_one h
/-- the store as it was ahead of an expression -/
def uFgt (t : TE2) : TE2 := fun τ S Q => t τ S fun d S' => Sub S S' ∧ Q d S
def uFgtT (t : TT2) : TT2 := fun τ S Q => t τ S fun d S' => Sub S S' ∧ Q d S
end
/-! ### tuples, lists, items -/
def uNil : TA2 := fun _ S Q => Q [] S
def uCons (ta : TE2) (tr : TA2) : TA2 := fun τ S Q => ta τ S fun x S1 => tr τ S1 fun xs S2 => Q (x :: xs) S2
def uTup (t : TA2) : TE2 := fun τ S Q => t τ S fun ds S1 => ds.length ≤ 1000 ∧ Q (.tup ds) S1
def uLst (t : TA2) : TE2 := fun τ S Q => t τ S fun ds S1 => ds.length ≤ 1000 ∧ ∀ p, S1 p = none → Q (.ref p) (ups S1 p (.lst ds))
theorem th_line {n : Nat} (h : n ≤ 1000) : n ≤ sizeLine := Nat.le_of_lt (small1000 h)
section
variable {X : Cx} {pos : Pos} {e : Expr} {es : List Expr} {ta : TE2} {t : TA2}
theorem a_nil : QA X [] uNil := PA.wk pa_nil fun σ H Q ⟨τ, S, Q2, rl, rs, t, k⟩ => k _ _ _ _ (.refl H) rs .nil t
theorem a_cons (ha : QE X e ta) (hr : QA X es t) (hs : starEach (e :: es) X.env = (false, eval e X.env) :: starEach es X.env := by rfl) : QA X (e :: es) (uCons ta t) := PA.wk (pa_cons ha hr hs) fun σ H Q ⟨τ, S, Q2, rl, rs, t, k⟩ =>
  ⟨τ, S, _, rl, rs, t, fun d v S1 H1 g1 rs1 dv1 t1 => ⟨τ, S1, _, rl.keep g1, rs1, t1, fun ds vs S2 H2 g2 rs2 dvs2 t2 => k _ _ _ _ (g1.trans g2) rs2 (.cons (Dv.keep g2 _ _ dv1) dvs2) t2⟩⟩
theorem q_tup {x1} (h : QA X es t) : QE X (.Tuple es x1 pos) (uTup t) := PE.wk (pe_tup h) fun σ H Q ⟨τ, S, Q2, rl, rs, t, k⟩ =>
  ⟨τ, S, _, rl, rs, t, fun ds vs S1 H1 g1 rs1 dvs t1 => ⟨by rw [← dvs.length]; exact th_line t1.1, fun p np => k _ _ _ _ (g1.trans (good_new np)) (rs1.newT np) (.tup (SqT.of upd_same) (dvs.new np)) t1.2⟩⟩
theorem q_lst (h : QA X es t) : QE X (.List es pos) (uLst t) := PE.wk (pe_lst h) fun σ H Q ⟨τ, S, Q2, rl, rs, t, k⟩ =>
  ⟨τ, S, _, rl, rs, t, fun ds vs S1 H1 g1 rs1 dvs t1 => ⟨by rw [← dvs.length]; exact th_line t1.1, fun p np => k _ _ _ _ (g1.trans (good_new np)) (rs1.new (o := .lst ds) np ⟨_, upd_same, dvs.new np⟩) (.ref p) (t1.2 p (rs1.fresh np))⟩⟩
end
/-- the items of a list or a tuple -/
def itemsOf (S : Sto) (d : D) : Option (List D) := match d with
  | .ref a => match S a with
    | some (.lst xs) => some xs
    | _ => none
  | .fl xs => some xs
  | .tup xs => some xs
  | _ => none
theorem items_ref {S : Sto} {a : Addr} {xs : List D} (h : S a = some (.lst xs)) : itemsOf S (.ref a) = some xs := by
  unfold itemsOf; simp only [h]
theorem ref_items {S : Sto} {a : Addr} {xs : List D} (h : itemsOf S (.ref a) = some xs) : S a = some (.lst xs) := by
  unfold itemsOf at h
  simp only at h
  split at h
  · next q => obtain rfl := Option.some.inj h; exact q
  · cases h
theorem items_sq {K : PySem.W.Frag} {S : Sto} {H : Hp} {d : D} {v : V} {xs : List D} (rs : RelS K S H) (dv : Dv K H d v) (h : itemsOf S d = some xs) : ∃ p vs, v = .ref p ∧ (SqL K H p vs ∨ SqT K H p vs) ∧ Dvs K H xs vs := by
  cases dv with
  | ref a =>
    obtain ⟨vs, e, r⟩ := rs _ _ (ref_items h)
    exact ⟨a, vs, rfl, .inl (SqL.of e), r⟩
  | tup h1 h2 => obtain rfl := Option.some.inj h; exact ⟨_, _, rfl, .inr h1, h2⟩
  | fl h1 h2 => obtain rfl := Option.some.inj h; exact ⟨_, _, rfl, .inl h1.sq, h2⟩
  | _ => cases h
def nthQ {α : Type} : List α → Nat → (α → Prop) → Prop
  | x :: _, 0, Q => Q x
  | _ :: xs, n + 1, Q => nthQ xs n Q
  | [], _, _ => False
theorem nthQ_get {α : Type} : ∀ {xs : List α} {n : Nat} {Q : α → Prop}, nthQ xs n Q → ∃ x, xs[n]? = some x ∧ Q x
  | [], _, _, h => by cases h
  | x :: _, 0, _, h => ⟨x, rfl, h⟩
  | _ :: xs, n + 1, _, h => nthQ_get (xs := xs) (n := n) h
def ixkQ (k : Nat) : D → Sto → VK2 → Prop
  | .tup xs, S, Q => nthQ xs k fun x => Q x S
  | .fl xs, S, Q => nthQ xs k fun x => Q x S
  | .ref a, S, Q => getO (S a) fun xs => nthQ xs k fun x => Q x S
  | .str z, S, Q => z.length ≤ sizeLine ∧ onS z.cps.toList[k]? fun c => Q (.str ⟨#[c]⟩) S
  | _, _, _ => False
def uIxk (k : Nat) (ta : TE2) : TE2 := fun τ S Q => ta τ S fun d S1 => ixkQ k d S1 Q
def ixgQ (i : Int) : D → Sto → VK2 → Prop
  | .tup xs, S, Q => onS (atI xs i) fun x => Q x S
  | .fl xs, S, Q => onS (atI xs i) fun x => Q x S
  | .ref a, S, Q => getO (S a) fun xs => onS (atI xs i) fun x => Q x S
  | .str z, S, Q => z.length ≤ sizeLine ∧ onS (atI z.cps.toList i) fun c => Q (.str ⟨#[c]⟩) S
  | _, _, _ => False
def rIxg : D → D → Sto → VK2 → Prop
  | d, .int i, S, Q => ixgQ i d S Q
  | _, _, _, _ => False
theorem Dvs.atI {K : PySem.W.Frag} {H : Hp} {ds : List D} {vs : List V} {i : Int} {d : D} (h : Dvs K H ds vs) (e : L2.atI ds i = some d) : ∃ v, L2.atI vs i = some v ∧ Dv K H d v := by
  unfold L2.atI at e ⊢
  rw [← h.length]
  cases q : ixN ds.length i with
  | none => rw [q] at e; cases e
  | some j =>
    rw [q] at e
    exact h.at e
section
variable {X : Cx} {pos : Pos} {a b : Expr} {ta tb : TE2} {K : PySem.W.Frag}
theorem srv_ix : Srv K (rIx K) rIxg := by
  intro d e v u S H Q Q2 rs dv du t k
  unfold rIxg at t
  split at t
  · next i =>
    cases du
    have gen : ∀ xs, itemsOf S d = some xs → onS (atI xs i) (fun x => Q2 x S) → rIx K v (.int i) H Q := by
      intro xs h1 q
      obtain ⟨x, h2, q⟩ := onS_get q
      obtain ⟨p, vs, rfl, h, r⟩ := items_sq rs dv h1
      obtain ⟨y, e2, ry⟩ := r.atI h2
      rcases h with h | h
      · exact .inl ⟨p, vs, i, y, rfl, rfl, h, e2, k _ _ _ _ (.refl H) rs ry q⟩
      · exact .inr (.inl ⟨p, vs, i, y, rfl, rfl, h, e2, k _ _ _ _ (.refl H) rs ry q⟩)
    cases d with
    | tup xs => exact gen xs rfl t
    | fl xs => exact gen xs rfl t
    | ref a =>
      obtain ⟨xs, h1, q⟩ := getO_get t
      exact gen xs (items_ref h1) q
    | str z =>
      obtain ⟨hl, t⟩ := t
      obtain ⟨c, hc, q⟩ := onS_get t
      cases dv
      exact .inr (.inr ⟨z, i, c, rfl, rfl, hl, hc, k _ _ _ _ (.refl H) rs (.str _) q⟩)
    | _ => exact t.elim
  · exact t.elim
theorem q_ixg (hs : PlainIx b) (ha : QE X a ta) (hb : QE X b tb) : QE X (.Subscript a b pos) (uOp rIxg ta tb) := q_ix ix_seq srv_ix hs ha hb
theorem q_ixk (n : Nat) {j : Nat} {p2 : Pos} (ha : QE X a ta) : QE X (.Subscript a (.Constant (.int (n : Int)) j p2) pos) (uIxk n ta) := PE.wk (pe_ix ix_seq ha pe_int (fun _ _ => rfl)) fun σ H Q ⟨τ, S, Q2, rl, rs, t, k⟩ => by
  refine ⟨τ, S, _, rl, rs, t, fun d v S1 H1 g1 rs1 dv1 t1 => ?_⟩
  show rIx X.K v (.int n) H1 Q
  have gen : ∀ xs, itemsOf S1 d = some xs → nthQ xs n (fun x => Q2 x S1) → rIx X.K v (.int n) H1 Q := fun xs h1 q => by
    obtain ⟨x, h2, q⟩ := nthQ_get q
    obtain ⟨p, vs, rfl, h, r⟩ := items_sq rs1 dv1 h1
    obtain ⟨y, e2, ry⟩ := r.at h2
    rcases h with h | h
    · exact .inl ⟨p, vs, n, y, rfl, rfl, h, atI_nat e2, k _ _ _ _ g1 rs1 ry q⟩
    · exact .inr (.inl ⟨p, vs, n, y, rfl, rfl, h, atI_nat e2, k _ _ _ _ g1 rs1 ry q⟩)
  cases d with
  | tup xs => exact gen xs rfl t1
  | fl xs => exact gen xs rfl t1
  | ref a =>
    obtain ⟨xs, h1, q⟩ := getO_get t1
    exact gen xs (items_ref h1) q
  | str z =>
    obtain ⟨hl, t1⟩ := t1
    obtain ⟨c, hc, q⟩ := onS_get t1
    cases dv1
    exact .inr (.inr ⟨z, n, c, rfl, rfl, hl, atI_nat hc, k _ _ _ _ g1 rs1 (.str _) q⟩)
  | _ => exact t1.elim
end
end DL
namespace DL
open PySem PySem.Spec PyProof.Rows L2
/-! ### calls of builtins, by values -/
abbrev RC := List D → Sto → VK2 → Prop
def SrvC (K : PySem.W.Frag) (r0 : List V → Hp → VK → Prop) (r : RC) : Prop := ∀ ds vs S H Q Q2, RelS K S H → Dvs K H ds vs → r ds S Q2 → (∀ d v S' H', Good K H H' → RelS K S' H' → Dv K H' d v → Q2 d S' → Q v H') → r0 vs H Q
def uCB (r : RC) (t : TA2) : TE2 := fun τ S Q => t τ S fun ds S1 => r ds S1 Q
/-- methods of builtin types -/
abbrev RM := D → List D → Sto → VK2 → Prop
def SrvM (K : PySem.W.Frag) (T : String) (r0 : V → List V → Hp → VK → Prop) (r : RM) : Prop := ∀ d v ds vs S H Q Q2, RelS K S H → Dv K H d v → Dvs K H ds vs → r d ds S Q2 → (∀ d v S' H', Good K H H' → RelS K S' H' → Dv K H' d v → Q2 d S' → Q v H') → r0 v vs H Q
def isL (S : Sto) (d : D) : Prop := match d with
  | .ref a => ∃ xs, S a = some (.lst xs)
  | .fl _ => True
  | _ => False
def isS (S : Sto) (d : D) : Prop := match d with
  | .str _ => True
  | _ => False
def uBM (ty : Sto → D → Prop) (r : RM) (to : TE2) (t : TA2) : TE2 := fun τ S Q => to τ S fun x S1 => ty S1 x ∧ t τ S1 fun ds S2 => r x ds S2 Q
section
variable {X : Cx} {pos p cpos apos : Pos} {x name : Str} {e o : Expr} {es : List Expr} {t : TA2} {to : TE2} {r : RC} {r0 : List V → Hp → VK → Prop} {id T : String}
theorem dnCB (s : SrvC X.K r0 r) {σ : L2.St} {H : Hp} {Q : VK} : dn X.K (uCB r t) σ H Q → tCB r0 (dnA X.K t) σ H Q := fun ⟨τ, S, Q2, rl, rs, t, k⟩ =>
  ⟨τ, S, _, rl, rs, t, fun ds vs S1 H1 g1 rs1 dvs t1 => s ds vs S1 H1 Q Q2 rs1 dvs t1 fun d v S' H' g => k d v S' H' (g1.trans g)⟩
theorem q_callB (hc : CallR X (.builtin id) r0) (s : SrvC X.K r0 r) (hm : X.mg x = none) (hv : bootBuiltins x = some (.builtin id)) (hg : Gl X x) (ha : QA X (e :: es) t) (hn : x ≠ "__name__" := by decide) (hdb : (x == ("__debug__" : Str)) = false := by decide)
    (he : starEach (e :: es) X.env = (false, eval e X.env) :: starEach es X.env := by rfl) (hpl : (backTo pos (starEach es X.env)).any (·.1) = false := by rfl) :
    QE X (.Call (.Name x p) (e :: es) [] pos) (uCB r t) := PE.wk (pe_callB hc hg hm hv ha hn hdb he hpl) fun _ _ _ => dnCB s
theorem q_callTy (hc : CallR X (.type T) r0) (s : SrvC X.K r0 r) (hm : X.mg x = none) (hv : bootBuiltins x = some (.type T)) (hg : Gl X x) (ha : QA X (e :: es) t) (hn : x ≠ "__name__" := by decide) (hdb : (x == ("__debug__" : Str)) = false := by decide)
    (he : starEach (e :: es) X.env = (false, eval e X.env) :: starEach es X.env := by rfl) (hpl : (backTo pos (starEach es X.env)).any (·.1) = false := by rfl) :
    QE X (.Call (.Name x p) (e :: es) [] pos) (uCB r t) := PE.wk (pe_callTy hc hg hm hv ha hn hdb he hpl) fun _ _ _ => dnCB s
end
def rLen : List D → Sto → VK2 → Prop
  | [.str z], S, Q => z.length ≤ sizeLine ∧ Q (.int z.length) S
  | [.tup xs], S, Q => Q (.int xs.length) S
  | [.fl xs], S, Q => Q (.int xs.length) S
  | [.ref a], S, Q => getO (S a) fun xs => Q (.int xs.length) S
  | _, _, _ => False
def rAbs : List D → Sto → VK2 → Prop
  | [.int i], S, Q => Q (.int (if i < 0 then -i else i)) S
  | _, _, _ => False
def rMax2 : List D → Sto → VK2 → Prop
  | [.int i, .int j], S, Q => Q (.int (if j > i then j else i)) S
  | _, _, _ => False
def rMin2 : List D → Sto → VK2 → Prop
  | [.int i, .int j], S, Q => Q (.int (if j < i then j else i)) S
  | _, _, _ => False
def rInt1 : List D → Sto → VK2 → Prop
  | [.int i], S, Q => Q (.int i) S
  | [.bl k], S, Q => Q (.int (if k then 1 else 0)) S
  | _, _, _ => False
def rListOf : List D → Sto → VK2 → Prop
  | [.tup xs], S, Q => ∀ p, S p = none → Q (.ref p) (ups S p (.lst xs))
  | [.fl xs], S, Q => ∀ p, S p = none → Q (.ref p) (ups S p (.lst xs))
  | [.ref a], S, Q => getO (S a) fun xs => ∀ p, S p = none → Q (.ref p) (ups S p (.lst xs))
  | _, _, _ => False
def rTupleOf : List D → Sto → VK2 → Prop
  | [.tup xs], S, Q => Q (.tup xs) S
  | [.fl xs], S, Q => Q (.tup xs) S
  | [.ref a], S, Q => getO (S a) fun xs => Q (.tup xs) S
  | _, _, _ => False
/-- the items of a list -/
def listOf (S : Sto) (d : D) : Option (List D) := match d with
  | .ref a => match S a with
    | some (.lst xs) => some xs
    | _ => none
  | .fl xs => some xs
  | _ => none
theorem ref_list {S : Sto} {a : Addr} {xs : List D} (h : listOf S (.ref a) = some xs) : S a = some (.lst xs) := by
  unfold listOf at h
  simp only at h
  split at h
  · next q => obtain rfl := Option.some.inj h; exact q
  · cases h
theorem list_sq {K : PySem.W.Frag} {S : Sto} {H : Hp} {d : D} {v : V} {xs : List D} (rs : RelS K S H) (dv : Dv K H d v) (h : listOf S d = some xs) : ∃ p vs, v = .ref p ∧ SqL K H p vs ∧ Dvs K H xs vs := by
  cases dv with
  | ref a =>
    obtain ⟨vs, e, r⟩ := rs _ _ (ref_list h)
    exact ⟨a, vs, rfl, SqL.of e, r⟩
  | fl h1 h2 => obtain rfl := Option.some.inj h; exact ⟨_, _, rfl, h1.sq, h2⟩
  | _ => cases h
def rAny2 : List D → Sto → VK2 → Prop
  | [d], S, Q => ∃ bs : List Bool, listOf S d = some (bs.map D.bl) ∧ Q (.bl (bs.any fun b => b)) S
  | _, _, _ => False
def rAll2 : List D → Sto → VK2 → Prop
  | [d], S, Q => ∃ bs : List Bool, listOf S d = some (bs.map D.bl) ∧ Q (.bl (bs.all fun b => b)) S
  | _, _, _ => False
/-- the builtin type of a thing -/
inductive Ty where
  | non | bool | int | str | tup | lst | dic
def Ty.nm : Ty → String
  | .non => "NoneType" | .bool => "bool" | .int => "int" | .str => "str" | .tup => "tuple" | .lst => "list" | .dic => "dict"
def tyO : Option O → Option Ty
  | some (.lst _) => some .lst
  | some (.dic _) => some .dic
  | _ => none
def tyOf (S : Sto) : D → Option Ty
  | .non => some .non
  | .bl _ => some .bool
  | .int _ => some .int
  | .str _ => some .str
  | .tup _ => some .tup
  | .fl _ => some .lst
  | .ref a => tyO (S a)
  | _ => none
/-- isinstance(a thing of the one, the other) -/
def isiT : Ty → Ty → Bool
  | .bool, .bool | .bool, .int | .int, .int | .str, .str | .tup, .tup | .lst, .lst | .dic, .dic => true
  | _, _ => false
def Ty.ok : Ty → Bool
  | .non => false
  | _ => true
theorem isiT_kit : ∀ T n : Ty, n.ok = true → kitB T.nm n.nm = some (isiT T n) := by
  intro T n h
  cases n <;> first | (exact absurd h (by decide)) | (cases T <;> decide +kernel)
def uIsi (n : Ty) (ta : TE2) : TE2 := fun τ S Q => ta τ S fun d S1 => onS (tyOf S1 d) fun T => Q (.bl (isiT T n)) S1
def rSorted2 : List D → Sto → VK2 → Prop
  | [d], S, Q => ∃ ns : List Int, listOf S d = some (ns.map D.int) ∧ ns.length < 64 ∧ ∀ ms : List Int, ms.Perm ns → ms.Pairwise (· ≤ ·) → ∀ p, S p = none → Q (.ref p) (ups S p (.lst (ms.map D.int)))
  | _, _, _ => False
section
variable {X : Cx} {K : PySem.W.Frag}
theorem srv_len : SrvC K (fun xs H Q => (∃ p ys, xs = [.ref p] ∧ (SqL K H p ys ∨ SqT K H p ys) ∧ Q (.int ys.length) H) ∨ ∃ z, xs = [.str z] ∧ z.length ≤ sizeLine ∧ Q (.int z.length) H) rLen := by
  intro ds vs S H Q Q2 rs dvs t k
  have gen : ∀ (d : D) (v : V) (xs : List D), Dv K H d v → itemsOf S d = some xs → Q2 (.int xs.length) S → (∃ p ys, [v] = [.ref p] ∧ (SqL K H p ys ∨ SqT K H p ys) ∧ Q (.int ys.length) H) := fun d v xs dv h q => by
    obtain ⟨p, us, rfl, hq, r⟩ := items_sq rs dv h
    exact ⟨p, us, rfl, hq, by rw [← r.length]; exact k _ _ _ _ (.refl H) rs (.int _) q⟩
  unfold rLen at t
  split at t
  · cases dvs with
    | cons h1 h2 =>
      cases h1; cases h2
      exact .inr ⟨_, rfl, t.1, k _ _ _ _ (.refl H) rs (.int _) t.2⟩
  · cases dvs with
    | cons h1 h2 => cases h2; exact .inl (gen _ _ _ h1 rfl t)
  · cases dvs with
    | cons h1 h2 => cases h2; exact .inl (gen _ _ _ h1 rfl t)
  · obtain ⟨xs, e, q⟩ := getO_get t
    cases dvs with
    | cons h1 h2 => cases h2; exact .inl (gen _ _ _ h1 (items_ref e) q)
  · exact t.elim
theorem srv_abs : SrvC K (fun xs H Q => ∃ i, xs = [.int i] ∧ Q (.int (if i < 0 then -i else i)) H) rAbs := by
  intro ds vs S H Q Q2 rs dvs t k
  unfold rAbs at t
  split at t
  · cases dvs with
    | cons h1 h2 =>
      cases h1; cases h2
      exact ⟨_, rfl, k _ _ _ _ (.refl H) rs (.int _) t⟩
  · exact t.elim
theorem srv_int1 : SrvC K (fun xs H Q => (∃ i, xs = [.int i] ∧ Q (.int i) H) ∨ ∃ k, xs = [.bl k] ∧ Q (.int (if k then 1 else 0)) H) rInt1 := by
  intro ds vs S H Q Q2 rs dvs t k
  unfold rInt1 at t
  split at t
  · cases dvs with
    | cons h1 h2 =>
      cases h1; cases h2
      exact .inl ⟨_, rfl, k _ _ _ _ (.refl H) rs (.int _) t⟩
  · cases dvs with
    | cons h1 h2 =>
      cases h1; cases h2
      exact .inr ⟨_, rfl, k _ _ _ _ (.refl H) rs (.int _) t⟩
  · exact t.elim
variable {pos p : Pos} {e : Expr} {es : List Expr} {t : TA2} {ta tb : TE2}
theorem q_len (hm : X.mg "len" = none) (hg : Gl X "len") (ha : QA X [e] t) (he : starEach [e] X.env = (false, eval e X.env) :: starEach [] X.env := by rfl) : QE X (.Call (.Name "len" p) [e] [] pos) (uCB rLen t) :=
  q_callB (call_len_seq.or call_len_str) srv_len hm PySem.boot_len hg ha (he := he)
theorem q_abs (hm : X.mg "abs" = none) (hg : Gl X "abs") (ha : QA X [e] t) (he : starEach [e] X.env = (false, eval e X.env) :: starEach [] X.env := by rfl) : QE X (.Call (.Name "abs" p) [e] [] pos) (uCB rAbs t) :=
  q_callB call_abs srv_abs hm PyProof.Rows.boot_abs hg ha (he := he)
theorem q_int1 (hm : X.mg "int" = none) (hg : Gl X "int") (ha : QA X [e] t) (he : starEach [e] X.env = (false, eval e X.env) :: starEach [] X.env := by rfl) : QE X (.Call (.Name "int" p) [e] [] pos) (uCB rInt1 t) :=
  q_callTy call_int1 srv_int1 hm PyProof.Rows.boot_int hg ha (he := he)
/-- the type of what d stands for -/
theorem tyX_of {S : Sto} {H : Hp} {d : D} {v : V} {T : Ty} (rs : RelS K S H) (dv : Dv K H d v) (h : tyOf S d = some T) : TyX K H v (.type T.nm) := by
  cases dv with
  | non => obtain rfl := Option.some.inj h; exact .base .non
  | bl b => obtain rfl := Option.some.inj h; exact .base (.bl b)
  | int i => obtain rfl := Option.some.inj h; exact .base (.int i)
  | str x => obtain rfl := Option.some.inj h; exact .base (.str x)
  | ty n => cases h
  | exc _ => cases h
  | tup h1 h2 =>
    obtain rfl := Option.some.inj h
    rcases h1 with (h1 | ⟨o, h1⟩) | ⟨o, its, n, h1, h3, _⟩
    · exact .base (.tup h1)
    · exact .fTuple h1
    · exact .kTuple h1 h3
  | fl h1 h2 =>
    obtain rfl := Option.some.inj h
    rcases h1 with ⟨o, h1⟩ | ⟨o, its, n, h1, h3, _⟩
    · exact .base (.frz h1)
    · exact .kList h1 h3
  | ref a =>
    have h : tyO (S a) = some T := h
    unfold tyO at h
    split at h
    · next q =>
      obtain rfl := Option.some.inj h
      obtain ⟨vs, e, _⟩ := rs _ _ q
      exact .base (.lst e)
    · next q =>
      obtain rfl := Option.some.inj h
      obtain ⟨vs, e, _⟩ := rs _ _ q
      exact .base (.dK e)
    · cases h
theorem q_isi (n : Ty) {x : Str} {p2 : Pos} (hm : X.mg "isinstance" = none) (hg : Gl X "isinstance") (hm2 : X.mg x = none) (hg2 : Gl X x) (hb : bootBuiltins x = some (.type n.nm)) (hn : n.ok = true) (ha : QE X e ta)
    (he : starEach [e, .Name x p2] X.env = (false, eval e X.env) :: starEach [.Name x p2] X.env := by rfl) (hpl : (backTo pos (starEach [.Name x p2] X.env)).any (·.1) = false := by rfl)
    (hs2 : starEach [.Name x p2] X.env = (false, eval (.Name x p2) X.env) :: starEach [] X.env := by rfl) (hx : x ≠ "__name__" := by decide) (hd : (x == ("__debug__" : Str)) = false := by decide) : QE X (.Call (.Name "isinstance" p) [e, .Name x p2] [] pos) (uIsi n ta) :=
  PE.wk (pe_callB call_isi hg hm PyProof.Rows.boot_isinstance (pa_cons ha (pa_cons (pe_bltn (v := .ty n.nm) hg2 hm2 hb rfl hx hd) pa_nil hs2) he) (hpl := hpl) (he := he)) fun σ H Q ⟨τ, S, Q2, rl, rs, t, k⟩ =>
    ⟨τ, S, _, rl, rs, t, fun d v S1 H1 g1 rs1 dv1 t1 => let ⟨T, hT, t1⟩ := onS_get t1; ⟨v, .ty n.nm, .type T.nm, .type n.nm, isiT T n, rfl, .ty _, tyX_of rs1 dv1 hT, kit_ty (isiT_kit T n hn), k _ _ _ _ g1 rs1 (.bl _) t1⟩⟩
end
end DL
namespace DL
open PySem PySem.Spec PyProof.Rows L2
/-! ### methods of lists -/
def rAppend2 : D → List D → Sto → VK2 → Prop
  | .ref a, [d], S, Q => getO (S a) fun xs => xs.length < sizeLine ∧ Q .non (ups S a (.lst (xs ++ [d])))
  | _, _, _, _ => False
def rInsert2 : D → List D → Sto → VK2 → Prop
  | .ref a, [.int i, d], S, Q => getO (S a) fun xs => xs.length < sizeLine ∧ (0 ≤ i ∧ i < 2 ^ 63) ∧ Q .non (ups S a (.lst (xs.take i.toNat ++ [d] ++ xs.drop i.toNat)))
  | _, _, _, _ => False
def rPop0 : D → List D → Sto → VK2 → Prop
  | .ref a, [], S, Q => getO (S a) fun xs => onS xs[xs.length - 1]? fun y => Q y (ups S a (.lst xs.dropLast))
  | _, _, _, _ => False
def rPopAt2 : D → List D → Sto → VK2 → Prop
  | .ref a, [.int i], S, Q => getO (S a) fun xs => (-(2 ^ 63) ≤ i ∧ i < 2 ^ 63) ∧ onS (seqIndex? i xs.length) fun k => onS xs[k]? fun y => Q y (ups S a (.lst (xs.eraseIdx k)))
  | _, _, _, _ => False
def rReverse2 : D → List D → Sto → VK2 → Prop
  | .ref a, [], S, Q => getO (S a) fun xs => Q .non (ups S a (.lst xs.reverse))
  | _, _, _, _ => False
def rClear2 : D → List D → Sto → VK2 → Prop
  | .ref a, [], S, Q => getO (S a) fun xs => Q .non (ups S a (.lst []))
  | _, _, _, _ => False
section
variable {X : Cx} {K : PySem.W.Frag}
theorem isL_ty {S : Sto} {H : Hp} {d : D} {v : V} (rs : RelS K S H) (dv : Dv K H d v) (h : isL S d) : tyV K "list" v H := by
  cases dv with
  | ref a =>
    obtain ⟨xs, h⟩ := h
    obtain ⟨vs, e, _⟩ := rs _ _ h
    exact .inl ⟨rfl, vs, SqL.of e⟩
  | fl h1 h2 => exact .inl ⟨rfl, _, h1.sq⟩
  | _ => exact h.elim
variable {pos p cpos apos : Pos} {x name : Str} {e o : Expr} {es : List Expr} {t : TA2} {to : TE2} {r : RM} {r0 : V → List V → Hp → VK → Prop} {id T : String} {ty : Sto → D → Prop}
theorem q_bm (pa : PlainAttrs T) (slot : Slot T name id) (hty : typeOf (.builtin id) = pure (.type "method_descriptor")) (hm : MtR X id r0) (s : SrvM X.K T r0 r)
    (tyS : ∀ {S : Sto} {H : Hp} {d : D} {v : V}, RelS X.K S H → Dv X.K H d v → ty S d → tyV X.K T v H) (ho : QE X o to) (ha : QA X (e :: es) t)
    (hbase : attributeBase o name X.env (eval o X.env) = eval o X.env)
    (hfew : ((backTo cpos (starEach (e :: es) X.env)).all (fun x => !x.1) && (backToKw cpos (keywordEach [] X.env)).all (fun x => x.1.isSome)
      && decide ((e :: es).length + ([] : List Keyword).length + (if ([] : List Keyword).isEmpty then 0 else 1) < 30)) = true)
    (hline : (apos.endLine == cpos.line) = true) (hs : starEach (e :: es) X.env = (false, eval e X.env) :: starEach es X.env) (hplain : (backTo cpos (starEach es X.env)).any (·.1) = false) :
    QE X (.Call (.Attribute o name apos) (e :: es) [] cpos) (uBM ty r to t) := PE.wk (pe_bm pa slot hty hm ho ha hbase hfew hline hs hplain) fun σ H Q ⟨τ, S, Q2, rl, rs, t, k⟩ =>
  ⟨τ, S, _, rl, rs, t, fun d v S1 H1 g1 rs1 dv1 ⟨ht, t1⟩ => ⟨tyS rs1 dv1 ht, τ, S1, _, rl.keep g1, rs1, t1, fun ds vs S2 H2 g2 rs2 dvs2 t2 =>
    s d v ds vs S2 H2 Q Q2 rs2 (Dv.keep g2 _ _ dv1) dvs2 t2 fun d v S' H' g => k d v S' H' (g1.trans (g2.trans g))⟩⟩
theorem RelS.wl {S : Sto} {H : Hp} {a : Addr} {us us' : List V} {xs' : List D} (rs : RelS K S H) (e : H a = some (.lst us)) (r : Dvs K H xs' us') : Good K H (upd H a (.lst us')) ∧ RelS K (ups S a (.lst xs')) (upd H a (.lst us')) :=
  have g := good_write (K := K) (u' := .lst us') e trivial
  ⟨g, rs.write (o := .lst xs') e trivial ⟨us', upd_same, Dvs.keep g _ _ r⟩⟩
theorem srv_append : SrvM K "list" rAppend rAppend2 := by
  intro d v ds vs S H Q Q2 rs dv dvs t k
  unfold rAppend2 at t
  split at t
  · obtain ⟨xs, h, hl, q⟩ := getO_get t
    cases dv
    cases dvs with
    | cons h1 h2 =>
      cases h2
      obtain ⟨us, e, r⟩ := rs _ _ h
      refine ⟨_, us, _, rfl, rfl, e, by rw [← r.length]; exact hl, ?_⟩
      obtain ⟨g, r2⟩ := RelS.wl rs e (r.append (.cons h1 .nil))
      exact k _ _ _ _ g r2 .non q
  · exact t.elim
variable {ta tb : TE2} {e2 : Expr} {k : Nat}
theorem q_append (ho : QE X o to) (ha : QA X [e] t) (hbase : attributeBase o "append" X.env (eval o X.env) = eval o X.env := by rfl)
    (hfew : ((backTo cpos (starEach (e :: []) X.env)).all (fun x => !x.1) && (backToKw cpos (keywordEach [] X.env)).all (fun x => x.1.isSome) && decide ((e :: []).length + ([] : List Keyword).length + (if ([] : List Keyword).isEmpty then 0 else 1) < 30)) = true := by rfl)
    (hline : (apos.endLine == cpos.line) = true := by rfl) (hs : starEach (e :: []) X.env = (false, eval e X.env) :: starEach [] X.env := by rfl) (hplain : (backTo cpos (starEach [] X.env)).any (·.1) = false := by rfl) :
    QE X (.Call (.Attribute o "append" apos) [e] [] cpos) (uBM isL rAppend2 to t) := q_bm PySem.F.plainAttrs_list PySem.F.slot_list_append PySem.F.type_list_append mt_append srv_append isL_ty ho ha hbase hfew hline hs hplain
end
/-! ### slices -/
abbrev TO2 := St2 → Sto → (Option Int → Sto → Prop) → Prop
def dnO (K : PySem.W.Frag) (t : TO2) : TO := fun σ H Q => ∃ τ S Q2, Rl K H τ σ ∧ RelS K S H ∧ t τ S Q2 ∧ ∀ b S' H', Good K H H' → RelS K S' H' → Q2 b S' → Q b H'
def uNoPart : TO2 := fun _ S Q => Q none S
def uPart (ta : TE2) : TO2 := fun τ S Q => ta τ S fun d S1 => match d with
  | .int i => Q (some i) S1
  | _ => False
def cutD (xs : List D) (lo hi : Option Int) : List D := (xs.drop (HT.sIx xs.length 0 lo)).take (HT.sIx xs.length xs.length hi - HT.sIx xs.length 0 lo)
/-- a slice of a list: a new list -/
def uSlL (te : TE2) (tl th : TO2) : TE2 := fun τ S Q => te τ S fun d S1 => tl τ S1 fun lo S2 => th τ S2 fun hi S3 => onS (listOf S3 d) fun xs => ∀ p, S3 p = none → Q (.ref p) (ups S3 p (.lst (cutD xs lo hi)))
/-- a slice of whatever -/
def slQ (d : D) (lo hi : Option Int) (S : Sto) (Q : VK2) : Prop := match d with
  | .tup xs => Q (.tup (cutD xs lo hi)) S
  | .str z => z.length ≤ sizeLine ∧ Q (.str (cutS z lo hi)) S
  | d => onS (listOf S d) fun xs => ∀ p, S p = none → Q (.ref p) (ups S p (.lst (cutD xs lo hi)))
def uSlG (te : TE2) (tl th : TO2) : TE2 := fun τ S Q => te τ S fun d S1 => tl τ S1 fun lo S2 => th τ S2 fun hi S3 => slQ d lo hi S3 Q
section
variable {X : Cx} {K : PySem.W.Frag} {pos p2 : Pos} {e : Expr} {lo hi : Option Expr} {te : TE2} {tl th : TO2}
theorem cut_dvs {H : Hp} {xs : List D} {vs : List V} {lo hi : Option Int} (r : Dvs K H xs vs) : Dvs K H (cutD xs lo hi) (cutV vs lo hi) := by
  unfold cutD cutV
  rw [r.length]
  exact (r.drop _).take _
theorem cutV_whole {α : Type} {vs : List V} {lo hi : Option Int} (h : HT.sIx vs.length 0 lo = 0 ∧ HT.sIx vs.length vs.length hi = vs.length) : cutV vs lo hi = vs := by
  unfold cutV
  rw [h.1, h.2]
  simp
theorem o_none : PO X none (dnO X.K uNoPart) := ⟨fun pins s σ H Q I ⟨τ, S, Q2, rl, rs, t, k⟩ => po_none.run pins s σ H Q I (k _ _ _ (.refl H) rs t)⟩
theorem o_some (h : QE X e te) : PO X (some e) (dnO X.K (uPart te)) := ⟨fun pins s σ H Q I ⟨τ, S, Q2, rl, rs, t, k⟩ => (po_some h).run pins s σ H Q I ⟨τ, S, _, rl, rs, t, fun d v S1 H1 g1 rs1 dv1 t1 => by
  cases d with
  | int i => cases dv1; exact ⟨i, rfl, k _ _ _ g1 rs1 t1⟩
  | _ => exact t1.elim⟩⟩
theorem q_slG (he : QE X e te) (hl : PO X lo (dnO X.K tl)) (hh : PO X hi (dnO X.K th)) : QE X (.Subscript e (.Slice lo hi none p2) pos) (uSlG te tl th) := PE.wk (pe_slice (sl_list.or (sl_tupA.or sl_str)) he hl hh) fun σ H Q ⟨τ, S, Q2, rl, rs, t, k⟩ =>
  ⟨τ, S, _, rl, rs, t, fun d v S1 H1 g1 rs1 dv1 t1 => ⟨τ, S1, _, rl.keep g1, rs1, t1, fun l S2 H2 g2 rs2 t2 => ⟨τ, S2, _, (rl.keep g1).keep g2, rs2, t2, fun u S3 H3 g3 rs3 t3 => by
    have dv3 := Dv.keep (g2.trans g3) _ _ dv1
    have gg := g1.trans (g2.trans g3)
    have lst : (onS (listOf S3 d) fun xs => ∀ p, S3 p = none → Q2 (.ref p) (ups S3 p (.lst (cutD xs l u)))) → ∃ p xs, v = .ref p ∧ SqL X.K H3 p xs ∧ ∀ p', H3 p' = none → Q (.ref p') (upd H3 p' (.lst (cutV xs l u))) := fun t => by
      obtain ⟨xs, h, q⟩ := onS_get t
      obtain ⟨p, vs, rfl, hq, r⟩ := list_sq rs3 dv3 h
      refine ⟨p, vs, rfl, hq, fun p' np => ?_⟩
      exact k _ _ _ _ (gg.trans (good_new np)) (rs3.new (o := .lst (cutD xs l u)) np ⟨_, upd_same, (cut_dvs r).new np⟩) (.ref p') (q p' (rs3.fresh np))
    unfold slQ at t3
    split at t3
    · cases dv3 with
      | tup h1 h2 =>
        refine .inr (.inl ⟨_, _, rfl, h1, fun hw => ?_, fun _ p np => ?_⟩)
        · exact k _ _ _ _ gg rs3 (.tup h1 (by have := cut_dvs (lo := l) (hi := u) h2; rwa [cutV_whole (α := D) hw] at this)) t3
        · exact k _ _ _ _ (gg.trans (good_new np)) (rs3.newT np) (.tup (SqT.of upd_same) ((cut_dvs h2).new np)) t3
    · cases dv3; exact .inr (.inr ⟨_, rfl, t3.1, k _ _ _ _ gg rs3 (.str _) t3.2⟩)
    · exact .inl (lst t3)⟩⟩⟩
end
/-! ### targets -/
abbrev TG2 := D → St2 → Sto → (St2 → Sto → Prop) → Prop
abbrev TGs2 := List D → St2 → Sto → (St2 → Sto → Prop) → Prop
/-- the slots beside tch stay -/
def Beside (tch : List Nat) (σ σ' : L2.St) : Prop := σ'.length = σ.length ∧ ∀ i : Nat, i ∉ tch → σ'[i]? = σ[i]?
def dnG (K : PySem.W.Frag) (tch : List Nat) (g : TG2) : TG := fun v σ H Q => ∃ d τ S Q2, Dv K H d v ∧ Rl K H τ σ ∧ RelS K S H ∧ g d τ S Q2 ∧ ∀ τ' S' σ' H', Good K H H' → Rl K H' τ' σ' → RelS K S' H' → Beside tch σ σ' → Q2 τ' S' → Q σ' H'
abbrev QG (X : Cx) (tch : List Nat) (tg : Expr) (g : TG2) : Prop := PG X tg (dnG X.K tch g)
theorem PG.wk {X : Cx} {e : Expr} {t t' : TG} (h : PG X e t) (w : ∀ v σ H Q, t' v σ H Q → t v σ H Q) : PG X e t' := ⟨fun pins s σ H v u Q I r q => h.run pins s σ H v u Q I r (w _ _ _ _ q)⟩
def vName (i : Nat) : TG2 := fun d τ S Q => Q (τ.set i (some d)) S
def vNil : TGs2 := fun ds τ S Q => match ds with
  | [] => Q τ S
  | _ => False
def vCons (g : TG2) (gs : TGs2) : TGs2 := fun ds τ S Q => match ds with
  | d :: r => g d τ S fun τ' S' => gs r τ' S' Q
  | [] => False
def vTup (n : Nat) (gs : TGs2) : TG2 := fun d τ S Q => match d with
  | .tup ds => ds.length = n ∧ gs ds τ S Q
  | _ => False
/-- o[i] = v, o a list -/
def setQ (d : D) : D → D → Sto → (Sto → Prop) → Prop
  | .ref a, .int k, S, Q => getO (S a) fun xs => onS (ixN xs.length k) fun j => Q (ups S a (.lst (xs.set j d)))
  | _, _, _, _ => False
def vSub (to ti : TE2) : TG2 := fun d τ S Q => to τ S fun o S1 => ti τ S1 fun i S2 => setQ d o i S2 fun S3 => Q τ S3
/-- o[k] = v, k written -/
def setkQ (k : Nat) (d : D) : D → Sto → (Sto → Prop) → Prop
  | .ref a, S, Q => getO (S a) fun xs => k < xs.length ∧ Q (ups S a (.lst (xs.set k d)))
  | _, _, _ => False
def vSubk (k : Nat) (to : TE2) : TG2 := fun d τ S Q => to τ S fun o S1 => setkQ k d o S1 fun S3 => Q τ S3
section
variable {X : Cx} {pos : Pos} {tch tch' : List Nat}
theorem Beside.set {i : Nat} {σ : L2.St} {v : V} : Beside [i] σ (σ.set i (some v)) := ⟨by simp, fun j h => List.getElem?_set_ne fun e => h (by simp [e])⟩
theorem Beside.refl {σ : L2.St} : Beside tch σ σ := ⟨rfl, fun _ _ => rfl⟩
theorem Beside.trans {σ σ1 σ2 : L2.St} (a : Beside tch σ σ1) (b : Beside tch' σ1 σ2) : Beside (tch ++ tch') σ σ2 := ⟨b.1.trans a.1, fun j h => (b.2 j fun z => h (List.mem_append_right _ z)).trans (a.2 j fun z => h (List.mem_append_left _ z))⟩
theorem g_name {i : Nat} {x : Str} (hN : X.N.Nodup) (hi : X.N[i]? = some x) (hx : Loc X.env.scope x) (hf : X.fn x = true ∨ X.env.scope.names.lookup x = some .local) : QG X [i] (.Name x pos) (vName i) := PG.wk (pg_name (pos := pos) hN hi hx hf) fun v σ H Q ⟨d, τ, S, Q2, dv, rl, rs, t, k⟩ =>
  k _ _ _ _ (.refl H) (rl.set i dv) rs .set t
theorem setQ_ok {K : PySem.W.Frag} {S : Sto} {H : Hp} {d x y : D} {v vx vy : V} {R : Sto → Prop} {Q : Hp → Prop} (rs : RelS K S H) (dv : Dv K H d v) (dx : Dv K H x vx) (dy : Dv K H y vy) (t : setQ d x y S R)
    (k : ∀ S' H', Good K H H' → RelS K S' H' → R S' → Q H') : rSetL vx vy v H Q := by
  unfold setQ at t
  split at t
  · obtain ⟨xs, h, t⟩ := getO_get t
    obtain ⟨j, hj, q⟩ := onS_get t
    cases dx; cases dy
    obtain ⟨us, e, r⟩ := rs _ _ h
    refine ⟨_, us, _, j, rfl, rfl, e, by rw [← r.length]; exact hj, ?_⟩
    obtain ⟨g, r2⟩ := RelS.wl rs e (Dvs.set dv j r)
    exact k _ _ g r2 q
  · exact t.elim
theorem g_subk (n : Nat) {o : Expr} {to : TE2} {j : Nat} {p2 : Pos} (ho : QE X o to)
    (ha : ∀ v, assign (.Subscript o (.Constant (.int (n : Int)) j p2) pos) X.env v = (do
      let ov ← holding [v] (eval o X.env)
      let iv ← holding [v, ov] (eval (.Constant (.int (n : Int)) j p2) X.env)
      standAt pos
      holding [v, ov, iv] (setItem ov iv v)
      release [v, ov, iv] []) := by intro _; rfl) : QG X [] (.Subscript o (.Constant (.int (n : Int)) j p2) pos) (vSubk n to) := PG.wk (pg_sub ho pe_int set_list ha) fun v σ H Q ⟨d, τ, S, Q2, dv, rl, rs, t, k⟩ =>
  ⟨τ, S, _, rl, rs, t, fun x vx S1 H1 g1 rs1 dx t1 => by
    refine setQ_ok (d := d) (x := x) (y := .int n) (R := fun S3 => Q2 τ S3) rs1 (Dv.keep g1 _ _ dv) dx (.int _) ?_ fun S' H' g r2 q => k _ _ _ _ (g1.trans g) ((rl.keep g1).keep g) r2 .refl q
    cases x with
    | ref a =>
      obtain ⟨xs, h, hl, q⟩ := getO_get t1
      refine getO_of h (onS_of (x := n) ?_ q)
      unfold ixN
      rw [if_pos (Int.natCast_nonneg n), if_pos (by omega), Int.toNat_natCast]
    | _ => exact t1.elim⟩
end
/-! ### statements -/
def uNext : TS2 := fun D τ S => D.nx τ S
def uSeq (t u : TS2) : TS2 := fun D τ S => t { D with nx := u D } τ S
def uDrop (te : TE2) : TS2 := fun D τ S => te τ S fun _ S1 => D.nx τ S1
def uRet (te : TE2) : TS2 := fun D τ S => te τ S D.rt
def uRetN : TS2 := fun D τ S => D.rt .non S
def uIf (c : TT2) (t u : TS2) : TS2 := fun D τ S => c τ S fun b S1 => Cnd b (t D τ S1) (u D τ S1)
def uAsg (te : TE2) (g : TG2) : TS2 := fun D τ S => te τ S fun x S1 => g x τ S1 D.nx
def uSet (i : Nat) (te : TE2) : TS2 := fun D τ S => te τ S fun x S1 => D.nx (τ.set i (some x)) S1
def uPar (i j : Nat) (ta : TA2) : TS2 := fun D τ S => ta τ S fun ds S1 => match ds with
  | [d, e] => D.nx ((τ.set i (some d)).set j (some e)) S1
  | _ => False
def uBreak : TS2 := fun D τ S => D.bk τ S
def uCont : TS2 := fun D τ S => D.ct τ S
def uWhile (c : TT2) (tb : TS2) : TS2 := fun D τ S => ∃ W : Nat → St2 → Sto → Prop, (∃ m, W m τ S) ∧ ∀ m τ S, W m τ S →
  c τ S fun b S1 => Cnd b (tb { D with nx := fun τ' S' => ∃ m', m' < m ∧ W m' τ' S', ct := fun τ' S' => ∃ m', m' < m ∧ W m' τ' S', bk := D.nx } τ S1) (D.nx τ S1)
section
variable {X : Cx} {pos : Pos} {e : Expr} {es : List Expr} {te : TE2} {st : Stmt} {rest : List Stmt} {t u : TS2} {a b : List Stmt} {tc : TT2} {tch : List Nat}
theorem ss_nil : QSs X [] uNext := PSs.wk pss_nil fun D σ H ⟨τ, S, D2, rl, rs, t, k⟩ => k.nx _ _ _ _ (.refl H) rl rs t
theorem ss_cons (h1 : QS X st t) (h2 : QSs X rest u) : QSs X (st :: rest) (uSeq t u) := PSs.wk (pss_cons h1 h2) fun D σ H ⟨τ, S, D2, rl, rs, t, k⟩ =>
  ⟨τ, S, _, rl, rs, t, ⟨fun τ1 S1 σ1 H1 g1 rl1 rs1 t1 => ⟨τ1, S1, D2, rl1, rs1, t1, k.keep g1⟩, k.rt, k.bk, k.ct⟩⟩
theorem ss_one (h1 : QS X st t) : QSs X [st] t := pss_one h1
theorem s_expr (he : QE X e te) (hs : swapsWith e none pos.line X.env = pure false := by rfl) : QS X (.Expr e pos) (uDrop te) := PS.wk (ps_expr he hs) fun D σ H ⟨τ, S, D2, rl, rs, t, k⟩ =>
  ⟨τ, S, _, rl, rs, t, fun d v S1 H1 g1 rs1 dv1 t1 => k.nx _ _ _ _ g1 (rl.keep g1) rs1 t1⟩
theorem s_ret (he : QE X e te) : QS X (.Return (some e) pos) (uRet te) := PS.wk (ps_ret he) fun D σ H ⟨τ, S, D2, rl, rs, t, k⟩ => ⟨τ, S, _, rl, rs, t, fun d v S1 H1 g1 rs1 dv1 t1 => k.rt _ _ _ _ g1 rs1 dv1 t1⟩
theorem s_if {c : Expr} (hc : QT X c tc) (ha : QSs X a t) (hb : QSs X b u) : QS X (.If c a b pos) (uIf tc t u) := PS.wk (ps_if hc ha hb) fun D σ H ⟨τ, S, D2, rl, rs, t, k⟩ =>
  ⟨τ, S, _, rl, rs, t, fun b S1 H1 g1 rs1 t1 => by
    cases b with
    | true => rw [if_pos rfl]; exact ⟨τ, S1, D2, rl.keep g1, rs1, t1, k.keep g1⟩
    | false => rw [if_neg Bool.false_ne_true]; exact ⟨τ, S1, D2, rl.keep g1, rs1, t1, k.keep g1⟩⟩
theorem s_asg {tg : Expr} {g : TG2} (he : QE X e te) (hg : QG X tch tg g) (hs : swapsWithSole [tg] e pos.line X.env = pure false := by rfl) (hw : swappedStores [tg] e X.env = pure none := by rfl)
    (h1 : (assignEach [tg] X.env).map (·.2) = [assign tg X.env] := by rfl) : QS X (.Assign [tg] e pos) (uAsg te g) := PS.wk (ps_asg he hg hs hw h1) fun D σ H ⟨τ, S, D2, rl, rs, t, k⟩ =>
  ⟨τ, S, _, rl, rs, t, fun d v S1 H1 g1 rs1 dv1 t1 => ⟨d, τ, S1, _, dv1, rl.keep g1, rs1, t1, fun τ2 S2 σ2 H2 g2 rl2 rs2 _ t2 => k.nx _ _ _ _ (g1.trans g2) rl2 rs2 t2⟩⟩
theorem s_set (i : Nat) {x : Str} {pos' : Pos} (hN : X.N.Nodup) (hi : X.N[i]? = some x) (hx : Loc X.env.scope x) (hf : X.fn x = true ∨ X.env.scope.names.lookup x = some .local) (he : QE X e te) (hs : swapsWith e (some (.Name x pos')) pos.line X.env = pure false := by rfl) :
    QS X (.Assign [.Name x pos'] e pos) (uSet i te) := PS.wk (ps_set hN hi hx he hs hf) fun D σ H ⟨τ, S, D2, rl, rs, t, k⟩ =>
  ⟨τ, S, _, rl, rs, t, fun d v S1 H1 g1 rs1 dv1 t1 => k.nx _ _ _ _ g1 ((rl.keep g1).set i dv1) rs1 t1⟩
theorem s_par (i j : Nat) {x y : Str} {ea eb : Expr} {ta : TA2} {px py pt : Pos} {kt k2 pt2} (hc : X.calm = true) (hN : X.N.Nodup) (hi : X.N[i]? = some x) (hj : X.N[j]? = some y) (hij : i ≠ j)
    (hx : X.env.scope.names.lookup x = some .local) (hy : X.env.scope.names.lookup y = some .local) (ha : QA X [ea, eb] ta)
    (hw : swappedStores [.Tuple [.Name x px, .Name y py] kt pt] (.Tuple [ea, eb] k2 pt2) X.env = pure (some [x, y]))
    (hs : swapsWithSole [.Tuple [.Name x px, .Name y py] kt pt] (.Tuple [ea, eb] k2 pt2) pos.line X.env = pure false := by rfl) :
    QS X (.Assign [.Tuple [.Name x px, .Name y py] kt pt] (.Tuple [ea, eb] k2 pt2) pos) (uPar i j ta) := PS.wk (ps_par hc hN hi hj hij hx hy ha hw hs) fun D σ H ⟨τ, S, D2, rl, rs, t, k⟩ =>
  ⟨τ, S, _, rl, rs, t, fun ds vs S1 H1 g1 rs1 dvs t1 => by
    cases dvs with
    | nil => exact t1.elim
    | cons d1 r1 =>
      cases r1 with
      | nil => exact t1.elim
      | cons d2 r2 =>
        cases r2 with
        | nil => exact ⟨_, _, rfl, k.nx _ _ _ _ g1 (((rl.keep g1).set i d1).set j d2) rs1 t1⟩
        | cons _ _ => exact t1.elim⟩
theorem s_while {c : Expr} {body : List Stmt} {tb : TS2} (hp : PassesOwn (model X.prog X.w) X.A X.env X.xe) (hc : QT X c tc) (hb : QSs X body tb) : QS X (.While c body [] pos) (uWhile tc tb) := PS.wk (ps_while hp hc hb) fun D σ H ⟨τ, S, D2, rl, rs, ⟨W, ⟨m0, w0⟩, turn⟩, k⟩ => by
  refine ⟨fun m σ' H' => ∃ τ' S', Good X.K H H' ∧ Rl X.K H' τ' σ' ∧ RelS X.K S' H' ∧ W m τ' S', ⟨m0, τ, S, .refl H, rl, rs, w0⟩, ?_⟩
  rintro m σ1 H1 ⟨τ1, S1, g1, rl1, rs1, w1⟩
  refine ⟨τ1, S1, _, rl1, rs1, turn m τ1 S1 w1, fun b S2 H2 g2 rs2 t2 => ?_⟩
  cases b with
  | true =>
    rw [if_pos rfl]
    refine ⟨fun σ' H' => ∃ τ' S', Good X.K H H' ∧ Rl X.K H' τ' σ' ∧ RelS X.K S' H' ∧ ∃ m', m' < m ∧ W m' τ' S', fun σ' H' ⟨τ', S', g', rl', rs', n'⟩ => ?_, τ1, S2, _, rl1.keep g2, rs2, t2, ?_⟩
    · obtain ⟨m', hm, w'⟩ := n'
      exact ⟨m', hm, τ', S', g', rl', rs', w'⟩
    · exact ⟨fun τ' S' σ' H' g' rl' rs' n' => ⟨τ', S', (g1.trans g2).trans g', rl', rs', n'⟩, (k.keep (g1.trans g2)).rt, (k.keep (g1.trans g2)).nx, fun τ' S' σ' H' g' rl' rs' n' => ⟨τ', S', (g1.trans g2).trans g', rl', rs', n'⟩⟩
  | false =>
    rw [if_neg Bool.false_ne_true]
    exact k.nx _ _ _ _ (g1.trans g2) (rl1.keep g2) rs2 t2
end
end DL
namespace DL
open PySem PySem.Spec PyProof.Rows L2
/-! ### what is walked -/
structure Drv (K : PySem.W.Frag) (H0 : Hp) (J : It) (ds : List D) (stay : Sto → Prop) : Prop where
  step : ∀ i S H, Good K H0 H → RelS K S H → stay S → i < ds.length → J.go i H ∧ ∀ v H2, J.yld i H v H2 → Good K H H2 ∧ RelS K S H2 ∧ ∃ d, ds[i]? = some d ∧ Dv K H2 d v
  stop : ∀ i S H, Good K H0 H → RelS K S H → stay S → ds.length = i → J.stop i H
  mono : ∀ S S', Sub S S' → stay S → stay S'
abbrev TI2 := St2 → Sto → (List D → (Sto → Prop) → Sto → Prop) → Prop
def dnI (K : PySem.W.Frag) (ti : TI2) : TI := fun σ H R => ∃ τ S R2, Rl K H τ σ ∧ RelS K S H ∧ ti τ S R2 ∧ ∀ ds stay S' H' J, Good K H H' → RelS K S' H' → Drv K H' J ds stay → R2 ds stay S' → R J H'
abbrev QI (X : Cx) (tg iter : Expr) (ti : TI2) : Prop := PI X tg iter (dnI X.K ti)
theorem PI.wk {X : Cx} {tg e : Expr} {t t' : TI} (h : PI X tg e t) (w : ∀ σ H R, t' σ H R → t σ H R) : PI X tg e t' := ⟨fun pins s σ H R I q => h.run pins s σ H R I (w _ _ _ q)⟩
/-- a list or a tuple, by its value -/
def iVal (K : PySem.W.Frag) (tl : TE) : TI := fun σ H R => tl σ H fun x H1 => ∃ a, x = .ref a ∧ (((∃ xs, SqL K H1 a xs) ∧ R (Itl K a) H1) ∨ ((∃ xs, SqT K H1 a xs) ∧ R (Itt K a) H1))
theorem pi_val {X : Cx} {tg l : Expr} {tl : TE} (hl : PE X l tl) : PI X tg l (iVal X.K tl) := by
  refine ⟨fun pins s σ H R I h => ?_⟩
  refine thn (hl.run pins s σ H _ I h) fun v s1 ⟨x, H1, I1, r1, q1⟩ => ?_
  obtain ⟨a, e, q1⟩ := q1
  subst e
  cases r1
  rcases q1 with ⟨⟨xs, hq⟩, q⟩ | ⟨⟨xs, hq⟩, q⟩
  · obtain ⟨its, rv, p, hz⟩ := I1.list hq
    refine wpAny_pyIter_list p.isList ?_
    refine ⟨s1.heap.objs.size, [s1.heap.objs.size], _, _, H1, rfl, I1.kept (t' := s1.toks) fun b o e => Heap.get?_push_of_some _ e, turn_list a _, ⟨_, Heap.get?_push_size _ rfl, rfl, rfl⟩, fun b hb => ?_, q⟩
    have e : b = s1.heap.objs.size := by simpa using hb
    subst e
    exact I1.fpOk (Nat.le_refl _) (I1.hok.fresh (Nat.le_refl _))
  · obtain ⟨its, rv, p, hz⟩ := I1.tuple hq
    refine wpAny_pyIter_tuple (show s1.heap.IsTuple a its.toArray from p) ?_
    refine ⟨s1.heap.objs.size, [s1.heap.objs.size], _, _, H1, rfl, I1.kept (t' := s1.toks) fun b o e => Heap.get?_push_of_some _ e, turn_tuple a _, ⟨_, Heap.get?_push_size _ rfl, rfl, rfl⟩, fun b hb => ?_, q⟩
    have e : b = s1.heap.objs.size := by simpa using hb
    subst e
    exact I1.fpOk (Nat.le_refl _) (I1.hok.fresh (Nat.le_refl _))
def stayT : Sto → Prop := fun _ => True
def stayL (a : Addr) (ds : List D) : Sto → Prop := fun S => S a = some (.lst ds)
def stay2 (s t : Sto → Prop) : Sto → Prop := fun S => s S ∧ t S
def itQ : D → Sto → (List D → (Sto → Prop) → Sto → Prop) → Prop
  | .ref a, S, R => getO (S a) fun ds => R ds (stayL a ds) S
  | .fl ds, S, R => R ds stayT S
  | .tup ds, S, R => R ds stayT S
  | _, _, _ => False
def uIt (tl : TE2) : TI2 := fun τ S R => tl τ S fun d S1 => itQ d S1 R
def rangeD (lo : Int) (n : Nat) : List D := (List.range n).map fun (i : Nat) => D.int (lo + (i : Int))
theorem rangeD_len (lo : Int) (n : Nat) : (rangeD lo n).length = n := by unfold rangeD; simp
theorem rangeD_get {lo : Int} {n i : Nat} (h : i < n) : (rangeD lo n)[i]? = some (.int (lo + (i : Int))) := by
  unfold rangeD; rw [List.getElem?_map, List.getElem?_range h]; rfl
theorem rangeD_at {lo : Int} {n i : Nat} {x : D} (h : (rangeD lo n)[i]? = some x) : i < n ∧ x = .int (lo + (i : Int)) := by
  have hi : i < n := by
    have := (List.getElem?_eq_some_iff.mp h).1
    rwa [rangeD_len] at this
  rw [rangeD_get hi] at h
  exact ⟨hi, (Option.some.inj h).symm⟩
def rngQ1 : List D → Sto → (List D → (Sto → Prop) → Sto → Prop) → Prop
  | [.int j], S, R => (-(2 ^ 62) ≤ j ∧ j < 2 ^ 62) ∧ R (rangeD 0 j.toNat) stayT S
  | _, _, _ => False
def uRng1 (ta : TA2) : TI2 := fun τ S R => ta τ S fun ds S1 => rngQ1 ds S1 R
def rngQ2 : List D → Sto → (List D → (Sto → Prop) → Sto → Prop) → Prop
  | [.int i, .int j], S, R => (-(2 ^ 62) ≤ i ∧ i < 2 ^ 62 ∧ -(2 ^ 62) ≤ j ∧ j < 2 ^ 62) ∧ R (rangeD i (j - i).toNat) stayT S
  | _, _, _ => False
def uRng2 (ta : TA2) : TI2 := fun τ S R => ta τ S fun ds S1 => rngQ2 ds S1 R
def enumD (n : Nat) : List D → List D
  | [] => []
  | d :: ds => .tup [.int (n : Int), d] :: enumD (n + 1) ds
def enumQ : List D → Sto → (List D → (Sto → Prop) → Sto → Prop) → Prop
  | [.ref a], S, R => getO (S a) fun xs => R (enumD 0 xs) (stayL a xs) S
  | _, _, _ => False
def uEnum (ta : TA2) : TI2 := fun τ S R => ta τ S fun ds S1 => enumQ ds S1 R
def zipD (xs ys : List D) : List D := (xs.zip ys).map fun (p : D × D) => D.tup [p.1, p.2]
def zipQ : List D → Sto → (List D → (Sto → Prop) → Sto → Prop) → Prop
  | [.ref a, .ref b], S, R => getO (S a) fun xs => getO (S b) fun ys => R (zipD xs ys) (stay2 (stayL a xs) (stayL b ys)) S
  | _, _, _ => False
def uZip (ta : TA2) : TI2 := fun τ S R => ta τ S fun ds S1 => zipQ ds S1 R
section
variable {X : Cx} {K : PySem.W.Frag} {tg : Expr} {H0 : Hp}
theorem drv_list {a : Addr} {ds : List D} : Drv K H0 (Itl K a) ds (stayL a ds) where
  step := fun i S H g rs st hi => by
    obtain ⟨vs, e, r⟩ := rs _ _ (show S a = some (.lst ds) from st)
    obtain ⟨v, hv, rv⟩ := r.at (List.getElem?_eq_getElem hi)
    refine ⟨⟨vs, v, SqL.of e, hv⟩, fun x H2 y => ?_⟩
    obtain ⟨e1, y⟩ := y
    subst e1
    have := y vs (SqL.of e)
    rw [hv] at this
    obtain rfl := Option.some.inj this
    exact ⟨.refl _, rs, _, List.getElem?_eq_getElem hi, rv⟩
  stop := fun i S H g rs st hi0 => have hi := Nat.le_of_eq hi0; by
    obtain ⟨vs, e, r⟩ := rs _ _ (show S a = some (.lst ds) from st)
    exact ⟨vs, SqL.of e, by rw [← r.length]; exact hi⟩
  mono := fun S S' s st => s _ _ st
theorem drv_fl {a : Addr} {ds : List D} {vs : List V} (h : FrzL K H0 a vs) (r0 : Dvs K H0 ds vs) : Drv K H0 (Itl K a) ds stayT where
  step := fun i S H g rs st hi => by
    have r := Dvs.keep g _ _ r0
    have hq := (g.fz _ _ h).sq
    obtain ⟨v, hv, rv⟩ := r.at (List.getElem?_eq_getElem hi)
    refine ⟨⟨vs, v, hq, hv⟩, fun x H2 y => ?_⟩
    obtain ⟨e1, y⟩ := y
    subst e1
    have := y vs hq
    rw [hv] at this
    obtain rfl := Option.some.inj this
    exact ⟨.refl _, rs, _, List.getElem?_eq_getElem hi, rv⟩
  stop := fun i S H g rs st hi0 => have hi := Nat.le_of_eq hi0; ⟨vs, (g.fz _ _ h).sq, by rw [← r0.length]; exact hi⟩
  mono := fun _ _ _ st => st
theorem drv_tup {a : Addr} {ds : List D} {vs : List V} (h : SqT K H0 a vs) (r0 : Dvs K H0 ds vs) : Drv K H0 (Itt K a) ds stayT where
  step := fun i S H g rs st hi => by
    have r := Dvs.keep g _ _ r0
    have hq := g.tp _ _ h
    obtain ⟨v, hv, rv⟩ := r.at (List.getElem?_eq_getElem hi)
    refine ⟨⟨vs, v, hq, hv⟩, fun x H2 y => ?_⟩
    obtain ⟨e1, y⟩ := y
    subst e1
    have := y vs hq
    rw [hv] at this
    obtain rfl := Option.some.inj this
    exact ⟨.refl _, rs, _, List.getElem?_eq_getElem hi, rv⟩
  stop := fun i S H g rs st hi0 => have hi := Nat.le_of_eq hi0; ⟨vs, g.tp _ _ h, by rw [← r0.length]; exact hi⟩
  mono := fun _ _ _ st => st
theorem drv_range {lo : Int} {n : Nat} : Drv K H0 (Itr lo n) (rangeD lo n) stayT where
  step := fun i S H g rs st hi => by
    rw [rangeD_len] at hi
    refine ⟨hi, fun x H2 y => ?_⟩
    obtain ⟨e1, y⟩ := y
    subst e1 y
    exact ⟨.refl _, rs, _, rangeD_get hi, .int _⟩
  stop := fun i S H g rs st hi0 => have hi := Nat.le_of_eq hi0; by rw [rangeD_len] at hi; exact hi
  mono := fun _ _ _ st => st
variable {l a b : Expr} {tl : TE2} {ta : TA2} {p pos tpos : Pos} {elts : List Expr} {kk : Nat}
theorem i_val (hl : QE X l tl) : QI X tg l (uIt tl) := PI.wk (pi_val hl) fun σ H R ⟨τ, S, R2, rl, rs, t, k⟩ =>
  ⟨τ, S, _, rl, rs, t, fun d v S1 H1 g1 rs1 dv1 t1 => by
    cases d with
    | ref a =>
      obtain ⟨ds, h, q⟩ := getO_get t1
      cases dv1
      obtain ⟨vs, e, r⟩ := rs1 _ _ h
      exact ⟨a, rfl, .inl ⟨⟨vs, SqL.of e⟩, k _ _ _ _ _ g1 rs1 drv_list q⟩⟩
    | fl ds =>
      cases dv1 with
      | fl h1 h2 => exact ⟨_, rfl, .inl ⟨⟨_, h1.sq⟩, k _ _ _ _ _ g1 rs1 (drv_fl h1 h2) t1⟩⟩
    | tup ds =>
      cases dv1 with
      | tup h1 h2 => exact ⟨_, rfl, .inr ⟨⟨_, h1⟩, k _ _ _ _ _ g1 rs1 (drv_tup h1 h2) t1⟩⟩
    | _ => exact t1.elim⟩
theorem i_rng1 (hm : X.mg "range" = none) (hg : Gl X "range") (ha : QA X [a] ta) (hs : starEach [a] X.env = [(false, eval a X.env)] := by rfl) : QI X tg (.Call (.Name "range" p) [a] [] pos) (uRng1 ta) := PI.wk (pi_range1 hg hm ha hs) fun σ H R ⟨τ, S, R2, rl, rs, t, k⟩ =>
  ⟨τ, S, _, rl, rs, t, fun ds vs S1 H1 g1 rs1 dvs t1 => by
    unfold rngQ1 at t1
    split at t1
    · cases dvs with
      | cons h1 h2 =>
        cases h1; cases h2
        exact ⟨_, rfl, t1.1.1, t1.1.2, k _ _ _ _ _ g1 rs1 drv_range t1.2⟩
    · exact t1.elim⟩
end
/-! ### for -/
/-- a walk over so many things, by what stands ahead of each turn -/
def LoopP (stay : Sto → Prop) (g : TG2) (tb : TS2) (ds : List D) (D : Ends2) (τ : St2) (S : Sto) : Prop := ∃ W : Nat → St2 → Sto → Prop, W 0 τ S ∧ (∀ i τ S, i ≤ ds.length → W i τ S → stay S) ∧
  (∀ (i : Nat) (x : DL.D) (τ : St2) (S : Sto), ds[i]? = some x → W i τ S → g x τ S fun τ' S' => tb { D with nx := W (i + 1), ct := W (i + 1), bk := D.nx } τ' S') ∧ ∀ τ S, W ds.length τ S → D.nx τ S
def uFor (ti : TI2) (g : TG2) (tb : TS2) : TS2 := fun D τ S => ti τ S fun ds stay S1 => LoopP stay g tb ds D τ S1
section
variable {X : Cx} {pos : Pos} {tch : List Nat}
theorem s_for {tg iter : Expr} {body : List Stmt} {ti : TI2} {g : TG2} {tb : TS2} (hp : PassesOwn (model X.prog X.w) X.A X.env X.xe) (hc : X.calm = true) (hi : QI X tg iter ti) (hg : QG X tch tg g) (hb : QSs X body tb)
    (hs : ∀ x, foldedSetIterable iter X.env x = pure x := by intro _; rfl) : QS X (.For tg iter body [] pos) (uFor ti g tb) := PS.wk (ps_for hp hc hi hg hb hs) fun D σ H ⟨τ, S, D2, rl, rs, t, k⟩ => by
  refine ⟨τ, S, _, rl, rs, t, fun ds stay S1 H1 J g1 rs1 drv ⟨W, w0, hst, hstep, hend⟩ => ?_⟩
  refine ⟨fun i m σ' H' => m = ds.length - i ∧ i ≤ ds.length ∧ ∃ τ' S', Good X.K H1 H' ∧ Rl X.K H' τ' σ' ∧ RelS X.K S' H' ∧ W i τ' S', ⟨ds.length, by simp, Nat.zero_le _, τ, S1, .refl _, rl.keep g1, rs1, w0⟩, ?_⟩
  rintro i m σ2 H2 ⟨rfl, hi, τ2, S2, g2, rl2, rs2, w2⟩
  by_cases hlt : i < ds.length
  · obtain ⟨go, yl⟩ := drv.step i S2 H2 g2 rs2 (hst i τ2 S2 hi w2) hlt
    refine .inr ⟨go, fun σ' H' => ∃ τ' S', Good X.K H1 H' ∧ Rl X.K H' τ' σ' ∧ RelS X.K S' H' ∧ W (i + 1) τ' S', fun σ' H' h => ⟨ds.length - (i + 1), by omega, rfl, hlt, h⟩, fun x H3 y => ?_⟩
    obtain ⟨g3, rs3, d, hd, dv⟩ := yl x H3 y
    refine ⟨d, τ2, S2, _, dv, rl2.keep g3, rs3, hstep i d τ2 S2 hd w2, fun τ4 S4 σ4 H4 g4 rl4 rs4 _ t4 => ?_⟩
    refine ⟨τ4, S4, _, rl4, rs4, t4, ?_⟩
    have gg := (g2.trans g3).trans g4
    have kk := k.keep (g1.trans gg)
    exact ⟨fun τ' S' σ' H' g' rl' rs' n' => ⟨τ', S', gg.trans g', rl', rs', n'⟩, kk.rt, kk.nx, fun τ' S' σ' H' g' rl' rs' n' => ⟨τ', S', gg.trans g', rl', rs', n'⟩⟩
  · have e : i = ds.length := by omega
    subst e
    exact .inl ⟨drv.stop _ S2 H2 g2 rs2 (hst _ τ2 S2 hi w2) rfl, k.nx _ _ _ _ (g1.trans g2) rl2 rs2 (hend τ2 S2 w2)⟩
end
/-! ### list comprehensions -/
def wipe2 (τ : St2) : List Nat → St2
  | [] => τ
  | v :: vs => (wipe2 τ vs).set v none
def uYes : TT2 := fun _ S Q => Q true S
/-- what a list made item by item asks -/
def LcP (stay : Sto → Prop) (g : TG2) (tt : TT2) (te : TE2) (vs : List Nat) (ds : List D) (τ : St2) (S1 : Sto) (Q : VK2) : Prop := ∀ A, S1 A = none → ∃ W : Nat → List D → Sto → Prop, W 0 [] (ups S1 A (.lst [])) ∧
  (∀ i acc S, i ≤ ds.length → W i acc S → stay S ∧ S A = some (.lst acc)) ∧
  (∀ (i : Nat) (x : D) (acc : List D) (S : Sto), ds[i]? = some x → W i acc S → g x (wipe2 τ vs) S fun τ2 S2 => tt τ2 S2 fun b S3 => Cnd b (te τ2 S3 fun y S4 => S4 A = some (.lst acc) ∧ acc.length < sizeLine ∧ W (i + 1) (acc ++ [y]) (ups S4 A (.lst (acc ++ [y])))) (W (i + 1) acc S3)) ∧
  ∀ acc S, W ds.length acc S → ∃ S0, Sub S0 S ∧ Q (.ref A) S0
def uLc (ti : TI2) (g : TG2) (tt : TT2) (te : TE2) (vs : List Nat) : TE2 := fun τ S Q => ti τ S fun ds stay S1 => LcP stay g tt te vs ds τ S1 Q
/-! ### functions -/
abbrev Sp2 := List D → Sto → VK2 → XK2 → Prop
/-- the field of an exception -/
def XFs (H : Hp) : Option Addr → Option (Str × Int) → Prop
  | none, none => True
  | some d, some (n, i) => H d = some (.xd [(n, .int i)])
  | _, _ => False
def dnSp (K : PySem.W.Frag) (sp : Sp2) : Sp := fun vs H Q E => ∃ ds S Q2 E2, Dvs K H ds vs ∧ RelS K S H ∧ sp ds S Q2 E2 ∧ (∀ d v S' H', Good K H H' → RelS K S' H' → Dv K H' d v → Q2 d S' → Q v H') ∧
  ∀ x dd f S' H', Good K H H' → RelS K S' H' → XFs H' dd f → E2 x f S' → E (.ref (cA K x)) dd H'
def uCall (sp : Sp2) (t : TA2) : TE2 := fun τ S Q => t τ S fun ds S1 => sp ds S1 Q fun _ _ _ => False
/-- a def of the module that raises nothing -/
structure Fn (P : Program) (w : World) (K : PySem.W.Frag) (mg : Str → Option Value) (base : Heap) (k : Nat) (x : Str) (sp : Sp2) : Prop where
  ex : ∃ f fd ps, FnOk P w K mg base CX0 k f fd ps (dnSp K sp) ∧ mg x = some (.ref f) ∧ PySem.W.keepIn K (.ref f) = true ∧ Binds K fd ps []
theorem Fn.mono {P : Program} {w : World} {K : PySem.W.Frag} {mg : Str → Option Value} {base : Heap} {j k : Nat} {x : Str} {sp : Sp2} (F : Fn P w K mg base j x sp) (h : j ≤ k) : Fn P w K mg base k x sp := by
  obtain ⟨f, fd, ps, h1, h2⟩ := F.ex
  exact ⟨f, fd, ps, h1.mono h, h2⟩
section
variable {X : Cx} {k : Nat} {x : Str} {sp : Sp2} {p pos : Pos} {e : Expr} {es : List Expr} {t : TA2}
theorem call_dn {K : PySem.W.Frag} {σ : L2.St} {H : Hp} {Q : VK} {E : XK} : dn K (uCall sp t) σ H Q → tCall (dnSp K sp) [] E (dnA K t) σ H Q := fun ⟨τ, S, Q2, rl, rs, t, k⟩ =>
  ⟨τ, S, _, rl, rs, t, fun ds vs S1 H1 g1 rs1 dvs t1 => by
    show dnSp K sp (vs ++ []) H1 Q E
    rw [List.append_nil]
    exact ⟨ds, S1, Q2, _, dvs, rs1, t1, fun d v S' H' g => k d v S' H' (g1.trans g), fun _ _ _ _ _ _ _ _ z => z.elim⟩⟩
theorem q_call (F : Fn X.prog X.w X.K X.mg X.base k x sp) (hr : Room k X.A) (hg : Gl X x) (ha : QA X (e :: es) t) (hdb : (x == ("__debug__" : Str)) = false := by decide) (he : starEach (e :: es) X.env = (false, eval e X.env) :: starEach es X.env := by rfl) (hpl : (backTo pos (starEach es X.env)).any (·.1) = false := by rfl) :
    QE X (.Call (.Name x p) (e :: es) [] pos) (uCall sp t) := by
  obtain ⟨f, fd, ps, F, hm, hk, hb⟩ := F.ex
  exact PE.wk (pe_call F hr hg hm hk hb .nil (pass0 (X := X)) ha hdb he hpl) fun σ H Q => call_dn
end
section
variable {P : Program} {w : World} {K : PySem.W.Frag} {mg : Str → Option Value} {base : Heap}
/-- THE RULE for a def -/
theorem fn_core {x : Str} {st : Stmt} {f : Addr} {fd : FuncData} {N ps : List Str} {k : Nat} {sp : Sp2} (F : Fun K x x st f fd) (S : FnScope N ps (defScope st)) (len : ∀ ds S Q E, sp ds S Q E → ds.length = ps.length)
    (hbody : ∀ (cdv : Value) (A : Around) (outer : List Env) (s : Shared) (H : Hp) (E : XK), Room k (A.deeper (envOfC x (defScope st) s.heap.objs.size f cdv)) →
      ∃ t, QSs (cxOf CX0 P w K mg base N x (defScope st) f cdv A outer s H E).nox (defBody st) t ∧ ∀ ds S Q E, sp ds S Q E → t { nx := fun _ S' => ∃ S0, Sub S0 S' ∧ Q .non S0, rt := fun d S' => ∃ S0, Sub S0 S' ∧ Q d S0 } (start2 N ds) S) : FnOk P w K mg base CX0 (k + 1) f fd ps (dnSp K sp) := by
  refine F.ok S (fun vs H Q E h => ?_) (fun cdv A outer s H vs Q E hr h => ?_)
  · obtain ⟨ds, S, Q2, E2, dvs, _, h, _⟩ := h
    rw [← dvs.length]
    exact len ds S Q2 E2 h
  · obtain ⟨t, ht, rd⟩ := hbody cdv A outer s H E hr
    obtain ⟨ds, S, Q2, E2, dvs, rs, h, k, _⟩ := h
    refine ⟨_, ht, start2 N ds, S, _, Rl.start dvs, rs, rd ds S Q2 E2 h, ?_⟩
    exact ⟨fun τ S' σ' H' g _ rs' ⟨S0, sub, q⟩ => k _ _ _ _ g (rs'.sub sub) .non q, fun d v S' H' g rs' dv ⟨S0, sub, q⟩ => k _ _ _ _ g (rs'.sub sub) dv q, fun _ _ _ _ _ _ _ z => z.elim, fun _ _ _ _ _ _ _ z => z.elim⟩
theorem fn_intro {x : Str} {st : Stmt} {f : Addr} {fd : FuncData} {N ps : List Str} {k : Nat} {sp : Sp2} (F : Fun K x x st f fd) (gm : mg x = some (.ref f)) (bd : Binds K fd ps []) (S : FnScope N ps (defScope st)) (len : ∀ ds S Q E, sp ds S Q E → ds.length = ps.length)
    (hbody : ∀ (cdv : Value) (A : Around) (outer : List Env) (s : Shared) (H : Hp) (E : XK), Room k (A.deeper (envOfC x (defScope st) s.heap.objs.size f cdv)) →
      ∃ t, QSs (cxOf CX0 P w K mg base N x (defScope st) f cdv A outer s H E).nox (defBody st) t ∧ ∀ ds S Q E, sp ds S Q E → t { nx := fun _ S' => ∃ S0, Sub S0 S' ∧ Q .non S0, rt := fun d S' => ∃ S0, Sub S0 S' ∧ Q d S0 } (start2 N ds) S) : Fn P w K mg base (k + 1) x sp :=
  ⟨f, fd, ps, fn_core F S len hbody, gm, F.kp, bd⟩
end
end DL
namespace DL
open PySem PySem.Spec PyProof.Rows L2
/-- code that the proof never comes to -/
def uNever : TS2 := fun _ _ _ => False
section
variable {X : Cx} {st : Stmt} {pos : Pos} {a b c : Expr} {ta tb tc : TE2} {tt : TT2}
theorem s_never : QS X st uNever := PS.wk ps_never fun D σ H ⟨τ, S, D2, rl, rs, t, k⟩ => t.elim
theorem q_powk {i j : Int} (v : Int) (h : 0 ≤ j ∧ j ≤ 1000000 ∧ i.natAbs < 2 ^ 64) (e : i ^ j.toNat = v) {n1 n2 : Nat} {p1 p2 : Pos} : QE X (.BinOp (.Constant (.int i) n1 p1) .Pow (.Constant (.int j) n2 p2) pos) (uC (.int v)) :=
  PE.wk (q_pow (pos := pos) q_int q_int) fun σ H Q ⟨τ, S, Q2, rl, rs, t, k⟩ => ⟨τ, S, Q2, rl, rs, ⟨h, by rw [e]; exact t⟩, k⟩
end
/-- a def of the module as it stands -/
structure FunAt (K : PySem.W.Frag) (mg : Str → Option Value) (x : Str) (st : Stmt) (ps : List Str) : Prop where
  ex : ∃ f fd, Fun K x x st f fd ∧ mg x = some (.ref f) ∧ Binds K fd ps []
section
variable {P : Program} {w : World} {K : PySem.W.Frag} {mg : Str → Option Value} {base : Heap}
theorem fn_intro2 {x : Str} {st : Stmt} {N ps : List Str} {k : Nat} {sp : Sp2} (FA : FunAt K mg x st ps) (S : FnScope N ps (defScope st)) (len : ∀ ds S Q E, sp ds S Q E → ds.length = ps.length)
    (hbody : ∀ (cdv : Value) (A : Around) (outer : List Env) (s : Shared) (H : Hp) (E : XK) (f : Addr), Room k (A.deeper (envOfC x (defScope st) s.heap.objs.size f cdv)) →
      ∃ t, QSs (cxOf CX0 P w K mg base N x (defScope st) f cdv A outer s H E).nox (defBody st) t ∧ ∀ ds S Q E, sp ds S Q E → t { nx := fun _ S' => ∃ S0, Sub S0 S' ∧ Q .non S0, rt := fun d S' => ∃ S0, Sub S0 S' ∧ Q d S0 } (start2 N ds) S) : Fn P w K mg base (k + 1) x sp := by
  obtain ⟨f, fd, F, gm, bd⟩ := FA.ex
  exact fn_intro F gm bd S len fun cdv A outer s H E hr => hbody cdv A outer s H E f hr
/-! ### the end: what the top has written, and the law's own def -/
theorem fun_at {h : Heap} {x : Str} {st : Stmt} {ps : List Str} {f : Addr} {oc : Value} {od an : Option Addr} {osl : Array (Option Value)} {kV doc pm cdv ct : Value} (X : K.In h) (G : h.Ns mainGlobals mg)
    (a : PySem.W.nsIn K mainGlobals x = some (some (.ref f))) (l : K.lookup f = some ⟨oc, od, .func (PySem.W.fnOf x x (defArgs st) (defBody st) (defScope st) .none kV doc pm an cdv ct), osl⟩) (c : PySem.W.codeIn K cdv x = true) (k : PySem.W.keepIn K (.ref f) = true)
    (hb : ∀ (kV doc pm : Value) (an : Option Addr) (cdv ct : Value) (us : List Value), us.length = ps.length → bindArgs (PySem.W.fnOf x x (defArgs st) (defBody st) (defScope st) .none kV doc pm an cdv ct) ⟨us, []⟩ = pure (ps.zip us)) : FunAt K mg x st ps :=
  ⟨f, _, fun_mk l c k, PySem.W.mg_of X G a, (fun_mk l c k).binds hb⟩
/-- the law's own def -/
theorem law_at {fa : Addr} {k : Nat} {x y : Str} {st : Stmt} {sp : Sp2} (FA : FunAt K mg x st [y]) (hfa : mg x = some (.ref fa)) (hx : ∀ (kV doc pm : Value) (an : Option Addr) (cdv ct : Value) (s : Shared) (v : Value), BindsTo s (PySem.W.fnOf x x (defArgs st) (defBody st) (defScope st) .none kV doc pm an cdv ct) ⟨[v], []⟩ [(y, v)])
    (F : ∀ (base : Heap) (f : Addr) (fd : FuncData), Fun K x x st f fd → FnOk P w K mg base CX0 k f fd [y] (dnSp K sp)) :
    ∃ fd : FuncData, (∀ (s : Shared) (v : Value), BindsTo s fd ⟨[v], []⟩ [(y, v)]) ∧ ∀ base : Heap, K.In base → base.Ns mainGlobals mg → FnOk P w K mg base CX0 k fa fd [y] (dnSp K sp) := by
  obtain ⟨f, fd, F1, gm, _⟩ := FA.ex
  have e := hfa.symm.trans gm
  cases e
  refine ⟨fd, fun s v => ?_, fun base _ _ => F base _ fd F1⟩
  obtain ⟨oc, od, kV, doc, pm, an, cdv, ct, osl, rfl, lk, hcd⟩ := F1.ex
  exact hx kV doc pm an cdv ct s v
/-- a script is a list that nobody writes -/
theorem script_at {H : Hp} {a : Addr} {ns : List Int} {sp : Sp2} (hO : Only H) (hS : SqL K H a (ns.map V.int)) (h : ∀ S, sp [.fl (ns.map D.int)] S (fun d _ => d = .bl true) (fun _ _ _ => False)) : dnSp K sp [.ref a] H (fun v _ => v = .bl true) (fun _ _ _ => False) := by
  have fz : FrzL K H a (ns.map V.int) := by
    rcases hS with (hS | hS) | hS
    · rcases hO a with h0 | ⟨o, xs, h0⟩
      · rw [h0] at hS; cases hS
      · rw [h0] at hS; cases hS
    · exact .inl hS
    · exact .inr hS
  refine ⟨[.fl (ns.map D.int)], fun _ => none, fun d _ => d = .bl true, fun _ _ _ => False, .cons (.fl fz (Dvs.ints ns)) .nil, (by intro _ _ e; cases e), h _, fun d v S' H' g rs dv e => ?_, fun _ _ _ _ _ _ _ _ z => z⟩
  subst e
  cases dv
  rfl
end
/-! ### constants of the module -/
end DL
namespace DL
open PySem PySem.Spec PyProof.Rows L2
/-! ### what the readings are worth, case by case -/
section
variable {S : Sto} {Q : VK2} {i j : Int} {x y : Str} {a b : Addr} {d e : DL.D} {xs ys : List DL.D} {k n : Nat} {p q : Bool} {z : Str}
theorem z_getO {f : List DL.D → Prop} : getO (some (.lst xs)) f = f xs := rfl
theorem z_onS {α : Type} {v : α} {f : α → Prop} : onS (some v) f = f v := rfl
theorem z_addI : rAdd (.int i) (.int j) S Q = Q (.int (i + j)) S := rfl
theorem z_addS : rAdd (.str x) (.str y) S Q = (x.length + y.length ≤ sizeLine ∧ Q (.str (x ++ y)) S) := rfl
theorem z_addL : rAdd (.ref a) (.ref b) S Q = getO (S a) fun xs => getO (S b) fun ys => xs.length + ys.length ≤ sizeLine ∧ ∀ p, S p = none → Q (.ref p) (ups S p (.lst (xs ++ ys))) := rfl
theorem z_addT : rAdd (.tup xs) (.tup ys) S Q = (xs.length + ys.length ≤ sizeLine ∧ Q (.tup (xs ++ ys)) S) := rfl
theorem z_slT {lo hi : Option Int} : slQ (.tup xs) lo hi S Q = Q (.tup (cutD xs lo hi)) S := rfl
theorem z_slS {lo hi : Option Int} : slQ (.str z) lo hi S Q = (z.length ≤ sizeLine ∧ Q (.str (cutS z lo hi)) S) := rfl
theorem z_slR {lo hi : Option Int} : slQ (.ref a) lo hi S Q = onS (listOf S (.ref a)) fun xs => ∀ p, S p = none → Q (.ref p) (ups S p (.lst (cutD xs lo hi))) := rfl
theorem z_slF {lo hi : Option Int} : slQ (.fl xs) lo hi S Q = onS (listOf S (.fl xs)) fun xs => ∀ p, S p = none → Q (.ref p) (ups S p (.lst (cutD xs lo hi))) := rfl
theorem z_sub : rSub (.int i) (.int j) S Q = Q (.int (i - j)) S := rfl
theorem z_mul : rMul (.int i) (.int j) S Q = (MulOk i j ∧ Q (.int (i * j)) S) := rfl
theorem z_mulL : rMul (.ref a) (.int i) S Q = getO (S a) fun xs => (0 ≤ i ∧ i ≤ 1000 ∧ xs.length ≤ 1000) ∧ ∀ p, S p = none → Q (.ref p) (ups S p (.lst (List.replicate i.toNat xs).flatten)) := rfl
theorem z_mod : rMod (.int i) (.int j) S Q = (j ≠ 0 ∧ Q (.int (i.fmod j)) S) := rfl
theorem z_fdiv : rFdiv (.int i) (.int j) S Q = (DivOk j ∧ Q (.int (i.fdiv j)) S) := rfl
theorem z_pow : rPow (.int i) (.int j) S Q = ((0 ≤ j ∧ j ≤ 1000000 ∧ i.natAbs < 2 ^ 64) ∧ Q (.int (i ^ j.toNat)) S) := rfl
theorem z_lt : rLt (.int i) (.int j) S Q = Q (.bl (decide (i < j))) S := rfl
theorem z_le : rLe (.int i) (.int j) S Q = Q (.bl (decide (i ≤ j))) S := rfl
theorem z_gt : rGt (.int i) (.int j) S Q = Q (.bl (decide (j < i))) S := rfl
theorem z_ge : rGe (.int i) (.int j) S Q = Q (.bl (decide (j ≤ i))) S := rfl
theorem z_isN : rIs d .non S Q = Q (.bl (isNon d)) S := by cases d <;> rfl
theorem z_isB : rIs (.bl p) (.bl q) S Q = Q (.bl (decide (p = q))) S := rfl
theorem z_isnN : rIsNot d .non S Q = Q (.bl (!isNon d)) S := by cases d <;> rfl
theorem z_isnB : rIsNot (.bl p) (.bl q) S Q = Q (.bl (!decide (p = q))) S := rfl
theorem z_nonN : isNon .non = true := rfl
theorem z_nonI : isNon (.int i) = false := rfl
theorem z_nonB : isNon (.bl p) = false := rfl
theorem z_nonS : isNon (.str x) = false := rfl
theorem z_nonT : isNon (.tup xs) = false := rfl
theorem z_nonR : isNon (.ref a) = false := rfl
theorem z_nonF : isNon (.fl xs) = false := rfl
theorem z_eqI : rEq (.int i) (.int j) S Q = Q (.bl (decide (i = j))) S := rfl
theorem z_eqB : rEq (.bl p) (.bl q) S Q = Q (.bl (decide (p = q))) S := rfl
theorem z_eqS : rEq (.str x) (.str y) S Q = Q (.bl (decide (x = y))) S := rfl
theorem z_neI : rNe (.int i) (.int j) S Q = Q (.bl (!decide (i = j))) S := rfl
theorem z_neB : rNe (.bl p) (.bl q) S Q = Q (.bl (!decide (p = q))) S := rfl
theorem z_neS : rNe (.str x) (.str y) S Q = Q (.bl (!decide (x = y))) S := rfl
/-- the answer of ==, where it is known -/
theorem rEq_of {c : Bool} (h : EqD S d e c) (q : Q (.bl c) S) : rEq d e S Q := by
  obtain ⟨p, r, h1, h2, s1, s2, rfl⟩ := h
  unfold rEq
  split
  · cases h1; cases h2; simp only [PyData.eqv, Bool.beq_eq_decide_eq] at q; rwa [show decide (_ = _) = (_ == _) from (Bool.beq_eq_decide_eq _ _).symm]
  · cases h1; cases h2; simp only [PyData.eqv, Bool.beq_eq_decide_eq] at q; exact q
  · cases h1; cases h2; simp only [PyData.eqv] at q; rwa [show decide (_ = _) = (_ == _) from (Bool.beq_eq_decide_eq _ _).symm]
  · exact ⟨_, ⟨p, r, h1, h2, s1, s2, rfl⟩, q⟩
theorem z_ixT : ixkQ k (.tup xs) S Q = nthQ xs k fun x => Q x S := rfl
theorem z_ixF : ixkQ k (.fl xs) S Q = nthQ xs k fun x => Q x S := rfl
theorem z_ixR : ixkQ k (.ref a) S Q = getO (S a) fun xs => nthQ xs k fun x => Q x S := rfl
theorem z_ixS : ixkQ k (.str z) S Q = (z.length ≤ sizeLine ∧ onS z.cps.toList[k]? fun c => Q (.str ⟨#[c]⟩) S) := rfl
theorem z_ixg : rIxg d (.int i) S Q = ixgQ i d S Q := by cases d <;> rfl
theorem z_igT : ixgQ i (.tup xs) S Q = onS (atI xs i) fun x => Q x S := rfl
theorem z_igF : ixgQ i (.fl xs) S Q = onS (atI xs i) fun x => Q x S := rfl
theorem z_igR : ixgQ i (.ref a) S Q = getO (S a) fun xs => onS (atI xs i) fun x => Q x S := rfl
theorem z_igS : ixgQ i (.str z) S Q = (z.length ≤ sizeLine ∧ onS (atI z.cps.toList i) fun c => Q (.str ⟨#[c]⟩) S) := rfl
theorem z_lenS : rLen [.str z] S Q = (z.length ≤ sizeLine ∧ Q (.int z.length) S) := rfl
theorem z_lenT : rLen [.tup xs] S Q = Q (.int xs.length) S := rfl
theorem z_lenF : rLen [.fl xs] S Q = Q (.int xs.length) S := rfl
theorem z_lenR : rLen [.ref a] S Q = getO (S a) fun xs => Q (.int xs.length) S := rfl
theorem z_abs : rAbs [.int i] S Q = Q (.int (if i < 0 then -i else i)) S := rfl
theorem z_max : rMax2 [.int i, .int j] S Q = Q (.int (if j > i then j else i)) S := rfl
theorem z_min : rMin2 [.int i, .int j] S Q = Q (.int (if j < i then j else i)) S := rfl
theorem z_intI : rInt1 [.int i] S Q = Q (.int i) S := rfl
theorem z_intB : rInt1 [.bl p] S Q = Q (.int (if p then 1 else 0)) S := rfl
theorem z_listT : rListOf [.tup xs] S Q = ∀ p, S p = none → Q (.ref p) (ups S p (.lst xs)) := rfl
theorem z_listF : rListOf [.fl xs] S Q = ∀ p, S p = none → Q (.ref p) (ups S p (.lst xs)) := rfl
theorem z_listR : rListOf [.ref a] S Q = getO (S a) fun xs => ∀ p, S p = none → Q (.ref p) (ups S p (.lst xs)) := rfl
theorem z_tupT : rTupleOf [.tup xs] S Q = Q (.tup xs) S := rfl
theorem z_tupF : rTupleOf [.fl xs] S Q = Q (.tup xs) S := rfl
theorem z_tupR : rTupleOf [.ref a] S Q = getO (S a) fun xs => Q (.tup xs) S := rfl
theorem z_any : rAny2 [d] S Q = ∃ bs : List Bool, listOf S d = some (bs.map DL.D.bl) ∧ Q (.bl (bs.any fun b => b)) S := rfl
theorem z_all : rAll2 [d] S Q = ∃ bs : List Bool, listOf S d = some (bs.map DL.D.bl) ∧ Q (.bl (bs.all fun b => b)) S := rfl
theorem z_sorted : rSorted2 [d] S Q = ∃ ns : List Int, listOf S d = some (ns.map DL.D.int) ∧ ns.length < 64 ∧ ∀ ms : List Int, ms.Perm ns → ms.Pairwise (· ≤ ·) → ∀ p, S p = none → Q (.ref p) (ups S p (.lst (ms.map DL.D.int))) := rfl
theorem z_tyN : tyOf S .non = some .non := rfl
theorem z_tyB : tyOf S (.bl p) = some .bool := rfl
theorem z_tyI : tyOf S (.int i) = some .int := rfl
theorem z_tyS : tyOf S (.str x) = some .str := rfl
theorem z_tyT : tyOf S (.tup xs) = some .tup := rfl
theorem z_tyF : tyOf S (.fl xs) = some .lst := rfl
theorem z_tyR : tyOf S (.ref a) = tyO (S a) := rfl
theorem z_tyL : tyO (some (.lst xs)) = some .lst := rfl
theorem z_tyD {kvs : List (Key × DL.D)} : tyO (some (.dic kvs)) = some .dic := rfl
theorem z_isiII : isiT .int .int = true := rfl
theorem z_isiBI : isiT .bool .int = true := rfl
theorem z_isiBB : isiT .bool .bool = true := rfl
theorem z_isiIB : isiT .int .bool = false := rfl
theorem z_isiTT : isiT .tup .tup = true := rfl
theorem z_isiLL : isiT .lst .lst = true := rfl
theorem z_isiSS : isiT .str .str = true := rfl
theorem z_isiNI : isiT .non .int = false := rfl
theorem z_isiNB : isiT .non .bool = false := rfl
theorem z_isiNT : isiT .non .tup = false := rfl
theorem z_isiNL : isiT .non .lst = false := rfl
theorem z_cndT {A B : Prop} : Cnd true A B = A := rfl
theorem z_cndF {A B : Prop} : Cnd false A B = B := rfl
theorem z_app : rAppend2 (.ref a) [d] S Q = getO (S a) fun xs => xs.length < sizeLine ∧ Q .non (ups S a (.lst (xs ++ [d]))) := rfl
theorem z_ins : rInsert2 (.ref a) [.int i, d] S Q = getO (S a) fun xs => xs.length < sizeLine ∧ (0 ≤ i ∧ i < 2 ^ 63) ∧ Q .non (ups S a (.lst (xs.take i.toNat ++ [d] ++ xs.drop i.toNat))) := rfl
theorem z_pop0 : rPop0 (.ref a) [] S Q = getO (S a) fun xs => onS xs[xs.length - 1]? fun y => Q y (ups S a (.lst xs.dropLast)) := rfl
theorem z_popAt : rPopAt2 (.ref a) [.int i] S Q = getO (S a) fun xs => (-(2 ^ 63) ≤ i ∧ i < 2 ^ 63) ∧ onS (seqIndex? i xs.length) fun k => onS xs[k]? fun y => Q y (ups S a (.lst (xs.eraseIdx k))) := rfl
theorem z_rev : rReverse2 (.ref a) [] S Q = getO (S a) fun xs => Q .non (ups S a (.lst xs.reverse)) := rfl
theorem z_clear : rClear2 (.ref a) [] S Q = getO (S a) fun xs => Q .non (ups S a (.lst [])) := rfl
theorem z_setQ {R : Sto → Prop} : setQ d (.ref a) (.int i) S R = getO (S a) fun xs => onS (ixN xs.length i) fun j => R (ups S a (.lst (xs.set j d))) := rfl
theorem z_setkQ {R : Sto → Prop} : setkQ k d (.ref a) S R = getO (S a) fun xs => k < xs.length ∧ R (ups S a (.lst (xs.set k d))) := rfl
theorem z_isLR : isL S (.ref a) = ∃ xs, S a = some (.lst xs) := rfl
theorem z_isLF : isL S (.fl xs) = True := rfl
theorem z_listOfF : listOf S (.fl xs) = some xs := rfl
theorem z_itR {R : List DL.D → (Sto → Prop) → Sto → Prop} : itQ (.ref a) S R = getO (S a) fun ds => R ds (stayL a ds) S := rfl
theorem z_itF {R : List DL.D → (Sto → Prop) → Sto → Prop} : itQ (.fl xs) S R = R xs stayT S := rfl
theorem z_itT {R : List DL.D → (Sto → Prop) → Sto → Prop} : itQ (.tup xs) S R = R xs stayT S := rfl
theorem z_rng1 {R : List DL.D → (Sto → Prop) → Sto → Prop} : rngQ1 [.int j] S R = ((-(2 ^ 62) ≤ j ∧ j < 2 ^ 62) ∧ R (rangeD 0 j.toNat) stayT S) := rfl
theorem z_rng2 {R : List DL.D → (Sto → Prop) → Sto → Prop} : rngQ2 [.int i, .int j] S R = ((-(2 ^ 62) ≤ i ∧ i < 2 ^ 62 ∧ -(2 ^ 62) ≤ j ∧ j < 2 ^ 62) ∧ R (rangeD i (j - i).toNat) stayT S) := rfl
theorem z_enum {R : List DL.D → (Sto → Prop) → Sto → Prop} : enumQ [.ref a] S R = getO (S a) fun xs => R (enumD 0 xs) (stayL a xs) S := rfl
theorem z_zip {R : List DL.D → (Sto → Prop) → Sto → Prop} : zipQ [.ref a, .ref b] S R = getO (S a) fun xs => getO (S b) fun ys => R (zipD xs ys) (stay2 (stayL a xs) (stayL b ys)) S := rfl
end
/-! ### walks -/
/-- turn by turn, written out -/
def uLoop (stay : Sto → Prop) (g : TG2) (tb : TS2) : List DL.D → Ends2 → St2 → Sto → Prop
  | [], E, τ, S => stay S ∧ E.nx τ S
  | x :: xs, E, τ, S => stay S ∧ g x τ S fun τ' S' => tb { E with nx := uLoop stay g tb xs E, ct := uLoop stay g tb xs E, bk := E.nx } τ' S'
section
variable {stay : Sto → Prop} {g : TG2} {tb : TS2} {E : Ends2} {τ : St2} {S : Sto}
/-- by what is done and what is left -/
theorem loop_inv {α : Type} {e : α → DL.D} {xs : List α} (W : List α → List α → St2 → Sto → Prop) (h0 : W [] xs τ S)
    (hstay : ∀ done rest τ S, done ++ rest = xs → W done rest τ S → stay S)
    (hstep : ∀ done x rest τ S, done ++ x :: rest = xs → W done (x :: rest) τ S → g (e x) τ S fun τ' S' => tb { E with nx := W (done ++ [x]) rest, ct := W (done ++ [x]) rest, bk := E.nx } τ' S')
    (hend : ∀ τ S, W xs [] τ S → E.nx τ S) : LoopP stay g tb (xs.map e) E τ S := by
  refine ⟨fun i => W (xs.take i) (xs.drop i), ?_, fun i τ S _ w => ?_, fun i x τ S hx w => ?_, fun τ S w => ?_⟩
  · simpa using h0
  · exact hstay _ _ τ S (List.take_append_drop i xs) w
  · dsimp only at w ⊢
    rw [List.getElem?_map] at hx
    cases q : xs[i]? with
    | none => rw [q] at hx; cases hx
    | some y =>
      rw [q] at hx
      obtain rfl := Option.some.inj hx
      obtain ⟨hlt, rfl⟩ := List.getElem?_eq_some_iff.mp q
      rw [List.drop_eq_getElem_cons hlt] at w
      have := hstep (xs.take i) (xs[i]) (xs.drop (i + 1)) τ S (by rw [← List.drop_eq_getElem_cons hlt]; exact List.take_append_drop i xs) w
      rwa [show xs.take i ++ [xs[i]] = xs.take (i + 1) by rw [List.take_append_getElem]] at this
  · dsimp only at w
    rw [List.length_map, List.take_length, List.drop_length] at w
    exact hend τ S w
theorem loop_range {lo : Int} {n : Nat} (W : Nat → St2 → Sto → Prop) (h0 : W 0 τ S) (hstay : ∀ i τ S, i ≤ n → W i τ S → stay S)
    (hstep : ∀ i τ S, i < n → W i τ S → g (.int (lo + (i : Int))) τ S fun τ' S' => tb { E with nx := W (i + 1), ct := W (i + 1), bk := E.nx } τ' S')
    (hend : ∀ τ S, W n τ S → E.nx τ S) : LoopP stay g tb (rangeD lo n) E τ S := by
  refine ⟨W, h0, fun i τ S hi w => hstay i τ S (by rwa [rangeD_len] at hi) w, fun i x τ S hx w => ?_, fun τ S w => hend τ S (by rwa [rangeD_len] at w)⟩
  obtain ⟨hi, rfl⟩ := rangeD_at hx
  exact hstep i τ S hi w
end
end DL
namespace DL
open PySem PySem.Spec PyProof.Rows L2
def oL : Option O → Option (List D)
  | some (.lst xs) => some xs
  | _ => none
theorem z_oL {xs : List D} : oL (some (.lst xs)) = some xs := rfl
theorem z_listOfR {S : Sto} {a : Addr} : listOf S (.ref a) = oL (S a) := rfl
/-! ### slices by a step -/
def pickV {α : Type} (xs : List α) (k : Int) : List α := (sliceRange (sliceBounds none none (some k) xs.length).1 (sliceBounds none none (some k) xs.length).2.1 (sliceBounds none none (some k) xs.length).2.2).filterMap (xs[·]?)
def uSlK (k : Int) (te : TE2) : TE2 := fun τ S Q => te τ S fun d S1 => onS (listOf S1 d) fun xs => ∀ p, S1 p = none → Q (.ref p) (ups S1 p (.lst (pickV xs k)))
def uRevL (te : TE2) : TE2 := fun τ S Q => te τ S fun d S1 => onS (listOf S1 d) fun xs => ∀ p, S1 p = none → Q (.ref p) (ups S1 p (.lst xs.reverse))
section
variable {X : Cx} {e : Expr} {te ta : TE2} {pos p1 p2 p3 p q : Pos} {j : Nat}
/-- len(set(a list of unlike ints)) -/
def uLenSetI (ta : TE2) : TE2 := fun τ S Q => ta τ S fun d S1 => ∃ ns : List Int, listOf S1 d = some (ns.map D.int) ∧ ns.Nodup ∧ ns.length ≤ 4000 ∧ Q (.int ns.length) S1
def uLenSetT (ta : TE2) : TE2 := fun τ S Q => ta τ S fun d S1 => ∃ ks : List (List Int), listOf S1 d = some (ks.map fun k => D.tup (k.map D.int)) ∧ ks.length < 64 ∧ ∀ n : List (List Int), n.Nodup → (∀ k, k ∈ n ↔ k ∈ ks) → Q (.int n.length) S1
end
/-! ### sorted of pairs of small numbers -/
@[reducible] def dP (p : Nat × Nat) : D := .tup [.int (p.1 : Int), .int (p.2 : Int)]
def lexP (p q : Nat × Nat) : Prop := p.1 < q.1 ∨ (p.1 = q.1 ∧ p.2 ≤ q.2)
theorem lexP_anti {p q : Nat × Nat} (h : lexP p q) (k : lexP q p) : p = q := by
  unfold lexP at *
  exact Prod.ext (by omega) (by omega)
def rSortedP2 : List D → Sto → VK2 → Prop
  | [d], S, Q => ∃ ps : List (Nat × Nat), listOf S d = some (ps.map dP) ∧ ps.length < 64 ∧ (∀ p ∈ ps, p.1 < 1000 ∧ p.2 < 1000) ∧ ∀ qs : List (Nat × Nat), qs.Perm ps → qs.Pairwise lexP → ∀ a, S a = none → Q (.ref a) (ups S a (.lst (qs.map dP)))
  | _, _, _ => False
theorem z_sortedP {S : Sto} {Q : VK2} {d : D} : rSortedP2 [d] S Q = ∃ ps : List (Nat × Nat), listOf S d = some (ps.map dP) ∧ ps.length < 64 ∧ (∀ p ∈ ps, p.1 < 1000 ∧ p.2 < 1000) ∧ ∀ qs : List (Nat × Nat), qs.Perm ps → qs.Pairwise lexP → ∀ a, S a = none → Q (.ref a) (ups S a (.lst (qs.map dP))) := rfl
/-- two sorted lists of the same pairs -/
theorem sortP_eq : ∀ {xs ys : List (Nat × Nat)}, xs.Perm ys → xs.Pairwise lexP → ys.Pairwise lexP → xs = ys
  | [], ys, h, _, _ => by rw [List.nil_perm.mp h]
  | x :: xs, ys, h, p, q => by
    cases ys with
    | nil => exact absurd h (by simp)
    | cons y ys =>
      have e : x = y := by
        obtain ⟨p1, p2⟩ := List.pairwise_cons.mp p
        obtain ⟨q1, q2⟩ := List.pairwise_cons.mp q
        rcases List.mem_cons.mp (h.mem_iff.mp (List.mem_cons_self)) with e | e
        · exact e
        · rcases List.mem_cons.mp (h.mem_iff.mpr (List.mem_cons_self)) with e' | e'
          · exact e'.symm
          · exact lexP_anti (p1 y e') (q1 x e)
      subst e
      rw [sortP_eq (List.Perm.cons_inv h) (List.pairwise_cons.mp p).2 (List.pairwise_cons.mp q).2]
end DL
namespace DL
open PySem PySem.Spec PyProof.Rows L2
/-! ### numbers: a fraction in lowest terms -/
@[reducible] def eQ (q : Rat) : D := .tup [.int q.num, .int (q.den : Int)]
@[reducible] def eN (i : Nat) : D := .int (i : Int)
def Nz (n : Nat) (q : Rat) : Prop := Sz n q.num ∧ Sz n (q.den : Int)
theorem Nz.le {m n : Nat} {q : Rat} (h : Nz m q) (l : m ≤ n) : Nz n q := ⟨h.1.le l, h.2.le l⟩
theorem Sz.mul {m n : Nat} {i j : Int} (h : Sz m i) (k : Sz n j) : Sz (m + n) (i * j) := by
  unfold Sz at *
  rw [Int.natAbs_mul, Nat.pow_add]
  exact Nat.mul_lt_mul'' h k
theorem Sz.add {m n : Nat} {i j : Int} (h : Sz m i) (k : Sz n j) : Sz (m + n) (i + j) := by
  unfold Sz at *
  have h1 : (i + j).natAbs ≤ i.natAbs + j.natAbs := Int.natAbs_add_le i j
  have hp : 1 ≤ 2 ^ m := Nat.one_le_two_pow
  have hq : 1 ≤ 2 ^ n := Nat.one_le_two_pow
  rw [Nat.pow_add]
  obtain ⟨p, ep⟩ : ∃ p, 2 ^ m = p + 1 := ⟨2 ^ m - 1, by omega⟩
  obtain ⟨q, eq⟩ : ∃ q, 2 ^ n = q + 1 := ⟨2 ^ n - 1, by omega⟩
  rw [ep] at h ⊢
  rw [eq] at k ⊢
  have : (p + 1) * (q + 1) = p * q + p + q + 1 := by rw [Nat.add_mul, Nat.mul_add]; omega
  have hpq : 0 ≤ p * q := Nat.zero_le _
  omega
theorem Sz.neg {m : Nat} {i : Int} (h : Sz m i) : Sz m (-i) := by unfold Sz at *; rwa [Int.natAbs_neg]
theorem Sz.sub {m n : Nat} {i j : Int} (h : Sz m i) (k : Sz n j) : Sz (m + n) (i - j) := by
  rw [Int.sub_eq_add_neg]; exact h.add k.neg
theorem Sz.of_le {m : Nat} {i j : Int} (h : Sz m j) (l : i.natAbs ≤ j.natAbs) : Sz m i := Nat.lt_of_le_of_lt l h
theorem Sz.lit {m : Nat} {i : Int} (h : i.natAbs < 2 ^ m) : Sz m i := h
theorem Nz.lit {m : Nat} {i : Int} (h : i.natAbs < 2 ^ (m + 1)) : Nz (m + 1) (i : Rat) := ⟨h, by show (1 : Int).natAbs < 2 ^ (m + 1); exact Nat.one_lt_two_pow (Nat.succ_ne_zero m)⟩
theorem den_pos (q : Rat) : 0 < (q.den : Int) := Int.natCast_pos.mpr (Nat.pos_of_ne_zero q.den_nz)
theorem den_ne (q : Rat) : (q.den : Int) ≠ 0 := Int.ne_of_gt (den_pos q)
theorem quo_eq (t b : Int) : (t : Rat) / (b : Rat) = Rat.divInt t b := (Rat.divInt_eq_div t b).symm
/-- what the division by the greatest common divisor gives -/
theorem low_num {t b : Int} (hb : b ≠ 0) : t.fdiv (if b < 0 then 0 - (Int.gcd t b : Int) else (Int.gcd t b : Int)) = ((t : Rat) / (b : Rat)).num := by
  rw [quo_eq, Rat.num_divInt, Int.gcd_comm b t]
  have hg : (0 : Int) < Int.gcd t b := Int.natCast_pos.mpr (Int.gcd_pos_of_ne_zero_right t hb)
  have hd : (Int.gcd t b : Int) ∣ t := Int.gcd_dvd_left t b
  obtain ⟨c, hc⟩ := hd
  generalize (Int.gcd t b : Int) = g at *
  subst hc
  by_cases h : b < 0
  · rw [if_pos h, Int.sign_eq_neg_one_of_neg h, Int.zero_sub]
    rw [show g * c = (-g) * (-c) by rw [Int.neg_mul_neg], Int.mul_fdiv_cancel_left _ (by omega)]
    rw [show (-1 : Int) * (-g * -c) = g * (-c) by rw [Int.neg_mul, Int.one_mul, Int.neg_mul, Int.neg_neg], Int.mul_ediv_cancel_left _ (by omega)]
  · rw [if_neg h, Int.sign_eq_one_of_pos (by omega), Int.one_mul, Int.mul_fdiv_cancel_left _ (by omega), Int.mul_ediv_cancel_left _ (by omega)]
theorem low_den {t b : Int} (hb : b ≠ 0) : b.fdiv (if b < 0 then 0 - (Int.gcd t b : Int) else (Int.gcd t b : Int)) = (((t : Rat) / (b : Rat)).den : Int) := by
  rw [quo_eq, Rat.den_divInt, Int.gcd_comm b t, if_neg hb, Int.natCast_ediv]
  have hg : (0 : Int) < Int.gcd t b := Int.natCast_pos.mpr (Int.gcd_pos_of_ne_zero_right t hb)
  have hd : (Int.gcd t b : Int) ∣ b := Int.gcd_dvd_right t b
  obtain ⟨c, hc⟩ := hd
  generalize (Int.gcd t b : Int) = g at *
  subst hc
  by_cases h : g * c < 0
  · rw [if_pos h, Int.zero_sub, Int.ofNat_natAbs_of_nonpos (by omega)]
    rw [show g * c = (-g) * (-c) by rw [Int.neg_mul_neg], Int.mul_fdiv_cancel_left _ (by omega)]
    rw [show -(-g * -c) = g * (-c) by rw [Int.neg_mul, Int.neg_neg], Int.mul_ediv_cancel_left _ (by omega)]
  · rw [if_neg h, Int.natAbs_of_nonneg (by omega), Int.mul_fdiv_cancel_left _ (by omega), Int.mul_ediv_cancel_left _ (by omega)]
theorem gcd_stepN (m n : Nat) : Nat.gcd n (m % n) = Nat.gcd m n := by rw [Nat.gcd_comm n, ← Nat.gcd_rec, Nat.gcd_comm]
theorem fmod_nat (m n : Nat) : (m : Int).fmod (n : Int) = ((m % n : Nat) : Int) := by
  rw [Int.fmod_eq_emod_of_nonneg _ (Int.natCast_nonneg n), Int.natCast_emod]
theorem quo_num_le (t b : Int) : ((t : Rat) / (b : Rat)).num.natAbs ≤ t.natAbs := by
  rw [quo_eq, Rat.num_divInt, Int.natAbs_ediv_of_dvd]
  · rw [Int.natAbs_mul]
    refine Nat.le_trans (Nat.div_le_self _ _) ?_
    have : b.sign.natAbs ≤ 1 := by rw [Int.natAbs_sign]; split <;> omega
    exact Nat.le_trans (Nat.mul_le_mul_right _ this) (by omega)
  · exact Int.dvd_mul_of_dvd_right (Int.gcd_dvd_right _ _)
theorem quo_den_le {t b : Int} (hb : b ≠ 0) : ((t : Rat) / (b : Rat)).den ≤ b.natAbs := by
  rw [quo_eq, Rat.den_divInt, if_neg hb]
  exact Nat.div_le_self _ _
theorem q_self (q : Rat) : (q.num : Rat) / ((q.den : Int) : Rat) = q := by rw [quo_eq, Rat.num_divInt_den]
theorem add_quo (a b : Rat) : ((a.num * (b.den : Int) + b.num * (a.den : Int) : Int) : Rat) / ((a.den : Int) * (b.den : Int) : Int) = a + b := by
  rw [quo_eq, Rat.add_def', ← Int.natCast_mul, Rat.divInt_ofNat]
theorem sub_quo (a b : Rat) : ((a.num * (b.den : Int) - b.num * (a.den : Int) : Int) : Rat) / ((a.den : Int) * (b.den : Int) : Int) = a - b := by
  rw [quo_eq, Rat.sub_def', ← Int.natCast_mul, Rat.divInt_ofNat]
theorem mul_quo (a b : Rat) : ((a.num * b.num : Int) : Rat) / ((a.den : Int) * (b.den : Int) : Int) = a * b := by
  rw [quo_eq, Rat.mul_def', ← Int.natCast_mul, Rat.divInt_ofNat]
theorem q_nn (q : Rat) : (q.num : Rat) = q * ((q.den : Int) : Rat) := by
  have h : ((q.den : Int) : Rat) ≠ 0 := by
    have := den_ne q
    exact fun z => this (by exact_mod_cast z)
  have := q_self q
  grind
theorem den_neR (q : Rat) : ((q.den : Int) : Rat) ≠ 0 := fun z => den_ne q (by exact_mod_cast z)
theorem num_neR {q : Rat} (h : q ≠ 0) : (q.num : Rat) ≠ 0 := fun z => h (Rat.num_eq_zero.mp (by exact_mod_cast z))
theorem div_quo (a b : Rat) (hb : b ≠ 0) : ((a.num * (b.den : Int) : Int) : Rat) / ((a.den : Int) * b.num : Int) = a / b := by
  rw [Rat.intCast_mul, Rat.intCast_mul]
  have h1 := q_nn a
  have h2 := q_nn b
  have h3 := den_neR a
  have h4 := den_neR b
  have h5 := num_neR hb
  grind
theorem lt_quo (a b : Rat) : (decide (a.num * (b.den : Int) < b.num * (a.den : Int))) = decide (a < b) := decide_eq_decide.mpr (Rat.lt_iff a b).symm
theorem Nz.quo2 {n : Nat} {t b : Int} (hb : b ≠ 0) (h : Sz n t) (k : Sz n b) : Nz n ((t : Rat) / (b : Rat)) :=
  ⟨Sz.of_le h (quo_num_le t b), Sz.of_le (j := b) k (by rw [Int.natAbs_natCast]; exact quo_den_le hb)⟩
theorem Sz.add1 {n : Nat} {i j : Int} (h : Sz n i) (k : Sz n j) : Sz (n + 1) (i + j) := by
  unfold Sz at *
  rw [Nat.pow_succ]
  have := Int.natAbs_add_le i j
  omega
theorem Nz.add {m n : Nat} {a b : Rat} (h : Nz m a) (k : Nz n b) : Nz (m + n + 1) (a + b) := by
  rw [← add_quo]
  exact Nz.quo2 (Int.mul_ne_zero (den_ne a) (den_ne b)) ((h.1.mul k.2).add1 ((k.1.mul h.2).le (by omega))) ((h.2.mul k.2).le (by omega))
theorem Nz.sub {m n : Nat} {a b : Rat} (h : Nz m a) (k : Nz n b) : Nz (m + n + 1) (a - b) := by
  rw [← sub_quo, Int.sub_eq_add_neg]
  exact Nz.quo2 (Int.mul_ne_zero (den_ne a) (den_ne b)) ((h.1.mul k.2).add1 (((k.1.mul h.2).le (by omega)).neg)) ((h.2.mul k.2).le (by omega))
theorem Nz.mul {m n : Nat} {a b : Rat} (h : Nz m a) (k : Nz n b) : Nz (m + n) (a * b) := by
  rw [← mul_quo]
  exact Nz.quo2 (Int.mul_ne_zero (den_ne a) (den_ne b)) (h.1.mul k.1) (h.2.mul k.2)
theorem Nz.div {m n : Nat} {a b : Rat} (hb : b ≠ 0) (h : Nz m a) (k : Nz n b) : Nz (m + n) (a / b) := by
  rw [← div_quo a b hb]
  have : b.num ≠ 0 := fun z => hb (Rat.num_eq_zero.mp z)
  exact Nz.quo2 (Int.mul_ne_zero (den_ne a) this) (h.1.mul k.2) ((h.2.mul k.1))
theorem Nz.neg {m : Nat} {a : Rat} (h : Nz m a) : Nz m (-a) := ⟨by show Sz m (-a.num); exact h.1.neg, h.2⟩
/-! ### comparing what is encoded -/
theorem shaped_of {p : PyData} (h : p.canLay0 = true) (d : p.depth ≤ 64) : SeqAt.shaped p = true := by
  show (p.canLay0 && decide (p.depth ≤ 64)) = true
  rw [h, decide_eq_true d]; rfl
class Enc (α : Type) [DecidableEq α] where
  enc : α → D
  py : α → PyData
  isPy : ∀ S a, Py S (enc a) (py a)
  eqv : ∀ a b, PyData.eqv (py a) (py b) = decide (a = b)
  lay : ∀ a, (py a).canLay0 = true
  dep : Nat
  dep_le : ∀ a, (py a).depth ≤ dep
theorem beq_dec {α : Type} [BEq α] [LawfulBEq α] [DecidableEq α] (a b : α) : (a == b) = decide (a = b) := by
  rw [Bool.eq_iff_iff, beq_iff_eq, decide_eq_true_eq]
instance : Enc Int where
  enc := .int
  py := .int
  isPy _ a := .int a
  eqv a b := by simp only [PyData.eqv]; exact beq_dec a b
  lay a := by simp [PyData.canLay0]
  dep := 0
  dep_le _ := Nat.le_refl _
instance : Enc Bool where
  enc := .bl
  py := .bool
  isPy _ a := .bl a
  eqv a b := by simp only [PyData.eqv]; exact beq_dec a b
  lay a := by simp [PyData.canLay0]
  dep := 0
  dep_le _ := Nat.le_refl _
instance : Enc Rat where
  enc := eQ
  py q := .tuple [.int q.num, .int (q.den : Int)]
  isPy _ a := .tup (.cons (.int _) (.cons (.int _) .nil))
  eqv a b := by
    simp only [PyData.eqv, PyData.eqvAll]
    rw [Bool.and_true, beq_dec, beq_dec, ← Bool.decide_and]
    refine decide_eq_decide.mpr ⟨fun h => Rat.ext h.1 (by exact_mod_cast h.2), fun h => by rw [h]; exact ⟨rfl, rfl⟩⟩
  lay a := by simp [PyData.canLay0, PyData.canLayAll0]
  dep := 1
  dep_le a := by simp [PyData.depth, PyData.depthAll]
section
variable {α β : Type} [DecidableEq α] [Enc α] [DecidableEq β] [Enc β]
@[reducible] def eP (p : α × β) : D := .tup [Enc.enc p.1, Enc.enc p.2]
instance : Enc (α × β) where
  enc := eP
  py p := .tuple [Enc.py p.1, Enc.py p.2]
  isPy S p := .tup (.cons (Enc.isPy S p.1) (.cons (Enc.isPy S p.2) .nil))
  eqv a b := by
    simp only [PyData.eqv, PyData.eqvAll]
    rw [Bool.and_true, Enc.eqv, Enc.eqv, ← Bool.decide_and]
    exact decide_eq_decide.mpr ⟨fun h => Prod.ext h.1 h.2, fun h => by rw [h]; exact ⟨rfl, rfl⟩⟩
  lay p := by simp [PyData.canLay0, PyData.canLayAll0, Enc.lay]
  dep := max (Enc.dep α) (Enc.dep β) + 1
  dep_le p := by
    simp only [PyData.depth, PyData.depthAll]
    have h1 := Enc.dep_le p.1
    have h2 := Enc.dep_le p.2
    omega
theorem eqD {S : Sto} (a b : α) (h : Enc.dep α ≤ 64 := by decide) : EqD S (Enc.enc a) (Enc.enc b) (decide (a = b)) :=
  ⟨_, _, Enc.isPy S a, Enc.isPy S b, shaped_of (Enc.lay a) (Nat.le_trans (Enc.dep_le a) h), shaped_of (Enc.lay b) (Nat.le_trans (Enc.dep_le b) h), (Enc.eqv a b).symm⟩
theorem pys_enc {S : Sto} : ∀ (xs : List α), Pys S (xs.map Enc.enc) (xs.map Enc.py)
  | [] => .nil
  | x :: xs => .cons (Enc.isPy S x) (pys_enc xs)
theorem lay_enc : ∀ xs : List α, PyData.canLayAll0 (xs.map Enc.py) = true
  | [] => by simp [PyData.canLayAll0]
  | x :: xs => by simp [PyData.canLayAll0, Enc.lay x, lay_enc xs]
theorem depth_enc : ∀ xs : List α, PyData.depthAll (xs.map Enc.py) ≤ Enc.dep α
  | [] => by simp [PyData.depthAll]
  | x :: xs => by
    have h1 := depth_enc xs
    have h2 := Enc.dep_le x
    simp only [List.map_cons, PyData.depthAll]
    omega
theorem shaped_list (xs : List α) (h : Enc.dep α + 1 ≤ 64) : SeqAt.shaped (.list (xs.map Enc.py)) = true :=
  shaped_of (by simp only [PyData.canLay0]; exact lay_enc xs) (by simp only [PyData.depth]; have := depth_enc xs; omega)
end
/-! ### shared by the claims -/
theorem abs_nat (i : Int) : (if i < 0 then -i else i) = (i.natAbs : Int) := by split <;> omega
theorem gcd_div_ok {t b : Int} (hb : b ≠ 0) (hs : Sz 9000 b) : DivOk (Int.gcd t b : Int) := by
  refine ⟨Int.ne_of_gt (Int.natCast_pos.mpr (Int.gcd_pos_of_ne_zero_right t hb)), Sz.of_le hs ?_⟩
  rw [Int.natAbs_natCast]
  exact Nat.le_of_dvd (by omega) (Nat.gcd_dvd_right _ _)
theorem divOk_lit {j : Int} (h : j ≠ 0) (k : j.natAbs < 2 ^ 64) : DivOk j := ⟨h, (Sz.lit (m := 64) k).le (by decide)⟩
theorem fmod_lt {a m : Int} (h : 0 < m) : 0 ≤ a.fmod m ∧ a.fmod m < m := ⟨Int.fmod_nonneg_of_pos _ h, Int.fmod_lt_of_pos _ h⟩
theorem Sz.fmod {n : Nat} {a m : Int} (h : 0 < m) (s : Sz n m) : Sz n (a.fmod m) := Sz.of_le s (by have := fmod_lt (a := a) h; omega)
/-- a line: start and slope -/
@[reducible] def eL (l : Rat × Rat) : D := .tup [eQ l.1, eQ l.2]
def Lz (n : Nat) (l : Rat × Rat) : Prop := Nz n l.1 ∧ Nz n l.2
theorem Lz.le {m n : Nat} {l : Rat × Rat} (h : Lz m l) (k : m ≤ n) : Lz n l := ⟨h.1.le k, h.2.le k⟩
/-- where it is then -/
def at_ (l : Rat × Rat) (t : Rat) : Rat := l.1 + l.2 * t
/-- the pen -/
@[reducible] def penO (sc : List Int) (x y : Int) : O := .lst [.fl (sc.map D.int), .int x, .int y]
def PenA (S : Sto) (a : Addr) (sc : List Int) : Prop := ∃ x y, S a = some (penO sc x y)
theorem pen_again {S : Sto} {a : Addr} {sc : List Int} {x y : Int} : PenA (ups S a (penO sc x y)) a sc := ⟨x, y, ups_same⟩
theorem PenA.ne {S : Sto} {a p : Addr} {sc : List Int} (h : PenA S a sc) (n : S p = none) : a ≠ p := let ⟨_, _, e⟩ := h; ne_of_st e n
theorem PenA.new {S : Sto} {a p : Addr} {sc : List Int} {o : O} (h : PenA S a sc) (n : S p = none) : PenA (ups S p o) a sc := let ⟨x, y, e⟩ := h; ⟨x, y, by rw [ups_ne (ne_of_st e n)]; exact e⟩
theorem PenA.upd {S : Sto} {a p : Addr} {sc : List Int} {o : O} (h : PenA S a sc) (n : a ≠ p) : PenA (ups S p o) a sc := let ⟨x, y, e⟩ := h; ⟨x, y, by rw [ups_ne n]; exact e⟩
theorem atI_of {α : Type} {xs : List α} {i : Int} {x : α} (h0 : 0 ≤ i) (h : xs[i.toNat]? = some x) : atI xs i = some x := by
  have := atI_nat h
  rwa [show ((i.toNat : Nat) : Int) = i by omega] at this
theorem atI_map {α β : Type} {e : α → β} {xs : List α} {i : Int} (h0 : 0 ≤ i) (h1 : i < (xs.length : Int)) : ∃ x, xs[i.toNat]? = some x ∧ x ∈ xs ∧ atI (xs.map e) i = some (e x) := by
  have hl : i.toNat < xs.length := by omega
  refine ⟨xs[i.toNat], List.getElem?_eq_getElem hl, List.getElem_mem hl, atI_of h0 ?_⟩
  rw [List.getElem?_map, List.getElem?_eq_getElem hl]; rfl
theorem atI_ints {sc : List Int} {i : Int} (h0 : 0 ≤ i) (h1 : i < (sc.length : Int)) : ∃ c, atI (sc.map D.int) i = some (D.int c) := by
  obtain ⟨c, _, _, h⟩ := atI_map (e := D.int) h0 h1
  exact ⟨c, h⟩
/-- what is new is let go -/
theorem Sub.drop {S : Sto} {p : Addr} {o : O} (n : S p = Option.none) : Sub S (ups S p o) := (Sub.refl S).new n
end DL
namespace DL
open PySem PySem.Spec PyProof.Rows L2
/-! ### answers of == as equations -/
class EncU (α : Type) [DecidableEq α] [Enc α] : Prop where
  uniq : ∀ (S : Sto) (a : α) (p : PyData), Py S (Enc.enc a) p → p = Enc.py a
  ok : Enc.dep α ≤ 60 := by decide
instance : EncU Int where
  uniq S a p h := by cases h; rfl
instance : EncU Bool where
  uniq S a p h := by cases h; rfl
instance : EncU Rat where
  uniq S a p h := by
    cases h with
    | tup h => cases h with
      | cons h1 h2 => cases h1; cases h2 with
        | cons h3 h4 => cases h3; cases h4; rfl
instance : Enc Nat where
  enc n := .int (n : Int)
  py n := .int (n : Int)
  isPy _ a := .int a
  eqv a b := by
    simp only [PyData.eqv]; rw [beq_dec]; exact decide_eq_decide.mpr (by omega)
  lay a := by simp [PyData.canLay0]
  dep := 0
  dep_le _ := Nat.le_refl _
instance : EncU Nat where
  uniq S a p h := by cases h; rfl
section
variable {α β : Type} [DecidableEq α] [Enc α] [EncU α] [DecidableEq β] [Enc β] [EncU β]
theorem prod_uniq (S : Sto) (a : α × β) (p : PyData) (h : Py S (Enc.enc a) p) : p = Enc.py a := by
  cases h with
    | tup h => cases h with
      | cons h1 h2 => cases h2 with
        | cons h3 h4 =>
          cases h4
          rw [EncU.uniq S a.1 _ h1, EncU.uniq S a.2 _ h3]; rfl
theorem eqD_iff {S : Sto} (a b : α) (c : Bool) : EqD S (Enc.enc a) (Enc.enc b) c ↔ c = decide (a = b) := by
  constructor
  · rintro ⟨p, q, h1, h2, _, _, rfl⟩
    rw [EncU.uniq S a p h1, EncU.uniq S b q h2, Enc.eqv]
  · rintro rfl
    exact eqD a b (Nat.le_trans (EncU.ok (α := α)) (by decide))
theorem eqD_ex {S : Sto} {Q : Bool → Prop} (a b : α) : (∃ c, EqD S (Enc.enc a) (Enc.enc b) c ∧ Q c) = Q (decide (a = b)) := by
  apply propext
  constructor
  · rintro ⟨c, h, q⟩; rw [eqD_iff] at h; subst h; exact q
  · intro q; exact ⟨_, (eqD_iff a b _).mpr rfl, q⟩
end
instance : EncU (Rat × Rat) where
  uniq := prod_uniq
section
variable {S : Sto} {Q : VK2}
theorem z_eqQ {a b : Rat} : rEq (.tup [.int a.num, .int (a.den : Int)]) (.tup [.int b.num, .int (b.den : Int)]) S Q = Q (.bl (decide (a = b))) S := eqD_ex (Q := fun c => Q (.bl c) S) a b
theorem z_neQ {a b : Rat} : rNe (.tup [.int a.num, .int (a.den : Int)]) (.tup [.int b.num, .int (b.den : Int)]) S Q = Q (.bl (!decide (a = b))) S := eqD_ex (Q := fun c => Q (.bl (!c)) S) a b
theorem z_eqLL {a b c d : Rat} : rEq (.tup [.tup [.int a.num, .int (a.den : Int)], .tup [.int b.num, .int (b.den : Int)]]) (.tup [.tup [.int c.num, .int (c.den : Int)], .tup [.int d.num, .int (d.den : Int)]]) S Q = Q (.bl (decide ((a, b) = (c, d)))) S := eqD_ex (Q := fun c => Q (.bl c) S) (a, b) (c, d)
theorem z_neLL {a b c d : Rat} : rNe (.tup [.tup [.int a.num, .int (a.den : Int)], .tup [.int b.num, .int (b.den : Int)]]) (.tup [.tup [.int c.num, .int (c.den : Int)], .tup [.int d.num, .int (d.den : Int)]]) S Q = Q (.bl (!decide ((a, b) = (c, d)))) S := eqD_ex (Q := fun c => Q (.bl (!c)) S) (a, b) (c, d)
end
/-! ### None or a number -/
def eO : Option Rat → D
  | none => .non
  | some q => eQ q
theorem eO_none : eO none = .non := rfl
theorem eO_some (q : Rat) : eO (some q) = eQ q := rfl
theorem isNon_eO (o : Option Rat) : isNon (eO o) = o.isNone := by cases o <;> rfl
instance : Enc (Option Rat) where
  enc := eO
  py
    | none => .none
    | some q => Enc.py q
  isPy S a := by cases a with
    | none => exact .non
    | some q => exact Enc.isPy S q
  eqv a b := by
    cases a <;> cases b
    · simp [PyData.eqv]
    · rename_i q; simp [PyData.eqv, Enc.py]
    · rename_i q; simp [PyData.eqv, Enc.py]
    · rename_i p q; simp only [Enc.eqv]; exact decide_eq_decide.mpr (by simp)
  lay a := by cases a with
    | none => simp [PyData.canLay0]
    | some q => exact Enc.lay q
  dep := 1
  dep_le a := by cases a with
    | none => simp [PyData.depth]
    | some q => exact Enc.dep_le q
instance : EncU (Option Rat) where
  uniq S a p h := by
    cases a with
    | none => cases h; rfl
    | some q => exact EncU.uniq S q p h
section
variable {S : Sto} {Q : VK2}
theorem rEq_ne {x y : D} (hx : ∀ i, x ≠ .int i) (hb : ∀ i, x ≠ .bl i) (hs : ∀ i, x ≠ .str i) : rEq x y S Q = ∃ b, EqD S x y b ∧ Q (.bl b) S := by
  cases x <;> first | rfl | exact absurd rfl (hx _) | exact absurd rfl (hb _) | exact absurd rfl (hs _)
theorem rNe_ne {x y : D} (hx : ∀ i, x ≠ .int i) (hb : ∀ i, x ≠ .bl i) (hs : ∀ i, x ≠ .str i) : rNe x y S Q = ∃ b, EqD S x y b ∧ Q (.bl (!b)) S := by
  cases x <;> first | rfl | exact absurd rfl (hx _) | exact absurd rfl (hb _) | exact absurd rfl (hs _)
theorem eO_ni (o : Option Rat) : (∀ i, eO o ≠ .int i) ∧ (∀ i, eO o ≠ .bl i) ∧ (∀ i, eO o ≠ .str i) := by
  cases o <;> (refine ⟨?_, ?_, ?_⟩ <;> intro i h <;> cases h)
theorem z_eqO {a b : Option Rat} : rEq (eO a) (eO b) S Q = Q (.bl (decide (a = b))) S := (rEq_ne (eO_ni a).1 (eO_ni a).2.1 (eO_ni a).2.2).trans (eqD_ex (Q := fun c => Q (.bl c) S) a b)
theorem z_neO {a b : Option Rat} : rNe (eO a) (eO b) S Q = Q (.bl (!decide (a = b))) S := (rNe_ne (eO_ni a).1 (eO_ni a).2.1 (eO_ni a).2.2).trans (eqD_ex (Q := fun c => Q (.bl (!c)) S) a b)
theorem z_eqQN {a : Rat} : rEq (.tup [.int a.num, .int (a.den : Int)]) .non S Q = Q (.bl false) S := z_eqO (a := some a) (b := none)
theorem z_neQN {a : Rat} : rNe (.tup [.int a.num, .int (a.den : Int)]) .non S Q = Q (.bl true) S := z_neO (a := some a) (b := none)
theorem z_eqOQ {a : Option Rat} {q : Rat} : rEq (eO a) (.tup [.int q.num, .int (q.den : Int)]) S Q = Q (.bl (decide (a = some q))) S := z_eqO (a := a) (b := some q)
theorem z_neOQ {a : Option Rat} {q : Rat} : rNe (eO a) (.tup [.int q.num, .int (q.den : Int)]) S Q = Q (.bl (!decide (a = some q))) S := z_neO (a := a) (b := some q)
theorem z_eqNN' : rEq .non .non S Q = Q (.bl true) S := z_eqO (a := none) (b := none)
theorem z_neNN' : rNe .non .non S Q = Q (.bl false) S := z_neO (a := none) (b := none)
theorem z_eqNQ {a : Rat} : rEq .non (.tup [.int a.num, .int (a.den : Int)]) S Q = Q (.bl false) S := z_eqO (a := none) (b := some a)
theorem z_neNQ {a : Rat} : rNe .non (.tup [.int a.num, .int (a.den : Int)]) S Q = Q (.bl true) S := z_neO (a := none) (b := some a)
theorem z_eqNO {a : Option Rat} : rEq .non (eO a) S Q = Q (.bl (decide (none = a))) S := z_eqO (a := none) (b := a)
theorem z_neNO {a : Option Rat} : rNe .non (eO a) S Q = Q (.bl (!decide (none = a))) S := z_neO (a := none) (b := a)
theorem z_eqQO {a : Option Rat} {q : Rat} : rEq (.tup [.int q.num, .int (q.den : Int)]) (eO a) S Q = Q (.bl (decide (some q = a))) S := z_eqO (a := some q) (b := a)
theorem z_neQO {a : Option Rat} {q : Rat} : rNe (.tup [.int q.num, .int (q.den : Int)]) (eO a) S Q = Q (.bl (!decide (some q = a))) S := z_neO (a := some q) (b := a)
theorem z_eqON {a : Option Rat} : rEq (eO a) .non S Q = Q (.bl (decide (a = none))) S := z_eqO (a := a) (b := none)
theorem z_neON {a : Option Rat} : rNe (eO a) .non S Q = Q (.bl (!decide (a = none))) S := z_neO (a := a) (b := none)
end
/-! ### lines by their numbers -/
abbrev Ln := Rat × Rat
def LOk (L : List Ln) : Prop := ∀ l ∈ L, Lz 300 l
def ln (L : List Ln) (i : Nat) : Ln := L.getD i (0, 0)
structure LA (S : Sto) (a : Addr) (L : List Ln) : Prop where
  st : S a = some (.lst (L.map eL))
  ok : LOk L
  sz : L.length ≤ 20
section
variable {S S' : Sto} {a p : Addr} {L : List Ln} {o : O} {i : Nat}
theorem LA.new (h : LA S a L) (n : S p = none) : LA (ups S p o) a L := ⟨by rw [ups_ne (ne_of_st h.st n)]; exact h.st, h.ok, h.sz⟩
theorem LA.upd (h : LA S a L) (n : a ≠ p) : LA (ups S p o) a L := ⟨by rw [ups_ne n]; exact h.st, h.ok, h.sz⟩
theorem LA.sub (h : LA S a L) (s : Sub S S') : LA S' a L := ⟨s _ _ h.st, h.ok, h.sz⟩
theorem LA.ne (h : LA S a L) (n : S p = none) : a ≠ p := ne_of_st h.st n
theorem LA.pen {b : Addr} {sc : List Int} (h : LA S a L) (hp : PenA S b sc) : a ≠ b := by
  rintro rfl
  obtain ⟨x, y, e⟩ := hp
  have := h.st.symm.trans e
  cases L with
  | nil => cases this
  | cons l L => cases L with
    | nil => cases this
    | cons m L => injection this with h1; injection h1 with h2; injection h2 with h3 h4; cases h3
theorem ln_mem (h : i < L.length) : ln L i ∈ L := by
  unfold ln; rw [List.getD_eq_getElem?_getD, List.getElem?_eq_getElem h]; exact List.getElem_mem h
theorem ln_get (h : i < L.length) : L[i]? = some (ln L i) := by
  unfold ln; rw [List.getD_eq_getElem?_getD, List.getElem?_eq_getElem h]; rfl
theorem LOk.at (h : LOk L) (k : i < L.length) : Lz 300 (ln L i) := h _ (ln_mem k)
theorem LA.at (h : LA S a L) (k : i < L.length) : Lz 300 (ln L i) := h.ok.at k
theorem atL (h : i < L.length) : atI (L.map eL) (i : Int) = some (eL (ln L i)) := atI_nat (by rw [List.getElem?_map, ln_get h]; rfl)
theorem LOk.snoc {l : Ln} (h : LOk L) (k : Lz 300 l) : LOk (L ++ [l]) := fun x hx => by
  rcases List.mem_append.mp hx with h' | h'
  · exact h x h'
  · rw [List.mem_singleton.mp h']; exact k
theorem LOk.nil : LOk [] := fun _ h => by cases h
end
/-- where nothing else than at a is written -/
def Fr (S S' : Sto) (a : Addr) : Prop := ∀ b o, b ≠ a → S b = some o → S' b = some o
theorem Fr.refl (S : Sto) (a : Addr) : Fr S S a := fun _ _ _ h => h
theorem Fr.trans {S S1 S2 : Sto} {a : Addr} (h : Fr S S1 a) (k : Fr S1 S2 a) : Fr S S2 a := fun b o n e => k b o n (h b o n e)
theorem Fr.wr {S S1 : Sto} {a : Addr} {o : O} (h : Fr S S1 a) : Fr S (DL.ups S1 a o) a := fun b u n e => by rw [ups_ne n]; exact h b u n e
theorem Fr.new {S S1 : Sto} {a p : Addr} {o : O} (h : Fr S S1 a) (n : S1 p = none) : Fr S (DL.ups S1 p o) a := fun b u nb e => by
  have := h b u nb e
  rw [ups_ne (ne_of_st this n)]; exact this
theorem Fr.own {S S1 : Sto} {a p : Addr} {o : O} (h : Fr S S1 a) (n : S p = none) : Fr S (DL.ups S1 p o) a := fun b u nb e => by
  rw [ups_ne (ne_of_st e n)]; exact h b u nb e
theorem Fr.sub {S S1 S2 : Sto} {a : Addr} (h : Fr S S1 a) (k : Sub S1 S2) : Fr S S2 a := fun b o n e => k b o (h b o n e)
theorem LA.fr {S S' : Sto} {a p : Addr} {L : List Ln} (h : LA S a L) (k : Fr S S' p) (n : a ≠ p) : LA S' a L := ⟨k _ _ n h.st, h.ok, h.sz⟩
/-! ### walks over ranges -/
section
variable {stay : Sto → Prop} {g : TG2} {tb : TS2} {E : Ends2} {τ : St2} {S : Sto}
theorem loop_r0 {n : Nat} (W : Nat → St2 → Sto → Prop) (h0 : W 0 τ S)
    (hstep : ∀ i τ S, i < n → W i τ S → g (.int (i : Int)) τ S fun τ' S' => tb { E with nx := W (i + 1), ct := W (i + 1), bk := E.nx } τ' S')
    (hend : ∀ τ S, W n τ S → E.nx τ S) : LoopP stayT g tb (rangeD 0 n) E τ S :=
  loop_range W h0 (fun _ _ _ _ _ => trivial) (fun i τ S hi w => by rw [Int.zero_add]; exact hstep i τ S hi w) hend
end
/-! ### meeting, ahead -/
def met (l m : Ln) : Rat := (m.1 - l.1) / (l.2 - m.2)
theorem sub_ne {a b : Rat} (h : a ≠ b) : a - b ≠ 0 := by intro e; apply h; grind
theorem Lz.met {l m : Ln} (h : Lz 300 l) (k : Lz 300 m) (n : l.2 ≠ m.2) : Nz 1210 (met l m) :=
  (Nz.div (sub_ne n) (k.1.sub h.1) (h.2.sub k.2)).le (by decide)
theorem at_met {l m : Ln} (n : l.2 ≠ m.2) : at_ l (met l m) = at_ m (met l m) := by
  have h := sub_ne n
  unfold at_ met
  grind
theorem met_comm {l m : Ln} (n : l.2 ≠ m.2) : met l m = met m l := by
  have h := sub_ne n
  have h' := sub_ne (Ne.symm n)
  unfold met
  grind
theorem Lz.at {l : Ln} {t : Rat} {n : Nat} (h : Lz 300 l) (k : Nz n t) : Nz (n + 601) (at_ l t) := ((h.1.add (h.2.mul k)).le (by omega))
abbrev Mt := Option (Option Rat)
/-- none: always; some none: never -/
def eMt : Mt → D
  | none => .tup [.str "always"]
  | some none => .tup [.str "never"]
  | some (some t) => .tup [.str "at", eQ t]
instance : Enc Mt where
  enc := eMt
  py
    | none => .tuple [.str "always"]
    | some none => .tuple [.str "never"]
    | some (some t) => .tuple [.str "at", Enc.py t]
  isPy S a := by cases a with
    | none => exact .tup (.cons (.str _) .nil)
    | some q => cases q with
      | none => exact .tup (.cons (.str _) .nil)
      | some q => exact .tup (.cons (.str _) (.cons (Enc.isPy S q) .nil))
  eqv a b := by
    have h1 : (("always" : Str) == ("never" : Str)) = false := by decide +kernel
    have h2 : (("never" : Str) == ("always" : Str)) = false := by decide +kernel
    rcases a with _ | _ | a <;> rcases b with _ | _ | b <;> simp [PyData.eqv, PyData.eqvAll, h1, h2, Enc.eqv]
  lay a := by
    have h1 : PyData.strOk (Str.ofString "always") = true := by decide +kernel
    have h2 : PyData.strOk (Str.ofString "never") = true := by decide +kernel
    have h3 : PyData.strOk (Str.ofString "at") = true := by decide +kernel
    rcases a with _ | _ | a <;> simp [PyData.canLay0, PyData.canLayAll0, Enc.lay, h1, h2, h3]
  dep := 3
  dep_le a := by
    rcases a with _ | _ | a
    · simp [PyData.depth, PyData.depthAll]
    · simp [PyData.depth, PyData.depthAll]
    · have := Enc.dep_le a
      simp only [PyData.depth, PyData.depthAll]
      have e : Enc.dep Rat = 1 := rfl
      omega
instance : EncU Mt where
  uniq S a p h := by
    rcases a with _ | _ | t
    · cases h with
      | tup h => cases h with
        | cons h1 h2 => cases h1; cases h2; rfl
    · cases h with
      | tup h => cases h with
        | cons h1 h2 => cases h1; cases h2; rfl
    · cases h with
      | tup h => cases h with
        | cons h1 h2 => cases h1; cases h2 with
          | cons h3 h4 => cases h4; rw [EncU.uniq S t _ h3]; rfl
theorem eMt_ni (o : Mt) : (∀ i, eMt o ≠ .int i) ∧ (∀ i, eMt o ≠ .bl i) ∧ (∀ i, eMt o ≠ .str i) := by
  rcases o with _ | _ | t <;> (refine ⟨?_, ?_, ?_⟩ <;> intro i h <;> cases h)
theorem z_neMt {S : Sto} {Q : VK2} {a b : Mt} : rNe (eMt a) (eMt b) S Q = Q (.bl (!decide (a = b))) S := (rNe_ne (eMt_ni a).1 (eMt_ni a).2.1 (eMt_ni a).2.2).trans (eqD_ex (Q := fun c => Q (.bl (!c)) S) a b)
theorem ups_no {S : Sto} {a p : Addr} {o : O} (h : ups S a o p = none) : p ≠ a ∧ S p = none := by
  by_cases e : p = a
  · subst e; rw [ups_same] at h; cases h
  · rw [ups_ne e] at h; exact ⟨e, h⟩
def Ahd (L : List Ln) (i j : Nat) (t : Rat) : Prop :=
  at_ (ln L j) t < at_ (ln L i) t ∨ (at_ (ln L i) t = at_ (ln L j) t ∧ ((ln L j).2 < (ln L i).2 ∨ ((ln L i).2 = (ln L j).2 ∧ i < j)))
instance (L : List Ln) (i j : Nat) (t : Rat) : Decidable (Ahd L i j t) := by unfold Ahd; infer_instance
end DL
namespace DL
open PySem PySem.Spec PyProof.Rows L2
theorem zs_never : ((Str.ofString "never" : Str) = Str.ofString "at") = False := eq_false (by decide +kernel)
theorem zs_always : ((Str.ofString "always" : Str) = Str.ofString "at") = False := eq_false (by decide +kernel)
theorem zs_at : ((Str.ofString "at" : Str) = Str.ofString "at") = True := eq_true rfl
def nxt (L : List Ln) (i j : Nat) (t : Rat) : Option Rat := if (ln L i).2 ≠ (ln L j).2 ∧ t < met (ln L i) (ln L j) then some (met (ln L i) (ln L j)) else none
theorem nxt_comm {L : List Ln} {i j : Nat} {t : Rat} : nxt L j i t = nxt L i j t := by
  unfold nxt
  by_cases e : (ln L i).2 = (ln L j).2
  · rw [if_neg (by simp [e]), if_neg (by simp [e])]
  · rw [met_comm (Ne.symm e)]
    simp only [ne_eq, e, Ne.symm e, not_false_eq_true, true_and]
/-! ### who is ahead, by the meeting -/
theorem at_gap (l m : Ln) (e : l.2 ≠ m.2) (t : Rat) : at_ l t - at_ m t = (l.2 - m.2) * (t - met l m) := by
  have h := sub_ne e
  unfold at_ met
  grind
section
variable {L : List Ln} {i j k : Nat} {t u : Rat}
theorem mul_pos_r {a b : Rat} (ha : 0 < a) (hb : 0 < b) : 0 < a * b := Rat.mul_pos ha hb
theorem ahd_eq (e : (ln L i).2 = (ln L j).2) : Ahd L i j t ↔ ((ln L j).1 < (ln L i).1 ∨ ((ln L i).1 = (ln L j).1 ∧ i < j)) := by
  unfold Ahd at_
  rw [e]
  constructor
  · rintro (h | ⟨h, h2⟩)
    · left; grind
    · right
      refine ⟨by grind, ?_⟩
      rcases h2 with h2 | ⟨_, h2⟩
      · grind
      · exact h2
  · rintro (h | ⟨h, h2⟩)
    · left; grind
    · right; exact ⟨by grind, .inr ⟨rfl, h2⟩⟩
theorem ahd_lt (e : (ln L i).2 ≠ (ln L j).2) (h : t < met (ln L i) (ln L j)) : Ahd L i j t ↔ (ln L i).2 < (ln L j).2 := by
  have g := at_gap _ _ e t
  unfold Ahd
  generalize at_ (ln L i) t = x at *
  generalize at_ (ln L j) t = y at *
  generalize (ln L i).2 = a at *
  generalize (ln L j).2 = b at *
  have h' : 0 < met (ln L i) (ln L j) - t := by grind
  generalize met (ln L i) (ln L j) = m at *
  constructor
  · rintro (h1 | ⟨h1, h2⟩)
    · by_cases c : a < b
      · exact c
      · have : 0 < (a - b) * (m - t) := mul_pos_r (by grind) h'
        grind
    · by_cases c : a < b
      · exact c
      · have : 0 < (a - b) * (m - t) := mul_pos_r (by grind) h'
        grind
  · intro c
    have : 0 < (b - a) * (m - t) := mul_pos_r (by grind) h'
    left; grind
theorem ahd_ge (e : (ln L i).2 ≠ (ln L j).2) (h : ¬ t < met (ln L i) (ln L j)) : Ahd L i j t ↔ (ln L j).2 < (ln L i).2 := by
  have g := at_gap _ _ e t
  unfold Ahd
  generalize at_ (ln L i) t = x at *
  generalize at_ (ln L j) t = y at *
  generalize (ln L i).2 = a at *
  generalize (ln L j).2 = b at *
  generalize met (ln L i) (ln L j) = m at *
  by_cases z : t = m
  · subst z
    have : x = y := by grind
    subst this
    constructor
    · rintro (h1 | ⟨h1, h2⟩)
      · grind
      · rcases h2 with h2 | ⟨h2, _⟩
        · exact h2
        · exact absurd h2 e
    · intro c
      exact .inr ⟨rfl, .inl c⟩
  · have h' : 0 < t - m := by grind
    constructor
    · rintro (h1 | ⟨h1, h2⟩)
      · by_cases c : b < a
        · exact c
        · have : 0 < (b - a) * (t - m) := mul_pos_r (by grind) h'
          grind
      · by_cases c : b < a
        · exact c
        · have : 0 < (b - a) * (t - m) := mul_pos_r (by grind) h'
          grind
    · intro c
      have : 0 < (a - b) * (t - m) := mul_pos_r (by grind) h'
      left; grind
theorem ahd_trans (h : Ahd L i j t) (h2 : Ahd L j k t) : Ahd L i k t := by unfold Ahd at *; grind
theorem ahd_irr (h : Ahd L i i t) : False := by unfold Ahd at h; grind
theorem ahd_total (h : i ≠ j) : Ahd L i j t ∨ Ahd L j i t := by
  unfold Ahd
  rcases Nat.lt_or_gt_of_ne h with h | h <;> grind
theorem ahd_asymm (h : Ahd L i j t) (h2 : Ahd L j i t) : False := ahd_irr (ahd_trans h h2)
end
/-! ### rising lists of times -/
def Inc (M : List Rat) : Prop := M.Pairwise (· < ·)
theorem ins_at : ∀ {M : List Rat} (h : Inc M) (t : Rat) (ht : t ∉ M), Inc (M.take (M.filter fun x => decide (x < t)).length ++ [t] ++ M.drop (M.filter fun x => decide (x < t)).length) ∧
    ∀ x, x ∈ M.take (M.filter fun x => decide (x < t)).length ++ [t] ++ M.drop (M.filter fun x => decide (x < t)).length ↔ x = t ∨ x ∈ M
  | [], _, t, _ => by simp [Inc]
  | m :: M, h, t, ht => by
    obtain ⟨h1, h2⟩ := List.pairwise_cons.mp h
    by_cases c : m < t
    · rw [List.filter_cons_of_pos (by simpa using c), List.length_cons, List.take_succ_cons, List.drop_succ_cons]
      obtain ⟨i1, i2⟩ := ins_at h2 t (fun z => ht (List.mem_cons_of_mem _ z))
      refine ⟨?_, fun x => ?_⟩
      · rw [List.cons_append, List.cons_append]
        refine List.pairwise_cons.mpr ⟨fun x hx => ?_, i1⟩
        rcases (i2 x).mp hx with rfl | hx
        · exact c
        · exact h1 x hx
      · rw [List.cons_append, List.cons_append, List.mem_cons, i2, List.mem_cons]
        grind
    · have hm : t < m := by
        have : t ≠ m := fun z => ht (by simp [z])
        grind
      have hf : (m :: M).filter (fun x => decide (x < t)) = [] := by
        rw [List.filter_eq_nil_iff]
        intro x hx
        rcases List.mem_cons.mp hx with rfl | hx
        · simpa using c
        · have := h1 x hx
          simp only [decide_eq_true_eq]
          grind
      rw [hf]
      refine ⟨?_, fun x => by simp⟩
      show Inc (t :: m :: M)
      refine List.pairwise_cons.mpr ⟨fun x hx => ?_, h⟩
      rcases List.mem_cons.mp hx with rfl | hx
      · exact hm
      · have := h1 x hx
        grind
/-- the meetings of the pairs gone through -/
structure MI (L : List Ln) (i j : Nat) (M : List Rat) : Prop where
  inc : Inc M
  mem : ∀ t, t ∈ M ↔ ∃ a b, (a < i ∨ (a = i ∧ b < j)) ∧ b < a ∧ a < L.length ∧ (ln L a).2 ≠ (ln L b).2 ∧ t = met (ln L a) (ln L b)
  len : M.length ≤ 20 * i + j
structure IsMeet (L : List Ln) (M : List Rat) : Prop where
  inc : Inc M
  mem : ∀ t, t ∈ M ↔ ∃ a b, a < L.length ∧ b < L.length ∧ (ln L a).2 ≠ (ln L b).2 ∧ t = met (ln L a) (ln L b)
  len : M.length ≤ 400
section
variable {L : List Ln} {i j : Nat} {M : List Rat} {t : Rat}
theorem MI.start : MI L 0 0 [] := ⟨.nil, fun t => ⟨fun h => (nomatch h), fun ⟨a, b, h, h2, _⟩ => by omega⟩, by simp⟩
theorem MI.put (h : MI L i j M) (hj : j < i) (hi : i < L.length) (e : (ln L i).2 ≠ (ln L j).2) (k : met (ln L i) (ln L j) ∉ M) : MI L i (j + 1) (M.take (M.filter fun x => decide (x < met (ln L i) (ln L j))).length ++ [met (ln L i) (ln L j)] ++ M.drop (M.filter fun x => decide (x < met (ln L i) (ln L j))).length) := by
  obtain ⟨h1, h2⟩ := ins_at h.inc _ k
  refine ⟨h1, fun t => ?_, ?_⟩
  · rw [h2]
    constructor
    · rintro (rfl | ht)
      · exact ⟨i, j, by omega, hj, hi, e, rfl⟩
      · obtain ⟨a, b, h1, h2⟩ := (h.mem t).mp ht
        exact ⟨a, b, by omega, h2⟩
    · rintro ⟨a, b, h1, h2, h3, h4, h5⟩
      by_cases hb : a = i ∧ b = j
      · obtain ⟨rfl, rfl⟩ := hb; exact .inl h5
      · exact .inr ((h.mem t).mpr ⟨a, b, by omega, h2, h3, h4, h5⟩)
  · have := h.len
    simp only [List.length_append, List.length_take, List.length_drop, List.length_cons, List.length_nil]
    omega
theorem MI.next (h : MI L i i M) (hi : i ≤ 20) : MI L (i + 1) 0 M := by
  refine ⟨h.inc, fun t => ?_, by have := h.len; omega⟩
  rw [h.mem]
  constructor
  · rintro ⟨a, b, h1, h2⟩; exact ⟨a, b, by omega, h2⟩
  · rintro ⟨a, b, h1, h2, h3⟩; exact ⟨a, b, by omega, h2, h3⟩
theorem IsMeet.nz (h : IsMeet L M) (k : LOk L) (ht : t ∈ M) : Nz 1210 t := by
  obtain ⟨a, b, h1, h2, h3, rfl⟩ := (h.mem t).mp ht
  exact (k.at h1).met (k.at h2) h3
theorem MI.nz (h : MI L i j M) (k : LOk L) (ht : t ∈ M) : Nz 1210 t := by
  obtain ⟨a, b, h1, h2, h3, h4, rfl⟩ := (h.mem t).mp ht
  exact (k.at h3).met (k.at (by omega)) h4
end
/-- rising lists of the same times -/
theorem inc_ext : ∀ {M N : List Rat}, Inc M → Inc N → (∀ t, t ∈ M ↔ t ∈ N) → M = N
  | [], [], _, _, _ => rfl
  | [], n :: N, _, _, h => by have := (h n).mpr (by simp); cases this
  | m :: M, [], _, _, h => by have := (h m).mp (by simp); cases this
  | m :: M, n :: N, hm, hn, h => by
    obtain ⟨m1, m2⟩ := List.pairwise_cons.mp hm
    obtain ⟨n1, n2⟩ := List.pairwise_cons.mp hn
    have e : m = n := by
      rcases List.mem_cons.mp ((h m).mp (by simp)) with e | e
      · exact e
      · rcases List.mem_cons.mp ((h n).mpr (by simp)) with e' | e'
        · exact e'.symm
        · have := m1 n e'; have := n1 m e; grind
    subst e
    rw [inc_ext m2 n2 fun t => ?_]
    constructor
    · intro ht
      rcases List.mem_cons.mp ((h t).mp (List.mem_cons_of_mem _ ht)) with e | e
      · subst e; have := m1 t ht; grind
      · exact e
    · intro ht
      rcases List.mem_cons.mp ((h t).mpr (List.mem_cons_of_mem _ ht)) with e | e
      · subst e; have := n1 t ht; grind
      · exact e
/-! ### probes -/
def mi (M : List Rat) (i : Nat) : Rat := M.getD i 0
section
variable {M : List Rat} {i : Nat} {t : Rat}
theorem mi_get (h : i < M.length) : M[i]? = some (mi M i) := by
  unfold mi; rw [List.getD_eq_getElem?_getD, List.getElem?_eq_getElem h]; rfl
theorem atQ (h : i < M.length) : atI (M.map eQ) (i : Int) = some (eQ (mi M i)) := atI_nat (by rw [List.getElem?_map, mi_get h]; rfl)
end
theorem z_succ (k : Nat) : ((k : Int) + 1) = ((k + 1 : Nat) : Int) := rfl
theorem Sub.own {S S' : Sto} {p : Addr} {o : O} (h : Sub S S') (n : S p = Option.none) : Sub S (ups S' p o) := fun b u e => by
  rw [ups_ne (ne_of_st e n)]; exact h b u e
theorem Sub.miss {S S' : Sto} {p : Addr} (h : Sub S S') (n : S' p = Option.none) : S p = Option.none := h.none n
/-! ### lists compared -/
theorem PenA.sub {S S' : Sto} {a : Addr} {sc : List Int} (h : PenA S a sc) (s : Sub S S') : PenA S' a sc := let ⟨x, y, e⟩ := h; ⟨x, y, s _ _ e⟩
end DL
namespace DL
open PySem PySem.Spec PyProof.Rows L2
/-! ### who is ahead of all -/
def IsTop (L : List Ln) (t : Rat) (r : Nat) : Prop := r < L.length ∧ ∀ j, j < L.length → j ≠ r → Ahd L r j t
theorem IsTop.uniq {L : List Ln} {t : Rat} {r r' : Nat} (h : IsTop L t r) (k : IsTop L t r') : r = r' := by
  by_cases e : r = r'
  · exact e
  · exact (ahd_asymm (h.2 r' k.1 (Ne.symm e)) (k.2 r h.1 e)).elim
/-- ahead ahead of all meetings -/
def Ear (L : List Ln) (i j : Nat) : Prop := (ln L i).2 < (ln L j).2 ∨ ((ln L i).2 = (ln L j).2 ∧ ((ln L j).1 < (ln L i).1 ∨ ((ln L i).1 = (ln L j).1 ∧ i < j)))
instance (L : List Ln) (i j : Nat) : Decidable (Ear L i j) := by unfold Ear; infer_instance
theorem ahd_steep {L : List Ln} {i j : Nat} {t u : Rat} (h : t < u) (a : Ahd L i j t) (b : Ahd L j i u) : (ln L i).2 < (ln L j).2 := by
  by_cases e : (ln L i).2 = (ln L j).2
  · rw [ahd_eq e] at a
    rw [ahd_eq e.symm] at b
    grind
  · by_cases c : t < met (ln L i) (ln L j)
    · exact (ahd_lt e c).mp a
    · have a' := (ahd_ge e c).mp a
      have b' := (ahd_ge (Ne.symm e) (by rw [met_comm (Ne.symm e)]; grind)).mp b
      exact b'
/-! ### rows -/
abbrev Rw := List (Nat × Option Rat)
def Ge (s : Option Rat) (t : Rat) : Prop := ∀ v, s = some v → v ≤ t
def Gt (s : Option Rat) (t : Rat) : Prop := ∀ v, s = some v → v < t
def Seg (P : Rat → Nat → Prop) (s : Option Rat) (r : Nat) : Rw → Prop
  | [] => ∀ t, Ge s t → P t r
  | (r', some u) :: rest => Gt s u ∧ (∀ t, Ge s t → t < u → P t r) ∧ r ≠ r' ∧ Seg P (some u) r' rest
  | (_, none) :: _ => False
def RowOf (P : Rat → Nat → Prop) (rows : Rw) : Prop := ∃ r rest, rows = (r, none) :: rest ∧ Seg P none r rest
def Pre (P : Rat → Nat → Prop) (rows : Rw) (r : Nat) (s : Option Rat) : Prop := ∀ rest, Seg P s r rest → RowOf P (rows ++ rest)
section
variable {P : Rat → Nat → Prop} {rows : Rw} {r r' : Nat} {s : Option Rat} {u : Rat}
theorem Pre.start : Pre P [(r, none)] r none := fun rest h => ⟨r, rest, rfl, h⟩
theorem Pre.step (h : Pre P rows r s) (h1 : Gt s u) (h2 : ∀ t, Ge s t → t < u → P t r) (h3 : r ≠ r') : Pre P (rows ++ [(r', some u)]) r' (some u) := fun rest k => by
  rw [List.append_assoc]
  exact h _ ⟨h1, h2, h3, k⟩
theorem ge_exists (s : Option Rat) : ∃ t, Ge s t := by
  cases s with
  | none => exact ⟨0, fun v h => by cases h⟩
  | some v => exact ⟨v, fun w h => by cases h; exact Rat.le_refl⟩
theorem gt_between {s : Option Rat} {u : Rat} (h : Gt s u) : ∃ t, Ge s t ∧ t < u := by
  cases s with
  | none => exact ⟨u - 1, fun v h => (by cases h), by grind⟩
  | some v => exact ⟨v, fun w h => (by cases h; exact Rat.le_refl), h v rfl⟩
theorem ge_refl (u : Rat) : Ge (some u) u := fun v h => by cases h; exact Rat.le_refl
theorem Seg.head (h : ∀ {t r r'}, P t r → P t r' → r = r') : ∀ {rest rest' : Rw}, Seg P s r rest → Seg P s r' rest' → r = r'
  | [], [], a, b => by
    obtain ⟨t, ht⟩ := ge_exists s
    exact h (a t ht) (b t ht)
  | [], (_, some u) :: _, a, b => by
    obtain ⟨t, ht, hu⟩ := gt_between b.1
    exact h (a t ht) (b.2.1 t ht hu)
  | (_, some u) :: _, [], a, b => by
    obtain ⟨t, ht, hu⟩ := gt_between a.1
    exact h (a.2.1 t ht hu) (b t ht)
  | (_, some u) :: _, (_, some w) :: _, a, b => by
    have : Gt s (min u w) := fun v hv => by have := a.1 v hv; have := b.1 v hv; grind
    obtain ⟨t, ht, hu⟩ := gt_between this
    exact h (a.2.1 t ht (by grind)) (b.2.1 t ht (by grind))
  | (_, none) :: _, _, a, _ => a.elim
  | _, (_, none) :: _, _, b => b.elim
theorem Seg.at0 (h : Seg P (some u) r rows) : P u r := by
  cases rows with
  | nil => exact h u (ge_refl u)
  | cons x xs => cases x with
    | mk a b => cases b with
      | none => exact h.elim
      | some w => exact h.2.1 u (ge_refl u) (h.1 u rfl)
theorem Seg.uniq (h : ∀ {t r r'}, P t r → P t r' → r = r') : ∀ {rest rest' : Rw} {s : Option Rat} {r : Nat}, Seg P s r rest → Seg P s r rest' → rest = rest'
  | [], [], _, _, _, _ => rfl
  | [], (r', some u) :: _, s, r, a, b => by
    exact absurd (h (a u (fun v hv => by have := b.1 v hv; grind)) (Seg.at0 b.2.2.2)) b.2.2.1
  | (r', some u) :: _, [], s, r, a, b => by
    exact absurd (h (b u (fun v hv => by have := a.1 v hv; grind)) (Seg.at0 a.2.2.2)) a.2.2.1
  | (r1, some u) :: rest, (r2, some w) :: rest', s, r, a, b => by
    have e : u = w := by
      by_cases c : u < w
      · exact absurd (h (b.2.1 u (fun v hv => by have := a.1 v hv; grind) c) (Seg.at0 a.2.2.2)) a.2.2.1
      · by_cases c : w < u
        · exact absurd (h (a.2.1 w (fun v hv => by have := b.1 v hv; grind) c) (Seg.at0 b.2.2.2)) b.2.2.1
        · grind
    subst e
    have e : r1 = r2 := h (Seg.at0 a.2.2.2) (Seg.at0 b.2.2.2)
    subst e
    rw [Seg.uniq h a.2.2.2 b.2.2.2]
  | (_, none) :: _, _, _, _, a, _ => a.elim
  | [], (_, none) :: _, _, _, _, b => b.elim
  | (_, some _) :: _, (_, none) :: _, _, _, _, b => b.elim
theorem RowOf.uniq {a b : Rw} (h : ∀ {t r r'}, P t r → P t r' → r = r') (x : RowOf P a) (y : RowOf P b) : a = b := by
  obtain ⟨r, rest, rfl, x⟩ := x
  obtain ⟨r', rest', rfl, y⟩ := y
  obtain rfl := Seg.head (P := P) h x y
  rw [Seg.uniq (P := P) h x y]
end
def IsRow (L : List Ln) (rows : Rw) : Prop := (L = [] ∧ rows = []) ∨ (L ≠ [] ∧ RowOf (IsTop L) rows)
theorem IsRow.uniq {L : List Ln} {a b : Rw} (x : IsRow L a) (y : IsRow L b) : a = b := by
  rcases x with ⟨e, rfl⟩ | ⟨n, x⟩ <;> rcases y with ⟨e', rfl⟩ | ⟨n', y⟩
  · rfl
  · exact absurd e n'
  · exact absurd e' n
  · exact x.uniq (fun h k => h.uniq k) y
theorem Seg.rise {L : List Ln} : ∀ {rest : Rw} {s : Option Rat} {r : Nat}, Seg (IsTop L) s r rest → List.Pairwise (fun (a b : Nat × Option Rat) => (ln L a.1).2 < (ln L b.1).2) ((r, s) :: rest) ∧ ∀ x ∈ (r, s) :: rest, x.1 < L.length
  | [], s, r, h => by
    obtain ⟨t, ht⟩ := ge_exists s
    refine ⟨List.pairwise_singleton _ _, fun x hx => ?_⟩
    rw [List.mem_singleton.mp hx]
    exact (h t ht).1
  | (r', some u) :: rest, s, r, h => by
    obtain ⟨i1, i2⟩ := Seg.rise h.2.2.2
    obtain ⟨t, ht, hu⟩ := gt_between h.1
    have a := h.2.1 t ht hu
    have b := Seg.at0 h.2.2.2
    have st := ahd_steep hu (a.2 r' b.1 (Ne.symm h.2.2.1)) (b.2 r a.1 h.2.2.1)
    refine ⟨List.pairwise_cons.mpr ⟨fun x hx => ?_, i1⟩, fun x hx => ?_⟩
    · rcases List.mem_cons.mp hx with rfl | hx
      · exact st
      · have := (List.pairwise_cons.mp i1).1 x hx
        show (ln L r).2 < (ln L x.1).2
        grind
    · rcases List.mem_cons.mp hx with rfl | hx
      · exact a.1
      · exact i2 x hx
  | (_, none) :: _, _, _, h => h.elim
theorem IsRow.rise {L : List Ln} {rows : Rw} (h : IsRow L rows) : List.Pairwise (fun (a b : Nat × Option Rat) => (ln L a.1).2 < (ln L b.1).2) rows ∧ ∀ x ∈ rows, x.1 < L.length := by
  rcases h with ⟨_, rfl⟩ | ⟨_, r, rest, rfl, h⟩
  · exact ⟨.nil, fun _ h => by cases h⟩
  · exact h.rise
/-- unlike numbers below n are at most n -/
theorem nodup_le : ∀ (n : Nat) (xs : List Nat), xs.Nodup → (∀ x ∈ xs, x < n) → xs.length ≤ n
  | 0, [], _, _ => Nat.le_refl _
  | 0, x :: _, _, h => absurd (h x (by simp)) (by omega)
  | n + 1, xs, nd, h => by
    have := nodup_le n (xs.filter (· != n)) (nd.filter _) (fun x hx => by
      obtain ⟨h1, h2⟩ := List.mem_filter.mp hx
      have := h x h1
      have : x ≠ n := by simpa using h2
      omega)
    have e : xs.length ≤ (xs.filter (· != n)).length + 1 := by
      clear this h
      induction xs with
      | nil => simp
      | cons y ys ih =>
        obtain ⟨n1, n2⟩ := List.nodup_cons.mp nd
        by_cases c : y = n
        · subst c
          have : ys.filter (· != y) = ys := List.filter_eq_self.mpr fun z hz => by
            have : z ≠ y := fun e => n1 (e ▸ hz)
            simpa using this
          rw [List.filter_cons_of_neg (by simp), this, List.length_cons]
          exact Nat.le_refl _
        · rw [List.filter_cons_of_pos (by simpa using c), List.length_cons, List.length_cons]
          have := ih n2
          omega
    omega
theorem IsRow.nd {L : List Ln} {rows : Rw} (h : IsRow L rows) : (rows.map (·.1)).Nodup := by
  unfold List.Nodup
  rw [List.pairwise_map]
  exact h.rise.1.imp fun {a b} h e => by rw [e] at h; exact absurd h (by grind)
theorem IsRow.len {L : List Ln} {rows : Rw} (h : IsRow L rows) : rows.length ≤ L.length := by
  have := nodup_le L.length (rows.map (·.1)) h.nd (fun x hx => by
    obtain ⟨y, hy, rfl⟩ := List.mem_map.mp hx
    exact h.rise.2 y hy)
  rwa [List.length_map] at this
instance : EncU (Nat × Option Rat) where
  uniq := prod_uniq
theorem atI_lastmap {α β : Type} {e : α → β} {xs : List α} {x : α} : atI ((xs ++ [x]).map e) (-1) = some (e x) := by rw [List.map_append]; exact L2.atI_last _ _
end DL
namespace DL
open PySem PySem.Spec PyProof.Rows L2
/-! ### rows read, the front -/
def rd (r : Nat) (rest : Rw) (t : Rat) : Nat := rest.foldl (fun acc x => match x.2 with
  | some u => if t < u then acc else x.1
  | none => acc) r
/-- those whose place none is greater than -/
def fr (L : List Ln) (t : Rat) (i : Nat) : Bool := !(L.any fun l => decide (at_ (ln L i) t < at_ l t))
end DL
namespace DL
open PySem PySem.Spec PyProof.Rows L2
theorem th_line' {n : Nat} (h : n ≤ 100000) : n ≤ sizeLine := Nat.le_trans h (by decide)
/-! ### rows of any numbers -/
instance : EncU (Int × Option Rat) where
  uniq := prod_uniq
/-- a slice -/
def cutG {α : Type} (xs : List α) (lo hi : Option Int) : List α := (xs.drop (HT.sIx xs.length 0 lo)).take (HT.sIx xs.length xs.length hi - HT.sIx xs.length 0 lo)
theorem cutD_map {α : Type} {e : α → D} {xs : List α} {lo hi : Option Int} : cutD (xs.map e) lo hi = (cutG xs lo hi).map e := by
  unfold cutD cutG; rw [List.length_map, List.map_take, List.map_drop]
theorem cutG_1 {α : Type} {xs : List α} : cutG xs (some 1) none = xs.drop 1 := by
  show (xs.drop (HT.sIx xs.length 0 (some ((1 : Nat) : Int)))).take (HT.sIx xs.length xs.length none - HT.sIx xs.length 0 (some ((1 : Nat) : Int))) = _
  rw [HT.sIx_nat, HT.sIx_none]
  by_cases h : 1 ≤ xs.length
  · rw [Nat.min_eq_left h, List.take_of_length_le (by rw [List.length_drop]; omega)]
  · rw [Nat.min_eq_right (by omega), List.drop_eq_nil_of_le (by omega), List.drop_eq_nil_of_le (by omega)]; simp
end DL
namespace DL
open PySem PySem.Spec PyProof.Rows L2
/-! ### covers -/
def Cov (L : List Ln) (r a b : Nat) : Prop := ∀ t, Ahd L a r t ∨ Ahd L b r t
theorem Cov.symm {L : List Ln} {r a b : Nat} (h : Cov L r a b) : Cov L r b a := fun t => (h t).symm
def eCv : Option (Nat × Nat) → D
  | none => .non
  | some p => .tup [.int (p.1 : Int), .int (p.2 : Int)]
/-! ### probes hit each stretch -/
theorem ahd_same {L : List Ln} {i j : Nat} {t u : Rat} (h : (ln L i).2 ≠ (ln L j).2 → (met (ln L i) (ln L j) ≤ t ↔ met (ln L i) (ln L j) ≤ u)) : Ahd L i j t ↔ Ahd L i j u := by
  by_cases e : (ln L i).2 = (ln L j).2
  · rw [ahd_eq e, ahd_eq e]
  · have := h e
    by_cases c : t < met (ln L i) (ln L j)
    · rw [ahd_lt e c, ahd_lt e (by grind)]
    · rw [ahd_ge e c, ahd_ge e (by grind)]
/-! ### covers looked at -/
def Alw (L : List Ln) (a r : Nat) : Prop := (ln L a).2 = (ln L r).2 ∧ Ahd L a r 0
def Jnt (L : List Ln) (r a b : Nat) : Prop := (ln L a).2 < (ln L r).2 ∧ (ln L r).2 < (ln L b).2 ∧ ¬ met (ln L a) (ln L r) < met (ln L b) (ln L r)
instance (L : List Ln) (a r : Nat) : Decidable (Alw L a r) := by unfold Alw; infer_instance
instance (L : List Ln) (r a b : Nat) : Decidable (Jnt L r a b) := by unfold Jnt; infer_instance
/-- a number of a runner -/
def Rn (L : List Ln) (r : Nat) (i : Int) : Prop := i ≠ (r : Int) ∧ 0 ≤ i ∧ i < (L.length : Int)
instance (L : List Ln) (r : Nat) (i : Int) : Decidable (Rn L r i) := by unfold Rn; infer_instance
theorem isNon_eCv (c : Option (Nat × Nat)) : isNon (eCv c) = c.isNone := by cases c <;> rfl
instance : EncU (Nat × Nat) where
  uniq := prod_uniq
instance : Enc (Option (Nat × Nat)) where
  enc := eCv
  py
    | none => .none
    | some q => Enc.py q
  isPy S a := by cases a with
    | none => exact .non
    | some q => exact Enc.isPy S q
  eqv a b := by
    cases a <;> cases b
    · simp [PyData.eqv]
    · rename_i q; simp [PyData.eqv, Enc.py]
    · rename_i q; simp [PyData.eqv, Enc.py]
    · rename_i p q; simp only [Enc.eqv]; exact decide_eq_decide.mpr (by simp)
  lay a := by cases a with
    | none => simp [PyData.canLay0]
    | some q => exact Enc.lay q
  dep := 1
  dep_le a := by cases a with
    | none => simp [PyData.depth]
    | some q => exact Enc.dep_le q
instance : EncU (Option (Nat × Nat)) where
  uniq S a p h := by
    cases a with
    | none => cases h; rfl
    | some q => exact EncU.uniq S q p h
theorem eCv_ni (o : Option (Nat × Nat)) : (∀ i, eCv o ≠ .int i) ∧ (∀ i, eCv o ≠ .bl i) ∧ (∀ i, eCv o ≠ .str i) := by
  cases o <;> (refine ⟨?_, ?_, ?_⟩ <;> intro i h <;> cases h)
theorem z_neCv {S : Sto} {Q : VK2} {a b : Option (Nat × Nat)} : rNe (eCv a) (eCv b) S Q = Q (.bl (!decide (a = b))) S := (rNe_ne (eCv_ni a).1 (eCv_ni a).2.1 (eCv_ni a).2.2).trans (eqD_ex (Q := fun c => Q (.bl (!c)) S) a b)
end DL
namespace DL
open PySem PySem.Spec PyProof.Rows L2
theorem nodup_sub {α : Type} [DecidableEq α] : ∀ {xs ys : List α}, xs.Nodup → (∀ x ∈ xs, x ∈ ys) → xs.length ≤ ys.length
  | [], _, _, _ => Nat.zero_le _
  | x :: xs, ys, h, s => by
    obtain ⟨h1, h2⟩ := List.nodup_cons.mp h
    have hx : x ∈ ys := s x (by simp)
    have := nodup_sub (ys := ys.erase x) h2 fun z hz => (List.mem_erase_of_ne (fun e : z = x => h1 (by rw [← e]; exact hz))).mpr (s z (List.mem_cons_of_mem _ hz))
    rw [List.length_erase_of_mem hx] at this
    have hp := List.length_pos_of_mem hx
    rw [List.length_cons]
    omega
end DL
namespace DL
open PySem PySem.Spec PyProof.Rows L2
/-! ### another pen -/
@[reducible] def penP (sc : List Int) (x y : Int) : O := .lst [.int x, .int y, .fl (sc.map D.int)]
def PenB (S : Sto) (a : Addr) (sc : List Int) : Prop := ∃ x y, S a = some (penP sc x y)
section
variable {S S' : Sto} {a p : Addr} {sc : List Int} {o : O} {x y : Int} {L : List Ln}
theorem penB_again : PenB (ups S a (penP sc x y)) a sc := ⟨x, y, ups_same⟩
theorem PenB.ne (h : PenB S a sc) (n : S p = none) : a ≠ p := let ⟨_, _, e⟩ := h; ne_of_st e n
theorem PenB.new (h : PenB S a sc) (n : S p = none) : PenB (ups S p o) a sc := let ⟨x, y, e⟩ := h; ⟨x, y, by rw [ups_ne (ne_of_st e n)]; exact e⟩
theorem PenB.upd (h : PenB S a sc) (n : a ≠ p) : PenB (ups S p o) a sc := let ⟨x, y, e⟩ := h; ⟨x, y, by rw [ups_ne n]; exact e⟩
theorem PenB.sub (h : PenB S a sc) (s : Sub S S') : PenB S' a sc := let ⟨x, y, e⟩ := h; ⟨x, y, s _ _ e⟩
end
/-! ### orders -/
structure IsOrd (L : List Ln) (t : Rat) (n : Nat) (O : List Nat) : Prop where
  pw : O.Pairwise fun i j => Ahd L i j t
  mem : ∀ i, i ∈ O ↔ i < n
theorem pw_ext {α : Type} {R : α → α → Prop} (as : ∀ a b, R a b → R b a → False) : ∀ {xs ys : List α}, xs.Pairwise R → ys.Pairwise R → (∀ z, z ∈ xs ↔ z ∈ ys) → xs = ys
  | [], [], _, _, _ => rfl
  | [], y :: ys, _, _, h => by have := (h y).mpr (by simp); cases this
  | x :: xs, [], _, _, h => by have := (h x).mp (by simp); cases this
  | x :: xs, y :: ys, hx, hy, h => by
    obtain ⟨x1, x2⟩ := List.pairwise_cons.mp hx
    obtain ⟨y1, y2⟩ := List.pairwise_cons.mp hy
    have e : x = y := by
      rcases List.mem_cons.mp ((h x).mp (by simp)) with e | e
      · exact e
      · rcases List.mem_cons.mp ((h y).mpr (by simp)) with e' | e'
        · exact e'.symm
        · exact (as _ _ (x1 y e') (y1 x e)).elim
    subst e
    rw [pw_ext as x2 y2 fun z => ?_]
    constructor
    · intro hz
      rcases List.mem_cons.mp ((h z).mp (List.mem_cons_of_mem _ hz)) with e | e
      · subst e; exact (as _ _ (x1 z hz) (x1 z hz)).elim
      · exact e
    · intro hz
      rcases List.mem_cons.mp ((h z).mpr (List.mem_cons_of_mem _ hz)) with e | e
      · subst e; exact (as _ _ (y1 z hz) (y1 z hz)).elim
      · exact e
theorem IsOrd.uniq {L : List Ln} {t : Rat} {n : Nat} {O O' : List Nat} (h : IsOrd L t n O) (k : IsOrd L t n O') : O = O' := pw_ext (fun _ _ a b => ahd_asymm a b) h.pw k.pw fun z => by rw [h.mem, k.mem]
theorem IsOrd.nil {L : List Ln} {t : Rat} : IsOrd L t 0 [] := ⟨.nil, fun i => ⟨fun h => (by cases h), fun h => (by omega)⟩⟩
theorem IsOrd.nd {L : List Ln} {t : Rat} {n : Nat} {O : List Nat} (h : IsOrd L t n O) : O.Nodup := h.pw.imp fun {a b} x e => by subst e; exact ahd_irr x
theorem IsOrd.len {L : List Ln} {t : Rat} {n : Nat} {O : List Nat} (h : IsOrd L t n O) : O.length = n := by
  have h1 := nodup_le n O h.nd fun x hx => (h.mem x).mp hx
  have h2 := nodup_sub (xs := List.range n) (ys := O) List.nodup_range fun x hx => (h.mem x).mpr (List.mem_range.mp hx)
  rw [List.length_range] at h2
  omega
/-- one more, put where those behind begin -/
theorem IsOrd.ins {L : List Ln} {t : Rat} {n k : Nat} {O : List Nat} (h : IsOrd L t n O) (h1 : ∀ i ∈ O.take k, Ahd L i n t) (h2 : ∀ i ∈ O.drop k, Ahd L n i t) : IsOrd L t (n + 1) (O.take k ++ [n] ++ O.drop k) := by
  have hp := h.pw
  rw [← List.take_append_drop k O] at hp
  obtain ⟨p1, p2, p3⟩ := List.pairwise_append.mp hp
  constructor
  · rw [List.append_assoc]
    refine List.pairwise_append.mpr ⟨p1, List.pairwise_cons.mpr ⟨h2, p2⟩, fun a ha b hb => ?_⟩
    rcases List.mem_cons.mp hb with rfl | hb
    · exact h1 a ha
    · exact p3 a ha b hb
  · intro i
    have : i ∈ O ↔ i ∈ O.take k ∨ i ∈ O.drop k := by rw [← List.mem_append, List.take_append_drop]
    have hm := h.mem i
    simp only [List.mem_append, List.mem_singleton]
    constructor
    · rintro ((a | a) | a)
      · have := hm.mp (this.mpr (.inl a)); omega
      · omega
      · have := hm.mp (this.mpr (.inr a)); omega
    · intro a
      by_cases e : i = n
      · exact .inl (.inr e)
      · rcases this.mp (hm.mpr (by omega)) with b | b
        · exact .inl (.inl b)
        · exact .inr b
/-- the law's way: those not behind, the new one, those behind -/
theorem ord_filter {L : List Ln} {t : Rat} {n : Nat} {O : List Nat} (h : IsOrd L t n O) : IsOrd L t (n + 1) (O.filter (fun o => !decide (Ahd L n o t)) ++ [n] ++ O.filter fun o => decide (Ahd L n o t)) := by
  constructor
  · rw [List.append_assoc]
    refine List.pairwise_append.mpr ⟨h.pw.filter _, List.pairwise_cons.mpr ⟨fun b hb => by simpa using (List.mem_filter.mp hb).2, h.pw.filter _⟩, fun a ha b hb => ?_⟩
    obtain ⟨a1, a2⟩ := List.mem_filter.mp ha
    have a2 : ¬ Ahd L n a t := by simpa using a2
    have ha' : Ahd L a n t := (ahd_total (L := L) (t := t) (i := a) (j := n) (by have := (h.mem a).mp a1; omega)).resolve_right a2
    rcases List.mem_cons.mp hb with rfl | hb
    · exact ha'
    · exact ahd_trans ha' (by simpa using (List.mem_filter.mp hb).2)
  · intro i
    have hm := h.mem i
    simp only [List.mem_append, List.mem_singleton, List.mem_filter]
    constructor
    · rintro ((a | a) | a)
      · have := hm.mp a.1; omega
      · omega
      · have := hm.mp a.1; omega
    · intro a
      by_cases e : i = n
      · exact .inl (.inr e)
      · have := hm.mpr (by omega)
        by_cases c : Ahd L n i t
        · exact .inr ⟨this, by simpa using c⟩
        · exact .inl (.inl ⟨this, by simpa using c⟩)
end DL
namespace DL
open PySem PySem.Spec PyProof.Rows L2
/-! ### nested data, as == reads it -/
class PyV (α : Type) [DecidableEq α] where
  py : α → PyData
  eqv : ∀ a b, PyData.eqv (py a) (py b) = decide (a = b)
  lay : ∀ a, (py a).canLay0 = true
  dep : Nat
  dep_le : ∀ a, (py a).depth ≤ dep
/-- no None -/
class PyN (α : Type) [DecidableEq α] [PyV α] : Prop where
  nn : ∀ a : α, PyData.eqv .none (PyV.py a) = false ∧ PyData.eqv (PyV.py a) .none = false
structure Tri (α β γ : Type) where
  a : α
  b : β
  c : γ
deriving DecidableEq
instance (priority := 2000) pyvEnc {α : Type} [DecidableEq α] [Enc α] : PyV α where
  py := Enc.py
  eqv := Enc.eqv
  lay := Enc.lay
  dep := Enc.dep α
  dep_le := Enc.dep_le
section
variable {α β γ : Type} [DecidableEq α] [DecidableEq β] [DecidableEq γ]
section
variable [PyV α] [PyV β] [PyV γ]
theorem pyv_all : ∀ xs ys : List α, PyData.eqvAll (xs.map PyV.py) (ys.map PyV.py) = decide (xs = ys)
  | [], [] => by simp [PyData.eqvAll]
  | [], _ :: _ => by simp [PyData.eqvAll]
  | _ :: _, [] => by simp [PyData.eqvAll]
  | x :: xs, y :: ys => by
    simp only [List.map_cons, PyData.eqvAll]
    rw [PyV.eqv x y, pyv_all xs ys, ← Bool.decide_and]
    exact decide_eq_decide.mpr (by rw [List.cons.injEq])
theorem pyv_lay : ∀ xs : List α, PyData.canLayAll0 (xs.map PyV.py) = true
  | [] => by simp [PyData.canLayAll0]
  | x :: xs => by simp [PyData.canLayAll0, PyV.lay x, pyv_lay xs]
theorem pyv_dep : ∀ xs : List α, PyData.depthAll (xs.map PyV.py) ≤ PyV.dep α
  | [] => by simp [PyData.depthAll]
  | x :: xs => by
    have h1 := pyv_dep xs
    have h2 := PyV.dep_le x
    simp only [List.map_cons, PyData.depthAll]
    omega
instance : PyV (List α) where
  py xs := .list (xs.map PyV.py)
  eqv a b := by simp only [PyData.eqv]; exact pyv_all a b
  lay a := by simp only [PyData.canLay0]; exact pyv_lay a
  dep := PyV.dep α + 1
  dep_le a := by simp only [PyData.depth]; have := pyv_dep a; omega
instance : PyV (α × β) where
  py p := .tuple [PyV.py p.1, PyV.py p.2]
  eqv a b := by
    simp only [PyData.eqv, PyData.eqvAll]
    rw [Bool.and_true, PyV.eqv, PyV.eqv, ← Bool.decide_and]
    exact decide_eq_decide.mpr ⟨fun h => Prod.ext h.1 h.2, fun h => by rw [h]; exact ⟨rfl, rfl⟩⟩
  lay p := by simp [PyData.canLay0, PyData.canLayAll0, PyV.lay]
  dep := max (PyV.dep α) (PyV.dep β) + 1
  dep_le p := by
    simp only [PyData.depth, PyData.depthAll]
    have h1 := PyV.dep_le p.1
    have h2 := PyV.dep_le p.2
    omega
instance : PyV (Tri α β γ) where
  py p := .tuple [PyV.py p.a, PyV.py p.b, PyV.py p.c]
  eqv x y := by
    simp only [PyData.eqv, PyData.eqvAll]
    rw [Bool.and_true, PyV.eqv, PyV.eqv, PyV.eqv, ← Bool.decide_and, ← Bool.decide_and]
    exact decide_eq_decide.mpr (by cases x; cases y; simp)
  lay p := by simp [PyData.canLay0, PyData.canLayAll0, PyV.lay]
  dep := max (PyV.dep α) (max (PyV.dep β) (PyV.dep γ)) + 1
  dep_le p := by
    simp only [PyData.depth, PyData.depthAll]
    have h1 := PyV.dep_le p.a
    have h2 := PyV.dep_le p.b
    have h3 := PyV.dep_le p.c
    omega
instance : PyN (List α) where
  nn a := by constructor <;> simp only [PyV.py, PyData.eqv]
instance : PyN (α × β) where
  nn a := by constructor <;> simp only [PyV.py, PyData.eqv]
instance : PyN (Tri α β γ) where
  nn a := by constructor <;> simp only [PyV.py, PyData.eqv]
instance (priority := low) [PyN α] : PyV (Option α) where
  py
    | none => .none
    | some a => PyV.py a
  eqv a b := by
    cases a <;> cases b
    · simp [PyData.eqv]
    · simp only [(PyN.nn _).1]; simp
    · simp only [(PyN.nn _).2]; simp
    · simp only [PyV.eqv]; exact decide_eq_decide.mpr (by simp)
  lay a := by cases a with
    | none => simp [PyData.canLay0]
    | some q => exact PyV.lay q
  dep := PyV.dep α
  dep_le a := by cases a with
    | none => simp [PyData.depth]
    | some q => exact PyV.dep_le q
end
/-- d stands for a -/
abbrev Rep [PyV α] (S : Sto) (d : D) (a : α) : Prop := Py S d (PyV.py a)
section
variable {S : Sto} {Q : VK2} {d e : D}
theorem rNe_of {c : Bool} (h : EqD S d e c) (q : Q (.bl (!c)) S) : rNe d e S Q := by
  obtain ⟨p, r, h1, h2, s1, s2, rfl⟩ := h
  unfold rNe
  split
  · cases h1; cases h2; simp only [PyData.eqv] at q; rwa [show decide (_ = _) = (_ == _) from (Bool.beq_eq_decide_eq _ _).symm]
  · cases h1; cases h2; simp only [PyData.eqv] at q; rwa [show decide (_ = _) = (_ == _) from (Bool.beq_eq_decide_eq _ _).symm]
  · cases h1; cases h2; simp only [PyData.eqv] at q; rwa [show decide (_ = _) = (_ == _) from (Bool.beq_eq_decide_eq _ _).symm]
  · exact ⟨_, ⟨p, r, h1, h2, s1, s2, rfl⟩, q⟩
theorem rep_enc [Enc α] (a : α) : Rep S (Enc.enc a) a := Enc.isPy S a
theorem rep_pair [PyV α] [PyV β] {a : α} {b : β} (h1 : Rep S d a) (h2 : Rep S e b) : Rep S (.tup [d, e]) (a, b) := .tup (.cons h1 (.cons h2 .nil))
theorem pys_map [PyV α] {δ : Type} {f : δ → D} {g : δ → α} : ∀ {xs : List δ}, (∀ x ∈ xs, Rep S (f x) (g x)) → Pys S (xs.map f) ((xs.map g).map PyV.py)
  | [], _ => .nil
  | x :: xs, h => .cons (h x (by simp)) (pys_map fun y hy => h y (List.mem_cons_of_mem _ hy))
theorem rep_list [PyV α] {δ : Type} {f : δ → D} {g : δ → α} {a : Addr} {xs : List δ} (h : S a = some (.lst (xs.map f))) (k : ∀ x ∈ xs, Rep S (f x) (g x)) : Rep S (.ref a) (xs.map g) := .lst h (pys_map k)
theorem rep_lst [Enc α] {a : Addr} {xs : List α} (h : S a = some (.lst (xs.map Enc.enc))) : Rep S (.ref a) xs := .lst h (pys_enc xs)
end
/-! ### threes -/
section
variable [Enc α] [Enc β] [Enc γ]
@[reducible] def eT (x : Tri α β γ) : D := .tup [Enc.enc x.a, Enc.enc x.b, Enc.enc x.c]
instance : Enc (Tri α β γ) where
  enc := eT
  py p := .tuple [Enc.py p.a, Enc.py p.b, Enc.py p.c]
  isPy S p := .tup (.cons (Enc.isPy S p.a) (.cons (Enc.isPy S p.b) (.cons (Enc.isPy S p.c) .nil)))
  eqv x y := by
    simp only [PyData.eqv, PyData.eqvAll]
    rw [Bool.and_true, Enc.eqv, Enc.eqv, Enc.eqv, ← Bool.decide_and, ← Bool.decide_and]
    exact decide_eq_decide.mpr (by cases x; cases y; simp)
  lay p := by simp [PyData.canLay0, PyData.canLayAll0, Enc.lay]
  dep := max (Enc.dep α) (max (Enc.dep β) (Enc.dep γ)) + 1
  dep_le p := by
    simp only [PyData.depth, PyData.depthAll]
    have h1 := Enc.dep_le p.a
    have h2 := Enc.dep_le p.b
    have h3 := Enc.dep_le p.c
    omega
def eTO : Option (Tri α β γ) → D
  | none => .non
  | some x => eT x
theorem eTO_none : eTO (none : Option (Tri α β γ)) = .non := rfl
theorem eTO_some (x : Tri α β γ) : eTO (some x) = .tup [Enc.enc x.a, Enc.enc x.b, Enc.enc x.c] := rfl
theorem isNon_eTO (o : Option (Tri α β γ)) : isNon (eTO o) = o.isNone := by cases o <;> rfl
instance : Enc (Option (Tri α β γ)) where
  enc := eTO
  py
    | none => .none
    | some q => Enc.py q
  isPy S a := by cases a with
    | none => exact .non
    | some q => exact Enc.isPy S q
  eqv a b := by
    cases a <;> cases b
    · simp [PyData.eqv]
    · rename_i q; simp [PyData.eqv, Enc.py]
    · rename_i q; simp [PyData.eqv, Enc.py]
    · rename_i p q; simp only [Enc.eqv]; exact decide_eq_decide.mpr (by simp)
  lay a := by cases a with
    | none => simp [PyData.canLay0]
    | some q => exact Enc.lay q
  dep := Enc.dep (Tri α β γ)
  dep_le a := by cases a with
    | none => simp [PyData.depth]
    | some q => exact Enc.dep_le q
end
end
/-! ### neighbours -/
def prs (O : List Nat) : List (Nat × Nat) := O.zip (O.drop 1)
theorem prs_mem {O : List Nat} {p : Nat × Nat} (h : p ∈ prs O) : p.1 ∈ O ∧ p.2 ∈ O := by
  have := List.of_mem_zip (a := p.1) (b := p.2) h
  exact ⟨this.1, List.mem_of_mem_drop this.2⟩
theorem snoc_ind {α : Type} {P : List α → Prop} (h0 : P []) (h1 : ∀ xs x, P xs → P (xs ++ [x])) : ∀ xs, P xs := fun xs => by
  rw [← List.reverse_reverse xs]
  induction xs.reverse with
  | nil => exact h0
  | cons x r ih => rw [List.reverse_cons]; exact h1 _ _ ih
section
variable {S : Sto}
theorem enc_nat (n : Nat) : Enc.enc n = D.int (n : Int) := rfl
theorem enc_int (n : Int) : Enc.enc n = D.int n := rfl
theorem enc_bl (n : Bool) : Enc.enc n = D.bl n := rfl
theorem enc_rat (q : Rat) : Enc.enc q = D.tup [.int q.num, .int (q.den : Int)] := rfl
theorem enc_opt (q : Option Rat) : Enc.enc q = eO q := rfl
theorem cut3_2 {a b c : D} : cutD [a, b, c] none (some 2) = [a, b] := rfl
end
/-! ### papers -/
abbrev Ppr := Tri Nat Nat (Option Rat)
def pprs (L : List Ln) (t : Rat) (O : List Nat) : List Ppr := (prs O).map fun p => ⟨p.1, p.2, nxt L p.1 p.2 t⟩
theorem nxt_nz {L : List Ln} (h : LOk L) {i j : Nat} (hi : i < L.length) (hj : j < L.length) {t u : Rat} (e : nxt L i j t = some u) : Nz 1210 u := by
  unfold nxt at e
  split at e
  · next c => cases e; exact (h.at hi).met (h.at hj) c.1
  · cases e
/-! ### right papers -/
abbrev PprI := Tri Int Int (Option Rat)
@[reducible] def eI3 (x : PprI) : D := .tup [.int x.a, .int x.b, eO x.c]
def okT (t : Rat) : Option Rat → Bool
  | none => true
  | some u => decide (t < u)
/-- change, till -/
def okC : Option Rat → Option Rat → Bool
  | none, _ => true
  | some _, none => false
  | some v, some u => !decide (v < u)
def Rnn (n : Nat) (i j : Int) : Prop := i ≠ j ∧ (0 ≤ i ∧ i < (n : Int)) ∧ (0 ≤ j ∧ j < (n : Int))
instance (n : Nat) (i j : Int) : Decidable (Rnn n i j) := by unfold Rnn; infer_instance
def rtB (L : List Ln) (t : Rat) (x : PprI) : Bool := decide (Rnn L.length x.a x.b) && (okT t x.c && (decide (Ahd L x.a.toNat x.b.toNat t) && okC (nxt L x.a.toNat x.b.toNat t) x.c))
end DL
namespace DL
open PySem PySem.Spec PyProof.Rows L2
/-! ### pairs by times -/
abbrev Pr := Nat × Nat
@[reducible] def eP2 (p : Pr) : D := .tup [.int (p.1 : Int), .int (p.2 : Int)]
def pref (n i j : Nat) : List Pr := ((List.range i).flatMap fun a => (List.range n).map fun b => (a, b)) ++ (List.range j).map fun b => (i, b)
def allP (n : Nat) : List Pr := pref n n 0
theorem pref_mem {n i j : Nat} {p : Pr} (h : p ∈ pref n i j) (hj : j ≤ n) : (p.1 < i ∧ p.2 < n) ∨ (p.1 = i ∧ p.2 < j) := by
  unfold pref at h
  rcases List.mem_append.mp h with h | h
  · obtain ⟨a, ha, h⟩ := List.mem_flatMap.mp h
    obtain ⟨b, hb, rfl⟩ := List.mem_map.mp h
    exact .inl ⟨List.mem_range.mp ha, List.mem_range.mp hb⟩
  · obtain ⟨b, hb, rfl⟩ := List.mem_map.mp h
    exact .inr ⟨rfl, List.mem_range.mp hb⟩
theorem allP_mem {n : Nat} {p : Pr} : p ∈ allP n ↔ p.1 < n ∧ p.2 < n := by
  constructor
  · intro h
    rcases pref_mem h (Nat.zero_le _) with h | h
    · exact h
    · omega
  · rintro ⟨h1, h2⟩
    unfold allP pref
    refine List.mem_append_left _ (List.mem_flatMap.mpr ⟨p.1, List.mem_range.mpr h1, List.mem_map.mpr ⟨p.2, List.mem_range.mpr h2, rfl⟩⟩)
abbrev Grp := List (Rat × List Pr)
structure IsGrp (tm : Pr → Option Rat) (ps : List Pr) (C : Grp) : Prop where
  inc : Inc (C.map (·.1))
  mem : ∀ t, t ∈ C.map (·.1) ↔ ∃ p ∈ ps, tm p = some t
  grp : ∀ x ∈ C, x.2 = ps.filter fun p => decide (tm p = some x.1)
  len : C.length ≤ ps.length
section
variable {tm : Pr → Option Rat} {ps : List Pr} {C C' : Grp} {p : Pr} {t : Rat} {k : Nat}
theorem IsGrp.nil : IsGrp tm [] [] := ⟨.nil, fun t => ⟨fun h => (by cases h), fun ⟨_, h, _⟩ => (by cases h)⟩, fun _ h => (by cases h), Nat.le_refl _⟩
theorem IsGrp.uniq (h : IsGrp tm ps C) (k : IsGrp tm ps C') : C = C' := by
  have e := inc_ext h.inc k.inc fun t => by rw [h.mem, k.mem]
  apply List.ext_getElem?
  intro i
  have e2 := congrArg (·[i]?) e
  simp only [List.getElem?_map] at e2
  cases h1 : C[i]? with
  | none =>
    rw [h1] at e2
    cases h2 : C'[i]? with
    | none => rfl
    | some y => rw [h2] at e2; cases e2
  | some x =>
    rw [h1] at e2
    cases h2 : C'[i]? with
    | none => rw [h2] at e2; cases e2
    | some y =>
      rw [h2] at e2
      have e3 : x.1 = y.1 := Option.some.inj e2
      have g1 := h.grp x (List.mem_of_getElem? h1)
      have g2 := k.grp y (List.mem_of_getElem? h2)
      rw [e3] at g1
      exact congrArg some (Prod.ext e3 (g1.trans g2.symm))
theorem inc_ins {M : List Rat} (h : Inc M) (h1 : ∀ x ∈ M.take k, x < t) (h2 : ∀ x ∈ M.drop k, t < x) : Inc (M.take k ++ [t] ++ M.drop k) := by
  have h' : Inc (M.take k ++ M.drop k) := by rw [List.take_append_drop]; exact h
  obtain ⟨a1, a2, a3⟩ := List.pairwise_append.mp h'
  refine List.pairwise_append.mpr ⟨List.pairwise_append.mpr ⟨a1, List.pairwise_singleton _ _, fun x hx y hy => ?_⟩, a2, fun x hx y hy => ?_⟩
  · rw [List.mem_singleton.mp hy]; exact h1 x hx
  · rcases List.mem_append.mp hx with hx | hx
    · exact a3 x hx y hy
    · rw [List.mem_singleton.mp hx]; exact h2 y hy
theorem IsGrp.ins (h : IsGrp tm ps C) (e : tm p = some t) (h1 : ∀ x ∈ C.take k, x.1 < t) (h2 : ∀ x ∈ C.drop k, t < x.1) : IsGrp tm (ps ++ [p]) (C.take k ++ [(t, [p])] ++ C.drop k) := by
  have hm : ∀ x, x ∈ C.take k ++ [(t, [p])] ++ C.drop k ↔ x ∈ C ∨ x = (t, [p]) := fun x => by
    rw [List.mem_append, List.mem_append, List.mem_singleton]
    constructor
    · rintro ((h | h) | h)
      · exact .inl (List.mem_of_mem_take h)
      · exact .inr h
      · exact .inl (List.mem_of_mem_drop h)
    · rintro (h | h)
      · rw [← List.take_append_drop k C] at h
        rcases List.mem_append.mp h with h | h
        · exact .inl (.inl h)
        · exact .inr h
      · exact .inl (.inr h)
  have hne : ∀ x ∈ C, x.1 ≠ t := fun x hx => by
    rw [← List.take_append_drop k C] at hx
    rcases List.mem_append.mp hx with hx | hx
    · have := h1 x hx; grind
    · have := h2 x hx; grind
  have hno : ∀ q ∈ ps, tm q ≠ some t := fun q hq z => by
    obtain ⟨x, hx, hx2⟩ := List.mem_map.mp ((h.mem t).mpr ⟨q, hq, z⟩)
    exact hne x hx hx2
  refine ⟨?_, fun u => ?_, fun x hx => ?_, ?_⟩
  · rw [List.map_append, List.map_append, List.map_take, List.map_drop]
    refine inc_ins h.inc (fun x hx => ?_) fun x hx => ?_
    · rw [← List.map_take] at hx; obtain ⟨y, hy, rfl⟩ := List.mem_map.mp hx; exact h1 y hy
    · rw [← List.map_drop] at hx; obtain ⟨y, hy, rfl⟩ := List.mem_map.mp hx; exact h2 y hy
  · constructor
    · intro hu
      obtain ⟨x, hx, rfl⟩ := List.mem_map.mp hu
      rcases (hm x).mp hx with hx | rfl
      · obtain ⟨q, hq, hq2⟩ := (h.mem x.1).mp (List.mem_map.mpr ⟨x, hx, rfl⟩)
        exact ⟨q, List.mem_append_left _ hq, hq2⟩
      · exact ⟨p, by simp, e⟩
    · rintro ⟨q, hq, hq2⟩
      rcases List.mem_append.mp hq with hq | hq
      · obtain ⟨x, hx, rfl⟩ := List.mem_map.mp ((h.mem u).mpr ⟨q, hq, hq2⟩)
        exact List.mem_map.mpr ⟨x, (hm x).mpr (.inl hx), rfl⟩
      · rw [List.mem_singleton.mp hq, e] at hq2
        cases hq2
        exact List.mem_map.mpr ⟨(t, [p]), (hm _).mpr (.inr rfl), rfl⟩
  · rcases (hm x).mp hx with hx | rfl
    · rw [h.grp x hx, List.filter_append]
      have : ¬ tm p = some x.1 := fun z => hne x hx (by rw [e] at z; exact (Option.some.inj z).symm)
      simp [this]
    · rw [List.filter_append, List.filter_eq_nil_iff.mpr fun q hq => by simpa using hno q hq]
      simp [e]
  · have hl := h.len
    simp only [List.length_append, List.length_take, List.length_drop, List.length_cons, List.length_nil]
    omega
theorem IsGrp.app (h : IsGrp tm ps C) (e : tm p = some t) (hk : k < C.length) (ht : C[k].1 = t) : IsGrp tm (ps ++ [p]) (C.set k (t, C[k].2 ++ [p])) := by
  have ef : (C.set k (t, C[k].2 ++ [p])).map (·.1) = C.map (·.1) := by
    rw [List.map_set]
    have : (t : Rat) = (C.map (·.1))[k]'(by rw [List.length_map]; exact hk) := by rw [List.getElem_map]; exact ht.symm
    show (C.map (·.1)).set k t = _
    rw [this, List.set_getElem_self]
  refine ⟨by rw [ef]; exact h.inc, fun u => ?_, fun x hx => ?_, ?_⟩
  · rw [ef, h.mem]
    constructor
    · rintro ⟨q, hq, hq2⟩; exact ⟨q, List.mem_append_left _ hq, hq2⟩
    · rintro ⟨q, hq, hq2⟩
      rcases List.mem_append.mp hq with hq | hq
      · exact ⟨q, hq, hq2⟩
      · rw [List.mem_singleton.mp hq, e] at hq2
        cases hq2
        rw [← h.mem, ← ht]
        exact List.mem_map.mpr ⟨C[k], List.getElem_mem hk, rfl⟩
  · obtain ⟨i, hi, rfl⟩ := List.getElem_of_mem hx
    rw [List.length_set] at hi
    rw [List.getElem_set]
    split
    · next ek =>
      subst ek
      rw [List.filter_append, h.grp _ (List.getElem_mem hk), ht]
      simp [e]
    · next ek =>
      rw [h.grp _ (List.getElem_mem hi), List.filter_append]
      have : ¬ tm p = some (C[i].1) := fun z => by
        rw [e] at z
        have z : t = C[i].1 := Option.some.inj z
        have inc := h.inc
        have pw := List.pairwise_iff_getElem.mp inc
        have l1 : (C.map (·.1)).length = C.length := List.length_map ..
        rcases Nat.lt_or_gt_of_ne ek with hlt | hlt
        · have := pw k i (by omega) (by omega) hlt
          rw [List.getElem_map, List.getElem_map] at this
          grind
        · have := pw i k (by omega) (by omega) hlt
          rw [List.getElem_map, List.getElem_map] at this
          grind
      simp [this]
  · rw [List.length_set, List.length_append]; have := h.len; omega
end
/-! ### such lists in the store -/
structure GI where
  t : Rat
  a : Addr
  ps : List Pr
@[reducible] def eG (x : GI) : D := .tup [eQ x.t, .ref x.a]
def toC (E : List GI) : Grp := E.map fun x => (x.t, x.ps)
structure GrpM (S : Sto) (f : Addr) (E : List GI) : Prop where
  st : S f = some (.lst (E.map eG))
  at_ : ∀ x ∈ E, S x.a = some (.lst (x.ps.map eP2))
structure GrpF (S : Sto) (f : Addr) (E : List GI) : Prop where
  nd : (f :: E.map (·.a)).Nodup
  fr : ∀ b ∈ f :: E.map (·.a), S b = none
section
variable {S S' S0 : Sto} {f a p : Addr} {E : List GI} {o : O}
theorem GrpM.sub (h : GrpM S f E) (s : Sub S S') : GrpM S' f E := ⟨s _ _ h.st, fun x hx => s _ _ (h.at_ x hx)⟩
theorem GrpM.rep (h : GrpM S f E) : Rep S (.ref f) (toC E) := rep_list h.st fun x hx => rep_pair (rep_enc x.t) (rep_lst (h.at_ x hx))
end
def tmW (L : List Ln) (lo hi : Rat) (p : Pr) : Option Rat := if (ln L p.1).2 < (ln L p.2).2 ∧ lo < met (ln L p.1) (ln L p.2) ∧ ¬ hi < met (ln L p.1) (ln L p.2) then some (met (ln L p.1) (ln L p.2)) else none
def Put (C : Grp) (t : Rat) (p : Pr) (C' : Grp) : Prop :=
  (∃ k, C' = C.take k ++ [(t, [p])] ++ C.drop k ∧ (∀ x ∈ C.take k, x.1 < t) ∧ ∀ x ∈ C.drop k, t < x.1) ∨ ∃ (k : Nat) (hk : k < C.length), C[k].1 = t ∧ C' = C.set k (t, C[k].2 ++ [p])
theorem IsGrp.put {tm : Pr → Option Rat} {ps : List Pr} {C C' : Grp} {p : Pr} {t : Rat} (h : IsGrp tm ps C) (e : tm p = some t) (k : Put C t p C') : IsGrp tm (ps ++ [p]) C' := by
  rcases k with ⟨k, rfl, h1, h2⟩ | ⟨k, hk, h1, rfl⟩
  · exact h.ins e h1 h2
  · exact h.app e hk h1
section
variable {S S' S0 : Sto} {f a b : Addr} {E : List GI} {o : O} {t : Rat} {p : Pr} {k : Nat}
theorem GrpF.ins (h : GrpF S0 f E) (nb : S0 b = none) (hb : b ∉ f :: E.map (·.a)) {ps : List Pr} : GrpF S0 f (E.take k ++ [(⟨t, b, ps⟩ : GI)] ++ E.drop k) := by
  have hp : (f :: (E.take k ++ [(⟨t, b, ps⟩ : GI)] ++ E.drop k).map (·.a)).Perm (b :: f :: E.map (·.a)) := by
    rw [List.map_append, List.map_append, List.append_assoc, List.map_cons, List.map_nil]
    have e : f :: (List.map (·.a) (E.take k) ++ ([b] ++ List.map (·.a) (E.drop k))) = (f :: List.map (·.a) (E.take k)) ++ b :: List.map (·.a) (E.drop k) := rfl
    have e2 : b :: f :: E.map (·.a) = b :: ((f :: List.map (·.a) (E.take k)) ++ List.map (·.a) (E.drop k)) := by
      rw [List.cons_append, ← List.map_append, List.take_append_drop]
    rw [e, e2]
    exact List.perm_middle
  refine ⟨hp.nodup_iff.mpr (List.nodup_cons.mpr ⟨hb, h.nd⟩), fun c hc => ?_⟩
  rcases List.mem_cons.mp (hp.mem_iff.mp hc) with rfl | hc
  · exact nb
  · exact h.fr c hc
theorem GrpM.ins (h : GrpM S f E) (nb : S b = none) (hf : ∀ x ∈ E, x.a ≠ f) {ps : List Pr} : GrpM (ups (ups (ups S b (.lst [])) f (.lst ((E.take k ++ [(⟨t, b, ps⟩ : GI)] ++ E.drop k).map eG))) b (.lst (ps.map eP2))) f (E.take k ++ [(⟨t, b, ps⟩ : GI)] ++ E.drop k) := by
  have hfb : f ≠ b := ne_of_st h.st nb
  refine ⟨by rw [ups_ne hfb, ups_same], fun x hx => ?_⟩
  have : x ∈ E ∨ x = (⟨t, b, ps⟩ : GI) := by
    rcases List.mem_append.mp hx with hx | hx
    · rcases List.mem_append.mp hx with hx | hx
      · exact .inl (List.mem_of_mem_take hx)
      · exact .inr (List.mem_singleton.mp hx)
    · exact .inl (List.mem_of_mem_drop hx)
  rcases this with hx | rfl
  · have e1 := ne_of_st (h.at_ x hx) nb
    rw [ups_ne e1, ups_ne (hf x hx), ups_ne e1]
    exact h.at_ x hx
  · exact ups_same
theorem GrpF.ne (h : GrpF S0 f E) : ∀ x ∈ E, x.a ≠ f := fun x hx e => (List.nodup_cons.mp h.nd).1 (e ▸ List.mem_map.mpr ⟨x, hx, rfl⟩)
theorem GrpF.app (h : GrpF S0 f E) (hk : k < E.length) {ps : List Pr} : GrpF S0 f (E.set k ⟨t, E[k].a, ps⟩) := by
  have e : (E.set k ⟨t, E[k].a, ps⟩).map (·.a) = E.map (·.a) := by
    rw [List.map_set]
    have : (E[k].a : Addr) = (E.map (·.a))[k]'(by rw [List.length_map]; exact hk) := by rw [List.getElem_map]
    show (E.map (·.a)).set k E[k].a = _
    rw [this, List.set_getElem_self]
  exact ⟨by rw [e]; exact h.nd, by rw [e]; exact h.fr⟩
theorem GrpM.app (h : GrpM S f E) (hF : GrpF S0 f E) (hk : k < E.length) {ps : List Pr} : GrpM (ups S E[k].a (.lst (ps.map eP2))) f (E.set k ⟨E[k].t, E[k].a, ps⟩) := by
  have hne := hF.ne E[k] (List.getElem_mem hk)
  refine ⟨?_, fun x hx => ?_⟩
  · rw [ups_ne hne.symm, List.map_set]
    have : eG ⟨E[k].t, E[k].a, ps⟩ = (E.map eG)[k]'(by rw [List.length_map]; exact hk) := by rw [List.getElem_map]
    rw [this, List.set_getElem_self]
    exact h.st
  · obtain ⟨i, hi, rfl⟩ := List.getElem_of_mem hx
    rw [List.length_set] at hi
    rw [List.getElem_set]
    split
    · exact ups_same
    · next ek =>
      have hn : E[i].a ≠ E[k].a := fun z => by
        have nd := (List.nodup_cons.mp hF.nd).2
        have l1 : (E.map (·.a)).length = E.length := List.length_map ..
        have pw := List.pairwise_iff_getElem.mp nd
        rcases Nat.lt_or_gt_of_ne ek with hlt | hlt
        · exact pw k i (by omega) (by omega) hlt (by rw [List.getElem_map, List.getElem_map]; exact z.symm)
        · exact pw i k (by omega) (by omega) hlt (by rw [List.getElem_map, List.getElem_map]; exact z)
      rw [ups_ne hn]
      exact h.at_ _ (List.getElem_mem hi)
end
theorem IsGrp.nz {tm : Pr → Option Rat} {n : Nat} {ps : List Pr} {E : List GI} (h : IsGrp tm ps (toC E)) (hp : ∀ p ∈ ps, p.1 < n ∧ p.2 < n) (k : ∀ p t, p.1 < n → p.2 < n → tm p = some t → Nz 1210 t) : ∀ x ∈ E, Nz 1210 x.t := fun x hx => by
  obtain ⟨p, hp2, e⟩ := (h.mem x.t).mp (List.mem_map.mpr ⟨(x.t, x.ps), List.mem_map.mpr ⟨x, hx, rfl⟩, rfl⟩)
  exact k p _ (hp p hp2).1 (hp p hp2).2 e
theorem grp_mk {tm : Pr → Option Rat} {ps : List Pr} {C : Grp} (inc : Inc (C.map (·.1))) (mem : ∀ t, t ∈ C.map (·.1) ↔ ∃ p ∈ ps, tm p = some t) (grp : ∀ x ∈ C, x.2 = ps.filter fun p => decide (tm p = some x.1)) : IsGrp tm ps C := by
  refine ⟨inc, mem, grp, ?_⟩
  have nd : (C.map (·.1)).Nodup := inc.imp fun {a b} h e => by subst e; grind
  have := nodup_sub (ys := ps.filterMap tm) nd fun t ht => by
    obtain ⟨p, hp, e⟩ := (mem t).mp ht
    exact List.mem_filterMap.mpr ⟨p, hp, e⟩
  have l2 := List.length_filterMap_le tm ps
  rw [List.length_map] at this
  omega
theorem GrpM.snoc {S : Sto} {f b : Addr} {E : List GI} {t : Rat} {ps : List Pr} (h : GrpM S f E) (hF : ∀ x ∈ E, x.a ≠ f) (hb : S b = some (.lst (ps.map eP2))) (hbf : b ≠ f) : GrpM (ups S f (.lst ((E ++ [(⟨t, b, ps⟩ : GI)]).map eG))) f (E ++ [(⟨t, b, ps⟩ : GI)]) := by
  refine ⟨ups_same, fun x hx => ?_⟩
  rcases List.mem_append.mp hx with hx | hx
  · rw [ups_ne (hF x hx)]; exact h.at_ x hx
  · rw [List.mem_singleton.mp hx, ups_ne hbf]; exact hb
end DL
namespace DL
open PySem PySem.Spec PyProof.Rows L2
theorem IsMeet.uniq {L : List Ln} {M N : List Rat} (h : IsMeet L M) (k : IsMeet L N) : M = N := inc_ext h.inc k.inc fun t => by rw [h.mem, k.mem]
/-! ### the order at a time -/
def ordN (L : List Ln) (t : Rat) : Nat → List Nat
  | 0 => []
  | n + 1 => (ordN L t n).filter (fun o => !decide (Ahd L n o t)) ++ [n] ++ (ordN L t n).filter fun o => decide (Ahd L n o t)
theorem ordN_ok (L : List Ln) (t : Rat) : ∀ n, IsOrd L t n (ordN L t n)
  | 0 => .nil
  | n + 1 => ord_filter (ordN_ok L t n)
def ordL (L : List Ln) (t : Rat) : List Nat := ordN L t L.length
theorem ordL_ok (L : List Ln) (t : Rat) : IsOrd L t L.length (ordL L t) := ordN_ok L t _
theorem IsOrd.eq {L : List Ln} {t : Rat} {O : List Nat} (h : IsOrd L t L.length O) : O = ordL L t := h.uniq (ordL_ok L t)
def rk (L : List Ln) (t : Rat) (k : Nat) : Nat := (ordL L t).getD k 0
/-! ### rows of a rank -/
def bef : List Rat → Rat
  | [] => 0
  | t :: _ => t - 1
def lastR (row : Rw) : Nat := (row.getLast?.map (·.1)).getD 0
def rkS (L : List Ln) (k : Nat) (row : Rw) (t : Rat) : Rw := if rk L t k ≠ lastR row then row ++ [(rk L t k, some t)] else row
def rkF (L : List Ln) (k : Nat) (r0 : Nat) (M : List Rat) : Rw := M.foldl (rkS L k) [(r0, none)]
def rkRow (L : List Ln) (k : Nat) (M : List Rat) : Rw := if L.length ≤ k then [] else rkF L k (rk L (bef M) k) M
def IsRk (L : List Ln) (k : Nat) (rows : Rw) : Prop := ∃ M, IsMeet L M ∧ rows = rkRow L k M
theorem IsRk.uniq {L : List Ln} {k : Nat} {a b : Rw} (h : IsRk L k a) (g : IsRk L k b) : a = b := by
  obtain ⟨M, hM, rfl⟩ := h
  obtain ⟨N, hN, rfl⟩ := g
  rw [hM.uniq hN]
end DL
namespace DL
open PySem PySem.Spec PyProof.Rows L2
end DL
namespace DL
open PySem PySem.Spec PyProof.Rows L2
/-- a right paper of two, till the next change or sooner -/
structure Soon (L : List Ln) (t : Rat) (i j : Nat) (c : Option Rat) : Prop where
  nz : ∀ u, c = some u → Nz 3000 u
  ok : okT t c = true
  ch : okC (nxt L i j t) c = true
theorem Soon.own {L : List Ln} {t : Rat} {i j : Nat} (h : LOk L) (hi : i < L.length) (hj : j < L.length) : Soon L t i j (nxt L i j t) := by
  refine ⟨fun u hu => (nxt_nz h hi hj hu).le (by decide), ?_, ?_⟩
  · cases e : nxt L i j t with
    | none => rfl
    | some v =>
      unfold nxt at e
      split at e
      · next c => cases e; exact decide_eq_true c.2
      · cases e
  · cases e : nxt L i j t with
    | none => rfl
    | some v => have h2 : ¬ v < v := fun z => by grind
                simp [okC, h2]
/-- papers that are all right -/
def AllR (L : List Ln) (t : Rat) (X : List PprI) : Prop := ∀ x ∈ X, rtB L t x = true ∧ ∀ u, x.c = some u → Nz 3000 u
theorem AllR.ins {L : List Ln} {t : Rat} {X : List PprI} {x : PprI} {k : Nat} (h : AllR L t X) (hx : rtB L t x = true ∧ ∀ u, x.c = some u → Nz 3000 u) : AllR L t (X.take k ++ [x] ++ X.drop k) := fun y hy => by
  rcases List.mem_append.mp hy with hy | hy
  · rcases List.mem_append.mp hy with hy | hy
    · exact h y (List.mem_of_mem_take hy)
    · rw [List.mem_singleton.mp hy]; exact hx
  · exact h y (List.mem_of_mem_drop hy)
/-- lists of papers that lie about -/
def PL (S : Sto) (a : Addr) (d : D) : Prop := ∃ (b : Addr) (ys : List PprI), d = .ref b ∧ S b = some (.lst (ys.map eI3)) ∧ ys.length ≤ 2 ∧ b ≠ a ∧ ∀ x ∈ ys, ∀ u, x.c = some u → Nz 3000 u
structure Bn (S : Sto) (a f : Addr) (sc : List Int) (X : List PprI) (S' : Sto) (ls : List D) : Prop where
  fr : Fr S S' a
  pen : PenB S' a sc
  hf : S' f = some (.lst (X.map eI3))
  fa : f ≠ a
  all : ∀ d ∈ ls, PL S' a d
section
variable {S S' S2 : Sto} {a f p : Addr} {sc : List Int} {X : List PprI} {ls : List D} {o : O}
theorem PL.sub {d : D} (h : PL S' a d) (s : Sub S' S2) : PL S2 a d := by
  obtain ⟨b, ys, e, h1, h2⟩ := h
  exact ⟨b, ys, e, s _ _ h1, h2⟩
theorem Bn.new (h : Bn S a f sc X S' ls) (n : S' p = none) : Bn S a f sc X (ups S' p o) ls :=
  ⟨h.fr.new n, h.pen.new n, by rw [ups_ne (ne_of_st h.hf n)]; exact h.hf, h.fa, fun d hd => (h.all d hd).sub (Sub.drop n)⟩
theorem Bn.add (h : Bn S a f sc X S' ls) (n : S' p = none) (ys : List PprI) (h1 : ys.length ≤ 2) (h2 : ∀ x ∈ ys, ∀ u, x.c = some u → Nz 3000 u) : Bn S a f sc X (ups S' p (.lst (ys.map eI3))) (.ref p :: ls) :=
  ⟨h.fr.new n, h.pen.new n, by rw [ups_ne (ne_of_st h.hf n)]; exact h.hf, h.fa, fun d hd => by
    rcases List.mem_cons.mp hd with rfl | hd
    · exact ⟨p, ys, rfl, ups_same, h1, fun z => PenB.ne h.pen n z.symm, h2⟩
    · exact (h.all d hd).sub (Sub.drop n)⟩
theorem Bn.wr {x y : Int} (h : Bn S a f sc X S' ls) : Bn S a f sc X (ups S' a (penP sc x y)) ls :=
  ⟨h.fr.wr, penB_again, by rw [ups_ne h.fa]; exact h.hf, h.fa, fun d hd => by
    obtain ⟨b, ys, e, h1, h2, h3, h4⟩ := h.all d hd
    exact ⟨b, ys, e, by rw [ups_ne h3]; exact h1, h2, h3, h4⟩⟩
end
section
variable {S S' : Sto} {a f p : Addr} {sc : List Int} {X : List PprI} {ls : List D} {o : O}
theorem Bn.upd (h : Bn S a f sc X S' ls) (n : ∀ d ∈ ls, d ≠ .ref p) (pf : f ≠ p) (pa : p ≠ a) (p0 : S p = none) : Bn S a f sc X (ups S' p o) ls :=
  ⟨h.fr.own p0, h.pen.upd pa.symm, by rw [ups_ne pf]; exact h.hf, h.fa, fun d hd => by
    obtain ⟨b, ys, e, h1, h2⟩ := h.all d hd
    refine ⟨b, ys, e, ?_, h2⟩
    rw [ups_ne fun z => n d hd (by rw [e, z])]; exact h1⟩
end
end DL
namespace DL
open PySem PySem.Spec PyProof.Rows L2
/-! ### rows of ranks read -/
def rdS (t : Rat) (acc : Option Nat) (x : Nat × Option Rat) : Option Nat := match x.2 with
  | none => some x.1
  | some u => if t < u then acc else some x.1
def rd2 (t : Rat) (row : Rw) : Option Nat := row.foldl (rdS t) none
/-! ### all pairs of an order -/
theorem nodup_flat {α β : Type} {f : α → List β} : ∀ {xs : List α}, xs.Nodup → (∀ x ∈ xs, (f x).Nodup) → (∀ x ∈ xs, ∀ y ∈ xs, x ≠ y → ∀ z, z ∈ f x → z ∈ f y → False) → (xs.flatMap f).Nodup
  | [], _, _, _ => .nil
  | x :: xs, h, h1, h2 => by
    obtain ⟨a, b⟩ := List.nodup_cons.mp h
    rw [List.flatMap_cons]
    refine List.nodup_append.mpr ⟨h1 x (by simp), nodup_flat b (fun y hy => h1 y (List.mem_cons_of_mem _ hy)) (fun y hy z hz => h2 y (List.mem_cons_of_mem _ hy) z (List.mem_cons_of_mem _ hz)), fun z hz w hw e => ?_⟩
    subst e
    obtain ⟨y, hy, hyz⟩ := List.mem_flatMap.mp hw
    exact h2 x (by simp) y (List.mem_cons_of_mem _ hy) (fun e => a (e ▸ hy)) z hz hyz
theorem nodup_map {α β : Type} {f : α → β} : ∀ {xs : List α}, xs.Nodup → (∀ x ∈ xs, ∀ y ∈ xs, f x = f y → x = y) → (xs.map f).Nodup
  | [], _, _ => .nil
  | x :: xs, h, k => by
    obtain ⟨a, b⟩ := List.nodup_cons.mp h
    rw [List.map_cons]
    refine List.nodup_cons.mpr ⟨fun z => ?_, nodup_map b fun y hy z hz => k y (List.mem_cons_of_mem _ hy) z (List.mem_cons_of_mem _ hz)⟩
    obtain ⟨y, hy, e⟩ := List.mem_map.mp z
    exact a ((k y (List.mem_cons_of_mem _ hy) x (by simp) e) ▸ hy)
theorem perm_of {α : Type} [DecidableEq α] : ∀ {xs ys : List α}, xs.Nodup → ys.Nodup → (∀ z, z ∈ xs ↔ z ∈ ys) → xs.Perm ys
  | [], [], _, _, _ => .nil
  | [], y :: ys, _, _, h => by have := (h y).mpr (by simp); cases this
  | x :: xs, ys, hx, hy, h => by
    obtain ⟨a, b⟩ := List.nodup_cons.mp hx
    have hm : x ∈ ys := (h x).mp (by simp)
    refine ((perm_of b (hy.erase x) fun z => ?_).cons x).trans (List.perm_cons_erase hm).symm
    constructor
    · intro hz
      exact (List.mem_erase_of_ne fun e => a (by rw [← e]; exact hz)).mpr ((h z).mp (List.mem_cons_of_mem _ hz))
    · intro hz
      have hne : z ≠ x := fun e => by
        subst e
        exact absurd hz (List.Nodup.not_mem_erase hy)
      rcases List.mem_cons.mp ((h z).mpr ((List.mem_erase_of_ne hne).mp hz)) with e | e
      · exact absurd e hne
      · exact e
/-! ### all that changes -/
section
variable {L : List Ln} {lo hi : Rat} {C : Grp}
theorem allP_nd (n : Nat) : (allP n).Nodup := by
  unfold allP pref
  rw [List.range_zero, List.map_nil, List.append_nil]
  refine nodup_flat List.nodup_range (fun i _ => nodup_map List.nodup_range fun a _ b _ e => (Prod.mk.inj e).2) fun i _ j _ hne z hz hz' => ?_
  obtain ⟨a, _, rfl⟩ := List.mem_map.mp hz
  obtain ⟨b, _, e⟩ := List.mem_map.mp hz'
  exact hne (Prod.mk.inj e).1.symm
end
end DL
namespace DL
open PySem PySem.Spec PyProof.Rows L2
/-! ### turned about -/
def fl (n : Nat) (i : Nat) : Nat := n - 1 - i
section
variable {L : List Ln} {i j k : Nat} {t u : Rat} {M : List Rat}
/-! changes -/
theorem allP_sorted (n : Nat) : (allP n).Pairwise lexP := by
  unfold allP pref
  rw [List.range_zero, List.map_nil, List.append_nil]
  have : ∀ m, ((List.range m).flatMap fun a => (List.range n).map fun b => (a, b)).Pairwise lexP := fun m => by
    induction m with
    | zero => exact .nil
    | succ m ih =>
      rw [List.range_succ, List.flatMap_append]
      refine List.pairwise_append.mpr ⟨ih, ?_, fun x hx y hy => ?_⟩
      · simp only [List.flatMap_cons, List.flatMap_nil, List.append_nil]
        rw [List.pairwise_map]
        exact List.pairwise_lt_range.imp fun {a b} h => .inr ⟨rfl, by omega⟩
      · obtain ⟨a, ha, hx⟩ := List.mem_flatMap.mp hx
        obtain ⟨b, _, rfl⟩ := List.mem_map.mp hx
        simp only [List.flatMap_cons, List.flatMap_nil, List.append_nil] at hy
        obtain ⟨c, _, rfl⟩ := List.mem_map.mp hy
        exact .inl (List.mem_range.mp ha)
  exact this n
end
end DL
namespace DL
open PySem PySem.Spec PyProof.Rows L2
/-! ### dicts as tables -/
section
variable {κ : Type} [DecidableEq κ]
def dget (kvs : List (κ × D)) (k : κ) : Option D := (kvs.find? fun kv => decide (kv.1 = k)).map (·.2)
def dput (kvs : List (κ × D)) (k : κ) (v : D) : List (κ × D) :=
  if (kvs.any fun kv => decide (kv.1 = k)) = true then kvs.map (fun kv => if kv.1 = k then (kv.1, v) else kv) else kvs ++ [(k, v)]
def ddrop (kvs : List (κ × D)) (k : κ) : List (κ × D) := kvs.filter fun kv => decide (kv.1 ≠ k)
theorem dget_pos {p : κ × D} {r : List (κ × D)} {k : κ} (e : p.1 = k) : dget (p :: r) k = some p.2 := by simp [dget, List.find?_cons, e]
theorem dget_neg {p : κ × D} {r : List (κ × D)} {k : κ} (e : ¬ p.1 = k) : dget (p :: r) k = dget r k := by simp [dget, List.find?_cons, e]
variable {K : PySem.W.Frag} {H : Hp}
theorem KVs.get {ds : List (κ × D)} {vs : List (κ × V)} (h : KVs K H ds vs) {k : κ} {d : D} (e : dget ds k = some d) : ∃ v, valV vs k = some v ∧ Dv K H d v := by
  induction h with
  | nil => cases e
  | @cons f d1 v1 ds vs h1 h2 ih =>
    by_cases hk : f = k
    · rw [dget_pos (p := (f, d1)) hk] at e
      obtain rfl := Option.some.inj e
      exact ⟨v1, valV_pos (p := (f, v1)) hk, h1⟩
    · rw [dget_neg (p := (f, d1)) hk] at e
      obtain ⟨v, q, r⟩ := ih e
      exact ⟨v, by rw [valV_neg (p := (f, v1)) hk]; exact q, r⟩
theorem KVs.getN {ds : List (κ × D)} {vs : List (κ × V)} (h : KVs K H ds vs) {k : κ} (e : dget ds k = none) : valV vs k = none := by
  induction h with
  | nil => rfl
  | @cons f d1 v1 ds vs h1 h2 ih =>
    by_cases hk : f = k
    · rw [dget_pos (p := (f, d1)) hk] at e; cases e
    · rw [dget_neg (p := (f, d1)) hk] at e
      rw [valV_neg (p := (f, v1)) hk]; exact ih e
theorem KVs.any {ds : List (κ × D)} {vs : List (κ × V)} (h : KVs K H ds vs) (k : κ) : (ds.any fun kv => decide (kv.1 = k)) = vs.any fun kv => decide (kv.1 = k) := by
  induction h with
  | nil => rfl
  | cons h1 h2 ih => rw [List.any_cons, List.any_cons, ih]
theorem KVs.length {ds : List (κ × D)} {vs : List (κ × V)} (h : KVs K H ds vs) : ds.length = vs.length := by
  induction h with
  | nil => rfl
  | cons h1 h2 ih => rw [List.length_cons, List.length_cons, ih]
theorem KVs.keys {ds : List (κ × D)} {vs : List (κ × V)} (h : KVs K H ds vs) : ds.map (·.1) = vs.map (·.1) := by
  induction h with
  | nil => rfl
  | cons h1 h2 ih => rw [List.map_cons, List.map_cons, ih]
theorem KVs.snoc {ds : List (κ × D)} {vs : List (κ × V)} (h : KVs K H ds vs) {k : κ} {d : D} {v : V} (r : Dv K H d v) : KVs K H (ds ++ [(k, d)]) (vs ++ [(k, v)]) := by
  induction h with
  | nil => exact .cons r .nil
  | cons h1 h2 ih => exact .cons h1 ih
theorem KVs.repl {ds : List (κ × D)} {vs : List (κ × V)} (h : KVs K H ds vs) {k : κ} {d : D} {v : V} (r : Dv K H d v) : KVs K H (ds.map fun kv => if kv.1 = k then (kv.1, d) else kv) (vs.map fun kv => if kv.1 = k then (kv.1, v) else kv) := by
  induction h with
  | nil => exact .nil
  | @cons f d1 v1 ds vs h1 h2 ih =>
    rw [List.map_cons, List.map_cons]
    by_cases hk : f = k
    · rw [if_pos hk, if_pos hk]; exact .cons r ih
    · rw [if_neg hk, if_neg hk]; exact .cons h1 ih
theorem KVs.put {ds : List (κ × D)} {vs : List (κ × V)} (h : KVs K H ds vs) {k : κ} {d : D} {v : V} (r : Dv K H d v) : KVs K H (dput ds k d) (putK vs k v) := by
  unfold dput putK
  rw [h.any k]
  split
  · exact h.repl r
  · exact h.snoc r
theorem KVs.drop {ds : List (κ × D)} {vs : List (κ × V)} (h : KVs K H ds vs) (k : κ) : KVs K H (ddrop ds k) (dropK vs k) := by
  unfold ddrop dropK
  induction h with
  | nil => exact .nil
  | @cons f d1 v1 ds vs h1 h2 ih =>
    rw [List.filter_cons, List.filter_cons]
    by_cases hk : f = k
    · simp only [hk, ne_eq, not_true, decide_false, Bool.false_eq_true, if_false]; exact ih
    · simp only [ne_eq, hk, not_false_eq_true, decide_true, if_true]; exact .cons h1 ih
theorem KVs.at_ {ds : List (κ × D)} {vs : List (κ × V)} (h : KVs K H ds vs) : ∀ {i : Nat} {k : κ} {v : V}, vs[i]? = some (k, v) → ∃ d, ds[i]? = some (k, d) ∧ Dv K H d v := by
  induction h with
  | nil => intro i k v e; simp at e
  | @cons f d1 v1 ds vs h1 h2 ih =>
    intro i k v e
    cases i with
    | zero => simp at e; obtain ⟨rfl, rfl⟩ := e; exact ⟨d1, rfl, h1⟩
    | succ i => exact ih (i := i) (by simpa using e)
end
/-- of a dict that stands, locked or not -/
def dOf : Option O → Option (List (Key × D))
  | some (.dic k) => some k
  | some (.fdc _ k) => some k
  | _ => none
def tOf : Option O → Option (List (List Key × D))
  | some (.dct k) => some k
  | some (.fdt _ k) => some k
  | _ => none
/-- of one that may be written -/
def wOf : Option O → Option (List (Key × D))
  | some (.dic k) => some k
  | _ => none
def keyD : D → Option Key
  | .int i => some (.inl i)
  | .str x => some (.inr x)
  | _ => none
def keysD : List (Key × D) → List D := fun kvs => kvs.map fun kv => match kv.1 with
  | .inl i => .int i
  | .inr x => .str x
theorem RelS.wd {K : PySem.W.Frag} {S : Sto} {H : Hp} {a : Addr} {us us' : List (Key × V)} {xs' : List (Key × D)} (rs : RelS K S H) (e : H a = some (.dK us)) (r : KVs K H xs' us') : Good K H (upd H a (.dK us')) ∧ RelS K (ups S a (.dic xs')) (upd H a (.dK us')) :=
  have g := good_write (K := K) (u' := .dK us') e trivial
  ⟨g, rs.write (o := .dic xs') e trivial ⟨us', upd_same, r.keep g⟩⟩
/-! ### readings -/
def uDNew : TE2 := fun _ S Q => ∀ p, S p = none → Q (.ref p) (ups S p (.dic []))
def rDIx : D → D → Sto → VK2 → Prop
  | .ref a, y, S, Q => onS (dOf (S a)) fun kvs => onS (keyD y) fun k => onS (dget kvs k) fun x => Q x S
  | _, _, _, _ => False
def isDc (S : Sto) (a : Addr) : Prop := ∃ kvs, dOf (S a) = some kvs
def uDGet1 (td ty : TE2) : TE2 := fun τ S Q => td τ S fun x S1 => match x with
  | .ref a => isDc S1 a ∧ ty τ S1 fun y S2 => onS (dOf (S2 a)) fun kvs => onS (keyD y) fun k => Q ((dget kvs k).getD .non) S2
  | _ => False
def uDPop1 (td ty : TE2) : TE2 := fun τ S Q => td τ S fun x S1 => match x with
  | .ref a => isDc S1 a ∧ ty τ S1 fun y S2 => onS (wOf (S2 a)) fun kvs => onS (keyD y) fun k => onS (dget kvs k) fun v => Q v (ups S2 a (.dic (ddrop kvs k)))
  | _ => False
def rSortedDI2 : List D → Sto → VK2 → Prop
  | [.ref a], S, Q => onS (dOf (S a)) fun kvs => ∃ ks : List Int, kvs.map (·.1) = ks.map Sum.inl ∧ ks.length < 64 ∧ ∀ ys : List Int, ys.Perm ks → ys.Pairwise (· ≤ ·) → ∀ p, S p = none → Q (.ref p) (ups S p (.lst (ys.map D.int)))
  | _, _, _ => False
def rDictOf2 : List D → Sto → VK2 → Prop
  | [.ref a], S, Q => onS (dOf (S a)) fun kvs => ∀ p, S p = none → Q (.ref p) (ups S p (.dic kvs))
  | _, _, _ => False
/-- d != e, e empty -/
def rNeE2 : D → D → Sto → VK2 → Prop
  | .ref a, .ref b, S, Q => onS (dOf (S a)) fun kvs => dOf (S b) = some [] ∧ Q (.bl (!kvs.isEmpty)) S
  | _, _, _, _ => False
def setDQ (d : D) : D → D → Sto → (Sto → Prop) → Prop
  | .ref a, y, S, Q => onS (wOf (S a)) fun kvs => onS (keyD y) fun k => kvs.length < 1000 ∧ Q (ups S a (.dic (dput kvs k d)))
  | _, _, _, _ => False
def vDSub (to ti : TE2) : TG2 := fun d τ S Q => to τ S fun o S1 => ti τ S1 fun i S2 => setDQ d o i S2 fun S3 => Q τ S3
/-! ### a walk over a dict, locked -/
def itD : D → Sto → (List D → (Sto → Prop) → Sto → Prop) → Prop
  | .ref a, S, R => match S a with
    | some (.fdc o kvs) => R (keysD kvs) (fun S' => S' a = some (.fdc o kvs)) S
    | _ => False
  | _, _, _ => False
def uItD (tl : TE2) : TI2 := fun τ S R => tl τ S fun d S1 => itD d S1 R
/-! ### locked while a for goes over it -/
def uLockQ (a : Addr) (E : Ends2) (o : Obj) (kvs : List (Key × D)) : Ends2 :=
  ⟨fun τ' S' => S' a = some (.fdc o kvs) ∧ E.nx τ' (ups S' a (.dic kvs)), fun v S' => S' a = some (.fdc o kvs) ∧ E.rt v (ups S' a (.dic kvs)),
   fun τ' S' => S' a = some (.fdc o kvs) ∧ E.bk τ' (ups S' a (.dic kvs)), fun τ' S' => S' a = some (.fdc o kvs) ∧ E.ct τ' (ups S' a (.dic kvs))⟩
def uLockS (i : Nat) (t : TS2) : TS2 := fun E τ S => match τ[i]? with
  | some (some (.ref a)) => match S a with
    | some (.dic kvs) => ∀ o, t (uLockQ a E o kvs) τ (ups S a (.fdc o kvs))
    | _ => False
  | _ => False
end DL
namespace DL
open PySem PySem.Spec PyProof.Rows L2
/-! ### list(range(n)) -/
def uListRg (ta : TE2) : TE2 := fun τ S Q => ta τ S fun x S1 => match x with
  | .int n => (0 ≤ n ∧ n ≤ 1000) ∧ ∀ p, S1 p = none → Q (.ref p) (ups S1 p (.lst (rangeD 0 n.toNat)))
  | _ => False
/-! ### words for the reading -/
section
variable {a b p : Addr} {S : Sto} {Q : VK2} {y : D} {kvs : List (Key × D)} {o : Obj} {i : Int} {x : Str}
theorem z_dOf1 : dOf (some (.dic kvs)) = some kvs := rfl
theorem z_dOf2 : dOf (some (.fdc o kvs)) = some kvs := rfl
theorem z_wOf : wOf (some (.dic kvs)) = some kvs := rfl
theorem z_keyI : keyD (.int i) = some (.inl i) := rfl
theorem z_dix : rDIx (.ref a) y S Q = onS (dOf (S a)) fun kvs => onS (keyD y) fun k => onS (dget kvs k) fun x => Q x S := rfl
theorem z_sortedDI : rSortedDI2 [.ref a] S Q = onS (dOf (S a)) fun kvs => ∃ ks : List Int, kvs.map (·.1) = ks.map Sum.inl ∧ ks.length < 64 ∧ ∀ ys : List Int, ys.Perm ks → ys.Pairwise (· ≤ ·) → ∀ p, S p = none → Q (.ref p) (ups S p (.lst (ys.map D.int))) := rfl
theorem z_dictOf : rDictOf2 [.ref a] S Q = onS (dOf (S a)) fun kvs => ∀ p, S p = none → Q (.ref p) (ups S p (.dic kvs)) := rfl
theorem z_neE : rNeE2 (.ref a) (.ref b) S Q = onS (dOf (S a)) fun kvs => dOf (S b) = some [] ∧ Q (.bl (!kvs.isEmpty)) S := rfl
theorem z_setD {d : D} {R : Sto → Prop} : setDQ d (.ref a) y S R = onS (wOf (S a)) fun kvs => onS (keyD y) fun k => kvs.length < 1000 ∧ R (ups S a (.dic (dput kvs k d))) := rfl
theorem z_isDc : isDc S a = ∃ kvs, dOf (S a) = some kvs := rfl
theorem z_exs {α : Type} {x : α} : (∃ k, some x = some k) = True := eq_true ⟨x, rfl⟩
end
theorem zs_jj : ((Str.ofString "join" : Str) = Str.ofString "join") = True := eq_true rfl
theorem zs_lj : ((Str.ofString "leave" : Str) = Str.ofString "join") = False := eq_false (by decide +kernel)
theorem zs_tj : ((Str.ofString "turn" : Str) = Str.ofString "join") = False := eq_false (by decide +kernel)
theorem zs_ll : ((Str.ofString "leave" : Str) = Str.ofString "leave") = True := eq_true rfl
theorem zs_tl : ((Str.ofString "turn" : Str) = Str.ofString "leave") = False := eq_false (by decide +kernel)
/-! ### lines by number -/
abbrev Mp := List (Nat × Ln)
def eM (M : Mp) : List (Key × D) := M.map fun x => ((.inl (x.1 : Int) : Key), eL x.2)
def mget (M : Mp) (r : Nat) : Option Ln := (M.find? fun x => decide (x.1 = r)).map (·.2)
def mset (M : Mp) (r : Nat) (l : Ln) : Mp := M.map fun x => if x.1 = r then (x.1, l) else x
def mdrop (M : Mp) (r : Nat) : Mp := M.filter fun x => decide (x.1 ≠ r)
def keysM (M : Mp) : List Nat := M.map (·.1)
theorem inl_iff {a b : Nat} : ((Sum.inl (a : Int) : Key) = Sum.inl (b : Int)) ↔ a = b := ⟨fun e => Int.ofNat_inj.mp (Sum.inl.inj e), fun e => by rw [e]⟩
theorem dget_eM (r : Nat) : ∀ M : Mp, dget (eM M) (.inl (r : Int)) = (mget M r).map eL
  | [] => rfl
  | x :: M => by
    unfold eM mget
    rw [List.map_cons, List.find?_cons]
    by_cases h : x.1 = r
    · rw [dget_pos (inl_iff.mpr h)]; simp [h]
    · rw [dget_neg (fun e => h (inl_iff.mp e))]; simp only [h, decide_false]; exact dget_eM r M
theorem ddrop_eM (r : Nat) (M : Mp) : ddrop (eM M) (.inl (r : Int)) = eM (mdrop M r) := by
  unfold ddrop eM mdrop
  rw [List.filter_map]
  congr 1
  refine List.filter_congr fun x _ => ?_
  show decide ((Sum.inl (x.1 : Int) : Key) ≠ Sum.inl (r : Int)) = decide (x.1 ≠ r)
  exact decide_eq_decide.mpr (not_congr inl_iff)
theorem keys_eM (M : Mp) : (eM M).map (·.1) = ((keysM M).map fun k : Nat => (k : Int)).map Sum.inl := by unfold eM keysM; rw [List.map_map, List.map_map, List.map_map]; rfl
theorem mget_mem {M : Mp} {r : Nat} {l : Ln} (h : mget M r = some l) : (r, l) ∈ M := by
  unfold mget at h
  cases q : M.find? fun x => decide (x.1 = r) with
  | none => rw [q] at h; cases h
  | some x =>
    rw [q] at h
    have e := List.find?_some q
    simp only [decide_eq_true_eq] at e
    have m := List.mem_of_find?_eq_some q
    simp only [Option.map_some, Option.some.injEq] at h
    rw [← e, ← h]; exact m
theorem mget_some {M : Mp} {r : Nat} (h : r ∈ keysM M) : ∃ l, mget M r = some l := by
  unfold mget
  cases q : M.find? fun x => decide (x.1 = r) with
  | some x => exact ⟨_, rfl⟩
  | none =>
    obtain ⟨x, hx, e⟩ := List.mem_map.mp h
    have := List.find?_eq_none.mp q x hx
    simp only [decide_eq_true_eq] at this
    exact absurd e this
/-! ### deeds -/
inductive Dd where
  | join (t p m : Rat) | leave (t : Rat) (r : Nat) | turn (t : Rat) (r : Nat) (m : Rat)
def Dd.t : Dd → Rat
  | .join t _ _ => t
  | .leave t _ => t
  | .turn t _ _ => t
def eDd : Dd → D
  | .join t p m => .tup [.str "join", eQ t, eQ p, eQ m]
  | .leave t r => .tup [.str "leave", eQ t, .int (r : Int)]
  | .turn t r m => .tup [.str "turn", eQ t, .int (r : Int), eQ m]
def stepM (s : Mp × Nat) : Dd → Mp × Nat
  | .join t p m => (s.1 ++ [(s.2, (p - m * t, m))], s.2 + 1)
  | .leave t r => (mdrop s.1 r, s.2)
  | .turn t r m => (mset s.1 r (at_ ((mget s.1 r).getD (0, 0)) t - m * t, m), s.2)
def runM (D : List Dd) : Mp × Nat := D.foldl stepM ([], 0)
theorem runM_snoc (D : List Dd) (d : Dd) : runM (D ++ [d]) = stepM (runM D) d := by unfold runM; rw [List.foldl_append]; rfl
/-- a small number -/
def Sm (q : Rat) : Prop := q.num.natAbs < 2 ^ 40 ∧ q.den ≤ 12
def SmD : Dd → Prop
  | .join t p m => Sm t ∧ Sm p ∧ Sm m
  | .leave t _ => Sm t
  | .turn t _ m => Sm t ∧ Sm m
def HasD (M : Mp) : Dd → Prop
  | .join _ _ _ => True
  | .leave _ r => r ∈ keysM M
  | .turn _ r _ => r ∈ keysM M
structure DOk (D : List Dd) : Prop where
  ok : ∀ a d b, D = a ++ d :: b → SmD d ∧ HasD (runM a).1 d ∧ (∀ x ∈ a, x.t ≤ d.t) ∧ (runM (a ++ [d])).1.length ≤ 20
  len : D.length ≤ 40
theorem DOk.nil : DOk [] := ⟨fun a d b e => by simp at e, by decide⟩
theorem DOk.pre {a b : List Dd} (h : DOk (a ++ b)) : DOk a := ⟨fun x d y e => h.ok x d (y ++ b) (by rw [e]; simp), by have := h.len; rw [List.length_append] at this; omega⟩
theorem DOk.snoc {D : List Dd} {d : Dd} (h : DOk D) (h1 : SmD d) (h2 : HasD (runM D).1 d) (h3 : ∀ x ∈ D, x.t ≤ d.t) (h4 : (runM (D ++ [d])).1.length ≤ 20) (h5 : D.length < 40) : DOk (D ++ [d]) := by
  refine ⟨fun a x b e => ?_, by rw [List.length_append, List.length_singleton]; omega⟩
  rcases List.eq_nil_or_concat b with rfl | ⟨b', y, rfl⟩
  · obtain ⟨rfl, e2⟩ := List.append_inj' e rfl
    cases e2
    exact ⟨h1, h2, h3, h4⟩
  · rw [List.concat_eq_append, ← List.cons_append, ← List.append_assoc] at e
    obtain ⟨e1, _⟩ := List.append_inj' e rfl
    exact h.ok a x b' e1
/-- the keys stand in order, below the next number -/
def KeyOk (s : Mp × Nat) : Prop := (keysM s.1).Pairwise (· < ·) ∧ ∀ k ∈ keysM s.1, k < s.2
theorem keys_mset (M : Mp) (r : Nat) (l : Ln) : keysM (mset M r l) = keysM M := by
  unfold keysM mset
  rw [List.map_map]
  refine List.map_congr_left fun x _ => ?_
  show (if x.1 = r then (x.1, l) else x).1 = x.1
  split <;> rfl
theorem keys_mdrop (M : Mp) (r : Nat) : keysM (mdrop M r) = (keysM M).filter fun k => decide (k ≠ r) := by
  unfold keysM mdrop
  rw [List.filter_map]; rfl
theorem KeyOk.step {s : Mp × Nat} {d : Dd} (h : KeyOk s) : KeyOk (stepM s d) := by
  cases d with
  | join t p m =>
    have e : keysM (stepM s (.join t p m)).1 = keysM s.1 ++ [s.2] := by unfold stepM keysM; rw [List.map_append]; rfl
    unfold KeyOk
    rw [e]
    refine ⟨List.pairwise_append.mpr ⟨h.1, by simp, fun a ha b hb => ?_⟩, fun k hk => ?_⟩
    · rw [List.mem_singleton.mp hb]; exact h.2 a ha
    · show k < s.2 + 1
      rcases List.mem_append.mp hk with z | z
      · have := h.2 k z; omega
      · rw [List.mem_singleton.mp z]; omega
  | leave t r =>
    unfold KeyOk stepM
    rw [keys_mdrop]
    exact ⟨h.1.filter _, fun k hk => h.2 k (List.mem_filter.mp hk).1⟩
  | turn t r m =>
    unfold KeyOk stepM
    rw [keys_mset]
    exact h
theorem keyOk_run : ∀ D : List Dd, KeyOk (runM D) := snoc_ind ⟨.nil, fun _ h => by cases h⟩ fun D d h => by rw [runM_snoc]; exact h.step
theorem KeyOk.new {s : Mp × Nat} (h : KeyOk s) : s.2 ∉ keysM s.1 := fun z => Nat.lt_irrefl _ (h.2 _ z)
theorem int_pw {ks : List Nat} (h : ks.Pairwise (· < ·)) : (ks.map fun k : Nat => (k : Int)).Pairwise (· ≤ ·) := List.pairwise_map.mpr (h.imp fun h => by omega)
/-- what is sorted stays -/
theorem sorted_eq {xs ys : List Int} (h : ys.Perm xs) (h1 : ys.Pairwise (· ≤ ·)) (h2 : xs.Pairwise (· ≤ ·)) : ys = xs := h.eq_of_pairwise (fun a b _ _ h1 h2 => Int.le_antisymm h1 h2) h1 h2
/-! ### sizes -/
def W2 : Nat := 27720 * 27720
def MSz (n : Nat) (M : Mp) : Prop := ∀ x ∈ M, Sm x.2.2 ∧ ∃ z : Int, x.2.1 = (z : Rat) / (W2 : Rat) ∧ z.natAbs ≤ n * 2 ^ 112
theorem Sm.nz {q : Rat} (h : Sm q) : Nz 60 q := ⟨Nat.lt_of_lt_of_le h.1 (by decide), by
  show (q.den : Int).natAbs < 2 ^ 60
  rw [Int.natAbs_natCast]
  exact Nat.lt_of_le_of_lt h.2 (by decide)⟩
theorem den12 : ∀ d : Nat, d ≤ 12 → d ≠ 0 → ∃ k, k * d = 27720 ∧ k ≤ 27720 := by
  intro d h0 h1
  have : d = 1 ∨ d = 2 ∨ d = 3 ∨ d = 4 ∨ d = 5 ∨ d = 6 ∨ d = 7 ∨ d = 8 ∨ d = 9 ∨ d = 10 ∨ d = 11 ∨ d = 12 := by omega
  rcases this with rfl | rfl | rfl | rfl | rfl | rfl | rfl | rfl | rfl | rfl | rfl | rfl
  all_goals first | exact ⟨27720, by decide, by decide⟩ | exact ⟨13860, by decide, by decide⟩ | exact ⟨9240, by decide, by decide⟩ | exact ⟨6930, by decide, by decide⟩ | exact ⟨5544, by decide, by decide⟩ | exact ⟨4620, by decide, by decide⟩ | exact ⟨3960, by decide, by decide⟩ | exact ⟨3465, by decide, by decide⟩ | exact ⟨3080, by decide, by decide⟩ | exact ⟨2772, by decide, by decide⟩ | exact ⟨2520, by decide, by decide⟩ | exact ⟨2310, by decide, by decide⟩
theorem Sm.z {q : Rat} (h : Sm q) : ∃ a : Int, q = (a : Rat) / (27720 : Rat) ∧ a.natAbs ≤ 2 ^ 55 := by
  obtain ⟨k, e, hk⟩ := den12 q.den h.2 q.den_nz
  refine ⟨q.num * (k : Int), ?_, ?_⟩
  · have h1 := q_self q
    have h2 : ((q.den : Int) : Rat) ≠ 0 := den_neR q
    have h3 : ((k : Int) : Rat) * ((q.den : Int) : Rat) = 27720 := by rw [← Rat.intCast_mul]; exact congrArg (fun x : Int => (x : Rat)) (by exact_mod_cast e)
    rw [Rat.intCast_mul]
    have h4 : (27720 : Rat) ≠ 0 := by decide
    grind
  · rw [Int.natAbs_mul, Int.natAbs_natCast]
    have : q.num.natAbs * k ≤ 2 ^ 40 * 27720 := Nat.mul_le_mul (Nat.le_of_lt h.1) hk
    have h2 : 2 ^ 40 * 27720 ≤ 2 ^ 55 := by decide
    omega
theorem Sm.int {t : Int} (ht : t.natAbs < 2 ^ 40) : Sm (t : Rat) := ⟨ht, by show (1 : Nat) ≤ 12; decide⟩
theorem prod_z {m t : Rat} (hm : Sm m) (ht : Sm t) : ∃ z : Int, m * t = (z : Rat) / (W2 : Rat) ∧ z.natAbs ≤ 2 ^ 110 := by
  obtain ⟨a, ea, ha⟩ := hm.z
  obtain ⟨b, eb, hb⟩ := ht.z
  refine ⟨a * b, ?_, ?_⟩
  · rw [ea, eb, Rat.intCast_mul]
    have : (W2 : Rat) = 27720 * 27720 := by unfold W2; norm_cast
    rw [this]
    grind
  · rw [Int.natAbs_mul]
    exact Nat.le_trans (Nat.mul_le_mul ha hb) (by decide)
theorem one_z {p : Rat} (hp : Sm p) : ∃ z : Int, p = (z : Rat) / (W2 : Rat) ∧ z.natAbs ≤ 2 ^ 110 := by
  obtain ⟨z, e, h⟩ := prod_z hp (Sm.int (t := 1) (by decide))
  exact ⟨z, by rw [← e]; simp, h⟩
theorem MSz.step {s : Mp × Nat} {d : Dd} {n : Nat} (h : MSz n s.1) (h1 : SmD d) (h2 : HasD s.1 d) : MSz (n + 1) (stepM s d).1 := by
  have up : ∀ x ∈ s.1, Sm x.2.2 ∧ ∃ z : Int, x.2.1 = (z : Rat) / (W2 : Rat) ∧ z.natAbs ≤ (n + 1) * 2 ^ 112 := fun x hx => by
    obtain ⟨a, z, e, hz⟩ := h x hx
    exact ⟨a, z, e, Nat.le_trans hz (Nat.mul_le_mul_right _ (Nat.le_succ n))⟩
  cases d with
  | join t p m =>
    intro x hx
    rcases List.mem_append.mp (show x ∈ s.1 ++ [_] from hx) with a | a
    · exact up x a
    · rw [List.mem_singleton.mp a]
      refine ⟨h1.2.2, ?_⟩
      obtain ⟨z, e, hz⟩ := one_z h1.2.1
      obtain ⟨y, e2, hy⟩ := prod_z h1.2.2 h1.1
      refine ⟨z - y, ?_, by omega⟩
      show p - m * t = _
      rw [e, e2, Rat.intCast_sub]
      grind
  | leave t r => exact fun x hx => up x (List.mem_filter.mp hx).1
  | turn t r m =>
    intro x hx
    obtain ⟨y, hy, rfl⟩ := List.mem_map.mp (show x ∈ s.1.map _ from hx)
    split
    · next e =>
      refine ⟨h1.2, ?_⟩
      obtain ⟨l, el⟩ := mget_some h2
      obtain ⟨hs, z, ez, hz⟩ := h _ (mget_mem el)
      obtain ⟨u, eu, hu⟩ := prod_z hs h1.1
      obtain ⟨w, ew, hw⟩ := prod_z h1.2 h1.1
      refine ⟨z + u - w, ?_, by omega⟩
      show at_ ((mget s.1 r).getD (0, 0)) t - m * t = _
      rw [el, Option.getD_some]
      unfold at_
      simp only at ez eu
      rw [ez, eu, ew, Rat.intCast_sub, Rat.intCast_add]
      grind
    · exact up y hy
theorem msz_run : ∀ D : List Dd, DOk D → MSz D.length (runM D).1 := snoc_ind (fun _ x h => by cases h) fun D d ih h => by
  rw [runM_snoc, List.length_append]
  obtain ⟨a, b, _⟩ := h.ok D d [] rfl
  exact (ih h.pre).step a b
theorem DOk.lz {D : List Dd} (h : DOk D) : ∀ x ∈ (runM D).1, Lz 300 x.2 := fun x hx => by
  obtain ⟨a, z, e, hz⟩ := msz_run D h x hx
  refine ⟨?_, a.nz.le (by decide)⟩
  rw [e]
  have : ((W2 : Nat) : Rat) = ((W2 : Int) : Rat) := rfl
  rw [this]
  refine (Nz.quo2 (n := 200) (by decide) ?_ (Sz.lit (by decide))).le (by decide)
  refine Nat.lt_of_le_of_lt hz ?_
  have := h.len
  exact Nat.lt_of_le_of_lt (Nat.mul_le_mul_right _ this) (by decide)
theorem DOk.room {D : List Dd} (h : DOk D) : (runM D).1.length ≤ 20 := by
  rcases List.eq_nil_or_concat D with rfl | ⟨a, d, rfl⟩
  · exact Nat.zero_le _
  · rw [List.concat_eq_append] at h ⊢; exact (h.ok a d [] rfl).2.2.2
/-! ### the deeds till a time -/
def thenD (D : List Dd) (t : Rat) : List Dd := D.takeWhile fun d => !decide (t < d.t)
theorem thenD_pre (D : List Dd) (t : Rat) : ∃ b, D = thenD D t ++ b := ⟨_, (List.takeWhile_append_dropWhile).symm⟩
theorem DOk.then {D : List Dd} (h : DOk D) (t : Rat) : DOk (thenD D t) := by
  obtain ⟨b, e⟩ := thenD_pre D t
  rw [e] at h
  exact h.pre
theorem DOk.pw {D : List Dd} (h : DOk D) : D.Pairwise fun a b => a.t ≤ b.t := by
  have : ∀ D : List Dd, DOk D → D.Pairwise fun a b => a.t ≤ b.t := snoc_ind (fun _ => .nil) fun D d ih h => List.pairwise_append.mpr ⟨ih h.pre, by simp, fun a ha b hb => by
    rw [List.mem_singleton.mp hb]; exact (h.ok D d [] rfl).2.2.1 a ha⟩
  exact this D h
end DL
namespace DL
open PySem PySem.Spec PyProof.Rows L2
/-! ### a pen of three numbers, the last one counts -/
def penC (a b c : Int) : O := .lst [.int a, .int b, .int c]
def PenC (S : Sto) (p : Addr) (n : Nat) : Prop := ∃ a b c, S p = some (penC a b c) ∧ 0 ≤ c ∧ c ≤ n
section
variable {S : Sto} {a p : Addr} {n : Nat} {x y z : Int} {o : O}
theorem penC_again (h0 : 0 ≤ z) (h1 : z ≤ n) : PenC (ups S a (penC x y z)) a n := ⟨x, y, z, ups_same, h0, h1⟩
theorem PenC.ne (h : PenC S a n) (k : S p = none) : a ≠ p := let ⟨_, _, _, e, _⟩ := h; ne_of_st e k
theorem PenC.new (h : PenC S a n) (k : S p = none) : PenC (ups S p o) a n := let ⟨x, y, z, e, r⟩ := h; ⟨x, y, z, by rw [ups_ne (ne_of_st e k)]; exact e, r⟩
theorem PenC.upd (h : PenC S a n) (k : a ≠ p) : PenC (ups S p o) a n := let ⟨x, y, z, e, r⟩ := h; ⟨x, y, z, by rw [ups_ne k]; exact e, r⟩
theorem PenC.le {m : Nat} (h : PenC S a n) (k : n ≤ m) : PenC S a m := let ⟨x, y, z, e, r1, r2⟩ := h; ⟨x, y, z, e, r1, by omega⟩
end
end DL
namespace DL
open PySem PySem.Spec PyProof.Rows L2
/-! ### runners by their place among those who run -/
def lnM (M : Mp) : List Ln := M.map (·.2)
def kN (M : Mp) (a : Nat) : Int := ((keysM M).getD a 0 : Nat)
def KM (M : Mp) : List Int := (keysM M).map fun k : Nat => (k : Int)
def OM (M : Mp) (t : Rat) : List Int := (ordL (lnM M) t).map (kN M)
theorem lnM_len (M : Mp) : (lnM M).length = M.length := by unfold lnM; simp
theorem keysM_len (M : Mp) : (keysM M).length = M.length := by unfold keysM; simp
theorem KM_range (M : Mp) : KM M = (List.range M.length).map (kN M) := by
  unfold KM kN
  refine List.ext_getElem (by simp [keysM_len]) fun i h1 h2 => ?_
  have : i < (keysM M).length := by simpa using h1
  simp only [List.getElem_map, List.getElem_range, List.getD_eq_getElem?_getD, List.getElem?_eq_getElem this, Option.getD_some]
theorem kN_get {M : Mp} {a : Nat} (h : a < M.length) : ∃ (k : Nat) (l : Ln), M[a]? = some (k, l) ∧ kN M a = (k : Int) ∧ ln (lnM M) a = l := by
  refine ⟨M[a].1, M[a].2, List.getElem?_eq_getElem h, ?_, ?_⟩
  · unfold kN keysM
    rw [List.getD_eq_getElem?_getD, List.getElem?_map, List.getElem?_eq_getElem h]; rfl
  · unfold ln lnM
    rw [List.getD_eq_getElem?_getD, List.getElem?_map, List.getElem?_eq_getElem h]; rfl
theorem mget_at : ∀ {M : Mp} {a k : Nat} {l : Ln}, (keysM M).Pairwise (· < ·) → M[a]? = some (k, l) → mget M k = some l
  | [], _, _, _, _, e => by simp at e
  | x :: M, 0, k, l, _, e => by
    obtain rfl : x = (k, l) := by simpa using e
    unfold mget; simp
  | x :: M, a + 1, k, l, h, e => by
    have h' : (keysM M).Pairwise (· < ·) := (List.pairwise_cons.mp h).2
    have hm : (k, l) ∈ M := List.mem_of_getElem? (show M[a]? = some (k, l) by simpa using e)
    have hlt : x.1 < k := (List.pairwise_cons.mp h).1 k (List.mem_map.mpr ⟨_, hm, rfl⟩)
    have ih := mget_at (a := a) h' (by simpa using e)
    unfold mget at *
    rw [List.find?_cons]
    have : decide (x.1 = k) = false := decide_eq_false (by omega)
    rw [this]
    exact ih
theorem kN_lt {M : Mp} {a b : Nat} (hk : (keysM M).Pairwise (· < ·)) (ha : a < M.length) (hb : b < M.length) : kN M a < kN M b ↔ a < b := by
  have ha' : a < (keysM M).length := by rw [keysM_len]; exact ha
  have hb' : b < (keysM M).length := by rw [keysM_len]; exact hb
  have key : ∀ {a b : Nat} (ha : a < (keysM M).length) (hb : b < (keysM M).length), a < b → kN M a < kN M b := fun {a b} ha hb h => by
    unfold kN
    rw [List.getD_eq_getElem?_getD, List.getD_eq_getElem?_getD, List.getElem?_eq_getElem ha, List.getElem?_eq_getElem hb]
    have := List.pairwise_iff_getElem.mp hk a b ha hb h
    simp only [Option.getD_some]
    omega
  constructor
  · intro h
    rcases Nat.lt_trichotomy a b with c | c | c
    · exact c
    · subst c; omega
    · have := key hb' ha' c; omega
  · exact key ha' hb'
structure LD (S : Sto) (f : Addr) (M : Mp) : Prop where
  st : dOf (S f) = some (eM M)
  ky : (keysM M).Pairwise (· < ·)
  ok : LOk (lnM M)
  sz : M.length ≤ 20
theorem LD.of {S : Sto} {f : Addr} {D : List Dd} (hD : DOk D) (h : S f = some (.dic (eM (runM D).1))) : LD S f (runM D).1 := ⟨by rw [h]; rfl, (keyOk_run D).1, fun l hl => by
  obtain ⟨x, hx, rfl⟩ := List.mem_map.mp hl
  exact hD.lz x hx, hD.room⟩
theorem dOf_sub {S S' : Sto} {f : Addr} {kvs : List (Key × D)} (s : Sub S S') (h : dOf (S f) = some kvs) : dOf (S' f) = some kvs := by
  cases q : S f with
  | none => rw [q] at h; cases h
  | some o => rw [s _ _ q, ← q]; exact h
theorem LD.sub {S S' : Sto} {f : Addr} {M : Mp} (h : LD S f M) (s : Sub S S') : LD S' f M := ⟨dOf_sub s h.st, h.ky, h.ok, h.sz⟩
theorem LD.ne {S : Sto} {f p : Addr} {M : Mp} (h : LD S f M) (n : S p = none) : f ≠ p := by
  rintro rfl
  have := h.st
  rw [n] at this; cases this
theorem LD.new {S : Sto} {f p : Addr} {M : Mp} {o : O} (h : LD S f M) (n : S p = none) : LD (ups S p o) f M := ⟨by rw [ups_ne (h.ne n)]; exact h.st, h.ky, h.ok, h.sz⟩
theorem LD.keys {S : Sto} {f : Addr} {M : Mp} (h : LD S f M) {Q : VK2} (q : ∀ p, S p = none → Q (.ref p) (ups S p (.lst ((KM M).map D.int)))) : rSortedDI2 [.ref f] S Q := by
  rw [z_sortedDI, h.st]
  refine ⟨KM M, keys_eM M, ?_, fun ys h1 h2 p np => ?_⟩
  · unfold KM; rw [List.length_map, keysM_len]; exact Nat.lt_of_le_of_lt h.sz (by decide)
  · rw [sorted_eq h1 h2 (int_pw h.ky)]; exact q p np
end DL
namespace DL
end DL
namespace DL
open PySem PySem.Spec PyProof.Rows L2
/-- two lists of one's own beside a pen -/
structure Lg (S S' : Sto) (a f r : Addr) (n : Nat) (X R : O) : Prop where
  fr : Fr S S' a
  pen : PenC S' a n
  hf : S' f = some X
  hr : S' r = some R
  nf : S f = none
  nr : S r = none
  fa : f ≠ a
  ra : r ≠ a
  ne : f ≠ r
section
variable {S S' : Sto} {a f r p : Addr} {n m : Nat} {X R o : O} {x y z : Int}
theorem Lg.new (h : Lg S S' a f r n X R) (k : S' p = none) : Lg S (ups S' p o) a f r n X R :=
  ⟨h.fr.new k, h.pen.new k, by rw [ups_ne (ne_of_st h.hf k)]; exact h.hf, by rw [ups_ne (ne_of_st h.hr k)]; exact h.hr, h.nf, h.nr, h.fa, h.ra, h.ne⟩
theorem Lg.wr (h : Lg S S' a f r n X R) (h0 : 0 ≤ z) (h1 : z ≤ m) : Lg S (ups S' a (penC x y z)) a f r m X R :=
  ⟨h.fr.wr, penC_again h0 h1, by rw [ups_ne h.fa]; exact h.hf, by rw [ups_ne h.ra]; exact h.hr, h.nf, h.nr, h.fa, h.ra, h.ne⟩
theorem Lg.le (h : Lg S S' a f r n X R) (k : n ≤ m) : Lg S S' a f r m X R := { h with pen := h.pen.le k }
theorem Lg.na (h : Lg S S' a f r n X R) (k : S' p = none) : p ≠ a := fun e => h.pen.ne k e.symm
end
theorem erase_map {α β : Type} (f : α → β) : ∀ (xs : List α) (j : Nat), (xs.map f).eraseIdx j = (xs.eraseIdx j).map f
  | [], _ => rfl
  | x :: xs, 0 => rfl
  | x :: xs, j + 1 => by rw [List.map_cons, List.eraseIdx_cons_succ, List.eraseIdx_cons_succ, List.map_cons, erase_map f xs j]
/-! ### a thing beside itself -/
def SelfP (S : Sto) (n : Nat) (x : DL.D) : Prop := ∃ p, Py S x p ∧ p.canLay0 = true ∧ p.depth ≤ n ∧ PyData.eqv p p = true
section
variable {S : Sto} {Q : VK2} {a b : Addr} {n : Nat} {xs : List DL.D}
theorem self_all : ∀ {xs : List DL.D}, (∀ x ∈ xs, SelfP S n x) → ∃ ps, Pys S xs ps ∧ PyData.canLayAll0 ps = true ∧ PyData.depthAll ps ≤ n ∧ PyData.eqvAll ps ps = true
  | [], _ => ⟨[], .nil, rfl, Nat.zero_le _, rfl⟩
  | x :: xs, h => by
    obtain ⟨p, h1, h2, h3, h4⟩ := h x (List.mem_cons_self ..)
    obtain ⟨ps, k1, k2, k3, k4⟩ := self_all (xs := xs) fun y hy => h y (List.mem_cons_of_mem _ hy)
    refine ⟨p :: ps, .cons h1 k1, by simp [PyData.canLayAll0, h2, k2], ?_, by simp [PyData.eqvAll, h4, k4]⟩
    simp only [PyData.depthAll]
    omega
theorem self_enc {α : Type} [DecidableEq α] [Enc α] (x : α) (h : Enc.dep α ≤ n) : SelfP S n (Enc.enc x) := ⟨Enc.py x, Enc.isPy S x, Enc.lay x, Nat.le_trans (Enc.dep_le x) h, by rw [Enc.eqv]; exact decide_eq_true rfl⟩
theorem SelfP.le {m : Nat} {x : DL.D} (h : SelfP S n x) (k : n ≤ m) : SelfP S m x := let ⟨p, h1, h2, h3, h4⟩ := h; ⟨p, h1, h2, Nat.le_trans h3 k, h4⟩
end
theorem eDd_1 {d : Dd} {S : Sto} {Q : VK2} : ixkQ 1 (eDd d) S Q = Q (eQ d.t) S := by cases d <;> rfl
theorem smd_t {d : Dd} (h : SmD d) : Sm d.t := by
  cases d with
  | join t p m => exact h.1
  | leave t r => exact h
  | turn t r m => exact h.1
/-- two whole numbers side by side -/
def e2 (x : Int × Int) : DL.D := .tup [.int x.1, .int x.2]
def Gd (x : Int × Int) : Prop := 0 < x.2 ∧ Sz 200 x.1 ∧ Sz 200 x.2
theorem Gd.q {q : Rat} (h : Nz 200 q) : Gd (q.num, (q.den : Int)) := ⟨den_pos q, h.1, h.2⟩
end DL
namespace DL
open PySem PySem.Spec PyProof.Rows L2
/-- the next meeting of two lines behind a time -/
def chgL (L : List Ln) (i j : Nat) (t : Rat) : Option Rat := if (ln L i).2 = (ln L j).2 then none else if t < met (ln L i) (ln L j) then some (met (ln L i) (ln L j)) else none
theorem LD.pen {S : Sto} {f a : Addr} {M : Mp} {sc : List Int} (h : LD S f M) (k : PenA S a sc) : f ≠ a := by
  rintro rfl
  obtain ⟨x, y, e⟩ := k
  have := h.st
  rw [e] at this
  cases this
theorem LD.fr {S S' : Sto} {f a : Addr} {M : Mp} (h : LD S f M) (k : Fr S S' a) (n : f ≠ a) : LD S' f M := by
  refine ⟨?_, h.ky, h.ok, h.sz⟩
  have e := h.st
  cases q : S f with
  | none => rw [q] at e; cases e
  | some o => rw [k f o n q, ← q]; exact e
theorem LD.wr {S : Sto} {f a : Addr} {M : Mp} {o : O} (h : LD S f M) (n : f ≠ a) : LD (ups S a o) f M := ⟨by rw [ups_ne n]; exact h.st, h.ky, h.ok, h.sz⟩
theorem PenA.fa {S : Sto} {f a : Addr} {sc : List Int} (h : PenA S a sc) (n : S f = none) : f ≠ a := fun z => h.ne n z.symm
theorem Fr.miss {S S' : Sto} {a g : Addr} (h : Fr S S' a) (n : g ≠ a) (k : S' g = none) : S g = none := by
  cases q : S g with
  | none => rfl
  | some o => rw [h g o n q] at k; cases k
theorem PenA.sub' {S S' : Sto} {a : Addr} {sc : List Int} (h : PenA S a sc) (s : Sub S S') : PenA S' a sc := let ⟨x, y, e⟩ := h; ⟨x, y, s _ _ e⟩
/-- a change of two lines within a stretch -/
def Pc (L : List Ln) (t : Rat) (b : Option Rat) (i j : Nat) (x : Rat) : Prop := i < j ∧ chgL L i j t = some x ∧ ∀ v, b = some v → x < v
structure CI (L : List Ln) (t : Rat) (b : Option Rat) (i j : Nat) (C : List Rat) : Prop where
  inc : Inc C
  len : C.length ≤ i * L.length + j
  mem : ∀ x, x ∈ C ↔ (∃ i' j', i' < i ∧ j' < L.length ∧ Pc L t b i' j' x) ∨ ∃ j', j' < j ∧ Pc L t b i j' x
section
variable {L : List Ln} {t : Rat} {b : Option Rat} {i j : Nat} {C : List Rat}
theorem CI.start : CI L t b 0 0 [] := ⟨.nil, Nat.zero_le _, fun x => ⟨fun h => (by cases h), fun h => h.elim (fun ⟨_, _, h, _⟩ => absurd h (Nat.not_lt_zero _)) (fun ⟨_, h, _⟩ => absurd h (Nat.not_lt_zero _))⟩⟩
theorem CI.put {u : Rat} (h : CI L t b i j C) (p : Pc L t b i j u) (hu : u ∉ C) : CI L t b i (j + 1) (C.take (C.filter fun x => decide (x < u)).length ++ [u] ++ C.drop (C.filter fun x => decide (x < u)).length) := by
  obtain ⟨h1, h2⟩ := ins_at h.inc u hu
  have hl := List.length_filter_le (fun x => decide (x < u)) C
  refine ⟨h1, ?_, fun x => ?_⟩
  · have := h.len
    simp only [List.length_append, List.length_take, List.length_drop, List.length_singleton]
    omega
  · rw [h2]
    constructor
    · rintro (rfl | hx)
      · exact .inr ⟨j, Nat.lt_succ_self _, p⟩
      · rcases (h.mem x).mp hx with a | ⟨j', h1, h2⟩
        · exact .inl a
        · exact .inr ⟨j', Nat.lt_succ_of_lt h1, h2⟩
    · rintro (a | ⟨j', h1, h2⟩)
      · exact .inr ((h.mem x).mpr (.inl a))
      · rcases Nat.lt_succ_iff_lt_or_eq.mp h1 with c | rfl
        · exact .inr ((h.mem x).mpr (.inr ⟨j', c, h2⟩))
        · have := p.2.1.symm.trans h2.2.1
          exact .inl (Option.some.inj this).symm
theorem CI.row (h : CI L t b i L.length C) : CI L t b (i + 1) 0 C := by
  refine ⟨h.inc, by have := h.len; rw [Nat.succ_mul]; omega, fun x => ⟨fun hx => ?_, fun hx => ?_⟩⟩
  · rcases (h.mem x).mp hx with ⟨i', j', h1, h2, h3⟩ | ⟨j', h1, h2⟩
    · exact .inl ⟨i', j', Nat.lt_succ_of_lt h1, h2, h3⟩
    · exact .inl ⟨i, j', Nat.lt_succ_self _, h1, h2⟩
  · rcases hx with ⟨i', j', h1, h2, h3⟩ | ⟨j', h1, _⟩
    · rcases Nat.lt_succ_iff_lt_or_eq.mp h1 with c | rfl
      · exact (h.mem x).mpr (.inl ⟨i', j', c, h2, h3⟩)
      · exact (h.mem x).mpr (.inr ⟨j', h2, h3⟩)
    · exact absurd h1 (Nat.not_lt_zero _)
theorem chg_nz {u : Rat} (h : LOk L) (hi : i < L.length) (hj : j < L.length) (e : chgL L i j t = some u) : Nz 1210 u := by
  unfold chgL at e
  split at e
  · cases e
  · next n =>
    split at e
    · cases e; exact Lz.met (h.at hi) (h.at hj) n
    · cases e
end
/-! ### times of deeds; rows of fronts -/
structure IsT (D : List Dd) (T : List Rat) : Prop where
  inc : Inc T
  mem : ∀ x, x ∈ T ↔ ∃ d ∈ D, d.t = x
  len : T.length ≤ D.length
theorem IsT.nil : IsT [] [] := ⟨.nil, fun x => ⟨fun h => (by cases h), fun ⟨_, h, _⟩ => (by cases h)⟩, Nat.le_refl _⟩
theorem IsT.new {D : List Dd} {T : List Rat} {d : Dd} (h : IsT D T) (k : d.t ∉ T) (le : ∀ x ∈ D, x.t ≤ d.t) : IsT (D ++ [d]) (T ++ [d.t]) := by
  refine ⟨?_, fun x => ⟨fun hx => ?_, fun hx => ?_⟩, by rw [List.length_append, List.length_append]; have := h.len; simp only [List.length_singleton]; omega⟩
  · refine List.pairwise_append.mpr ⟨h.inc, by simp, fun a ha b hb => ?_⟩
    rw [List.mem_singleton.mp hb]
    obtain ⟨e, he, r⟩ := (h.mem a).mp ha
    have := le e he
    rw [r] at this
    have ne : a ≠ d.t := fun z => k (z ▸ ha)
    grind
  · rcases List.mem_append.mp hx with z | z
    · obtain ⟨e, he, r⟩ := (h.mem x).mp z
      exact ⟨e, List.mem_append_left _ he, r⟩
    · rw [List.mem_singleton.mp z]; exact ⟨d, by simp, rfl⟩
  · obtain ⟨e, he, rfl⟩ := hx
    rcases List.mem_append.mp he with z | z
    · exact List.mem_append_left _ ((h.mem _).mpr ⟨e, z, rfl⟩)
    · rw [List.mem_singleton.mp z]; simp
theorem IsT.uniq {D : List Dd} {T U : List Rat} (h : IsT D T) (k : IsT D U) : T = U := inc_ext h.inc k.inc fun x => by rw [h.mem, k.mem]
abbrev Fo := List (Option Int × Option Rat)
/-- put behind the last one, if it is another one -/
def putR (row : Fo) (r : Option Int) (t : Rat) : Fo := if (row.getLastD (none, none)).1 = r then row else row ++ [(r, some t)]
theorem putR_ne {R : Fo} {r : Option Int} {t : Rat} (h : R ≠ []) : putR R r t ≠ [] := by
  unfold putR
  split
  · exact h
  · simp
theorem putR_len {R : Fo} {r : Option Int} {t : Rat} : (putR R r t).length ≤ R.length + 1 := by
  unfold putR
  split
  · exact Nat.le_succ _
  · rw [List.length_append]; exact Nat.le_refl _
instance : PyN Int where
  nn a := by constructor <;> simp only [PyV.py, Enc.py, PyData.eqv]
/-- the times of deeds and of changes, stretch by stretch -/
inductive AllP (D : List Dd) (T : List Rat) : Nat → List Rat → Prop
  | zero : AllP D T 0 []
  | succ {k : Nat} {B C : List Rat} {t : Rat} : AllP D T k B → T[k]? = some t → CI (lnM (runM (thenD D t)).1) t T[k + 1]? (runM (thenD D t)).1.length 0 C → AllP D T (k + 1) (B ++ [t] ++ C)
theorem IsT.nz {D : List Dd} {T : List Rat} (h : IsT D T) (hD : DOk D) : ∀ x ∈ T, Nz 60 x := fun x hx => by
  obtain ⟨d, hd, rfl⟩ := (h.mem x).mp hx
  obtain ⟨a, b, e⟩ := List.append_of_mem hd
  exact (smd_t (hD.ok a d b e).1).nz
theorem CI.nz {L : List Ln} {t : Rat} {b : Option Rat} {n : Nat} {C : List Rat} (h : CI L t b n 0 C) (ok : LOk L) (hn : n ≤ L.length) : ∀ x ∈ C, Nz 1210 x := fun x hx => by
  rcases (h.mem x).mp hx with ⟨i', j', h1, h2, h3⟩ | ⟨j', h1, _⟩
  · exact chg_nz ok (by omega) h2 h3.2.1
  · exact absurd h1 (Nat.not_lt_zero _)
theorem lnM_ok {D : List Dd} (h : DOk D) : LOk (lnM (runM D).1) := fun l hl => by
  obtain ⟨x, hx, rfl⟩ := List.mem_map.mp hl
  exact h.lz x hx
theorem AllP.nz {D : List Dd} {T : List Rat} {k : Nat} {B : List Rat} (h : AllP D T k B) (hT : IsT D T) (hD : DOk D) : ∀ x ∈ B, Nz 1210 x := by
  induction h with
  | zero => intro x hx; cases hx
  | succ h1 h2 h3 ih =>
    intro x hx
    rcases List.mem_append.mp hx with hx | hx
    · rcases List.mem_append.mp hx with hx | hx
      · exact ih x hx
      · rw [List.mem_singleton.mp hx]
        exact (hT.nz hD _ (List.mem_of_getElem? h2)).le (by decide)
    · exact h3.nz (lnM_ok (hD.then _)) (by rw [lnM_len]; exact Nat.le_refl _) x hx
theorem AllP.len {D : List Dd} {T : List Rat} {k : Nat} {B : List Rat} (h : AllP D T k B) (hD : DOk D) : B.length ≤ 401 * k := by
  induction h with
  | zero => exact Nat.zero_le _
  | @succ k B C t h1 h2 h3 ih =>
    have hM := (hD.then t).room
    have h4 := h3.len
    rw [lnM_len] at h4
    have h5 : (runM (thenD D t)).1.length * (runM (thenD D t)).1.length ≤ 20 * 20 := Nat.mul_le_mul hM hM
    simp only [List.length_append, List.length_singleton]
    omega
theorem lt_line {n : Nat} (h : n < 100000) : n < sizeLine := Nat.lt_of_lt_of_le h (th_line' (Nat.le_refl _))
/-- what a stretch puts behind the row -/
def stepS (M : Mp) (t : Rat) (b : Option Rat) (row : Fo) (x : Nat × Option Rat) : Fo := match x.2 with
  | some s => if t < s ∧ (∀ v, b = some v → s < v) then putR row (some (kN M x.1)) s else row
  | none => row
def StrR (D : List Dd) (t : Rat) (b : Option Rat) (R R' : Fo) : Prop :=
  ((runM (thenD D t)).1 = [] ∧ R' = putR R none t) ∨
    ∃ r0 rest, IsRow (lnM (runM (thenD D t)).1) ((r0, none) :: rest) ∧ R' = rest.foldl (stepS (runM (thenD D t)).1 t b) (putR R (some (kN (runM (thenD D t)).1 (rd r0 rest t))) t)
inductive LdR (D : List Dd) (T : List Rat) : Nat → Fo → Prop
  | zero : LdR D T 0 [(none, none)]
  | succ {k : Nat} {R R' : Fo} {t : Rat} : LdR D T k R → T[k]? = some t → StrR D t T[k + 1]? R R' → LdR D T (k + 1) R'
theorem stepS_ne {M : Mp} {t : Rat} {b : Option Rat} {row : Fo} {x : Nat × Option Rat} (h : row ≠ []) : stepS M t b row x ≠ [] ∧ (stepS M t b row x).length ≤ row.length + 1 := by
  unfold stepS
  split
  · split
    · exact ⟨putR_ne h, putR_len⟩
    · exact ⟨h, Nat.le_succ _⟩
  · exact ⟨h, Nat.le_succ _⟩
theorem foldS_ne {M : Mp} {t : Rat} {b : Option Rat} : ∀ {xs : Rw} {row : Fo}, row ≠ [] → xs.foldl (stepS M t b) row ≠ [] ∧ (xs.foldl (stepS M t b) row).length ≤ row.length + xs.length
  | [], row, h => ⟨h, Nat.le_refl _⟩
  | x :: xs, row, h => by
    obtain ⟨h1, h2⟩ := stepS_ne (M := M) (t := t) (b := b) (x := x) h
    obtain ⟨i1, i2⟩ := foldS_ne (M := M) (t := t) (b := b) (xs := xs) h1
    exact ⟨i1, Nat.le_trans i2 (by rw [List.length_cons]; omega)⟩
theorem LdR.ne {D : List Dd} {T : List Rat} {k : Nat} {R : Fo} (h : LdR D T k R) (hD : DOk D) : R ≠ [] ∧ R.length ≤ 1 + 30 * k := by
  induction h with
  | zero => exact ⟨by simp, Nat.le_refl _⟩
  | @succ k R R' t h1 h2 h3 ih =>
    obtain ⟨i1, i2⟩ := ih
    rcases h3 with ⟨_, rfl⟩ | ⟨r0, rest, hr, rfl⟩
    · refine ⟨putR_ne i1, ?_⟩
      have := putR_len (R := R) (r := none) (t := t)
      omega
    · obtain ⟨j1, j2⟩ := foldS_ne (M := (runM (thenD D t)).1) (t := t) (b := T[k + 1]?) (xs := rest) (putR_ne (r := some (kN (runM (thenD D t)).1 (rd r0 rest t))) (t := t) i1)
      refine ⟨j1, ?_⟩
      have h5 := hr.len
      rw [lnM_len, List.length_cons] at h5
      have h6 := (hD.then t).room
      have h7 := putR_len (R := R) (r := some (kN (runM (thenD D t)).1 (rd r0 rest t))) (t := t)
      omega
end DL
namespace DL
open PySem PySem.Spec PyProof.Rows L2
section
variable {S : Sto} {Q : VK2} {a b : Addr} {xs : List DL.D}
theorem eq_self' (h1 : S a = some (.lst xs)) (h2 : S b = some (.lst xs)) (h : ∀ x ∈ xs, SelfP S 40 x) (q : Q (.bl true) S) : rEq (.ref a) (.ref b) S Q := by
  obtain ⟨ps, k1, k2, k3, k4⟩ := self_all h
  have hd : (PyData.list ps).depth ≤ 64 := by simp only [PyData.depth]; omega
  have hl : (PyData.list ps).canLay0 = true := by simpa [PyData.canLay0] using k2
  have he : PyData.eqv (.list ps) (.list ps) = true := by simpa only [PyData.eqv] using k4
  exact rEq_of ⟨_, _, .lst h1 k1, .lst h2 k1, shaped_of hl hd, shaped_of hl hd, he.symm⟩ q
end
end DL
/-! Exceptions over the data layer: raise, calls that may raise, a try whose clause keeps the exception in a name, isinstance and a field of it. -/
namespace DL
open PySem PySem.Spec PyProof.Rows L2
/-! ### what a frame's entry keeps -/
/-! ### defs that may raise -/
def uCallX (sp : Sp2) (W2 : St2 → XK2) (t : TA2) : TE2 := fun τ S Q => t τ S fun ds S1 => sp ds S1 Q (W2 τ)
/-! ### raise -/
def uRaise (x : Str) (W2 : St2 → XK2) (t : TA2) : TS2 := fun _ τ S => t τ S fun ds S1 => ds.length ≤ 100 ∧ W2 τ x none S1
/-! ### what a caught exception is -/
def isE (R ys : List Str) (Q : VK2) (S : Sto) : D → Prop
  | .non => Q (.bl false) S
  | .exc x _ => x ∈ R ∧ Q (.bl (ys.any (isub x))) S
  | _ => False
def uIsE (R ys : List Str) (ta : TE2) : TE2 := fun τ S Q => ta τ S fun d S1 => isE R ys Q S1 d
section
variable {X : Cx} {R Ys : List Str} {p p2 pos pp : Pos} {e : Expr} {es : List Expr} {ta : TE2} {y : Str}
/-! ### its field -/
def fldE (x n : Str) (Q : VK2) (S : Sto) : D → Prop
  | .exc y (some (m, i)) => y = x ∧ m = n ∧ Q (.int i) S
  | _ => False
def uFldE (x n : Str) (ta : TE2) : TE2 := fun τ S Q => ta τ S fun d S1 => fldE x n Q S1 d
end
/-! ### statements of a def's own body, held against its entry -/
/-! ### the exception is kept -/
theorem good_xd {K : PySem.W.Frag} {H : Hp} {a : Addr} {o : HO} (hn : H a = none ∨ ∃ fs, H a = some (.xd fs)) : Good K H (upd H a o) := by
  have nT : ∀ {b u}, H b = some u → (∀ fs, u ≠ .xd fs) → b ≠ a := fun {b u} e ne z => by
    subst z
    rcases hn with hn | ⟨fs, hn⟩
    · rw [hn] at e; cases e
    · rw [hn] at e; cases e; exact ne fs rfl
  have fd : ∀ b ob w, H b = some (.frz ob w) → upd H a o b = some (.frz ob w) := fun b ob w q => by rw [upd_ne (nT q fun fs z => by cases z)]; exact q
  refine ⟨⟨fun b xs h => ?_, fun b xs h => ?_, fun b x f => ExcAt.by fd⟩, fd⟩
  · rcases h with (h | ⟨ob, h⟩) | h
    · exact .inl (.inl (by rw [upd_ne (nT h fun fs z => by cases z)]; exact h))
    · exact .inl (.inr ⟨ob, fd _ _ _ h⟩)
    · exact .inr h
  · rcases h with ⟨ob, h⟩ | h
    · exact .inl ⟨ob, fd _ _ _ h⟩
    · exact .inr h
theorem RelS.xd {K : PySem.W.Frag} {S : Sto} {H : Hp} {a : Addr} {o : HO} (rs : RelS K S H) (hn : H a = none ∨ ∃ fs, H a = some (.xd fs)) : RelS K S (upd H a o) :=
  rs.keep (good_xd hn) fun b hb => upd_ne fun z => by
    subst z
    cases q : S b with
    | none => exact hb q
    | some u =>
      have r := rs b u q
      rcases hn with hn | ⟨fs, hn⟩
      · exact r.some hn
      · cases u with
        | lst ds => obtain ⟨_, e, _⟩ := r; rw [hn] at e; cases e
        | ins C fs => obtain ⟨_, _, e, _⟩ := r; rw [hn] at e; cases e
        | dic kvs => obtain ⟨_, e, _⟩ := r; rw [hn] at e; cases e
        | fdc ob kvs => obtain ⟨_, e, _⟩ := r; rw [hn] at e; cases e
        | dct kvs => obtain ⟨_, e, _⟩ := r; rw [hn] at e; cases e
        | fdt ob kvs => obtain ⟨_, e, _⟩ := r; rw [hn] at e; cases e
        | ndc ks => obtain ⟨_, _, e, _⟩ := r; rw [hn] at e; cases e
theorem Rl.put {K : PySem.W.Frag} {H : Hp} {τ : St2} {σ : L2.St} {d : D} {v v' : V} {i j : Nat} (h : Rl K H τ σ) (r : Dv K H d v) : Rl K H ((τ.set j (some d)).set i none) (((σ.set i (some v')).set j (some v)).set i none) := by
  refine ⟨by simp [h.len], fun k e q => ?_⟩
  by_cases hi : i = k
  · subst hi
    by_cases hl : i < (τ.set j (some d)).length
    · rw [List.getElem?_set_self hl] at q; cases q
    · rw [List.getElem?_eq_none (by simpa using hl)] at q; cases q
  · rw [List.getElem?_set_ne hi] at q
    rw [List.getElem?_set_ne hi]
    obtain ⟨w, hw, rw_⟩ := (h.set j r).at_ k e q
    refine ⟨w, ?_, rw_⟩
    by_cases hj : j = k
    · subst hj
      by_cases hl : j < σ.length
      · rw [List.getElem?_set_self hl] at hw
        rw [List.getElem?_set_self (by simpa using hl)]
        exact hw
      · rw [List.getElem?_eq_none (by simpa using hl)] at hw; cases hw
    · rw [List.getElem?_set_ne hj] at hw ⊢
      rw [List.getElem?_set_ne hi]
      exact hw
/-! ### defs -/
/-! ### the facts of the classes, by a look -/
end DL
/-! Numbers among things. -/
namespace DL
open PySem PySem.Spec PyProof.Rows L2
/-- what is a number -/
def isNumD : D → Bool
  | .tup [.int t, .int b] => decide (0 < b) && decide (Int.gcd t b = 1)
  | _ => false
/-- a thing that is told from numbers -/
def Th (S : Sto) (d : D) : Prop := (∃ T, tyOf S d = some T) ∧ ∀ x y, d = .tup [x, y] → (∃ T, tyOf S x = some T) ∧ ∃ T, tyOf S y = some T
theorem isE_non {R ys : List Str} {Q : VK2} {S : Sto} : isE R ys Q S .non = Q (.bl false) S := rfl
theorem isE_exc {R ys : List Str} {Q : VK2} {S : Sto} {x : Str} {f : Option (Str × Int)} : isE R ys Q S (.exc x f) = (x ∈ R ∧ Q (.bl (ys.any (isub x))) S) := rfl
theorem fldE_exc {x n y m : Str} {i : Int} {Q : VK2} {S : Sto} : fldE x n Q S (.exc y (some (m, i))) = (y = x ∧ m = n ∧ Q (.int i) S) := rfl
theorem isNon_exc {x : Str} {f : Option (Str × Int)} : isNon (.exc x f) = false := rfl
theorem Th.sub {S S' : Sto} (s : Sub S S') {d : D} (h : Th S d) : Th S' d := by
  have key : ∀ {d T}, tyOf S d = some T → tyOf S' d = some T := fun {d T} h => by
    cases d with
    | ref a =>
      have h : tyO (S a) = some T := h
      show tyO (S' a) = some T
      cases q : S a with
      | none => rw [q] at h; cases h
      | some o => rw [s a o q]; rw [q] at h; exact h
    | _ => exact h
  exact ⟨let ⟨T, e⟩ := h.1; ⟨T, key e⟩, fun x y e => let ⟨⟨T, a⟩, ⟨U, b⟩⟩ := h.2 x y e; ⟨⟨T, key a⟩, ⟨U, key b⟩⟩⟩
end DL
/-! Texts over the data layer: str, int of a text, join, split, partition, a sign in a text, a text sign by sign; isinstance of several built-in types; defs that call themselves. -/
namespace DL
open PySem PySem.Spec PyProof.Rows L2
def rStr1 : List D → Sto → VK2 → Prop
  | [.int i], S, Q => i.natAbs.log2 < 1920 ∧ Q (.str (Str.ofString (toString i))) S
  | _, _, _ => False
def rIntS : List D → Sto → VK2 → Prop
  | [.str a], S, Q => ∃ n, PySem.intText? a = some n ∧ a.length ≤ 640 ∧ Q (.int n) S
  | _, _, _ => False
/-- a text's method of one argument -/
def uM1 (r : R22) (to te : TE2) : TE2 := fun τ S Q => to τ S fun x S1 => isS S1 x ∧ te τ S1 fun y S2 => r x y S2 Q
def rJoin : R22 := fun x y S Q => match x with
  | .str a => ∃ ys : List Str, itemsOf S y = some (ys.map D.str) ∧ (ys.map (·.length)).sum + ys.length * a.length ≤ 16777216 ∧ Q (.str (Txt.join a ys)) S
  | _ => False
def rSplit : R22 := fun x y S Q => match x, y with
  | .str a, .str b => (b.length == 0) = false ∧ a.length + 2 ≤ sizeLine ∧ ∀ p, S p = none → Q (.ref p) (ups S p (.lst ((Txt.split a b).map D.str)))
  | _, _ => False
def rPart : R22 := fun x y S Q => match x, y with
  | .str a, .str b => (b.length == 0) = false ∧ a.length ≤ sizeLine ∧ Q (.tup [.str (Txt.partition a b).1, .str (Txt.partition a b).2.1, .str (Txt.partition a b).2.2]) S
  | _, _ => False
/-! ### a sign in a text -/
def rInC : R22 := fun x y S Q => match x, y with
  | .str a, .str z => ∃ c, a = ⟨#[c]⟩ ∧ Q (.bl (decide (c ∈ z.cps.toList))) S
  | _, _ => False
def rNotInC : R22 := fun x y S Q => match x, y with
  | .str a, .str z => ∃ c, a = ⟨#[c]⟩ ∧ Q (.bl (!decide (c ∈ z.cps.toList))) S
  | _, _ => False
/-! ### a thing among a tuple's -/
/-! ### a text, sign by sign -/
def sgD (x : Str) : List D := x.cps.toList.map fun c => .str ⟨#[c]⟩
def itS : D → Sto → (List D → (Sto → Prop) → Sto → Prop) → Prop
  | .str x, S, R => R (sgD x) stayT S
  | _, _, _ => False
def uItS (tl : TE2) : TI2 := fun τ S R => tl τ S fun d S1 => itS d S1 R
/-! ### isinstance of several built-in types -/
def uIsiS (ns : List Ty) (ta : TE2) : TE2 := fun τ S Q => ta τ S fun d S1 => onS (tyOf S1 d) fun T => Q (.bl (ns.any (isiT T))) S1
/-! ### a def that calls itself -/
theorem Fn.vac {P : Program} {w : World} {K : PySem.W.Frag} {mg : Str → Option Value} {base : Heap} {k : Nat} {x : Str} {st : Stmt} {ps : List Str} (FA : FunAt K mg x st ps) : Fn P w K mg base k x (fun _ _ _ _ => False) := by
  obtain ⟨f, fd, F, gm, bd⟩ := FA.ex
  exact ⟨f, fd, ps, ⟨fun vs H Q E ⟨_, _, _, _, _, _, z, _⟩ => z.elim, fun _ _ _ _ _ _ _ _ _ _ _ _ _ ⟨_, _, _, _, _, _, z, _⟩ => z.elim⟩, gm, F.kp, bd⟩
/-- the contract one step down -/
def prevSp (sp : Nat → Sp2) : Nat → Sp2
  | 0 => fun _ _ _ _ => False
  | n + 1 => sp n
section
variable {S : Sto} {Q : VK2} {a b z : Str} {i : Int} {y : D} {R : List D → (Sto → Prop) → Sto → Prop}
theorem z_str1 : rStr1 [.int i] S Q = (i.natAbs.log2 < 1920 ∧ Q (.str (Str.ofString (toString i))) S) := rfl
theorem z_intS : rIntS [.str a] S Q = ∃ n, PySem.intText? a = some n ∧ a.length ≤ 640 ∧ Q (.int n) S := rfl
theorem z_join : rJoin (.str a) y S Q = ∃ ys : List Str, itemsOf S y = some (ys.map D.str) ∧ (ys.map (·.length)).sum + ys.length * a.length ≤ 16777216 ∧ Q (.str (Txt.join a ys)) S := rfl
theorem z_split : rSplit (.str a) (.str b) S Q = ((b.length == 0) = false ∧ a.length + 2 ≤ sizeLine ∧ ∀ p, S p = none → Q (.ref p) (ups S p (.lst ((Txt.split a b).map D.str)))) := rfl
theorem z_part : rPart (.str a) (.str b) S Q = ((b.length == 0) = false ∧ a.length ≤ sizeLine ∧ Q (.tup [.str (Txt.partition a b).1, .str (Txt.partition a b).2.1, .str (Txt.partition a b).2.2]) S) := rfl
theorem z_inC : rInC (.str a) (.str z) S Q = ∃ c, a = ⟨#[c]⟩ ∧ Q (.bl (decide (c ∈ z.cps.toList))) S := rfl
theorem z_notinC : rNotInC (.str a) (.str z) S Q = ∃ c, a = ⟨#[c]⟩ ∧ Q (.bl (!decide (c ∈ z.cps.toList))) S := rfl
theorem z_itS : itS (.str a) S R = R (sgD a) stayT S := rfl
theorem z_isSs : isS S (.str a) = True := rfl
end
end DL
/-! Numbers as texts, and back. -/
namespace DL
open PySem PySem.Spec PyProof.Rows L2 TL
/-- the text of these signs -/
abbrev tS (l : List Nat) : Str := ⟨l.toArray⟩
theorem tS_len (l : List Nat) : (tS l).length = l.length := by simp [Str.length]
/-- the signs of a whole number -/
def numI (i : Int) : List Nat := if i < 0 then 45 :: numL i.natAbs else numL i.natAbs
theorem str_int (i : Int) : Str.ofString (toString i) = tS (numI i) := by
  refine ext_tl ?_
  rw [show tl (tS (numI i)) = numI i from rfl]
  unfold numI
  by_cases h : i < 0
  · rw [if_pos h]
    obtain ⟨n, rfl⟩ : ∃ n : Nat, i = -((n + 1 : Nat) : Int) := ⟨(-i - 1).toNat, by omega⟩
    have e : toString (-((n + 1 : Nat) : Int)) = "-" ++ toString ((n + 1 : Nat) : Int) := by
      show toString (Int.negSucc n) = _
      rfl
    rw [e, tl_ofString, String.toList_append, List.map_append, ← tl_ofString (toString _), tl_num]
    have : (-((n + 1 : Nat) : Int)).natAbs = n + 1 := by omega
    rw [this]
    rfl
  · rw [if_neg h]
    have e : i = ((i.natAbs : Nat) : Int) := by omega
    conv => lhs; rw [e]
    rw [tl_num]
/-- a number of few figures -/
def Few (q : Rat) : Prop := q.num.natAbs < 10 ^ 60 ∧ q.den < 10 ^ 60
theorem numI_len {i : Int} (h : i.natAbs < 10 ^ 60) : (numI i).length ≤ 61 := by
  have := numL_len (k := 60) (by decide) h
  unfold numI
  split
  · rw [List.length_cons]; omega
  · omega
theorem log_lt {n : Nat} (h : n < 10 ^ 60) : n.log2 < 1920 := Nat.lt_of_le_of_lt (show n.log2 ≤ 200 from by
  have : n < 2 ^ 201 := Nat.lt_of_lt_of_le h (by decide)
  by_cases z : n = 0
  · subst z; decide
  · have := (Nat.log2_lt z).mpr this; omega) (by decide)
end DL
/-! Rows as texts, and back. -/
namespace DL
open PySem PySem.Spec PyProof.Rows L2 TL
abbrev dS (l : List Nat) : D := .str (tS l)
/-- a part of a row -/
inductive Pt where
  | q (r : Rat) | n (i : Nat)
def PtOk : Pt → Prop
  | .q r => Few r
  | .n i => i < 10 ^ 60
structure RwT where
  word : List Nat
  parts : List Pt
structure RwOk (r : RwT) : Prop where
  wl : r.word.length ≤ 10
  wb : 32 ∉ r.word
  wf : 10 ∉ r.word
  wc : r.word.all (· < 1114112) = true
  pl : r.parts.length ≤ 4
  po : ∀ p ∈ r.parts, PtOk p
/-- lists of words that stand -/
def WL (S : Sto) (as : List Addr) (wss : List (List (List Nat))) : Prop := as.length = wss.length ∧ ∀ (i : Nat) (a : Addr) (ws : List (List Nat)), as[i]? = some a → wss[i]? = some ws → S a = some (.lst (ws.map dS))
theorem WL.sub {S S' : Sto} {as : List Addr} {wss : List (List (List Nat))} (h : WL S as wss) (s : Sub S S') : WL S' as wss := ⟨h.1, fun i a ws h1 h2 => s _ _ (h.2 i a ws h1 h2)⟩
theorem WL.snoc {S : Sto} {as : List Addr} {wss : List (List (List Nat))} {a : Addr} {ws : List (List Nat)} (h : WL S as wss) (ha : S a = some (.lst (ws.map dS))) : WL S (as ++ [a]) (wss ++ [ws]) := by
  refine ⟨by simp [h.1], fun i b vs h1 h2 => ?_⟩
  by_cases hi : i < as.length
  · rw [List.getElem?_append_left hi] at h1
    rw [List.getElem?_append_left (by rw [← h.1]; exact hi)] at h2
    exact h.2 i b vs h1 h2
  · have hi : i = as.length := by
      have := (List.getElem?_eq_some_iff.mp h1).1
      simp at this
      omega
    rw [hi, List.getElem?_append_right (Nat.le_refl _)] at h1
    rw [hi, h.1, List.getElem?_append_right (Nat.le_refl _)] at h2
    simp at h1 h2
    subst h1 h2
    exact ha
/-- the words of the kinds of rows -/
abbrev deedL : List Nat := [100, 101, 101, 100]
abbrev psL : List Nat := [112, 97, 115, 115]
/-- a row of a book -/
inductive BR where
  | deed (k : Nat) | pass (t : Rat) (k : Nat)
def rwB : BR → RwT
  | .deed k => ⟨deedL, [.n k]⟩
  | .pass t k => ⟨psL, [.q t, .n k]⟩
def BROk : BR → Prop
  | .deed k => k < 10 ^ 60
  | .pass t k => Few t ∧ k < 10 ^ 60
theorem rwB_ok {b : BR} (h : BROk b) : RwOk (rwB b) ∧ (rwB b).word ≠ [] := by
  cases b with
  | deed k => exact ⟨⟨(by decide : deedL.length ≤ 10), (by decide : 32 ∉ deedL), (by decide : 10 ∉ deedL), rfl, by simp [rwB], fun p hp => by simp [rwB] at hp; subst hp; exact h⟩, by simp [rwB]⟩
  | pass t k =>
    refine ⟨⟨(by decide : psL.length ≤ 10), (by decide : 32 ∉ psL), (by decide : 10 ∉ psL), rfl, by simp [rwB], fun p hp => ?_⟩, by simp [rwB]⟩
    simp [rwB] at hp
    rcases hp with rfl | rfl
    · exact h.1
    · exact h.2
/-- alike, to some depth -/
def Al (S : Sto) : Nat → D → D → Prop
  | 0, d, e => d = e ∧ ((∃ i, e = .int i) ∨ ∃ x, e = .str x)
  | n + 1, d, e => (d = e ∧ ((∃ i, e = .int i) ∨ ∃ x, e = .str x)) ∨
    (∃ xs ys, d = .tup xs ∧ e = .tup ys ∧ xs.length = ys.length ∧ ys.length ≤ 900 ∧ ∀ (i : Nat) x y, xs[i]? = some x → ys[i]? = some y → Al S n x y) ∨
    ∃ p q xs ys, d = .ref p ∧ e = .ref q ∧ S p = some (.lst xs) ∧ S q = some (.lst ys) ∧ xs.length = ys.length ∧ ys.length ≤ 900 ∧ ∀ (i : Nat) x y, xs[i]? = some x → ys[i]? = some y → Al S n x y
theorem Sub.put {S S' : Sto} {p : Addr} {o : O} (h : Sub S S') (n : S p = Option.none) : Sub S (ups S' p o) := h.new n
theorem Al.sub {S S' : Sto} (s : Sub S S') : ∀ {n : Nat} {d e : D}, Al S n d e → Al S' n d e
  | 0, _, _, h => h
  | n + 1, _, _, h => by
    rcases h with h | ⟨xs, ys, h1, h2, h3, h4, h5⟩ | ⟨p, q, xs, ys, h1, h2, h3, h4, h5, h6, h7⟩
    · exact .inl h
    · exact .inr (.inl ⟨xs, ys, h1, h2, h3, h4, fun i x y a b => (h5 i x y a b).sub s⟩)
    · exact .inr (.inr ⟨p, q, xs, ys, h1, h2, s _ _ h3, s _ _ h4, h5, h6, fun i x y a b => (h7 i x y a b).sub s⟩)
end DL
/-! A dict of the module with text keys: get. -/
namespace DL
open PySem PySem.Spec PyProof.Rows L2
def uKGet (kvs : List (Str × D)) (te : TE2) : TE2 := fun τ S Q => te τ S fun x S1 => match x with
  | .str z => Q ((kvs.lookup z).getD .non) S1
  | _ => False
def kg2 (kvs : List (Str × D)) (y : D) (Q : VK2) (S : Sto) : D → Prop
  | .str z => Q ((kvs.lookup z).getD y) S
  | _ => False
def uKGet2 (kvs : List (Str × D)) (te tf : TE2) : TE2 := fun τ S Q => te τ S fun x S1 => tf τ S1 fun y S2 => kg2 kvs y Q S2 x
/-! ### xs.remove(k), whole numbers -/
def rRemove2 : RM
  | .ref a, [.int k], S, Q => ∃ ns : List Int, S a = some (.lst (ns.map D.int)) ∧ k ∈ ns ∧ Q .non (ups S a (.lst ((ns.erase k).map D.int)))
  | _, _, _, _ => False
section
variable {S : Sto} {Q : VK2} {a : Addr} {k : Int} {z : Str} {y : D} {kvs : List (Str × D)}
theorem z_remove : rRemove2 (.ref a) [.int k] S Q = ∃ ns : List Int, S a = some (.lst (ns.map D.int)) ∧ k ∈ ns ∧ Q .non (ups S a (.lst ((ns.erase k).map D.int))) := rfl
theorem z_kg2 : kg2 kvs y Q S (.str z) = Q ((kvs.lookup z).getD y) S := rfl
end
end DL
/-! Logs that the program takes. -/
namespace DL
open PySem PySem.Spec PyProof.Rows L2
/-- a number of few figures, as the program asks -/
def SmX (q : Rat) : Prop := q.num.natAbs < 10 ^ 9 ∧ q.den ≤ 12
theorem SmX.few {q : Rat} (h : SmX q) : Few q := ⟨Nat.lt_trans h.1 (by decide), Nat.lt_of_le_of_lt h.2 (by decide)⟩
theorem SmX.int {t : Int} (ht : t.natAbs < 10 ^ 9) : SmX (t : Rat) := ⟨ht, by show (1 : Nat) ≤ 12; decide⟩
def SmXD : Dd → Prop
  | .join t p m => SmX t ∧ SmX p ∧ SmX m
  | .leave t _ => SmX t
  | .turn t _ m => SmX t ∧ SmX m
theorem SmXD.t {d : Dd} (h : SmXD d) : SmX d.t := by
  cases d with
  | join t p m => exact h.1
  | leave t r => exact h
  | turn t r m => exact h.1
def isJoin : Dd → Prop
  | .join _ _ _ => True
  | _ => False
/-- a log as the program takes it -/
structure LogX (D : List Dd) : Prop where
  ok : ∀ a d b, D = a ++ d :: b → SmXD d ∧ HasD (runM a).1 d ∧ (∀ x ∈ a, x.t ≤ d.t) ∧ (isJoin d → (runM a).1.length < 8)
  len : D.length ≤ 40
theorem LogX.nil : LogX [] := ⟨fun a d b e => by simp at e, by decide⟩
theorem LogX.snoc {D : List Dd} {d : Dd} (h : LogX D) (h1 : SmXD d) (h2 : HasD (runM D).1 d) (h3 : ∀ x ∈ D, x.t ≤ d.t) (h4 : isJoin d → (runM D).1.length < 8) (h5 : D.length < 40) : LogX (D ++ [d]) := by
  refine ⟨fun a x b e => ?_, by rw [List.length_append, List.length_singleton]; omega⟩
  rcases List.eq_nil_or_concat b with rfl | ⟨b', y, rfl⟩
  · obtain ⟨rfl, e2⟩ := List.append_inj' e rfl
    cases e2
    exact ⟨h1, h2, h3, h4⟩
  · rw [List.concat_eq_append, ← List.cons_append, ← List.append_assoc] at e
    obtain ⟨e1, e2⟩ := List.append_inj' e rfl
    exact h.ok a x b' e1
theorem LogX.pre {a b : List Dd} (h : LogX (a ++ b)) : LogX a := ⟨fun x d y e => h.ok x d (y ++ b) (by rw [e]; simp), by have := h.len; rw [List.length_append] at this; omega⟩
theorem step_lenX (s : Mp × Nat) (d : Dd) : (stepM s d).1.length ≤ s.1.length + 1 ∧ (¬ isJoin d → (stepM s d).1.length ≤ s.1.length) := by
  cases d with
  | join t p m => exact ⟨by simp [stepM], fun h => absurd trivial h⟩
  | leave t r =>
    have : (mdrop s.1 r).length ≤ s.1.length := List.length_filter_le _ _
    exact ⟨by show (mdrop s.1 r).length ≤ _; omega, fun _ => this⟩
  | turn t r m =>
    have : (mset s.1 r (at_ ((mget s.1 r).getD (0, 0)) t - m * t, m)).length = s.1.length := by unfold mset; simp
    exact ⟨by show (mset s.1 r _).length ≤ _; omega, fun _ => by show (mset s.1 r _).length ≤ _; omega⟩
theorem LogX.room {D : List Dd} (h : LogX D) : (runM D).1.length ≤ 8 := by
  have key : ∀ n, ∀ D : List Dd, D.length = n → LogX D → (runM D).1.length ≤ 8 := by
    intro n
    induction n with
    | zero => intro D e _; rw [List.length_eq_zero_iff.mp e]; exact Nat.zero_le _
    | succ n ih =>
      intro D e h
      rcases List.eq_nil_or_concat D with rfl | ⟨a, d, rfl⟩
      · exact Nat.zero_le _
      · rw [List.concat_eq_append] at h e ⊢
        have h1 := ih a (by simpa using e) h.pre
        have h2 := h.ok a d [] rfl
        rw [runM_snoc]
        have h3 := step_lenX (runM a) d
        by_cases j : isJoin d
        · have := h2.2.2.2 j
          omega
        · have := h3.2 j
          omega
  exact key _ D rfl h
/-- a deed as a row -/
abbrev joinL' : List Nat := [106, 111, 105, 110]
abbrev leaveL : List Nat := [108, 101, 97, 118, 101]
abbrev turnL : List Nat := [116, 117, 114, 110]
def rwD : Dd → RwT
  | .join t p m => ⟨joinL', [.q t, .q p, .q m]⟩
  | .leave t r => ⟨leaveL, [.q t, .n r]⟩
  | .turn t r m => ⟨turnL, [.q t, .n r, .q m]⟩
def fewD : Dd → Prop
  | .join t p m => Few t ∧ Few p ∧ Few m
  | .leave t r => Few t ∧ r < 10 ^ 60
  | .turn t r m => Few t ∧ r < 10 ^ 60 ∧ Few m
theorem rwD_ok {d : Dd} (h : fewD d) : RwOk (rwD d) ∧ (rwD d).word ≠ [] := by
  cases d with
  | join t p m => exact ⟨⟨(by decide : joinL'.length ≤ 10), (by decide : 32 ∉ joinL'), (by decide : 10 ∉ joinL'), rfl, by simp [rwD], fun p hp => by simp [rwD] at hp; rcases hp with rfl | rfl | rfl <;> first | exact h.1 | exact h.2.1 | exact h.2.2⟩, by simp [rwD]⟩
  | leave t r => exact ⟨⟨(by decide : leaveL.length ≤ 10), (by decide : 32 ∉ leaveL), (by decide : 10 ∉ leaveL), rfl, by simp [rwD], fun p hp => by simp [rwD] at hp; rcases hp with rfl | rfl <;> first | exact h.1 | exact h.2⟩, by simp [rwD]⟩
  | turn t r m => exact ⟨⟨(by decide : turnL.length ≤ 10), (by decide : 32 ∉ turnL), (by decide : 10 ∉ turnL), rfl, by simp [rwD], fun p hp => by simp [rwD] at hp; rcases hp with rfl | rfl | rfl <;> first | exact h.1 | exact h.2.1 | exact h.2.2⟩, by simp [rwD]⟩
end DL
/-! Counted walks. -/
namespace DL
open PySem PySem.Spec PyProof.Rows L2
theorem LogX.mem {D : List Dd} (h : LogX D) {x : Dd} (hx : x ∈ D) : SmXD x := by
  obtain ⟨a, b, rfl⟩ := List.append_of_mem hx
  exact (h.ok a x b rfl).1
/-! ### deeds by their words -/
open TL
/-! ### a log under the pen -/
structure LgB (S S' : Sto) (a f r : Addr) (sc : List Int) (X R : O) : Prop where
  fr : Fr S S' a
  pen : PenB S' a sc
  hf : S' f = some X
  hr : S' r = some R
  nf : S f = none
  nr : S r = none
  fa : f ≠ a
  ra : r ≠ a
  ne : f ≠ r
section
variable {S S' S2 : Sto} {a f r p : Addr} {sc : List Int} {X R o : O} {x y : Int}
theorem LgB.new (h : LgB S S' a f r sc X R) (k : S' p = none) : LgB S (ups S' p o) a f r sc X R :=
  ⟨h.fr.new k, h.pen.new k, by rw [ups_ne (ne_of_st h.hf k)]; exact h.hf, by rw [ups_ne (ne_of_st h.hr k)]; exact h.hr, h.nf, h.nr, h.fa, h.ra, h.ne⟩
theorem LgB.go (h : LgB S S' a f r sc X R) (k : Fr S' S2 a) (k2 : PenB S2 a sc) : LgB S S2 a f r sc X R :=
  ⟨h.fr.trans k, k2, k _ _ h.fa h.hf, k _ _ h.ra h.hr, h.nf, h.nr, h.fa, h.ra, h.ne⟩
theorem LgB.wr (h : LgB S S' a f r sc X R) : LgB S (ups S' a (penP sc x y)) a f r sc X R := h.go (Fr.refl _ _).wr penB_again
theorem LgB.na (h : LgB S S' a f r sc X R) (k : S' p = none) : p ≠ a := fun e => h.pen.ne k e.symm
end
theorem LogX.few {D : List Dd} (h : LogX D) : ∀ d ∈ D, fewD d := by
  intro d hd
  obtain ⟨a, b, rfl⟩ := List.append_of_mem hd
  obtain ⟨h1, h2, _⟩ := h.ok a d b rfl
  have hl := h.len
  have k2 : ∀ D : List Dd, (runM D).2 ≤ D.length := snoc_ind (Nat.le_refl _) fun D d ih => by
    rw [runM_snoc, List.length_append, List.length_singleton]
    cases d with
    | join t p m => show (runM D).2 + 1 ≤ _; omega
    | leave t r => show (runM D).2 ≤ _; omega
    | turn t r m => show (runM D).2 ≤ _; omega
  have hk : ∀ r ∈ keysM (runM a).1, r < 10 ^ 60 := fun r hr => by
    have e1 := (keyOk_run a).2 r hr
    have e2 := k2 a
    rw [List.length_append] at hl
    have e3 : r < 40 := by omega
    exact Nat.lt_of_lt_of_le e3 (by decide)
  cases d with
  | join t p m => exact ⟨h1.1.few, h1.2.1.few, h1.2.2.few⟩
  | leave t r => exact ⟨SmX.few h1, hk r h2⟩
  | turn t r m => exact ⟨h1.1.few, hk r h2, h1.2.few⟩
end DL
/-! Things told to their depth. -/
namespace DL
open PySem PySem.Spec PyProof.Rows L2
/-- what is held against itself -/
def NiceP (n : Nat) (p : PyData) : Prop := p.canLay0 = true ∧ p.depth ≤ n ∧ PyData.eqv p p = true
theorem NiceP.le {n m : Nat} {q : PyData} (h : NiceP n q) (k : n ≤ m) : NiceP m q := ⟨h.1, Nat.le_trans h.2.1 k, h.2.2⟩
mutual
theorem Py.sub {S S' : Sto} (s : Sub S S') : ∀ (p : PyData) (d : D), Py S d p → Py S' d p
  | .none, _, h => by cases h; exact .non
  | .bool b, _, h => by cases h; exact .bl b
  | .int b, _, h => by cases h; exact .int b
  | .str b, _, h => by cases h; exact .str b
  | .tuple ps, _, h => by cases h with
    | tup hs => exact .tup (Pys.sub s ps _ hs)
  | .list ps, _, h => by cases h with
    | fl hs => exact .fl (Pys.sub s ps _ hs)
    | lst e hs => exact .lst (s _ _ e) (Pys.sub s ps _ hs)
  | .dict _, _, h => by cases h
theorem Pys.sub {S S' : Sto} (s : Sub S S') : ∀ (ps : List PyData) (ds : List D), Pys S ds ps → Pys S' ds ps
  | [], _, h => by cases h; exact .nil
  | p :: ps, _, h => by cases h with
    | cons h1 h2 => exact .cons (Py.sub s p _ h1) (Pys.sub s ps _ h2)
end
theorem Pys.snoc {S : Sto} {ds : List D} {ps : List PyData} {d : D} {p : PyData} (h : Pys S ds ps) (k : Py S d p) : Pys S (ds ++ [d]) (ps ++ [p]) := by
  induction ps generalizing ds with
  | nil => cases h; exact .cons k .nil
  | cons x ps ih => cases h with
    | cons h1 h2 => exact .cons h1 (ih h2)
theorem Pys.length {S : Sto} : ∀ {ds : List D} {ps : List PyData}, Pys S ds ps → ds.length = ps.length
  | _, [], h => by cases h; rfl
  | _, p :: ps, h => by cases h with
    | cons h1 h2 => rw [List.length_cons, List.length_cons, Pys.length h2]
theorem Pys.get {S : Sto} : ∀ {ds : List D} {ps : List PyData} (i : Nat) {d : D}, Pys S ds ps → ds[i]? = some d → ∃ p, ps[i]? = some p ∧ Py S d p
  | [], _, i, d, h, e => by simp at e
  | x :: ds, _, 0, d, h, e => by
    obtain rfl := Option.some.inj e
    cases h with
    | cons h1 h2 => exact ⟨_, rfl, h1⟩
  | x :: ds, _, i + 1, d, h, e => by
    have e : ds[i]? = some d := e
    cases h with
    | cons h1 h2 => exact Pys.get i h2 e
/-! ### the things of a log -/
def pyQ (q : Rat) : PyData := .tuple [.int q.num, .int (q.den : Int)]
theorem py_eQ {S : Sto} (q : Rat) : Py S (eQ q) (pyQ q) := .tup (.cons (.int _) (.cons (.int _) .nil))
/-! ### a full log -/
theorem SmX.neg {q : Rat} (h : SmX q) : SmX (-q) := ⟨by show (-q.num).natAbs < _; rw [Int.natAbs_neg]; exact h.1, h.2⟩
/-! ### what is kept -/
structure KK (S1 S : Sto) (kp : Addr) (X : O) : Prop where
  fr : Fr S1 S kp
  at' : S kp = some X
section
variable {S1 S S2 : Sto} {kp p q a : Addr} {X o u : O}
theorem KK.new (h : KK S1 S kp X) (k : S p = none) : KK S1 (ups S p o) kp X := ⟨h.fr.new k, (ups_ne (ne_of_st h.at' k)).trans h.at'⟩
theorem KK.own (h : KK S1 S kp X) (k : S1 p = none) (n : p ≠ kp) : KK S1 (ups S p o) kp X := ⟨h.fr.own k, (ups_ne (Ne.symm n)).trans h.at'⟩
theorem KK.go (h : KK S1 S kp X) (k : Fr S S2 a) (n : S1 a = none) (d : a ≠ kp) : KK S1 S2 kp X :=
  ⟨fun b o' hb e => k b o' (fun z => by subst z; rw [n] at e; cases e) (h.fr b o' hb e), k _ _ (Ne.symm d) h.at'⟩
theorem KK.sub (h : KK S1 S kp X) (k : Sub S S2) : KK S1 S2 kp X := ⟨h.fr.sub k, k _ _ h.at'⟩
theorem KK.non (h : KK S1 S kp X) (k : S p = Option.none) : S1 p = Option.none := by
  cases e : S1 p with
  | none => rfl
  | some o =>
    by_cases z : p = kp
    · subst z; rw [h.at'] at k; cases k
    · rw [h.fr p o z e] at k; cases k
theorem KK.ne (h : KK S1 S kp X) (k : S p = none) : p ≠ kp := fun z => by subst z; rw [h.at'] at k; cases k
theorem KK.set (h : KK S1 S kp X) : KK S1 (ups S kp o) kp o := ⟨h.fr.wr, ups_same⟩
end
def KeptL (S : Sto) (kp : Addr) (ps : List (Addr × Addr × List Dd)) : Prop := ∀ x ∈ ps, x.1 ≠ kp ∧ x.2.1 ≠ kp ∧ S x.1 = some (.lst (x.2.2.map eDd)) ∧ S x.2.1 = some (.lst (x.2.2.map eDd)) ∧ LogX x.2.2
theorem KeptL.fr {S S' : Sto} {kp : Addr} {ps : List (Addr × Addr × List Dd)} (h : KeptL S kp ps) (f : Fr S S' kp) : KeptL S' kp ps := fun x hx => by
  obtain ⟨a, b, c, d, e⟩ := h x hx
  exact ⟨a, b, f _ _ a c, f _ _ b d, e⟩
theorem KeptL.snoc {S : Sto} {kp : Addr} {ps : List (Addr × Addr × List Dd)} {x : Addr × Addr × List Dd} (h : KeptL S kp ps) (a : x.1 ≠ kp) (b : x.2.1 ≠ kp) (c : S x.1 = some (.lst (x.2.2.map eDd))) (d : S x.2.1 = some (.lst (x.2.2.map eDd))) (e : LogX x.2.2) : KeptL S kp (ps ++ [x]) := fun y hy => by
  rcases List.mem_append.mp hy with hy | hy
  · exact h y hy
  · rw [List.mem_singleton.mp hy]; exact ⟨a, b, c, d, e⟩
end DL
/-! Exceptions whose class has its own __init__. -/
namespace DL
open PySem PySem.Spec PyProof.Rows L2
def uRaiseO (x f : Str) (W2 : St2 → XK2) (t : TA2) : TS2 := fun _ τ S => t τ S fun ds S1 => ∃ i, ds = [.int i] ∧ W2 τ x (some (f, i)) S1
/-! ### the def of such an __init__ -/
section
variable {P : Program} {w : World} {K : PySem.W.Frag} {mg : Str → Option Value} {base : Heap}
/-- a def of a class -/
structure MetAt (K : PySem.W.Frag) (x m q : Str) (st : Stmt) (ps : List Str) : Prop where
  ex : ∃ f fd, Fun K m q st f fd ∧ Meth K (cA K x) m f ∧ Binds K fd ps []
theorem met_at {h : Heap} {x m q : Str} {st : Stmt} {ps : List Str} {C f : Addr} {oc : Value} {od an : Option Addr} {osl : Array (Option Value)} {kV doc pm cdv ct : Value} (X : K.In h)
    (aC : PySem.W.nsIn K mainGlobals x = some (some (.ref C))) (a : PySem.W.findIn K (.ref C) m = some (some (.ref f))) (i : PySem.W.isFn K (.ref f) = true)
    (l : K.lookup f = some ⟨oc, od, .func (PySem.W.fnOf m q (defArgs st) (defBody st) (defScope st) .none kV doc pm an cdv ct), osl⟩) (c : PySem.W.codeIn K cdv q = true) (k : PySem.W.keepIn K (.ref f) = true)
    (hb : ∀ (kV doc pm : Value) (an : Option Addr) (cdv ct : Value) (us : List Value), us.length = ps.length → bindArgs (PySem.W.fnOf m q (defArgs st) (defBody st) (defScope st) .none kV doc pm an cdv ct) ⟨us, []⟩ = pure (ps.zip us)) : MetAt K x m q st ps := by
  have e : cA K x = C := by unfold cA; rw [aC]
  exact ⟨f, _, fun_mk l c k, by rw [e]; exact ⟨a, i, k⟩, (fun_mk l c k).binds hb⟩
end
end DL
/-! Texts, more: a text times a number, the place of a sign. -/
namespace DL
open PySem PySem.Spec PyProof.Rows L2
open Builtin Builtin.Str StrLaws
/-! ### the first place of a sign -/
/-- the first place of a sign -/
def fstI (c : Nat) : List Nat → Option Nat
  | [] => none
  | d :: l => if d = c then some 0 else (fstI c l).map (· + 1)
def rIndexC : R22 := fun x y S Q => match x, y with
  | .str a, .str b => ∃ c i, b = ⟨#[c]⟩ ∧ fstI c a.cps.toList = some i ∧ Q (.int (i : Nat)) S
  | _, _ => False
/-! ### a text times a number -/
def repS (l : List Nat) : Nat → List Nat
  | 0 => []
  | n + 1 => l ++ repS l n
def rMulS : D → D → Sto → VK2 → Prop
  | .str a, .int k, S, Q => 2 ≤ k ∧ k ≤ 1000 ∧ 1 ≤ a.length ∧ a.length ≤ 1000 ∧ Q (.str ⟨(repS a.cps.toList k.toNat).toArray⟩) S
  | _, _, _, _ => False
section
variable {S : Sto} {Q : VK2} {a b : Str} {i : Int}
theorem z_indexC : rIndexC (.str a) (.str b) S Q = ∃ c i, b = ⟨#[c]⟩ ∧ fstI c a.cps.toList = some i ∧ Q (.int (i : Nat)) S := rfl
theorem z_mulS : rMulS (.str a) (.int i) S Q = (2 ≤ i ∧ i ≤ 1000 ∧ 1 ≤ a.length ∧ a.length ≤ 1000 ∧ Q (.str ⟨(repS a.cps.toList i.toNat).toArray⟩) S) := rfl
end
end DL
/-! Texts of numbers: those of many figures, and a reading sign by sign. -/
namespace DL
open PySem PySem.Spec PyProof.Rows L2 TL
/-! ### where a sign is -/
end DL
/-! Dicts whose keys are tuples of whole numbers and texts. -/
namespace PySem
open Lean PySem.Calls PyProof.Rows PyProof.V PySem.Spec PySem.W
end PySem
namespace DL
open PySem PySem.Spec PyProof.Rows L2
def keysOf : List D → Option (List Key)
  | [] => some []
  | d :: ds => match keyD d, keysOf ds with
    | some k, some ks => some (k :: ks)
    | _, _ => none
def keyI : Key → D
  | .inl i => .int i
  | .inr x => .str x
/-- the keys of a table, each a tuple -/
def keysT (kvs : List (List Key × D)) : List D := kvs.map fun kv => .tup (kv.1.map keyI)
theorem Dvs.keys {K : PySem.W.Frag} {H : Hp} : ∀ ks : List Key, Dvs K H (ks.map keyI) (ks.map kV)
  | [] => .nil
  | .inl i :: ks => .cons (.int i) (Dvs.keys ks)
  | .inr x :: ks => .cons (.str x) (Dvs.keys ks)
def wT : Option O → Option (List (List Key × D))
  | some (.dct k) => some k
  | _ => none
theorem RelS.wt {K : PySem.W.Frag} {S : Sto} {H : Hp} {a : Addr} {us us' : List (List Key × V)} {xs' : List (List Key × D)} (rs : RelS K S H) (e : H a = some (.dT us)) (r : KVs K H xs' us') : Good K H (upd H a (.dT us')) ∧ RelS K (ups S a (.dct xs')) (upd H a (.dT us')) :=
  have g := good_write (K := K) (u' := .dT us') e trivial
  ⟨g, rs.write (o := .dct xs') e trivial ⟨us', upd_same, r.keep g⟩⟩
def uDNewT : TE2 := fun _ S Q => ∀ p, S p = none → Q (.ref p) (ups S p (.dct []))
def ixTQ (d : D) (ds : List D) (S : Sto) (Q : VK2) : Prop := match d with
  | .ref a => ds.length ≤ 1000 ∧ onS (tOf (S a)) fun kvs => onS (keysOf ds) fun k => onS (dget kvs k) fun x => Q x S
  | _ => False
def uDIxT (td : TE2) (t : TA2) : TE2 := fun τ S Q => td τ S fun d S1 => t τ S1 fun ds S2 => ixTQ d ds S2 Q
def setTQ (d : D) (o : D) (ds : List D) (S : Sto) (Q : Sto → Prop) : Prop := match o with
  | .ref a => ds.length ≤ 1000 ∧ onS (wT (S a)) fun kvs => onS (keysOf ds) fun k => kvs.length < 1000 ∧ Q (ups S a (.dct (dput kvs k d)))
  | _ => False
def vDSubT (to : TE2) (t : TA2) : TG2 := fun d τ S Q => to τ S fun o S1 => t τ S1 fun ds S2 => setTQ d o ds S2 fun S3 => Q τ S3
/-! ### a walk over one, locked -/
def itDT : D → Sto → (List D → (Sto → Prop) → Sto → Prop) → Prop
  | .ref a, S, R => match S a with
    | some (.fdt o kvs) => R (keysT kvs) (fun S' => S' a = some (.fdt o kvs)) S
    | _ => False
  | _, _, _ => False
def uItDT (tl : TE2) : TI2 := fun τ S R => tl τ S fun d S1 => itDT d S1 R
def uLockQT (a : Addr) (E : Ends2) (o : Obj) (kvs : List (List Key × D)) : Ends2 :=
  ⟨fun τ' S' => S' a = some (.fdt o kvs) ∧ E.nx τ' (ups S' a (.dct kvs)), fun v S' => S' a = some (.fdt o kvs) ∧ E.rt v (ups S' a (.dct kvs)),
   fun τ' S' => S' a = some (.fdt o kvs) ∧ E.bk τ' (ups S' a (.dct kvs)), fun τ' S' => S' a = some (.fdt o kvs) ∧ E.ct τ' (ups S' a (.dct kvs))⟩
def uLockST (i : Nat) (t : TS2) : TS2 := fun E τ S => match τ[i]? with
  | some (some (.ref a)) => match S a with
    | some (.dct kvs) => ∀ o, t (uLockQT a E o kvs) τ (ups S a (.fdt o kvs))
    | _ => False
  | _ => False
section
variable {S : Sto} {Q : VK2} {R : Sto → Prop} {a b : Addr} {d : D} {ds : List D}
theorem z_dxT : ixTQ (.ref a) ds S Q = (ds.length ≤ 1000 ∧ onS (tOf (S a)) fun kvs => onS (keysOf ds) fun k => onS (dget kvs k) fun x => Q x S) := rfl
theorem z_dstT : setTQ d (.ref a) ds S R = (ds.length ≤ 1000 ∧ onS (wT (S a)) fun kvs => onS (keysOf ds) fun k => kvs.length < 1000 ∧ R (ups S a (.dct (dput kvs k d)))) := rfl
end
end DL
/-! Tables of who is ahead of whom. -/
namespace DL
open PySem PySem.Spec PyProof.Rows L2
end DL
/-! Objects: fields by their places, methods, making; a slice of a list written. -/
namespace DL
open PySem PySem.Spec PyProof.Rows L2
structure KlOk (K : PySem.W.Frag) (k : Kls) : Prop where
  cl : Cls K (cA K k.name)
  na : ∀ f ∈ k.fields, NoAttr K (cA K k.name) f
/-- of an object of the class -/
def insQ (k : Kls) : Option O → (List D → Prop) → Prop
  | some (.ins k' ds), F => k' = k ∧ F ds
  | _, _ => False
theorem insQ_get {k : Kls} {o : Option O} {F : List D → Prop} (h : insQ k o F) : ∃ ds, o = some (.ins k ds) ∧ F ds := by
  unfold insQ at h
  split at h
  · obtain ⟨rfl, h⟩ := h; exact ⟨_, rfl, h⟩
  · exact h.elim
theorem z_insK {k : Kls} {ds : List D} {F : List D → Prop} : insQ k (some (.ins k ds)) F = F ds := by
  show (k = k ∧ F ds) = F ds
  simp
def putD : List D → Nat → D → List D
  | [], _, v => [v]
  | _ :: ds, 0, v => v :: ds
  | x :: ds, n + 1, v => x :: putD ds n v
section
variable {K : PySem.W.Frag} {H : Hp}
theorem Flds.get {f : Str} {x : D} : ∀ {fs : List Str} {ds : List D} {gs : List (Str × V)} {j : Nat}, Flds K H (fs.zip ds) gs → fs.Nodup → fs[j]? = some f → ds[j]? = some x → ∃ v, gs.lookup f = some v ∧ Dv K H x v
  | [], _, _, _, _, _, h, _ => by simp at h
  | _ :: _, [], _, _, _, _, _, h => by simp at h
  | g :: fs, d :: ds, gs, 0, h, hn, h1, h2 => by
    simp at h1 h2
    subst h1 h2
    cases h with
    | cons r t => exact ⟨_, by simp [List.lookup_cons], r⟩
  | g :: fs, d :: ds, gs, j + 1, h, hn, h1, h2 => by
    have h1 : fs[j]? = some f := by simpa using h1
    have h2 : ds[j]? = some x := by simpa using h2
    cases h with
    | @cons _ _ v _ vs r t =>
      obtain ⟨v', e, rv⟩ := Flds.get t (List.nodup_cons.mp hn).2 h1 h2
      have hne : f ≠ g := fun z => (List.nodup_cons.mp hn).1 (z ▸ List.mem_of_getElem? h1)
      refine ⟨v', ?_, rv⟩
      rw [List.lookup_cons, beq_eq_false_iff_ne.mpr hne]
      exact e
theorem Flds.put {f : Str} {y : D} {v : V} (rv : Dv K H y v) : ∀ {fs : List Str} {ds : List D} {gs : List (Str × V)} {j : Nat}, Flds K H (fs.zip ds) gs → fs.Nodup → fs[j]? = some f → j ≤ ds.length → Flds K H (fs.zip (putD ds j y)) (putF f v gs)
  | [], _, _, _, _, _, h, _ => by simp at h
  | g :: fs, [], gs, 0, h, hn, h1, h2 => by
    simp at h1
    subst h1
    cases h
    exact .cons rv (by simp; exact .nil)
  | g :: fs, [], gs, j + 1, h, hn, h1, h2 => by simp at h2
  | g :: fs, d :: ds, gs, 0, h, hn, h1, h2 => by
    simp at h1
    subst h1
    cases h with
    | cons r t =>
      show Flds K H ((g, y) :: fs.zip ds) (if g = g then (g, v) :: _ else _)
      rw [if_pos rfl]
      exact .cons rv t
  | g :: fs, d :: ds, gs, j + 1, h, hn, h1, h2 => by
    have h1 : fs[j]? = some f := by simpa using h1
    have h2 : j ≤ ds.length := by simpa using h2
    have hne : g ≠ f := fun z => (List.nodup_cons.mp hn).1 (z.symm ▸ List.mem_of_getElem? h1)
    cases h with
    | cons r t =>
      show Flds K H ((g, d) :: fs.zip (putD ds j y)) (if g = f then _ else (g, _) :: putF f v _)
      rw [if_neg hne]
      exact .cons r (Flds.put rv t (List.nodup_cons.mp hn).2 h1 h2)
theorem Flds.miss {m : Str} : ∀ {fs : List Str} {ds : List D} {gs : List (Str × V)}, Flds K H (fs.zip ds) gs → m ∉ fs → gs.lookup m = none
  | [], _, _, h, _ => by cases h; rfl
  | _ :: _, [], _, h, _ => by cases h; rfl
  | g :: fs, d :: ds, gs, h, hm => by
    cases h with
    | cons r t =>
      rw [List.lookup_cons, beq_eq_false_iff_ne.mpr (fun z => hm (by rw [z]; exact List.mem_cons_self ..))]
      exact Flds.miss t fun z => hm (List.mem_cons_of_mem _ z)
theorem Flds.len : ∀ {fs : List Str} {ds : List D} {gs : List (Str × V)}, Flds K H (fs.zip ds) gs → gs.length ≤ fs.length
  | [], _, _, h => by cases h; simp
  | _ :: _, [], _, h => by cases h; simp
  | g :: fs, d :: ds, gs, h => by
    cases h with
    | cons r t =>
      have := Flds.len t
      simp
      omega
end
def fldQ (k : Kls) (j : Nat) (d : D) (S : Sto) (Q : VK2) : Prop := match d with
  | .ref a => insQ k (S a) fun ds => nthQ ds j fun x => Q x S
  | _ => False
def uFld (k : Kls) (j : Nat) (te : TE2) : TE2 := fun τ S Q => te τ S fun d S1 => fldQ k j d S1 Q
def sfQ (k : Kls) (j : Nat) (y : D) (d : D) (S : Sto) (Q : Sto → Prop) : Prop := match d with
  | .ref a => insQ k (S a) fun ds => j ≤ ds.length ∧ Q (ups S a (.ins k (putD ds j y)))
  | _ => False
def uSFld (k : Kls) (j : Nat) (to tv : TE2) : TS2 := fun E τ S => tv τ S fun y S1 => to τ S1 fun d S2 => sfQ k j y d S2 fun S3 => E.nx τ S3
def mthQ (k : Kls) (d : D) (S : Sto) (P : Prop) : Prop := match d with
  | .ref a => insQ k (S a) fun _ => P
  | _ => False
def uMeth (k : Kls) (sp : Sp2) (to : TE2) (t : TA2) : TE2 := fun τ S Q => to τ S fun d S1 => mthQ k d S1 (t τ S1 fun ds S2 => sp (d :: ds) S2 Q fun _ _ _ => False)
def uMake (k : Kls) (sp : Sp2) (t : TA2) : TE2 := fun τ S Q => t τ S fun ds S1 => ∀ x, S1 x = none → sp (.ref x :: ds) (ups S1 x (.ins k [])) (fun v S2 => v = .non ∧ Q (.ref x) S2) fun _ _ _ => False
section
variable {k : Kls} {j : Nat} {S : Sto} {Q : VK2} {R : Sto → Prop} {P : Prop} {a : Addr} {y : D}
theorem z_fld : fldQ k j (.ref a) S Q = insQ k (S a) fun ds => nthQ ds j fun x => Q x S := rfl
theorem z_sf : sfQ k j y (.ref a) S R = insQ k (S a) fun ds => j ≤ ds.length ∧ R (ups S a (.ins k (putD ds j y))) := rfl
theorem z_mth : mthQ k (.ref a) S P = insQ k (S a) fun _ => P := rfl
end
structure FnM (P : Program) (w : World) (K : PySem.W.Frag) (mg : Str → Option Value) (base : Heap) (l : Nat) (k : Kls) (m : Str) (sp : Sp2) : Prop where
  ex : ∃ f fd ps, FnOk P w K mg base CX0 l f fd ps (dnSp K sp) ∧ Meth K (cA K k.name) m f ∧ Binds K fd ps []
theorem FnM.mono {P : Program} {w : World} {K : PySem.W.Frag} {mg : Str → Option Value} {base : Heap} {i l : Nat} {k : Kls} {m : Str} {sp : Sp2} (F : FnM P w K mg base i k m sp) (h : i ≤ l) : FnM P w K mg base l k m sp := by
  obtain ⟨f, fd, ps, h1, h2⟩ := F.ex
  exact ⟨f, fd, ps, h1.mono h, h2⟩
/-- the facts of a class whose objects are made -/
structure MkAt (K : PySem.W.Frag) (mg : Str → Option Value) (k : Kls) : Prop where
  gl : mg k.name = some (.ref (cA K k.name))
  makes : PySem.W.makesIn K (cA K k.name) = true
  kp : PySem.W.keepIn K (.ref (cA K k.name)) = true
section
variable {P : Program} {w : World} {K : PySem.W.Frag} {mg : Str → Option Value} {base : Heap}
/-- THE RULE for a def of a class -/
theorem fnM_intro {k : Kls} {m q : Str} {st : Stmt} {N ps : List Str} {l : Nat} {sp : Sp2} (MA : MetAt K k.name m q st ps) (S : FnScope N ps (defScope st)) (len : ∀ ds S Q E, sp ds S Q E → ds.length = ps.length)
    (hbody : ∀ (cdv : Value) (A : Around) (outer : List Env) (s : Shared) (H : Hp) (E : XK) (f : Addr), Room l (A.deeper (envOfC q (defScope st) s.heap.objs.size f cdv)) →
      ∃ t, QSs (cxOf CX0 P w K mg base N q (defScope st) f cdv A outer s H E).nox (defBody st) t ∧ ∀ ds S Q E, sp ds S Q E → t { nx := fun _ S' => ∃ S0, Sub S0 S' ∧ Q .non S0, rt := fun d S' => ∃ S0, Sub S0 S' ∧ Q d S0 } (start2 N ds) S) : FnM P w K mg base (l + 1) k m sp := by
  obtain ⟨f, fd, F, hm, bd⟩ := MA.ex
  refine ⟨f, fd, ps, F.ok S (fun vs H Q E h => ?_) (fun cdv A outer s H vs Q E hr h => ?_), hm, bd⟩
  · obtain ⟨ds, S, Q2, E2, dvs, _, h, _⟩ := h
    rw [← dvs.length]
    exact len ds S Q2 E2 h
  · obtain ⟨t, ht, rd⟩ := hbody cdv A outer s H E f hr
    obtain ⟨ds, S, Q2, E2, dvs, rs, h, k, _⟩ := h
    refine ⟨_, ht, start2 N ds, S, _, Rl.start dvs, rs, rd ds S Q2 E2 h, ?_⟩
    exact ⟨fun τ S' σ' H' g _ rs' ⟨S0, sub, q⟩ => k _ _ _ _ g (rs'.sub sub) .non q, fun d v S' H' g rs' dv ⟨S0, sub, q⟩ => k _ _ _ _ g (rs'.sub sub) dv q, fun _ _ _ _ _ _ _ z => z.elim, fun _ _ _ _ _ _ _ z => z.elim⟩
end
section
variable {X : Cx} {k : Kls} {j l : Nat} {f m x : Str} {o e e0 value : Expr} {es : List Expr} {pos pos' apos p : Pos} {te to tv : TE2} {t : TA2} {sp : Sp2} {pl : Sem Bool}
theorem q_fld (k : Kls) (j : Nat) (T : KlOk X.K k) (hj : k.fields[j]? = some f) (hn : k.fields.Nodup) (he : QE X e te) (hb : attributeBase e f X.env (eval e X.env) = eval e X.env := by rfl) : QE X (.Attribute e f pos) (uFld k j te) := PE.wk (pe_fld he hb) fun σ H Q ⟨τ, S, Q2, rl, rs, t, kk⟩ =>
  ⟨τ, S, _, rl, rs, t, fun d v S1 H1 g1 rs1 dv1 t1 => by
    unfold fldQ at t1
    split at t1
    · cases dv1
      obtain ⟨ds, es, t1⟩ := insQ_get t1
      obtain ⟨y, ey, t1⟩ := nthQ_get t1
      obtain ⟨dx, gs, h, r⟩ := rs1 _ _ es
      obtain ⟨v, hl, rv⟩ := r.get hn hj ey
      exact ⟨_, _, dx, gs, v, rfl, h, T.cl, T.na f (List.mem_of_getElem? hj), hl, kk _ _ _ _ g1 rs1 rv t1⟩
    · exact t1.elim⟩
theorem s_fld (k : Kls) (j : Nat) (T : KlOk X.K k) (hj : k.fields[j]? = some f) (hn : k.fields.Nodup) (hl : k.fields.length < 100) (ho : QE X o to) (hv : QE X value tv) (hs : swapsWith value (some (.Attribute o f pos')) pos.line X.env = pure false := by rfl) :
    QS X (.Assign [.Attribute o f pos'] value pos) (uSFld k j to tv) := PS.wk (ps_fld ho hv hs) fun D σ H ⟨τ, S, E, rl, rs, t, kk⟩ =>
  ⟨τ, S, _, rl, rs, t, fun y v S1 H1 g1 rs1 dv1 t1 => ⟨τ, S1, _, rl.keep g1, rs1, t1, fun d u S2 H2 g2 rs2 dv2 t2 => by
    unfold sfQ at t2
    split at t2
    · cases dv2
      obtain ⟨ds, es, hjl, t2⟩ := insQ_get t2
      obtain ⟨dx, gs, h, r⟩ := rs2 _ _ es
      have g3 := good_write (K := X.K) (u' := .ins (cA X.K k.name) dx (putF f v gs)) h trivial
      have r2 := Flds.put (Dv.keep g2 _ _ dv1) r hn hj hjl
      refine ⟨_, _, dx, gs, rfl, h, T.cl, T.na f (List.mem_of_getElem? hj), by have := r.len; omega, ?_⟩
      exact kk.nx _ _ _ _ ((g1.trans g2).trans g3) (((rl.keep g1).keep g2).keep g3) (rs2.write (o := .ins k (putD ds j y)) h trivial ⟨dx, _, upd_same, r2.keep g3⟩) t2
    · exact t2.elim⟩⟩
theorem meth_dn {σ : L2.St} {H : Hp} {Q : VK} {E : XK} (hm : m ∉ k.fields) : dn X.K (uMeth k sp to t) σ H Q → tMeth (cA X.K k.name) m (dnSp X.K sp) [] E (dn X.K to) (dnA X.K t) σ H Q := fun ⟨τ, S, Q2, rl, rs, t, kk⟩ =>
  ⟨τ, S, _, rl, rs, t, fun d v S1 H1 g1 rs1 dv1 t1 => by
    unfold mthQ at t1
    split at t1
    · cases dv1
      obtain ⟨ds, es, t1⟩ := insQ_get t1
      obtain ⟨dx, gs, h, r⟩ := rs1 _ _ es
      refine ⟨_, dx, gs, rfl, h, r.miss hm, τ, S1, _, rl.keep g1, rs1, t1, fun ws us S2 H2 g2 rs2 dvs t2 => ?_⟩
      show dnSp X.K sp (_ :: (us ++ [])) H2 Q E
      rw [List.append_nil]
      exact ⟨_, S2, _, _, .cons (.ref _) dvs, rs2, t2, fun d v S' H' g => kk d v S' H' ((g1.trans g2).trans g), fun _ _ _ _ _ _ _ _ z => z.elim⟩
    · exact t1.elim⟩
theorem q_meth (k : Kls) (T : KlOk X.K k) (F : FnM X.prog X.w X.K X.mg X.base l k m sp) (hm : m ∉ k.fields) (hr : Room l X.A) (ho : QE X o to) (ha : QA X (e :: es) t)
    (hst : starEach (e :: es) X.env = (false, eval e X.env) :: starEach es X.env := by rfl) (hpl : (backTo pos (starEach es X.env)).any (·.1) = false := by rfl)
    (ht : eval (.Call (.Attribute o m apos) (e :: es) [] pos) X.env = (do
      let ov ← eval o X.env
      standAt apos.atName
      let (f, first) ← holding [ov] (getMethod ov m pl)
      callWith pos f first (backTo pos (starEach (e :: es) X.env)) (backToKw pos (keywordEach [] X.env))) := by rfl) :
    QE X (.Call (.Attribute o m apos) (e :: es) [] pos) (uMeth k sp to t) := by
  obtain ⟨f, fd, ps, F, hm2, hb⟩ := F.ex
  exact PE.wk (pe_meth ho T.cl hm2 F hr hb .nil (pass0 (X := X)) ha hst hpl ht) fun σ H Q => meth_dn hm
theorem q_meth0 (k : Kls) (T : KlOk X.K k) (F : FnM X.prog X.w X.K X.mg X.base l k m sp) (hm : m ∉ k.fields) (hr : Room l X.A) (ho : QE X o to)
    (ht : eval (.Call (.Attribute o m apos) [] [] pos) X.env = (do
      let ov ← eval o X.env
      standAt apos.atName
      let (f, first) ← holding [ov] (getMethod ov m pl)
      callWith pos f first (backTo pos (starEach [] X.env)) (backToKw pos (keywordEach [] X.env))) := by rfl) :
    QE X (.Call (.Attribute o m apos) [] [] pos) (uMeth k sp to uNil) := by
  obtain ⟨f, fd, ps, F, hm2, hb⟩ := F.ex
  refine PE.wk (pe_meth0 ho T.cl hm2 F hr hb .nil (pass0 (X := X)) ht) fun σ H Q h => ?_
  obtain ⟨τ, S, Q2, rl, rs, t, kk⟩ := meth_dn (t := uNil) (E := fun _ _ _ => False) hm h
  refine ⟨τ, S, Q2, rl, rs, t, fun d v S1 H1 g1 rs1 dv1 t1 => ?_⟩
  obtain ⟨a, dx, fs, h1, h2, h3, τ', S', Q', rl', rs', t', kk'⟩ := kk d v S1 H1 g1 rs1 dv1 t1
  exact ⟨a, dx, fs, h1, h2, h3, kk' _ _ _ _ (.refl _) rs' .nil t'⟩
end
/-! ### a slice of a list, written -/
def slsQ (d : D) (o i j : D) (S : Sto) (Q : Sto → Prop) : Prop := match o, i, j, d with
  | .ref l, .int i, .int j, .ref b => getO (S l) fun xs => getO (S b) fun ys => l ≠ b ∧ 0 ≤ i ∧ i ≤ j ∧ j ≤ xs.length ∧ xs.length ≤ 1000 ∧ ys.length ≤ 1000 ∧ Q (ups S l (.lst (xs.take i.toNat ++ ys ++ xs.drop j.toNat)))
  | _, _, _, _ => False
def vSl (to : TE2) (tl th : TO2) : TG2 := fun d τ S Q => to τ S fun o S1 => tl τ S1 fun lo S2 => th τ S2 fun hi S3 => match lo, hi with
  | some i, some j => slsQ d o (.int i) (.int j) S3 fun S4 => Q τ S4
  | _, _ => False
section
variable {X : Cx} {o : Expr} {lo hi : Option Expr} {pos p2 : Pos} {to : TE2} {tl th : TO2} {K : PySem.W.Frag}
theorem z_vSl {l b : Addr} {i j : Int} {S : Sto} {Q : Sto → Prop} : slsQ (.ref b) (.ref l) (.int i) (.int j) S Q = getO (S l) fun xs => getO (S b) fun ys => l ≠ b ∧ 0 ≤ i ∧ i ≤ j ∧ j ≤ xs.length ∧ xs.length ≤ 1000 ∧ ys.length ≤ 1000 ∧ Q (ups S l (.lst (xs.take i.toNat ++ ys ++ xs.drop j.toNat))) := rfl
end
/-- (a, b, ..) = a list of that length -/
def vTupL (n : Nat) (gs : TGs2) : TG2 := fun d τ S Q => match d with
  | .ref a => getO (S a) fun xs => xs.length = n ∧ gs xs τ S Q
  | _ => False
section
variable {X : Cx} {tch : List Nat} {pos : Pos}
theorem z_tupL {n : Nat} {gs : TGs2} {a : Addr} {τ : St2} {S : Sto} {Q : St2 → Sto → Prop} : vTupL n gs (.ref a) τ S Q = getO (S a) fun xs => xs.length = n ∧ gs xs τ S Q := rfl
end
/-! ### the facts of a class, shown by the text -/
theorem klOk_of {K : PySem.W.Frag} {k : Kls} (h : klB K k = true) : KlOk K k := by
  unfold klB at h
  simp only [Bool.and_eq_true, decide_eq_true_eq, List.all_eq_true] at h
  obtain ⟨⟨h1, h2, h3, h4⟩, h5⟩ := h
  exact ⟨⟨h1, h2, h3, h4⟩, h5⟩
theorem mkAt_of {K : PySem.W.Frag} {mg : Str → Option Value} {h : Heap} {k : Kls} (X : K.In h) (G : h.Ns mainGlobals mg) (e : (glB K k.name && (PySem.W.makesIn K (cA K k.name) && PySem.W.keepIn K (.ref (cA K k.name)))) = true) : MkAt K mg k := by
  rw [Bool.and_eq_true, Bool.and_eq_true] at e
  exact ⟨PySem.W.mg_of X G (of_decide_eq_true e.1), e.2.1, e.2.2⟩
end DL
/-! Books gone through row by row. -/
namespace DL
open PySem PySem.Spec PyProof.Rows L2
/-- the line of a runner, by its number -/
def lnI (M : Mp) (k : Nat) : Ln := (mget M k).getD (0, 0)
def LI (M : Mp) : List Ln := (List.range ((keysM M).sum + 1)).map (lnI M)
theorem le_sum {l : List Nat} {k : Nat} (h : k ∈ l) : k ≤ l.sum := by
  induction l with
  | nil => cases h
  | cons x l ih =>
    rw [List.sum_cons]
    rcases List.mem_cons.mp h with rfl | h
    · omega
    · have := ih h; omega
theorem ln_LI {M : Mp} {k : Nat} (h : k ∈ keysM M) : ln (LI M) k = lnI M k := by
  unfold ln LI
  have := le_sum h
  rw [List.getD_eq_getElem?_getD, List.getElem?_map, List.getElem?_range (by omega)]
  rfl
theorem mget_key {M : Mp} {k : Nat} (h : k ∈ keysM M) : ∃ l, mget M k = some l ∧ (k, l) ∈ M := by
  induction M with
  | nil => cases h
  | cons x M ih =>
    unfold mget at *
    rw [List.find?_cons]
    by_cases e : x.1 = k
    · rw [decide_eq_true e]
      exact ⟨x.2, rfl, by subst e; exact List.mem_cons_self ..⟩
    · rw [decide_eq_false e]
      have h : k ∈ keysM M := by
        rcases List.mem_cons.mp h with h | h
        · exact absurd h.symm e
        · exact h
      obtain ⟨l, h1, h2⟩ := ih h
      exact ⟨l, h1, List.mem_cons_of_mem _ h2⟩
theorem LD.lz {S : Sto} {f : Addr} {M : Mp} (h : LD S f M) {k : Nat} (hk : k ∈ keysM M) : Lz 300 (ln (LI M) k) := by
  obtain ⟨l, e, hm⟩ := mget_key hk
  rw [ln_LI hk]
  unfold lnI
  rw [e]
  exact h.ok l (List.mem_map.mpr ⟨_, hm, rfl⟩)
/-- a row of a book, whatever its place -/
inductive RB where
  | deed (p : Int) | pass (t : Rat) (p : Int)
def eRB : RB → D
  | .deed p => .tup [.str "deed", .int p]
  | .pass t p => .tup [.str "pass", eQ t, .int p]
/-- how far a book has gone -/
structure Gs where
  row : List Nat
  past : Nat
  now : Option Rat
def Gs.M (s : Gs) (D : List Dd) : Mp := (runM (D.take s.past)).1
def Gs.J (s : Gs) (D : List Dd) : Nat := (runM (D.take s.past)).2
def pairsG (l : List Nat) : List (Nat × Nat) := l.zip (l.drop 1)
/-- nothing comes of two neighbours till a time -/
def keepP (M : Mp) (u t : Rat) (cl : Bool) (p : Nat × Nat) : Bool := decide (Ahd (LI M) p.1 p.2 u) && !(match nxt (LI M) p.1 p.2 u with
  | none => false
  | some c => decide (c < t) || (cl && decide (c = t)))
def keepsG (D : List Dd) (s : Gs) (u t : Rat) (cl : Bool) : Bool := (pairsG s.row).all (keepP (s.M D) u t cl)
def timeG (D : List Dd) (s : Gs) : RB → Option Rat
  | .pass t _ => some t
  | .deed _ => (D[s.past]?).map Dd.t
def nthR (l : List Nat) (p : Int) : Nat := l.getD p.toNat 0
def placeG (D : List Dd) (s : Gs) : RB → Bool
  | .pass t p => decide (0 ≤ p) && (decide (p < (s.row.length : Int) - 1) && decide (Ahd (LI (s.M D)) (nthR s.row (p + 1)) (nthR s.row p) t))
  | .deed p => match D[s.past]? with
    | none => false
    | some (.join _ _ _) => decide (0 ≤ p) && decide (p ≤ (s.row.length : Int))
    | some (.leave _ r) => decide (0 ≤ p) && (decide (p < (s.row.length : Int)) && decide (nthR s.row p = r))
    | some (.turn _ r _) => decide (0 ≤ p) && (decide (p < (s.row.length : Int)) && decide (nthR s.row p = r))
def fitsG (D : List Dd) (e : Rat) (s : Gs) (r : RB) : Bool := match timeG D s r with
  | none => false
  | some t => !decide (e < t) && ((match s.now with
    | none => true
    | some u => !decide (t < u) && (decide (t = u) || keepsG D s u t false)) && placeG D s r)
def swapG (l : List Nat) (p : Nat) : List Nat := l.take p ++ [l.getD (p + 1) 0, l.getD p 0] ++ l.drop (p + 2)
def doG (D : List Dd) (s : Gs) : RB → Gs
  | .pass t p => ⟨swapG s.row p.toNat, s.past, some t⟩
  | .deed p => match D[s.past]? with
    | none => s
    | some (.join t _ _) => ⟨s.row.take p.toNat ++ [s.J D] ++ s.row.drop p.toNat, s.past + 1, some t⟩
    | some (.leave t _) => ⟨s.row.eraseIdx p.toNat, s.past + 1, some t⟩
    | some (.turn t _ _) => ⟨s.row, s.past + 1, some t⟩
/-- the list is of those who run -/
structure GsOk (D : List Dd) (s : Gs) : Prop where
  perm : s.row.Perm (keysM (s.M D))
  past : s.past ≤ D.length
  now : ∀ u, s.now = some u → Nz 3000 u
theorem GsOk.start (D : List Dd) : GsOk D ⟨[], 0, none⟩ := ⟨by show ([] : List Nat).Perm (keysM (runM (D.take 0)).1); rw [List.take_zero]; exact .refl _, Nat.zero_le _, fun _ h => by cases h⟩
theorem GsOk.mem {D : List Dd} {s : Gs} (h : GsOk D s) {k : Nat} (hk : k ∈ s.row) : k ∈ keysM (s.M D) := h.perm.mem_iff.mp hk
theorem GsOk.nd {D : List Dd} {s : Gs} (h : GsOk D s) : s.row.Nodup := h.perm.nodup_iff.mpr ((keyOk_run (D.take s.past)).1.imp fun h => by omega)
theorem DOk.take {D : List Dd} (h : DOk D) (n : Nat) : DOk (D.take n) := by
  have := List.take_append_drop n D
  rw [← this] at h
  exact h.pre
theorem GsOk.len {D : List Dd} {s : Gs} (h : GsOk D s) (hD : DOk D) : s.row.length ≤ 20 := by
  rw [h.perm.length_eq, keysM_len]
  exact (hD.take _).room
theorem M_next {D : List Dd} {s : Gs} {d : Dd} (e : D[s.past]? = some d) : runM (D.take (s.past + 1)) = stepM (s.M D, s.J D) d := by
  rw [List.take_add_one, e]
  show runM (D.take s.past ++ [d]) = _
  rw [runM_snoc]
  rfl
theorem DOk.at {D : List Dd} (h : DOk D) {n : Nat} {d : Dd} (e : D[n]? = some d) : SmD d ∧ HasD (runM (D.take n)).1 d := by
  obtain ⟨hn, e'⟩ := List.getElem?_eq_some_iff.mp e
  have := h.ok (D.take n) d (D.drop (n + 1)) (by rw [← e', ← List.drop_eq_getElem_cons hn, List.take_append_drop])
  exact ⟨this.1, this.2.1⟩
theorem nthR_get {l : List Nat} {p : Int} (h0 : 0 ≤ p) (h1 : p < (l.length : Int)) : l[p.toNat]? = some (nthR l p) := by
  unfold nthR
  rw [List.getD_eq_getElem?_getD, List.getElem?_eq_getElem (show p.toNat < l.length by omega)]
  rfl
theorem swap_perm {l : List Nat} {p : Nat} (h : p + 1 < l.length) : (swapG l p).Perm l := by
  unfold swapG
  have e1 : l.getD p 0 = l[p] := by rw [List.getD_eq_getElem?_getD, List.getElem?_eq_getElem (by omega)]; rfl
  have e2 : l.getD (p + 1) 0 = l[p + 1] := by rw [List.getD_eq_getElem?_getD, List.getElem?_eq_getElem h]; rfl
  rw [e1, e2]
  have e : l = l.take p ++ ([l[p], l[p + 1]] ++ l.drop (p + 2)) := by
    conv => lhs; rw [← List.take_append_drop p l, List.drop_eq_getElem_cons (by omega), List.drop_eq_getElem_cons (i := p + 1) (by omega)]
    rfl
  conv => rhs; rw [e]
  rw [List.append_assoc]
  refine List.Perm.append_left _ (List.Perm.append_right _ (List.Perm.swap ..))
theorem keys_stepM (s : Mp × Nat) (d : Dd) : keysM (stepM s d).1 = match d with
    | .join _ _ _ => keysM s.1 ++ [s.2]
    | .leave _ r => (keysM s.1).filter (fun k => decide (k ≠ r))
    | .turn _ _ _ => keysM s.1 := by
  cases d with
  | join t p m => show keysM (s.1 ++ _) = _; unfold keysM; rw [List.map_append]; rfl
  | leave t r =>
    show (mdrop s.1 r).map (·.1) = (s.1.map (·.1)).filter (fun k => decide (k ≠ r))
    rw [List.filter_map]
    rfl
  | turn t r m => exact keys_mset _ _ _
theorem GsOk.step {D : List Dd} {s : Gs} {r : RB} {e : Rat} (h : GsOk D s) (hD : DOk D) (hf : fitsG D e s r = true) (hz : ∀ t p, r = .pass t p → Nz 3000 t) : GsOk D (doG D s r) := by
  unfold fitsG at hf
  cases r with
  | pass t p =>
    simp only [timeG, placeG, Bool.and_eq_true, decide_eq_true_eq] at hf
    obtain ⟨_, _, h0, h1, _⟩ := hf
    exact ⟨(swap_perm (by omega)).trans h.perm, h.past, fun u e => by cases e; exact hz _ _ rfl⟩
  | deed p =>
    simp only [timeG] at hf
    cases ed : D[s.past]? with
    | none => rw [ed] at hf; cases hf
    | some d =>
      have hlt : s.past < D.length := (List.getElem?_eq_some_iff.mp ed).1
      have hn := M_next ed
      have hk := keys_stepM (s.M D, s.J D) d
      have hsm := (hD.at ed).1
      have hM : ∀ row now, (⟨row, s.past + 1, now⟩ : Gs).M D = (stepM (s.M D, s.J D) d).1 := fun row now => by show (runM (D.take (s.past + 1))).1 = _; rw [hn]
      rw [ed] at hf
      simp only [Option.map_some, placeG, ed, Bool.and_eq_true] at hf
      obtain ⟨_, _, hp⟩ := hf
      unfold doG
      simp only [ed]
      cases d with
      | join t q m =>
        simp only [Bool.and_eq_true, decide_eq_true_eq] at hp
        refine ⟨?_, hlt, fun u e => by cases e; exact hsm.1.nz.le (by decide)⟩
        rw [hM, hk]
        refine List.Perm.trans ?_ (List.Perm.append_right _ h.perm)
        have e := List.take_append_drop p.toNat s.row
        conv => rhs; rw [← e]
        rw [List.append_assoc, List.append_assoc]
        exact List.Perm.append_left _ List.perm_append_comm
      | leave t r =>
        simp only [Bool.and_eq_true, decide_eq_true_eq] at hp
        obtain ⟨h0, h1, h2⟩ := hp
        refine ⟨?_, hlt, fun u e => by cases e; exact (show Sm t from hsm).nz.le (by decide)⟩
        rw [hM, hk]
        have hg := nthR_get h0 h1
        rw [h2] at hg
        obtain ⟨hpl, hpe⟩ := List.getElem?_eq_some_iff.mp hg
        have hnd := h.nd
        have e1 : (s.row.eraseIdx p.toNat) = s.row.filter (fun k => decide (k ≠ r)) := by
          rw [← hpe]
          have key : ∀ {l : List Nat} {n : Nat} (hn : n < l.length), l.Nodup → l.eraseIdx n = l.filter fun k => decide (k ≠ l[n]) := by
            intro l
            induction l with
            | nil => intro n hn; cases hn
            | cons x l ih =>
              intro n hn hl
              obtain ⟨a1, a2⟩ := List.nodup_cons.mp hl
              cases n with
              | zero =>
                rw [List.eraseIdx_cons_zero, List.getElem_cons_zero, List.filter_cons, if_neg (by simp)]
                exact (List.filter_eq_self.mpr fun y hy => by
                  have : y ≠ x := fun z => a1 (by rw [← z]; exact hy)
                  simpa using this).symm
              | succ n =>
                have hn' : n < l.length := by simpa using hn
                rw [List.eraseIdx_cons_succ, List.getElem_cons_succ, List.filter_cons, if_pos (by
                  have : x ≠ l[n] := fun z => a1 (by rw [z]; exact List.getElem_mem hn')
                  simpa using this), ih hn' a2]
          exact key hpl hnd
        show (s.row.eraseIdx p.toNat).Perm _
        rw [e1]
        exact h.perm.filter _
      | turn t r m =>
        refine ⟨?_, hlt, fun u e => by cases e; exact hsm.1.nz.le (by decide)⟩
        rw [hM, hk]
        exact h.perm
/-! ### the lines that a Going keeps: those of who left, too -/
def stepK (s : Mp × Nat) : Dd → Mp × Nat
  | .join t p m => (s.1 ++ [(s.2, (p - m * t, m))], s.2 + 1)
  | .leave _ _ => s
  | .turn t r m => (mset s.1 r (at_ ((mget s.1 r).getD (0, 0)) t - m * t, m), s.2)
def runK (D : List Dd) : Mp × Nat := D.foldl stepK ([], 0)
theorem mget_cons (x : Nat × Ln) (M : Mp) (r : Nat) : mget (x :: M) r = if x.1 = r then some x.2 else mget M r := by
  unfold mget
  rw [List.find?_cons]
  by_cases e : x.1 = r
  · rw [decide_eq_true e, if_pos e]; rfl
  · rw [decide_eq_false e, if_neg e]
theorem mget_app (k : Nat) (l : Ln) (r : Nat) : ∀ M : Mp, mget (M ++ [(k, l)]) r = if r ∈ keysM M then mget M r else if k = r then some l else none
  | [] => by
    rw [List.nil_append, mget_cons]
    simp [keysM, mget]
  | x :: M => by
    rw [List.cons_append, mget_cons, mget_cons, mget_app k l r M]
    have hk : (r ∈ keysM (x :: M)) ↔ (r = x.1 ∨ r ∈ keysM M) := by unfold keysM; rw [List.map_cons, List.mem_cons]
    by_cases e : x.1 = r
    · rw [if_pos e, if_pos (hk.mpr (.inl e.symm)), if_pos e]
    · rw [if_neg e, if_neg e]
      by_cases h : r ∈ keysM M
      · rw [if_pos h, if_pos (hk.mpr (.inr h))]
      · rw [if_neg h, if_neg (fun z => (hk.mp z).elim (fun z => e z.symm) h)]
theorem mget_drop (k r : Nat) (h : r ≠ k) : ∀ M : Mp, mget (mdrop M k) r = mget M r
  | [] => rfl
  | x :: M => by
    have ih := mget_drop k r h M
    unfold mdrop at *
    rw [List.filter_cons]
    by_cases e : x.1 = k
    · rw [if_neg (by simpa using e), ih, mget_cons, if_neg (by omega)]
    · rw [if_pos (by simpa using e), mget_cons, mget_cons, ih]
structure KOk (D : List Dd) : Prop where
  ky : KeyOk (runK D)
  ln : ∀ r ∈ keysM (runM D).1, mget (runK D).1 r = mget (runM D).1 r
  j : (runK D).2 = (runM D).2
  lz : ∀ x ∈ (runK D).1, Lz 300 x.2
  len : (runK D).1.length ≤ D.length
theorem KOk.key {D : List Dd} (h : KOk D) {r : Nat} (hr : r ∈ keysM (runM D).1) : r ∈ keysM (runK D).1 := by
  obtain ⟨l, e⟩ := mget_some hr
  rw [← h.ln r hr] at e
  exact List.mem_map.mpr ⟨_, mget_mem e, rfl⟩
def Gs.K (s : Gs) (D : List Dd) : Mp := (runK (D.take s.past)).1
/-- a Going stands at g: its deeds at l, its list at r, its lines at f -/
structure GoAt (k : Kls) (S : Sto) (g l r f : Addr) (D : List Dd) (s : Gs) : Prop where
  ob : S g = some (.ins k [.ref l, .ref r, .ref f, .int (s.past : Nat), .int (s.J D : Nat), eO s.now])
  hl : S l = some (.lst (D.map eDd))
  hr : S r = some (.lst (s.row.map eN))
  hf : S f = some (.dic (eM (s.K D)))
  lr : l ≠ r
section
variable {k : Kls} {S S' : Sto} {g l r f : Addr} {D : List Dd} {s : Gs}
theorem st_ne {S : Sto} {a b : Addr} {o u : O} (h : S a = some o) (h' : S b = some u) (n : o ≠ u) : a ≠ b := fun z => n (by subst z; rw [h] at h'; exact Option.some.inj h')
theorem GoAt.gl (h : GoAt k S g l r f D s) : g ≠ l := st_ne h.ob h.hl fun z => nomatch z
theorem GoAt.sub (h : GoAt k S g l r f D s) (u : Sub S S') : GoAt k S' g l r f D s := ⟨u _ _ h.ob, u _ _ h.hl, u _ _ h.hr, u _ _ h.hf, h.lr⟩
end
theorem pairsG_len (l : List Nat) : (pairsG l).length = l.length - 1 := by
  unfold pairsG
  rw [List.length_zip, List.length_drop]
  omega
theorem pairsG_get {l : List Nat} {i : Nat} (h : i + 1 < l.length) : (pairsG l)[i]? = some (l.getD i 0, l.getD (i + 1) 0) := by
  have e1 : l.getD i 0 = l[i] := by rw [List.getD_eq_getElem?_getD, List.getElem?_eq_getElem (by omega)]; rfl
  have e2 : l.getD (i + 1) 0 = l[i + 1] := by rw [List.getD_eq_getElem?_getD, List.getElem?_eq_getElem h]; rfl
  rw [e1, e2]
  unfold pairsG
  rw [List.getElem?_eq_getElem (by rw [List.length_zip, List.length_drop]; omega), List.getElem_zip, List.getElem_drop]
  congr 2
  congr 1
  omega
theorem row_mem {l : List Nat} {i : Nat} (h : i < l.length) : l.getD i 0 ∈ l := by
  rw [List.getD_eq_getElem?_getD, List.getElem?_eq_getElem h]
  exact List.getElem_mem h
end DL
/-! Books written row by row: what ends, and what is let by. -/
namespace DL
open PySem PySem.Spec PyProof.Rows L2
/-! ### runners by their numbers, in place of their places -/
theorem ln_idx {M : Mp} (hk : (keysM M).Pairwise (· < ·)) {a i : Nat} (hi : i < M.length) (e : kN M i = (a : Int)) : ln (lnM M) i = ln (LI M) a := by
  obtain ⟨k, l, h1, h2, h3⟩ := kN_get hi
  have hka : k = a := by rw [h2] at e; omega
  subst hka
  have hm : k ∈ keysM M := List.mem_map.mpr ⟨_, List.mem_of_getElem? h1, rfl⟩
  rw [h3, ln_LI hm]
  unfold lnI
  rw [mget_at hk h1]
  rfl
theorem ahd_idx {M : Mp} (hk : (keysM M).Pairwise (· < ·)) {a b i j : Nat} {t : Rat} (hi : i < M.length) (hj : j < M.length) (ea : kN M i = (a : Int)) (eb : kN M j = (b : Int)) : decide (Ahd (lnM M) i j t) = decide (Ahd (LI M) a b t) := by
  refine decide_eq_decide.mpr ?_
  have := kN_lt hk hi hj
  rw [ea, eb] at this
  unfold Ahd
  rw [ln_idx hk hi ea, ln_idx hk hj eb, ← this]
  have : ((a : Int) < (b : Int)) ↔ a < b := by omega
  rw [this]
/-! ### the places at which two stand the wrong way round -/
def upAt (M : Mp) (row : List Nat) (t : Rat) (i : Nat) : Bool := decide (Ahd (LI M) (row.getD (i + 1) 0) (row.getD i 0) t)
def upsG (M : Mp) (row : List Nat) (t : Rat) : List Nat := (List.range (row.length - 1)).filter (upAt M row t)
theorem ups_mem {M : Mp} {row : List Nat} {t : Rat} {i : Nat} : i ∈ upsG M row t ↔ i + 1 < row.length ∧ Ahd (LI M) (row.getD (i + 1) 0) (row.getD i 0) t := by
  unfold upsG upAt
  rw [List.mem_filter, List.mem_range, decide_eq_true_eq]
  constructor
  · rintro ⟨h1, h2⟩; exact ⟨by omega, h2⟩
  · rintro ⟨h1, h2⟩; exact ⟨by omega, h2⟩
/-- how many pairs stand the wrong way round -/
def invG (M : Mp) (t : Rat) : List Nat → Nat
  | [] => 0
  | x :: xs => xs.countP (fun y => decide (Ahd (LI M) y x t)) + invG M t xs
theorem inv_le (M : Mp) (t : Rat) : ∀ l : List Nat, invG M t l ≤ l.length * l.length
  | [] => Nat.le_refl _
  | x :: xs => by
    have h1 := inv_le M t xs
    have h2 : xs.countP (fun y => decide (Ahd (LI M) y x t)) ≤ xs.length := List.countP_le_length
    show _ + _ ≤ (xs.length + 1) * (xs.length + 1)
    rw [Nat.mul_add, Nat.add_mul]
    omega
theorem inv_swap (M : Mp) (t : Rat) {x y : Nat} (h : Ahd (LI M) y x t) : ∀ a b : List Nat, invG M t (a ++ ([y, x] ++ b)) + 1 = invG M t (a ++ ([x, y] ++ b))
  | [], b => by
    have h1 : decide (Ahd (LI M) y x t) = true := decide_eq_true h
    have h2 : decide (Ahd (LI M) x y t) = false := decide_eq_false fun z => ahd_asymm h z
    show (List.countP _ (x :: b) + (List.countP _ b + invG M t b)) + 1 = List.countP _ (y :: b) + (List.countP _ b + invG M t b)
    rw [List.countP_cons, List.countP_cons, h1, h2]
    simp
    omega
  | z :: a, b => by
    have ih := inv_swap M t h a b
    show (List.countP _ (a ++ ([y, x] ++ b)) + invG M t (a ++ ([y, x] ++ b))) + 1 = List.countP _ (a ++ ([x, y] ++ b)) + invG M t (a ++ ([x, y] ++ b))
    have hp : (a ++ ([y, x] ++ b)).Perm (a ++ ([x, y] ++ b)) := List.Perm.append_left _ (List.Perm.append_right _ (List.Perm.swap ..))
    rw [hp.countP_eq]
    omega
theorem split_two {l : List Nat} {p : Nat} (h : p + 1 < l.length) : l = l.take p ++ ([l.getD p 0, l.getD (p + 1) 0] ++ l.drop (p + 2)) := by
  have e1 : l.getD p 0 = l[p] := by rw [List.getD_eq_getElem?_getD, List.getElem?_eq_getElem (by omega)]; rfl
  have e2 : l.getD (p + 1) 0 = l[p + 1] := by rw [List.getD_eq_getElem?_getD, List.getElem?_eq_getElem h]; rfl
  rw [e1, e2]
  conv => lhs; rw [← List.take_append_drop p l, List.drop_eq_getElem_cons (by omega), List.drop_eq_getElem_cons (i := p + 1) (by omega)]
  rfl
theorem swap_inv {M : Mp} {t : Rat} {l : List Nat} {p : Nat} (h : p ∈ upsG M l t) : invG M t (swapG l p) + 1 = invG M t l := by
  obtain ⟨h1, h2⟩ := ups_mem.mp h
  have e := split_two h1
  conv => rhs; rw [e]
  unfold swapG
  rw [List.append_assoc]
  exact inv_swap M t h2 _ _
theorem swap_len {l : List Nat} {p : Nat} (h : p + 1 < l.length) : (swapG l p).length = l.length := (swap_perm h).length_eq
/-! ### rows that are let by -/
inductive Runs (D : List Dd) (e : Rat) : Gs → List RB → Gs → Prop
  | nil (s : Gs) : Runs D e s [] s
  | cons {s s' : Gs} {r : RB} {rs : List RB} : fitsG D e s r = true → Runs D e (doG D s r) rs s' → Runs D e s (r :: rs) s'
theorem Runs.snoc {D : List Dd} {e : Rat} {s s' : Gs} {B : List RB} {r : RB} (h : Runs D e s B s') (hf : fitsG D e s' r = true) : Runs D e s (B ++ [r]) (doG D s' r) := by
  induction h with
  | nil s => exact .cons hf (.nil _)
  | cons h1 _ ih => exact .cons h1 (ih hf)
/-- the program's time beside the law's -/
def Link (D : List Dd) (s : Gs) (v : Rat) : Prop := s.now = some v ∨ ∃ u, s.now = some u ∧ u < v ∧ keepsG D s u v false = true
theorem link_pass {D : List Dd} {e v : Rat} {s : Gs} {p : Nat} (hl : Link D s v) (he : v ≤ e) (h : p ∈ upsG (s.M D) s.row v) : fitsG D e s (.pass v (p : Int)) = true := by
  obtain ⟨h1, h2⟩ := ups_mem.mp h
  have hp : placeG D s (.pass v (p : Int)) = true := by
    show (decide (0 ≤ (p : Int)) && (decide ((p : Int) < (s.row.length : Int) - 1) && decide (Ahd (LI (s.M D)) (nthR s.row ((p : Int) + 1)) (nthR s.row (p : Int)) v))) = true
    have e1 : nthR s.row ((p : Int) + 1) = s.row.getD (p + 1) 0 := by unfold nthR; rw [show ((p : Int) + 1).toNat = p + 1 by omega]
    have e2 : nthR s.row (p : Int) = s.row.getD p 0 := by unfold nthR; rw [Int.toNat_natCast]
    rw [e1, e2, decide_eq_true h2, decide_eq_true (by omega), decide_eq_true (by omega)]
    rfl
  unfold fitsG
  show (!decide (e < v) && (_ && placeG D s (.pass v (p : Int)))) = true
  rw [hp, decide_eq_false (by grind)]
  rcases hl with hl | ⟨u, hl, h3, h4⟩
  · rw [hl]
    have : decide (v < v) = false := decide_eq_false (by grind)
    simp [this]
  · rw [hl]
    have : decide (v < u) = false := decide_eq_false (by grind)
    simp [this, h4]
theorem do_pass {D : List Dd} {s : Gs} {v : Rat} {p : Nat} : doG D s (.pass v (p : Int)) = ⟨swapG s.row p, s.past, some v⟩ := by
  show (⟨swapG s.row (p : Int).toNat, s.past, some v⟩ : Gs) = _
  rw [Int.toNat_natCast]
theorem nxt_gt {L : List Ln} {a b : Nat} {u c : Rat} (h : nxt L a b u = some c) : u < c ∧ (ln L a).2 ≠ (ln L b).2 ∧ c = met (ln L a) (ln L b) := by
  unfold nxt at h
  split at h
  · next z => cases h; exact ⟨z.2, z.1, rfl⟩
  · cases h
theorem pairsG_mem {l : List Nat} {p : Nat × Nat} (h : p ∈ pairsG l) : ∃ i, i + 1 < l.length ∧ p = (l.getD i 0, l.getD (i + 1) 0) := by
  obtain ⟨i, hi, e⟩ := List.mem_iff_getElem.mp h
  have hl : i + 1 < l.length := by rw [pairsG_len] at hi; omega
  refine ⟨i, hl, ?_⟩
  have := pairsG_get hl
  rw [List.getElem?_eq_getElem hi, e] at this
  exact Option.some.inj this
/-- at the time of a change the two stand the wrong way round -/
theorem change_up {L : List Ln} {a b : Nat} {u c : Rat} (h : nxt L a b u = some c) (ha : Ahd L a b u) : Ahd L b a c := by
  obtain ⟨h1, h2, h3⟩ := nxt_gt h
  have e1 := (ahd_lt h2 (by rw [← h3]; exact h1)).mp ha
  have h2' : (ln L b).2 ≠ (ln L a).2 := fun z => h2 z.symm
  have hm : met (ln L b) (ln L a) = c := by rw [h3]; exact met_comm h2'
  exact (ahd_ge h2' (by rw [hm]; grind)).mpr e1
end DL
/-! Books written by the law. -/
namespace DL
open PySem PySem.Spec PyProof.Rows L2
/-! ### what keeps -/
def chgP (M : Mp) (u t : Rat) (cl : Bool) (p : Nat × Nat) : Bool := match nxt (LI M) p.1 p.2 u with
  | none => false
  | some c => decide (c < t) || (cl && decide (c = t))
theorem keepP_eq (M : Mp) (u t : Rat) (cl : Bool) (p : Nat × Nat) : keepP M u t cl p = (decide (Ahd (LI M) p.1 p.2 u) && !chgP M u t cl p) := rfl
theorem pairsG_ne {l : List Nat} (nd : l.Nodup) {p : Nat × Nat} (h : p ∈ pairsG l) : p.1 ≠ p.2 := by
  obtain ⟨i, hi, rfl⟩ := pairsG_mem h
  have := (List.pairwise_iff_getElem.mp nd) i (i + 1) (by omega) hi (by omega)
  have e1 : l.getD i 0 = l[i] := by rw [List.getD_eq_getElem?_getD, List.getElem?_eq_getElem (by omega)]; rfl
  have e2 : l.getD (i + 1) 0 = l[i + 1] := by rw [List.getD_eq_getElem?_getD, List.getElem?_eq_getElem hi]; rfl
  show l.getD i 0 ≠ l.getD (i + 1) 0
  rw [e1, e2]
  exact this
theorem ups_nil {M : Mp} {row : List Nat} {t : Rat} (nd : row.Nodup) : upsG M row t = [] ↔ ∀ p ∈ pairsG row, Ahd (LI M) p.1 p.2 t := by
  constructor
  · intro h p hp
    have hn := pairsG_ne nd hp
    rcases ahd_total (L := LI M) (t := t) hn with z | z
    · exact z
    · obtain ⟨i, hi, rfl⟩ := pairsG_mem hp
      have : i ∈ upsG M row t := ups_mem.mpr ⟨hi, z⟩
      rw [h] at this
      cases this
  · intro h
    rw [List.eq_nil_iff_forall_not_mem]
    intro i hi
    obtain ⟨h1, h2⟩ := ups_mem.mp hi
    have h3 := h (row.getD i 0, row.getD (i + 1) 0) (List.mem_of_getElem? (pairsG_get h1))
    exact ahd_asymm h2 h3
theorem chg_f {M : Mp} {u t : Rat} {p : Nat × Nat} : chgP M u t false p = false ↔ ∀ c, nxt (LI M) p.1 p.2 u = some c → t ≤ c := by
  unfold chgP
  cases nxt (LI M) p.1 p.2 u with
  | none => exact ⟨fun _ c h => (nomatch h), fun _ => rfl⟩
  | some c =>
    dsimp only
    rw [Bool.false_and, Bool.or_false, decide_eq_false_iff_not]
    exact ⟨fun h d e => by cases e; exact Rat.not_lt.mp h, fun h => Rat.not_lt.mpr (h c rfl)⟩
theorem chg_t {M : Mp} {u t : Rat} {p : Nat × Nat} : chgP M u t true p = false ↔ ∀ c, nxt (LI M) p.1 p.2 u = some c → t < c := by
  unfold chgP
  cases nxt (LI M) p.1 p.2 u with
  | none => exact ⟨fun _ c h => (nomatch h), fun _ => rfl⟩
  | some c =>
    dsimp only
    rw [Bool.true_and, Bool.or_eq_false_iff, decide_eq_false_iff_not, decide_eq_false_iff_not]
    exact ⟨fun h d e => by cases e; exact Rat.lt_of_le_of_ne (Rat.not_lt.mp h.1) (Ne.symm h.2), fun h => ⟨Rat.not_lt.mpr (Rat.le_of_lt (h c rfl)), fun z => Rat.ne_of_lt (h c rfl) z.symm⟩⟩
theorem keeps_iff {D : List Dd} {s : Gs} {u t : Rat} {cl : Bool} : keepsG D s u t cl = true ↔ ∀ p ∈ pairsG s.row, Ahd (LI (s.M D)) p.1 p.2 u ∧ chgP (s.M D) u t cl p = false := by
  unfold keepsG
  rw [List.all_eq_true]
  refine forall_congr' fun p => forall_congr' fun hp => ?_
  rw [keepP_eq, Bool.and_eq_true, decide_eq_true_eq, Bool.not_eq_true']
/-- a change later than a time is the next one seen from there -/
theorem nxt_later {L : List Ln} {a b : Nat} {u v c : Rat} (h : nxt L a b u = some c) (k : v < c) : nxt L a b v = some c := by
  obtain ⟨h1, h2, rfl⟩ := nxt_gt h
  unfold nxt
  rw [if_pos ⟨h2, k⟩]
theorem nxt_back {L : List Ln} {a b : Nat} {u v c : Rat} (h : nxt L a b v = some c) (k : u ≤ v) : nxt L a b u = some c := by
  obtain ⟨h1, h2, rfl⟩ := nxt_gt h
  unfold nxt
  rw [if_pos ⟨h2, by grind⟩]
/-- what keeps strictly ahead of a time at which all stand right -/
theorem kept {D : List Dd} {s : Gs} {u v : Rat} (nd : s.row.Nodup) (h : keepsG D s u v false = true) (h0 : upsG (s.M D) s.row v = []) {p : Nat × Nat} (hp : p ∈ pairsG s.row) {c : Rat} (e : nxt (LI (s.M D)) p.1 p.2 u = some c) : v < c := by
  obtain ⟨h1, h2⟩ := keeps_iff.mp h p hp
  have h3 := chg_f.mp h2 c e
  by_cases z : v = c
  · subst z
    exact (ahd_asymm (change_up e h1) ((ups_nil nd).mp h0 p hp)).elim
  · exact Rat.lt_of_le_of_ne h3 z
/-! ### how many changes are left -/
theorem countP_lt {α : Type} {p q : α → Bool} : ∀ {l : List α}, (∀ x ∈ l, p x = true → q x = true) → (∃ x ∈ l, p x = false ∧ q x = true) → l.countP p < l.countP q
  | [], _, h => by obtain ⟨x, hx, _⟩ := h; cases hx
  | y :: l, h, hx => by
    have hle : l.countP p ≤ l.countP q := List.countP_mono_left fun x hm => h x (List.mem_cons_of_mem _ hm)
    rw [List.countP_cons, List.countP_cons]
    obtain ⟨x, hx, h1, h2⟩ := hx
    rcases List.mem_cons.mp hx with rfl | hx
    · rw [h1, h2]; simp; omega
    · have ih := countP_lt (l := l) (p := p) (q := q) (fun x hm => h x (List.mem_cons_of_mem _ hm)) ⟨x, hx, h1, h2⟩
      have hy := h y (List.mem_cons_self ..)
      cases ep : p y with
      | true => rw [hy ep]; simp; omega
      | false =>
        rw [if_neg Bool.false_ne_true]
        exact Nat.lt_of_lt_of_le (by omega : l.countP p + 0 < l.countP q + 0) (Nat.add_le_add_left (Nat.zero_le _) _)
def prK (ks : List Nat) : List (Nat × Nat) := ks.flatMap fun a => ks.map fun b => (a, b)
theorem prK_mem {ks : List Nat} {a b : Nat} (ha : a ∈ ks) (hb : b ∈ ks) : (a, b) ∈ prK ks := List.mem_flatMap.mpr ⟨a, ha, List.mem_map.mpr ⟨b, hb, rfl⟩⟩
theorem prK_len (ks : List Nat) : (prK ks).length = ks.length * ks.length := by
  have key : ∀ l : List Nat, (l.flatMap fun a => ks.map fun b => (a, b)).length = l.length * ks.length := by
    intro l
    induction l with
    | nil => simp
    | cons x l ih => rw [List.flatMap_cons, List.length_append, ih, List.length_map, List.length_cons, Nat.add_mul]; omega
  exact key ks
def leftC (M : Mp) (v : Rat) : Nat := (prK (keysM M)).countP fun p => (nxt (LI M) p.1 p.2 v).isSome
theorem leftC_le (M : Mp) (v : Rat) : leftC M v ≤ M.length * M.length := by
  unfold leftC
  have := List.countP_le_length (p := fun p => (nxt (LI M) p.1 p.2 v).isSome) (l := prK (keysM M))
  rw [prK_len, keysM_len] at this
  exact this
theorem leftC_lt {M : Mp} {v c : Rat} {a b : Nat} (ha : a ∈ keysM M) (hb : b ∈ keysM M) (e : nxt (LI M) a b v = some c) : leftC M c < leftC M v := by
  have hvc := (nxt_gt e).1
  refine countP_lt (fun p _ h => ?_) ⟨(a, b), prK_mem ha hb, ?_, by rw [e]; rfl⟩
  · cases ep : nxt (LI M) p.1 p.2 c with
    | none => rw [ep] at h; cases h
    | some d => rw [nxt_back ep (by grind)]; rfl
  · have h2 := (nxt_gt e).2.2
    show (nxt (LI M) a b c).isSome = false
    cases ep : nxt (LI M) a b c with
    | none => rfl
    | some d =>
      obtain ⟨z1, _, z2⟩ := nxt_gt ep
      rw [← h2] at z2
      grind
/-- all but two stand -/
def Fr2 (S S' : Sto) (a b : Addr) : Prop := ∀ x o, x ≠ a → x ≠ b → S x = some o → S' x = some o
theorem Fr2.refl (S : Sto) (a b : Addr) : Fr2 S S a b := fun _ _ _ _ h => h
theorem Fr2.trans {S S1 S2 : Sto} {a b : Addr} (h : Fr2 S S1 a b) (k : Fr2 S1 S2 a b) : Fr2 S S2 a b := fun x o n m e => k x o n m (h x o n m e)
theorem Fr2.sub {S S1 S2 : Sto} {a b : Addr} (h : Fr2 S S1 a b) (k : Sub S1 S2) : Fr2 S S2 a b := fun x o n m e => k x o (h x o n m e)
theorem Fr2.own {S S1 : Sto} {a b p : Addr} {o : O} (h : Fr2 S S1 a b) (n : S1 p = none) : Fr2 S (ups S1 p o) a b := h.sub (Sub.drop n)
theorem Runs.trans {D : List Dd} {e : Rat} {s s1 s2 : Gs} {B C : List RB} (h : Runs D e s B s1) (k : Runs D e s1 C s2) : Runs D e s (B ++ C) s2 := by
  induction h with
  | nil s => exact k
  | cons h1 _ ih => exact .cons h1 (ih k)
theorem M_past {D : List Dd} {s s' : Gs} (h : s'.past = s.past) : s'.M D = s.M D := by unfold Gs.M; rw [h]
theorem fits_now {D : List Dd} {s : Gs} {rb : RB} {e t : Rat} (h : timeG D s rb = some t) : fitsG D e s rb = (!decide (e < t) && ((match s.now with
    | none => true
    | some u => !decide (t < u) && (decide (t = u) || keepsG D s u t false)) && placeG D s rb)) := by
  unfold fitsG
  rw [h]
  try rfl
theorem deed_fits {D : List Dd} {s : Gs} {d : Dd} {p : Int} {e : Rat} (ed : D[s.past]? = some d) (hp : placeG D s (.deed p) = true) (he : d.t ≤ e) (hk : s.now = none ∨ Link D s d.t) : fitsG D e s (.deed p) = true := by
  have et : timeG D s (.deed p) = some d.t := by unfold timeG; rw [ed]; rfl
  rw [fits_now et, hp, decide_eq_false (Rat.not_lt.mpr he)]
  rcases hk with hk | hk | ⟨u, hk, h1, h2⟩
  · rw [hk]; rfl
  · rw [hk]
    dsimp only
    rw [decide_eq_false (Rat.lt_irrefl), decide_eq_true rfl]
    rfl
  · rw [hk]
    dsimp only
    rw [decide_eq_false (Rat.not_lt.mpr (Rat.le_of_lt h1)), h2, Bool.or_true]
    rfl
theorem do_deed {D : List Dd} {s : Gs} {d : Dd} {p : Int} (ed : D[s.past]? = some d) : (doG D s (.deed p)).now = some d.t ∧ (doG D s (.deed p)).past = s.past + 1 := by
  unfold doG
  simp only [ed]
  cases d <;> exact ⟨rfl, rfl⟩
theorem Fr.one_new {S S1 S2 : Sto} {a b : Addr} (h : Fr S S1 a) (n : S b = Option.none) (k : Fr S1 S2 b) : Fr S S2 a := fun y o na e => k y o (ne_of_st e n) (h y o na e)
theorem seq_cut {t u : TS2} {E : Ends2} {τ : St2} {S : Sto} (I : St2 → Sto → Prop) (h2 : ∀ τ S, I τ S → u E τ S) (h1 : ∀ R : St2 → Sto → Prop, (∀ τ S, I τ S → R τ S) → t { E with nx := R } τ S) : uSeq t u E τ S := h1 (u E) h2
/-- a book under way -/
structure BkAt (S S' : Sto) (a b r f : Addr) (sc : List Int) (D : List Dd) (e : Rat) (s : Gs) (B : List RB) : Prop where
  fr : Fr S S' a
  hp : PenA S' a sc
  hb : S' b = some (.lst (B.map eRB))
  ra : r ≠ a
  rb : r ≠ b
  hr : S' r = some (.lst (s.row.map eN))
  hf : S' f = some (.dic (eM (s.M D)))
  ok : GsOk D s
  run : Runs D e ⟨[], 0, none⟩ B s
  bt : ∀ t p, RB.pass t p ∈ B → Nz 3000 t
theorem BkAt.fa {S S' : Sto} {a b r f : Addr} {sc : List Int} {D : List Dd} {e : Rat} {s : Gs} {B : List RB} (h : BkAt S S' a b r f sc D e s B) : f ≠ a := by
  obtain ⟨x0, y0, e0⟩ := h.hp
  exact st_ne h.hf e0 fun z => nomatch z
theorem BkAt.pen {S S' : Sto} {a b r f : Addr} {sc : List Int} {D : List Dd} {e : Rat} {s : Gs} {B : List RB} {x y : Int} (h : BkAt S S' a b r f sc D e s B) (hab : a ≠ b) : BkAt S (ups S' a (penO sc x y)) a b r f sc D e s B :=
  ⟨h.fr.wr, pen_again, (ups_ne hab.symm).trans h.hb, h.ra, h.rb, (ups_ne h.ra).trans h.hr, (ups_ne h.fa).trans h.hf, h.ok, h.run, h.bt⟩
theorem BkAt.sub {S S' S2 : Sto} {a b r f : Addr} {sc : List Int} {D : List Dd} {e : Rat} {s : Gs} {B : List RB} (h : BkAt S S' a b r f sc D e s B) (k : Sub S' S2) : BkAt S S2 a b r f sc D e s B :=
  ⟨h.fr.sub k, h.hp.sub' k, k _ _ h.hb, h.ra, h.rb, k _ _ h.hr, k _ _ h.hf, h.ok, h.run, h.bt⟩
/-- one row more -/
theorem BkAt.put {S S' S2 : Sto} {a b r f r2 f2 : Addr} {sc : List Int} {D : List Dd} {e : Rat} {s : Gs} {B : List RB} {rb : RB} (h : BkAt S S' a b r f sc D e s B) (hab : a ≠ b) (nb : S b = none) (hD : DOk D) (k : Fr S' S2 b) (hb2 : S2 b = some (.lst ((B ++ [rb]).map eRB))) (ho : r2 = r ∨ S' r2 = none) (hrb : r2 ≠ b) (hr2 : S2 r2 = some (.lst ((doG D s rb).row.map eN))) (hf2 : S2 f2 = some (.dic (eM ((doG D s rb).M D)))) (hfit : fitsG D e s rb = true) (hz : ∀ t p, rb = .pass t p → Nz 3000 t) : BkAt S S2 a b r2 f2 sc D e (doG D s rb) (B ++ [rb]) := by
  refine ⟨h.fr.one_new nb k, ?_, hb2, ?_, hrb, hr2, hf2, h.ok.step hD hfit hz, h.run.snoc hfit, fun t p hm => ?_⟩
  · obtain ⟨x0, y0, e0⟩ := h.hp
    exact ⟨x0, y0, k _ _ hab e0⟩
  · rcases ho with rfl | ho
    · exact h.ra
    · exact h.hp.fa ho
  · rcases List.mem_append.mp hm with hm | hm
    · exact h.bt t p hm
    · exact hz t p (List.mem_singleton.mp hm).symm
end DL
/-! Slices by a step that is reckoned. -/
namespace DL
open PySem PySem.Spec PyProof.Rows L2
def uSlV (te : TE2) (ts : TO2) : TE2 := fun τ S Q => te τ S fun d S1 => ts τ S1 fun o S2 => match o with
  | some i => i ≠ 0 ∧ onS (listOf S2 d) fun xs => ∀ p, S2 p = none → Q (.ref p) (ups S2 p (.lst (pickV xs i)))
  | none => False
end DL
/-! What a book that is let by tells at a time. -/
namespace DL
open PySem PySem.Spec PyProof.Rows L2
theorem ahd_till {L : List Ln} {a b : Nat} {u t : Rat} (h : Ahd L a b u) (hut : u ≤ t) (hc : ∀ c, nxt L a b u = some c → t < c) : Ahd L a b t := by
  refine (ahd_same (t := u) (u := t) fun e => ?_).mp h
  by_cases m : u < met (ln L a) (ln L b)
  · have := hc _ (show nxt L a b u = some (met (ln L a) (ln L b)) by unfold nxt; rw [if_pos ⟨e, m⟩])
    constructor
    · intro z; grind
    · intro z; grind
  · constructor
    · intro z; grind
    · intro z; grind
theorem fits_time {D : List Dd} {e : Rat} {s : Gs} {r : RB} (h : fitsG D e s r = true) : ∃ v, timeG D s r = some v ∧ v ≤ e ∧ (doG D s r).now = some v ∧ (∀ u, s.now = some u → u ≤ v ∧ (v = u ∨ keepsG D s u v false = true)) ∧ ((∃ p, r = .pass v p ∧ (doG D s r).past = s.past) ∨ ∃ d p, r = .deed p ∧ D[s.past]? = some d ∧ d.t = v ∧ (doG D s r).past = s.past + 1) := by
  have h' := h
  unfold fitsG at h
  cases et : timeG D s r with
  | none => rw [et] at h; cases h
  | some v =>
    rw [et] at h
    simp only [Bool.and_eq_true, Bool.not_eq_true', decide_eq_false_iff_not] at h
    obtain ⟨h1, h2, h3⟩ := h
    refine ⟨v, rfl, Rat.not_lt.mp h1, ?_, fun u hu => ?_, ?_⟩
    · cases r with
      | pass t p => cases et; rfl
      | deed p =>
        unfold timeG at et
        cases ed : D[s.past]? with
        | none => rw [ed] at et; cases et
        | some d => rw [ed] at et; cases et; exact (do_deed ed).1
    · rw [hu] at h2
      simp only [Bool.and_eq_true, Bool.not_eq_true', decide_eq_false_iff_not, Bool.or_eq_true, decide_eq_true_eq] at h2
      exact ⟨Rat.not_lt.mp h2.1, h2.2⟩
    · cases r with
      | pass t p => cases et; exact .inl ⟨p, rfl, rfl⟩
      | deed p =>
        unfold timeG at et
        cases ed : D[s.past]? with
        | none => rw [ed] at et; cases et
        | some d => rw [ed] at et; cases et; exact .inr ⟨d, p, rfl, rfl, rfl, (do_deed ed).2⟩
structure SoFar (D : List Dd) (t : Rat) (s : Gs) : Prop where
  ok : GsOk D s
  done : ∀ d ∈ D.take s.past, d.t ≤ t
  at_ : ∀ u, s.now = some u → u ≤ t
  no : s.now = none → s.row = []
theorem SoFar.start (D : List Dd) (t : Rat) : SoFar D t ⟨[], 0, none⟩ := ⟨GsOk.start D, fun d h => absurd (show d ∈ ([] : List Dd) by rw [List.take_zero] at h; exact h) (by simp), fun _ h => (nomatch h), fun _ => rfl⟩
theorem SoFar.step {D : List Dd} {t e : Rat} {s : Gs} {r : RB} (h : SoFar D t s) (hD : DOk D) (hf : fitsG D e s r = true) (hz : ∀ u p, r = .pass u p → Nz 3000 u) (hv : ∀ v, timeG D s r = some v → v ≤ t) : SoFar D t (doG D s r) := by
  obtain ⟨v, et, _, hn, hk, ho⟩ := fits_time hf
  have hvt := hv v et
  refine ⟨h.ok.step hD hf hz, fun d hd => ?_, fun u hu => by rw [hn] at hu; cases hu; exact hvt, fun z => by rw [hn] at z; cases z⟩
  rcases ho with ⟨p, rfl, hp⟩ | ⟨d0, p, rfl, ed, rfl, hp⟩
  · rw [hp] at hd; exact h.done d hd
  · rw [hp, List.take_add_one, ed] at hd
    rcases List.mem_append.mp hd with hd | hd
    · exact h.done d hd
    · have : d = d0 := by simpa using hd
      subst this
      exact hvt
end DL
/-! The book that the program writes. -/
namespace DL
open PySem PySem.Spec PyProof.Rows L2
/-- till when the two from a place on stand right -/
def tillI (M : Mp) (u : Rat) (row : List Nat) (i : Nat) : Option Rat := if Ahd (LI M) (row.getD (i + 1) 0) (row.getD i 0) u then some u else nxt (LI M) (row.getD i 0) (row.getD (i + 1) 0) u
def accT (f : Nat → Option Rat) (acc : Option (Rat × Nat)) (i : Nat) : Option (Rat × Nat) := match f i with
  | none => acc
  | some c => match acc with
    | none => some (c, i)
    | some x => if c < x.1 then some (c, i) else some x
def nextU (M : Mp) (u : Rat) (row : List Nat) : Option (Rat × Nat) := (List.range (row.length - 1)).foldl (accT (tillI M u row)) none
def nextG (D : List Dd) (s : Gs) : Option (Rat × Nat) := match s.now with
  | none => none
  | some u => nextU (s.M D) u s.row
theorem accT_le {f : Nat → Option Rat} {acc : Option (Rat × Nat)} {i : Nat} : (∀ x, acc = some x → ∃ y, accT f acc i = some y ∧ y.1 ≤ x.1) ∧ (∀ d, f i = some d → ∃ y, accT f acc i = some y ∧ y.1 ≤ d) ∧ (∀ y, accT f acc i = some y → acc = some y ∨ (y.2 = i ∧ f i = some y.1)) := by
  unfold accT
  cases e : f i with
  | none => exact ⟨fun d h => ⟨d, h, Rat.le_refl⟩, fun d h => (nomatch h), fun c h => .inl h⟩
  | some c =>
    cases acc with
    | none => exact ⟨fun d h => (nomatch h), fun d h => ⟨(c, i), rfl, by cases h; exact Rat.le_refl⟩, fun y h => by cases h; exact .inr ⟨rfl, rfl⟩⟩
    | some x =>
      dsimp only
      by_cases hc : c < x.1
      · rw [if_pos hc]
        exact ⟨fun z h => ⟨_, rfl, by cases h; exact Rat.le_of_lt hc⟩, fun z h => ⟨_, rfl, by cases h; exact Rat.le_refl⟩, fun y h => by cases h; exact .inr ⟨rfl, rfl⟩⟩
      · rw [if_neg hc]
        exact ⟨fun z h => ⟨_, rfl, by cases h; exact Rat.le_refl⟩, fun z h => ⟨_, rfl, by cases h; exact Rat.not_lt.mp hc⟩, fun y h => .inl h⟩
theorem foldN {f : Nat → Option Rat} : ∀ (is : List Nat) (acc : Option (Rat × Nat)), (∀ x, acc = some x → ∃ y, is.foldl (accT f) acc = some y ∧ y.1 ≤ x.1) ∧ (∀ i ∈ is, ∀ d, f i = some d → ∃ y, is.foldl (accT f) acc = some y ∧ y.1 ≤ d) ∧ (∀ y, is.foldl (accT f) acc = some y → acc = some y ∨ (y.2 ∈ is ∧ f y.2 = some y.1))
  | [], acc => ⟨fun d h => ⟨d, h, Rat.le_refl⟩, fun p hp => (nomatch hp), fun c h => .inl h⟩
  | i :: is, acc => by
    obtain ⟨i1, i2, i3⟩ := foldN is (accT f acc i)
    obtain ⟨a1, a2, a3⟩ := accT_le (f := f) (acc := acc) (i := i)
    rw [List.foldl_cons]
    refine ⟨fun d h => ?_, fun p hp d h => ?_, fun c h => ?_⟩
    · obtain ⟨c, h1, h2⟩ := a1 d h
      obtain ⟨c', h3, h4⟩ := i1 c h1
      exact ⟨c', h3, Rat.le_trans h4 h2⟩
    · rcases List.mem_cons.mp hp with rfl | hp
      · obtain ⟨c, h1, h2⟩ := a2 d h
        obtain ⟨c', h3, h4⟩ := i1 c h1
        exact ⟨c', h3, Rat.le_trans h4 h2⟩
      · exact i2 p hp d h
    · rcases i3 c h with h | ⟨hp, h⟩
      · rcases a3 c h with h | ⟨h1, h2⟩
        · exact .inl h
        · exact .inr ⟨by rw [h1]; exact List.mem_cons_self .., by rw [h1]; exact h2⟩
      · exact .inr ⟨List.mem_cons_of_mem _ hp, h⟩
theorem next_some {M : Mp} {u c : Rat} {row : List Nat} {p : Nat} (h : nextU M u row = some (c, p)) : p + 1 < row.length ∧ tillI M u row p = some c ∧ ∀ i d, i + 1 < row.length → tillI M u row i = some d → c ≤ d := by
  obtain ⟨_, h2, h3⟩ := foldN (f := tillI M u row) (List.range (row.length - 1)) none
  obtain ⟨k1, k2⟩ := (h3 _ h).resolve_left fun z => nomatch z
  have k1 := List.mem_range.mp k1
  refine ⟨by omega, k2, fun i d hi e => ?_⟩
  obtain ⟨y, e1, e2⟩ := h2 i (List.mem_range.mpr (by omega)) d e
  have e1 : nextU M u row = some y := e1
  rw [h] at e1
  cases e1
  exact e2
theorem till_ge {M : Mp} {u c : Rat} {row : List Nat} {i : Nat} (h : tillI M u row i = some c) : u ≤ c := by
  unfold tillI at h
  split at h
  · cases h; exact Rat.le_refl
  · exact Rat.le_of_lt (nxt_gt h).1
/-- no row is due till a time: what keeps -/
theorem keeps_till {D : List Dd} {s : Gs} {u t : Rat} {cl : Bool} (nd : s.row.Nodup) (hut : u < t ∨ (cl = true ∧ u = t)) (h : ∀ i d, i + 1 < s.row.length → tillI (s.M D) u s.row i = some d → ¬ (d < t ∨ (cl = true ∧ d = t))) : keepsG D s u t cl = true := by
  rw [keeps_iff]
  intro p hp
  obtain ⟨i, hi, rfl⟩ := pairsG_mem hp
  have hn := pairsG_ne nd hp
  have ha : Ahd (LI (s.M D)) (s.row.getD i 0) (s.row.getD (i + 1) 0) u := by
    rcases ahd_total (L := LI (s.M D)) (t := u) hn with z | z
    · exact z
    · exact absurd hut (h i u hi (if_pos z))
  have hno : ¬ Ahd (LI (s.M D)) (s.row.getD (i + 1) 0) (s.row.getD i 0) u := fun z => ahd_asymm z ha
  have key : ∀ c, nxt (LI (s.M D)) (s.row.getD i 0) (s.row.getD (i + 1) 0) u = some c → ¬ (c < t ∨ (cl = true ∧ c = t)) := fun c e => h i c hi (by unfold tillI; rw [if_neg hno]; exact e)
  refine ⟨ha, ?_⟩
  cases cl with
  | false =>
    refine chg_f.mpr fun c e => Rat.not_lt.mp fun z => key c e (.inl z)
  | true =>
    refine chg_t.mpr fun c e => ?_
    have := key c e
    refine Rat.lt_of_le_of_ne (Rat.not_lt.mp fun z => this (.inl z)) fun z => this (.inr ⟨rfl, z.symm⟩)
def mu (M : Mp) (u : Rat) (row : List Nat) : Nat := leftC M u * 401 + invG M u row
theorem mu_le {D : List Dd} {s : Gs} (hs : GsOk D s) (hD : DOk D) (u : Rat) : mu (s.M D) u s.row ≤ 160800 := by
  have h1 := leftC_le (s.M D) u
  have h2 : (s.M D).length ≤ 20 := (hD.take s.past).room
  have h3 : (s.M D).length * (s.M D).length ≤ 20 * 20 := Nat.mul_le_mul h2 h2
  have h4 := inv_le (s.M D) u s.row
  have h5 := hs.len hD
  have h6 : s.row.length * s.row.length ≤ 20 * 20 := Nat.mul_le_mul h5 h5
  have h7 : leftC (s.M D) u * 401 ≤ 400 * 401 := Nat.mul_le_mul (by omega) (Nat.le_refl _)
  unfold mu
  omega
theorem next_do {D : List Dd} {s : Gs} {u c e : Rat} {p : Nat} (hs : GsOk D s) (hD : DOk D) (hu : s.now = some u) (h : nextG D s = some (c, p)) (he : c ≤ e) : u ≤ c ∧ fitsG D e s (.pass c (p : Int)) = true ∧ mu (s.M D) c (swapG s.row p) < mu (s.M D) u s.row ∧ Nz 3000 c := by
  unfold nextG at h
  rw [hu] at h
  dsimp only at h
  obtain ⟨hp, ht, hmin⟩ := next_some h
  have huc := till_ge ht
  have hm1 := hs.mem (row_mem (l := s.row) (i := p) (by omega))
  have hm2 := hs.mem (row_mem (l := s.row) (i := p + 1) hp)
  have hne : s.row.getD p 0 ≠ s.row.getD (p + 1) 0 := pairsG_ne hs.nd (List.mem_of_getElem? (pairsG_get hp))
  have hL : ∀ k ∈ keysM (s.M D), Lz 300 (ln (LI (s.M D)) k) := fun k hk => by
    obtain ⟨l, el, hm⟩ := mget_key hk
    rw [ln_LI hk]
    unfold lnI
    rw [el]
    exact (hD.take s.past).lz _ hm
  by_cases hup : Ahd (LI (s.M D)) (s.row.getD (p + 1) 0) (s.row.getD p 0) u
  · have ec : u = c := by
      unfold tillI at ht
      rw [if_pos hup] at ht
      exact Option.some.inj ht
    subst ec
    have hin : p ∈ upsG (s.M D) s.row u := ups_mem.mpr ⟨hp, hup⟩
    refine ⟨huc, link_pass (.inl hu) he hin, ?_, hs.now u hu⟩
    have := swap_inv hin
    unfold mu
    omega
  · have hn : nxt (LI (s.M D)) (s.row.getD p 0) (s.row.getD (p + 1) 0) u = some c := by
      unfold tillI at ht
      rw [if_neg hup] at ht
      exact ht
    have hlt := (nxt_gt hn).1
    have ha : Ahd (LI (s.M D)) (s.row.getD p 0) (s.row.getD (p + 1) 0) u := (ahd_total hne).resolve_right hup
    have hin : p ∈ upsG (s.M D) s.row c := ups_mem.mpr ⟨hp, change_up hn ha⟩
    have hk : keepsG D s u c false = true := keeps_till hs.nd (.inl hlt) fun i d hi ed => by
      have := hmin i d hi ed
      rintro (z | ⟨z, _⟩)
      · exact absurd z (Rat.not_lt.mpr this)
      · cases z
    refine ⟨huc, link_pass (.inr ⟨u, hu, hlt, hk⟩) he hin, ?_, ?_⟩
    · have h1 := leftC_lt hm1 hm2 hn
      have h4 := inv_le (s.M D) c (swapG s.row p)
      rw [swap_len hp] at h4
      have h5 := hs.len hD
      have h6 : s.row.length * s.row.length ≤ 20 * 20 := Nat.mul_le_mul h5 h5
      unfold mu
      omega
    · obtain ⟨_, e1, e2⟩ := nxt_gt hn
      rw [e2]
      exact ((hL _ hm1).met (hL _ hm2) e1).le (by decide)
def goesOn (t : Rat) (cl : Bool) (c : Rat) : Bool := decide (c < t) || (cl && decide (c = t))
theorem goes_iff {t c : Rat} {cl : Bool} : goesOn t cl c = true ↔ (c < t ∨ (cl = true ∧ c = t)) := by
  unfold goesOn
  simp
def passF (D : List Dd) (t : Rat) (cl : Bool) : Nat → Gs → List RB × Gs
  | 0, s => ([], s)
  | n + 1, s => match nextG D s with
    | none => ([], s)
    | some x => if goesOn t cl x.1 then (.pass x.1 (x.2 : Int) :: (passF D t cl n (doG D s (.pass x.1 (x.2 : Int)))).1, (passF D t cl n (doG D s (.pass x.1 (x.2 : Int)))).2) else ([], s)
/-- no pass is due -/
def Stop (D : List Dd) (t : Rat) (cl : Bool) (s : Gs) : Prop := ∀ x, nextG D s = some x → goesOn t cl x.1 = false
theorem pass_stop {D : List Dd} {t : Rat} {cl : Bool} {s : Gs} (h : Stop D t cl s) : ∀ n, passF D t cl n s = ([], s)
  | 0 => rfl
  | n + 1 => by
    unfold passF
    cases e : nextG D s with
    | none => rfl
    | some x =>
      dsimp only
      rw [h x e, if_neg Bool.false_ne_true]
structure Passed (D : List Dd) (e t : Rat) (cl : Bool) (s : Gs) (B : List RB) (s' : Gs) : Prop where
  run : Runs D e s B s'
  ok : GsOk D s'
  past : s'.past = s.past
  stop : Stop D t cl s'
  now : ∀ u, s.now = some u → ∃ u', s'.now = some u' ∧ u' ≤ t
  no : s.now = none → s' = s
  bt : ∀ t p, RB.pass t p ∈ B → Nz 3000 t
  len : B.length ≤ 160800
theorem pass_ok {D : List Dd} {e t : Rat} {cl : Bool} (hD : DOk D) (hte : t ≤ e) : ∀ (n : Nat) (s : Gs) (u : Rat), GsOk D s → s.now = some u → u ≤ t → mu (s.M D) u s.row < n →
    Runs D e s (passF D t cl n s).1 (passF D t cl n s).2 ∧ GsOk D (passF D t cl n s).2 ∧ (passF D t cl n s).2.past = s.past ∧ Stop D t cl (passF D t cl n s).2 ∧ (∃ u', (passF D t cl n s).2.now = some u' ∧ u' ≤ t) ∧ (∀ t' p, RB.pass t' p ∈ (passF D t cl n s).1 → Nz 3000 t') ∧ (passF D t cl n s).1.length ≤ mu (s.M D) u s.row
  | 0, s, u, hs, hu, hut, hm => by omega
  | n + 1, s, u, hs, hu, hut, hm => by
    unfold passF
    cases ex : nextG D s with
    | none =>
      exact ⟨.nil _, hs, rfl, (show Stop D t cl s from fun x h => (by rw [ex] at h; cases h)), ⟨u, hu, hut⟩, fun _ _ h => (nomatch h), Nat.zero_le _⟩
    | some x =>
      obtain ⟨c, p⟩ := x
      dsimp only
      by_cases hg : goesOn t cl c = true
      · rw [if_pos hg]
        have hct : c ≤ t := by
          rcases goes_iff.mp hg with z | ⟨_, z⟩
          · exact Rat.le_of_lt z
          · rw [z]; exact Rat.le_refl
        obtain ⟨k1, k2, k3, k4⟩ := next_do hs hD hu ex (Rat.le_trans hct hte)
        have hz : ∀ t' p', RB.pass c (p : Int) = .pass t' p' → Nz 3000 t' := fun t' p' z => by cases z; exact k4
        have hs2 := hs.step hD k2 hz
        have hd : doG D s (.pass c (p : Int)) = ⟨swapG s.row p, s.past, some c⟩ := do_pass
        have hM : (doG D s (.pass c (p : Int))).M D = s.M D := M_past (by rw [hd])
        have hmu : mu ((doG D s (.pass c (p : Int))).M D) c (doG D s (.pass c (p : Int))).row < mu (s.M D) u s.row := by rw [hM, hd]; exact k3
        obtain ⟨r1, r2, r3, r4, r5, r6, r7⟩ := pass_ok (cl := cl) hD hte n (doG D s (.pass c (p : Int))) c hs2 (by rw [hd]) hct (by omega)
        refine ⟨.cons k2 r1, r2, r3.trans (by rw [hd]), r4, r5, fun t' p' h => ?_, by rw [List.length_cons]; omega⟩
        rcases List.mem_cons.mp h with h | h
        · exact hz _ _ h.symm
        · exact r6 _ _ h
      · rw [if_neg hg]
        exact ⟨.nil _, hs, rfl, (show Stop D t cl s from fun x h => (by rw [ex] at h; cases h; simpa using hg)), ⟨u, hu, hut⟩, fun _ _ h => (nomatch h), Nat.zero_le _⟩
theorem passed {D : List Dd} {e t : Rat} {cl : Bool} {s : Gs} (hD : DOk D) (hte : t ≤ e) (hs : GsOk D s) (hu : ∀ u, s.now = some u → u ≤ t) : Passed D e t cl s (passF D t cl 200000 s).1 (passF D t cl 200000 s).2 := by
  cases eu : s.now with
  | none =>
    have hst : Stop D t cl s := fun x h => by unfold nextG at h; rw [eu] at h; cases h
    rw [pass_stop hst]
    exact ⟨.nil _, hs, rfl, hst, fun u z => (by rw [eu] at z; cases z), fun _ => rfl, fun _ _ h => (nomatch h), Nat.zero_le _⟩
  | some u =>
    have hb := mu_le hs hD u
    obtain ⟨r1, r2, r3, r4, r5, r6, r7⟩ := pass_ok (cl := cl) hD hte 200000 s u hs eu (hu u eu) (by omega)
    exact ⟨r1, r2, r3, r4, fun _ _ => r5, fun z => (by rw [eu] at z; cases z), r6, by omega⟩
theorem stop_link {D : List Dd} {t u : Rat} {s : Gs} (hs : GsOk D s) (h : Stop D t false s) (hu : s.now = some u) (hut : u ≤ t) : Link D s t := by
  by_cases e : u = t
  · subst e; exact .inl hu
  · refine .inr ⟨u, hu, Rat.lt_of_le_of_ne hut e, keeps_till hs.nd (.inl (Rat.lt_of_le_of_ne hut e)) fun i d hi ed => ?_⟩
    rintro (z | ⟨z, _⟩)
    · have hx : ∃ x, nextG D s = some x ∧ x.1 ≤ d := by
        unfold nextG
        rw [hu]
        exact (foldN (f := tillI (s.M D) u s.row) (List.range (s.row.length - 1)) none).2.1 i (List.mem_range.mpr (by omega)) d ed
      obtain ⟨x, h1, h2⟩ := hx
      have h3 := h x h1
      have : goesOn t false x.1 = true := goes_iff.mpr (.inl (by grind))
      rw [h3] at this
      cases this
    · cases z
/-- where a join goes -/
def placeJ (D : List Dd) (s : Gs) (t : Rat) (l : Ln) : Nat := (s.row.filter fun k => decide (Ahd (LI (s.K D ++ [(s.J D, l)])) k (s.J D) t)).length
def placeP (D : List Dd) (s : Gs) : Dd → Nat
  | .join t p m => placeJ D s t (p - m * t, m)
  | .leave _ r => s.row.idxOf r
  | .turn _ r _ => s.row.idxOf r
theorem place_ok {D : List Dd} {s : Gs} {d : Dd} (hD : DOk D) (hs : GsOk D s) (ed : D[s.past]? = some d) : placeG D s (.deed (placeP D s d : Nat)) = true := by
  have hh := (hD.at ed).2
  unfold placeG
  simp only [ed]
  have idx : ∀ k, k ∈ keysM (s.M D) → (decide (0 ≤ ((s.row.idxOf k : Nat) : Int)) && (decide (((s.row.idxOf k : Nat) : Int) < (s.row.length : Int)) && decide (nthR s.row ((s.row.idxOf k : Nat) : Int) = k))) = true := fun k hk => by
    have hm := hs.perm.mem_iff.mpr hk
    have hl := List.idxOf_lt_length_of_mem hm
    rw [decide_eq_true (by omega), decide_eq_true (by omega), decide_eq_true]
    · rfl
    · unfold nthR
      rw [Int.toNat_natCast, List.getD_eq_getElem?_getD, List.getElem?_eq_getElem hl, List.getElem_idxOf hl]
      rfl
  cases d with
  | join t p m =>
    have : placeP D s (.join t p m) ≤ s.row.length := List.length_filter_le _ _
    show (decide _ && decide _) = true
    rw [decide_eq_true (by omega), decide_eq_true (by omega)]
    rfl
  | leave t k => exact idx k hh
  | turn t k m => exact idx k hh
/-- the deeds, each with the passes ahead of it -/
def deedF (D : List Dd) (x : List RB × Gs) (d : Dd) : List RB × Gs :=
  (x.1 ++ (passF D d.t false 200000 x.2).1 ++ [.deed (placeP D (passF D d.t false 200000 x.2).2 d : Nat)], doG D (passF D d.t false 200000 x.2).2 (.deed (placeP D (passF D d.t false 200000 x.2).2 d : Nat)))
structure Deeds (D : List Dd) (e : Rat) (done : List Dd) (B : List RB) (s : Gs) : Prop where
  run : Runs D e ⟨[], 0, none⟩ B s
  ok : GsOk D s
  past : s.past = done.length
  now : ∀ u, s.now = some u → ∃ d ∈ done, d.t = u
  no : s.now = none → done = [] ∧ s.row = []
  bt : ∀ t p, RB.pass t p ∈ B → Nz 3000 t
  len : B.length ≤ 160801 * done.length
theorem Deeds.start (D : List Dd) (e : Rat) : Deeds D e [] [] ⟨[], 0, none⟩ := ⟨.nil _, GsOk.start D, rfl, fun _ h => (nomatch h), fun _ => ⟨rfl, rfl⟩, fun _ _ h => (nomatch h), Nat.zero_le _⟩
theorem Deeds.step {D done rest : List Dd} {e : Rat} {d : Dd} {B : List RB} {s : Gs} (hD : DOk D) (eD : done ++ d :: rest = D) (he : d.t ≤ e) (h : Deeds D e done B s) : Passed D e d.t false s (passF D d.t false 200000 s).1 (passF D d.t false 200000 s).2 ∧ D[(passF D d.t false 200000 s).2.past]? = some d ∧ fitsG D e (passF D d.t false 200000 s).2 (.deed (placeP D (passF D d.t false 200000 s).2 d : Nat)) = true ∧ Deeds D e (done ++ [d]) (deedF D (B, s) d).1 (deedF D (B, s) d).2 := by
  obtain ⟨hsm, _, hle, _⟩ := hD.ok done d rest eD.symm
  have hp : Passed D e d.t false s (passF D d.t false 200000 s).1 (passF D d.t false 200000 s).2 := passed hD he h.ok fun u hu => by
    obtain ⟨x, hx, rfl⟩ := h.now u hu
    exact hle x hx
  have ed : D[(passF D d.t false 200000 s).2.past]? = some d := by
    rw [hp.past, h.past, ← eD, List.getElem?_append_right (Nat.le_refl _), Nat.sub_self]
    rfl
  have hpl := place_ok hD hp.ok ed
  have hfit : fitsG D e (passF D d.t false 200000 s).2 (.deed (placeP D (passF D d.t false 200000 s).2 d : Nat)) = true := by
    refine deed_fits ed hpl he ?_
    cases eu : s.now with
    | none => rw [hp.no eu]; exact .inl eu
    | some u =>
      obtain ⟨u', h1, h2⟩ := hp.now u eu
      exact .inr (stop_link hp.ok hp.stop h1 h2)
  refine ⟨hp, ed, hfit, ?_⟩
  obtain ⟨n1, n2⟩ := do_deed (p := (placeP D (passF D d.t false 200000 s).2 d : Nat)) ed
  have hok := hp.ok.step hD hfit fun t p z => (nomatch z)
  unfold deedF
  dsimp only
  refine ⟨(h.run.trans hp.run).snoc hfit, hok, by rw [n2, hp.past, h.past, List.length_append]; rfl, fun u hu => ?_, fun z => (by rw [n1] at z; cases z), fun t p hm => ?_, ?_⟩
  · rw [n1] at hu
    cases hu
    exact ⟨d, by simp, rfl⟩
  · rcases List.mem_append.mp hm with hm | hm
    · rcases List.mem_append.mp hm with hm | hm
      · exact h.bt t p hm
      · exact hp.bt t p hm
    · cases List.mem_singleton.mp hm
  · have h1 := h.len
    have h2 := hp.len
    simp only [List.length_append, List.length_cons, List.length_nil]
    omega
end DL
/-! A dict written out: texts for keys, whole numbers for values. -/
namespace DL
open PySem PySem.Spec PyProof.Rows L2
def litD (kv : List (Str × Int)) : List (Key × D) := kv.foldl (fun acc x => dput acc (.inr x.1) (.int x.2)) []
def uDLit (kv : List (Str × Int)) : TE2 := fun _ S Q => ∀ p, S p = none → Q (.ref p) (ups S p (.dic (litD kv)))
end DL
/-! Dicts whose keys are pairs of pairs of whole numbers. -/
namespace DL
open PySem PySem.Spec PyProof.Rows L2
def nkP (k : PK) : NestedKey := .tup [.tup [.num k.1.1, .num k.1.2], .tup [.num k.2.1, .num k.2.2]]
theorem nkP_inj {a b : PK} (h : nkP a = nkP b) : a = b := by
  obtain ⟨⟨a1, a2⟩, ⟨a3, a4⟩⟩ := a
  obtain ⟨⟨b1, b2⟩, ⟨b3, b4⟩⟩ := b
  simp [nkP] at h
  obtain ⟨⟨h1, h2⟩, h3, h4⟩ := h
  rw [h1, h2, h3, h4]
theorem nkP_hash (w : World) (k : PK) : (nkP k).hash w = hP k := by
  simp [nkP, hP, NestedKey.hash, NestedKey.hashes]
theorem nkP_dec (a b : PK) : decide (nkP a = nkP b) = decide (a = b) := decide_eq_decide.mpr ⟨nkP_inj, fun e => by rw [e]⟩
def nX (xs : List (PK × Addr)) : List (NestedKey × Addr × Value) := xs.map fun x => (nkP x.1, x.2, Value.bool true)
theorem nX_len (xs : List (PK × Addr)) : (nX xs).length = xs.length := by unfold nX; simp
theorem nX_at (xs : List (PK × Addr)) (k : PK) : (atKey (nX xs) (nkP k)).isSome = decide (k ∈ xs.map (·.1)) := by
  induction xs with
  | nil => simp [nX, atKey]
  | cons x xs ih =>
    have e : nX (x :: xs) = (nkP x.1, x.2, Value.bool true) :: nX xs := rfl
    rw [e]
    unfold atKey at *
    rw [List.find?_cons, List.map_cons]
    dsimp only
    rw [nkP_dec]
    by_cases h : x.1 = k
    · rw [decide_eq_true h]
      simp [h]
    · rw [decide_eq_false h]
      dsimp only
      rw [ih]
      refine decide_eq_decide.mpr ?_
      rw [List.mem_cons]
      exact ⟨fun z => .inr z, fun z => z.resolve_left fun z => h z.symm⟩
theorem nX_val {xs : List (PK × Addr)} {k : NestedKey} {p : Addr × Value} (h : atKey (nX xs) k = some p) : p.2 = .bool true := by
  unfold atKey at h
  obtain ⟨z, h1, h2⟩ := Option.map_eq_some_iff.mp h
  have := List.mem_of_find?_eq_some h1
  unfold nX at this
  obtain ⟨y, _, rfl⟩ := List.mem_map.mp this
  rw [← h2]
theorem nX_snoc (xs : List (PK × Addr)) (k : PK) (b : Addr) : nX (xs ++ [(k, b)]) = nX xs ++ [(nkP k, b, .bool true)] := by unfold nX; rw [List.map_append]; rfl
theorem nX_without (xs : List (PK × Addr)) (k : PK) : withoutH (nX xs) (nkP k) = nX (xs.filter fun x => decide (x.1 ≠ k)) := by
  unfold withoutH nX
  rw [List.filter_map]
  congr 1
  refine List.filter_congr fun x _ => ?_
  show decide (nkP x.1 ≠ nkP k) = decide (x.1 ≠ k)
  exact decide_eq_decide.mpr ⟨fun h z => h (by rw [z]), fun h z => h (nkP_inj z)⟩
theorem nX_entries (P : Program) (w : World) (xs : List (PK × Addr)) : (nX xs).map (entryOfKey (nestedKind P w)) = xs.map fun x => (⟨hP x.1, .ref x.2, .bool true⟩ : DictEntry) := by
  unfold nX
  rw [List.map_map]
  refine List.map_congr_left fun x _ => ?_
  show entryOfKey (nestedKind P w) (nkP x.1, x.2, Value.bool true) = _
  unfold entryOfKey
  rw [show (nestedKind P w).hash (nkP x.1) = (nkP x.1).hash w from rfl, nkP_hash]
theorem nX_nodup {xs : List (PK × Addr)} : ((nX xs).map (·.1)).Nodup ↔ (xs.map (·.1)).Nodup := by
  have e : (nX xs).map (·.1) = (xs.map (·.1)).map nkP := by unfold nX; rw [List.map_map, List.map_map]; rfl
  rw [e]
  constructor
  · intro h
    refine (List.pairwise_map.mp h).imp fun hn z => hn (by rw [z])
  · intro h
    refine List.pairwise_map.mpr (h.imp fun hn z => hn (nkP_inj z))
section
variable {X : Cx} {pins : List (Addr × Obj)} {σ : L2.St} {H : Hp} {s : Shared} {a b : Addr} {k : PK} {xs : List (PK × Addr)} {A : Around} {E : Value → Shared → Prop}
theorem pair_in {p : Addr} {i j : Int} (I : Inv X pins σ H s) (h : Dv X.K H (.tup [.int i, .int j]) (.ref p)) : NestedIs s.heap (.tup [.num i, .num j]) (.ref p) := by
  cases h with
  | tup h1 h2 =>
    obtain ⟨its, r, ⟨o, e, c, n, d⟩, _⟩ := I.tuple h1
    cases h2 with
    | cons d1 h2 =>
      cases d1
      cases h2 with
      | cons d2 h2 =>
        cases d2
        cases h2
        cases r with
        | cons r1 r =>
          cases r with
          | cons r2 r =>
            cases r
            obtain ⟨t1, rfl⟩ := r1
            obtain ⟨t2, rfl⟩ := r2
            exact .tup e c d (.cons (.int _ _) (.cons (.int _ _) .nil))
theorem key_in (I : Inv X pins σ H s) (h : Dv X.K H (ePK k) (.ref b)) : (nestedKind X.prog X.w).is s.heap (nkP k) b := by
  refine ⟨?_, by show NestedKey.depth (nkP k) ≤ 8; simp [nkP, NestedKey.depth, NestedKey.depthAll]⟩
  unfold ePK at h
  cases h with
  | tup h1 h2 =>
    obtain ⟨its, r, ⟨o, e, c, n, d⟩, _⟩ := I.tuple h1
    cases h2 with
    | @cons _ v1 _ _ d1 h2 =>
      cases h2 with
      | @cons _ v2 _ _ d2 h2 =>
        cases h2
        cases r with
        | cons r1 r =>
          cases r with
          | cons r2 r =>
            cases r
            cases d1 with
            | tup a1 a2 =>
              cases d2 with
              | tup b1 b2 =>
                cases r1
                cases r2
                exact .tup e c d (.cons (pair_in I (.tup a1 a2)) (.cons (pair_in I (.tup b1 b2)) .nil))
theorem nd_of (I : Inv X pins σ H s) (e : H a = some (.ext (NdAt a xs))) (r : ∀ x ∈ xs, Dv X.K H (ePK x.1) (.ref x.2)) : s.heap.DictOfH (nestedKind X.prog X.w) a (nX xs) ∧ (a == sysModules) = false ∧ xs.length ≤ 1000 := by
  obtain ⟨⟨h1, h2, o, es, ep, h3, h4, h5, h6, h7⟩, _, _⟩ := I.hok a _ e
  refine ⟨⟨o, es, ep, h3, h4, h5, by rw [nX_entries]; exact h6, fun y hy => ?_, nX_nodup.mpr h7⟩, h1, h2⟩
  unfold nX at hy
  obtain ⟨x, hx, rfl⟩ := List.mem_map.mp hy
  exact key_in I (r x hx)
theorem nd_ok {P : Program} {w : World} {h : Heap} {H' : Hp} (dd : h.DictOfH (nestedKind P w) a (nX xs)) (hd : (a == sysModules) = false) (hl : xs.length ≤ 1000) : ObjOk P w H' h a (.ext (NdAt a xs)) := by
  obtain ⟨o, es, ep, h3, h4, h5, h6, _, h7⟩ := dd
  refine ⟨⟨hd, hl, o, es, ep, h3, h4, h5, by rw [← nX_entries P w]; exact h6, nX_nodup.mp h7⟩, ⟨o, h3⟩, fun h1 h2 k1 k2 => ?_⟩
  obtain ⟨z1, z2, o, es, ep, z3, z⟩ := k1
  exact ⟨z1, z2, o, es, ep, k2 o z3, z⟩
theorem nd_room {k : Nat} (hr : Room k A) : (nestedKind X.prog X.w).room A.in1 := by
  have := Room.u65 hr
  show A.units + 1 + 8 < cLine
  omega
theorem pe_dnewN {pos : Pos} : PE X (.Dict [] [] pos) (fun _ H Q => ∀ p, H p = none → Q (.ref p) (upd H p (.ext (NdAt p [])))) := ⟨fun pins s σ H Q I h =>
  wpAny_Dict_empty ⟨.ref s.heap.objs.size, _, I.laid (a := s.heap.objs.size) (o := .ext (NdAt s.heap.objs.size [])) (t' := s.toks) (fun _ _ q => Heap.get?_push_of_some _ q) (Nat.le_refl _)
    (nd_ok (P := X.prog) (w := X.w) (xs := []) (Heap.DictOfH.new s.heap) (beq_eq_false_iff_ne.mpr (Ne.symm (Nat.ne_of_lt I.big))) (Nat.zero_le _)), rfl, h _ (I.hok.fresh (Nat.le_refl _))⟩⟩
end
def uDNewN : TE2 := fun _ S Q => ∀ p, S p = none → Q (.ref p) (ups S p (.ndc []))
theorem q_dnewN {X : Cx} {pos : Pos} : QE X (.Dict [] [] pos) uDNewN := PE.wk pe_dnewN fun σ H Q ⟨τ, S, Q2, rl, rs, t, k⟩ p np =>
  k _ _ _ _ (good_new np) (rs.new (o := .ndc []) np ⟨[], rfl, upd_same, fun _ h => (nomatch h)⟩) (.ref p) (t p (rs.fresh np))
def NdV (K : PySem.W.Frag) (H : Hp) (y : V) (a : Addr) (xs : List (PK × Addr)) : Prop := y = .ref a ∧ H a = some (.ext (NdAt a xs)) ∧ ∀ x ∈ xs, Dv K H (ePK x.1) (.ref x.2)
def rInNV (K : PySem.W.Frag) (f : Bool → Bool) : R2 := fun x y H Q => ∃ a b xs k, x = .ref b ∧ NdV K H y a xs ∧ Dv K H (ePK k) (.ref b) ∧ Q (.bl (f (decide (k ∈ xs.map (·.1))))) H
def rInN2 (f : Bool → Bool) : R22 := fun d e S Q => ∃ k ks a, d = ePK k ∧ e = .ref a ∧ S a = some (.ndc ks) ∧ Q (.bl (f (decide (k ∈ ks)))) S
theorem op_inN {X : Cx} {k : Nat} (hr : Room k X.A) : OpR X (compareOp .In) (rInNV X.K id) := by
  intro pins s σ H x y v u Q I rx ry h
  obtain ⟨a, b, xs, kk, rfl, ⟨rfl, e, r⟩, dk, q⟩ := h
  obtain rfl : v = Value.ref b := rx
  obtain rfl : u = Value.ref a := ry
  obtain ⟨dd, hd, _⟩ := nd_of I e r
  refine wpAny_in_heap (nd_room hr) (key_in I dk) hd dd ?_
  rw [nX_at]
  exact ⟨.bl _, H, I.tok _, rfl, q⟩
theorem op_notInN {X : Cx} {k : Nat} (hr : Room k X.A) : OpR X (compareOp .NotIn) (rInNV X.K not) := by
  intro pins s σ H x y v u Q I rx ry h
  obtain ⟨a, b, xs, kk, rfl, ⟨rfl, e, r⟩, dk, q⟩ := h
  obtain rfl : v = Value.ref b := rx
  obtain rfl : u = Value.ref a := ry
  obtain ⟨dd, hd, _⟩ := nd_of I e r
  refine notIn_keyed (kvs := pairsH (nX xs)) (nd_room hr) (key_in I dk) hd ⟨_, dd, rfl⟩ ?_
  rw [valueAt_pairsH, Option.isSome_map, nX_at]
  exact ⟨.bl _, H, I.tok _, rfl, q⟩
theorem srv_inN {K : PySem.W.Frag} {f : Bool → Bool} : Srv K (rInNV K f) (rInN2 f) := by
  intro d e v u S H Q Q2 rs dv du t k
  obtain ⟨kk, ks, a, rfl, rfl, es, t⟩ := t
  cases du
  obtain ⟨xs, rfl, e, r⟩ := rs _ _ es
  have dv' := dv
  unfold ePK at dv'
  cases dv' with
  | tup h1 h2 => exact ⟨a, _, xs, kk, rfl, ⟨rfl, e, r⟩, dv, k _ _ _ _ (.refl H) rs (.bl _) t⟩
section
variable {X : Cx} {k : Nat} {pos p2 apos cpos p : Pos} {a b o e i : Expr} {ta tb to ti td ty : TE2}
theorem t_inN (hr : Room k X.A) (ha : QE X a ta) (hb : QE X b tb) (hm : behindInMarks .In b = false := by rfl) : QT X (.Compare a [.In] [b] pos) (uTest (uOp (rInN2 id) ta tb)) := t_cmp (op_inN hr) srv_inN hm ha hb
theorem t_notinN (hr : Room k X.A) (ha : QE X a ta) (hb : QE X b tb) (hm : behindInMarks .NotIn b = false := by rfl) : QT X (.Compare a [.NotIn] [b] pos) (uTest (uOp (rInN2 not) ta tb)) := t_cmp (op_notInN hr) srv_inN hm ha hb
/-! d[k] = True, k new -/
def rSetNV (K : PySem.W.Frag) : TSet := fun o i v H Q => ∃ a b xs k, NdV K H o a xs ∧ i = .ref b ∧ Dv K H (ePK k) (.ref b) ∧ v = .bl true ∧ k ∉ xs.map (·.1) ∧ xs.length < 1000 ∧ Q (upd H a (.ext (NdAt a (xs ++ [(k, b)]))))
theorem set_nd (hr : Room k X.A) : PSet X (rSetNV X.K) := by
  intro pins s σ H o i v ov iv u Q I ro ri rv h
  obtain ⟨a, b, xs, kk, ⟨rfl, e, r⟩, rfl, dk, rfl, hn, hl, q⟩ := h
  obtain rfl : ov = Value.ref a := ro
  obtain rfl : iv = Value.ref b := ri
  obtain rfl : u = Value.bool true := rv
  obtain ⟨dd, hd, _⟩ := nd_of I e r
  have ha : atKey (nX xs) (nkP kk) = none := by
    cases z : atKey (nX xs) (nkP kk) with
    | none => rfl
    | some p =>
      have := nX_at xs kk
      rw [z, decide_eq_false hn] at this
      cases this
  refine wpAny_setItem_heap (hsz := by rw [nX_len]; exact Nat.le_trans (Nat.le_of_lt hl) (by decide)) (nd_room hr) (key_in I dk) dd fun h' dd' hs => ⟨_, ?_, q⟩
  rw [storedH_new ha, ← nX_snoc] at dd'
  have he : ∃ q, h'.get? a = some q := let ⟨q, _, _, hq, _⟩ := dd'; ⟨q, hq⟩
  exact d_write I (by rw [e]; exact True.intro) hs he (nd_ok dd' hd (by rw [List.length_append, List.length_singleton]; omega))
def setNQ (d : D) (o i : D) (S : Sto) (R : Sto → Prop) : Prop := ∃ a ks k, o = .ref a ∧ S a = some (.ndc ks) ∧ i = ePK k ∧ d = .bl true ∧ k ∉ ks ∧ ks.length < 1000 ∧ R (ups S a (.ndc (ks ++ [k])))
def vDSubN (to ti : TE2) : TG2 := fun d τ S Q => to τ S fun o S1 => ti τ S1 fun i S2 => setNQ d o i S2 fun S3 => Q τ S3
theorem g_dsubN (hr : Room k X.A) (ho : QE X o to) (hi : QE X i ti)
    (ha : ∀ v, assign (.Subscript o i pos) X.env v = (do
      let ov ← holding [v] (eval o X.env)
      let iv ← holding [v, ov] (eval i X.env)
      standAt pos
      holding [v, ov, iv] (setItem ov iv v)
      release [v, ov, iv] []) := by intro _; rfl) : QG X [] (.Subscript o i pos) (vDSubN to ti) := PG.wk (pg_sub ho hi (set_nd hr) ha) fun v σ H Q ⟨d, τ, S, Q2, dv, rl, rs, t, k⟩ =>
  ⟨τ, S, _, rl, rs, t, fun x vx S1 H1 g1 rs1 dx t1 => ⟨τ, S1, _, rl.keep g1, rs1, t1, fun y vy S2 H2 g2 rs2 dy t2 => by
    obtain ⟨a, ks, kk, rfl, es, rfl, rfl, hn, hl, t3⟩ := t2
    cases dx
    cases dv
    obtain ⟨xs, rfl, e, r⟩ := rs2 _ _ es
    have dy' := dy
    unfold ePK at dy'
    cases dy' with
    | @tup b vs ds h1 h2 =>
      refine ⟨a, b, xs, kk, ⟨rfl, e, r⟩, rfl, dy, rfl, hn, by rw [List.length_map] at hl; exact hl, ?_⟩
      have g3 : Good X.K H2 (upd H2 a (.ext (NdAt a (xs ++ [(kk, b)])))) := good_write e trivial
      refine k _ _ _ _ ((g1.trans g2).trans g3) (((rl.keep g1).keep g2).keep g3) (rs2.write (o := .ndc (xs.map (·.1) ++ [kk])) e trivial ⟨xs ++ [(kk, b)], by rw [List.map_append]; rfl, upd_same, fun x hx => ?_⟩) .refl t3
      rcases List.mem_append.mp hx with hx | hx
      · exact Dv.keep g3 _ _ (r x hx)
      · rw [List.mem_singleton.mp hx]; exact Dv.keep g3 _ _ dy⟩⟩
/-! d.pop(k), k there -/
def rPopNV (K : PySem.W.Frag) (td ty : TE) : TE := fun σ H Q => td σ H fun x H1 => ∃ a xs0, NdV K H1 x a xs0 ∧ ty σ H1 fun y H2 => ∃ b xs k, y = .ref b ∧ NdV K H2 (.ref a) a xs ∧ Dv K H2 (ePK k) (.ref b) ∧ k ∈ xs.map (·.1) ∧ Q (.bl true) (upd H2 a (.ext (NdAt a (xs.filter fun x => decide (x.1 ≠ k)))))
theorem pe_dpopN {td ty : TE} (hr : Room k X.A) (ho : PE X o td) (he : PE X e ty) (m : M1 X o "pop" apos e cpos) : PE X (.Call (.Attribute o "pop" apos) [e] [] cpos) (rPopNV X.K td ty) := by
  refine ⟨fun pins s σ H Q I h => ?_⟩
  refine wpAny_Call_method m.base m.few m.line PySem.F.plainAttrs_dict PySem.F.slot_dict_pop PySem.F.type_dict_pop (thn (ho.run pins s σ H _ I h) fun u s1 ⟨x, H1, I1, rx, a, xs0, ⟨ex, e0, r0⟩, q1⟩ => ?_)
  subst ex
  obtain rfl : u = Value.ref a := rx
  obtain ⟨dd0, hd0, _⟩ := nd_of I1 e0 r0
  refine ⟨dd0.typeIs, fun b q => ?_, ?_⟩
  · cases q
    obtain ⟨ob, _, _, h1, h2, _⟩ := dd0
    exact ⟨ob, h1, h2.2.1⟩
  rw [m.trees]
  refine Calls.callWith_builtin rfl (Calls.evalArgs_plain (Calls.spliced_cons (thn (he.run pins s1 σ H1 _ I1 q1) fun iv s2 ⟨y, H2, I2, ry, b, xs, kk, ey, ⟨_, e2, r2⟩, dk, hm, q2⟩ => Calls.spliced_nil ?_)))
  subst ey
  obtain rfl : iv = Value.ref b := ry
  obtain ⟨dd, hd, hl⟩ := nd_of I2 e2 r2
  have hsome := nX_at xs kk
  rw [decide_eq_true hm] at hsome
  obtain ⟨p, hp⟩ := Option.isSome_iff_exists.mp hsome
  have hv := nX_val hp
  refine call_pop_heap (hsz := by rw [nX_len]; exact Nat.le_trans hl (by decide)) (.inl rfl) (PySem.F.args_dict_pop_2 _ _) (nd_room hr) (key_in I2 dk) hd dd hp fun h' dd' hs => ?_
  rw [nX_without] at dd'
  have he : ∃ q, h'.get? a = some q := let ⟨q, _, _, hq, _⟩ := dd'; ⟨q, hq⟩
  refine ⟨.bl true, _, d_write I2 (by rw [e2]; exact True.intro) hs he (nd_ok dd' hd (Nat.le_trans (List.length_filter_le _ _) hl)), hv, q2⟩
def uDPopN (td ty : TE2) : TE2 := fun τ S Q => td τ S fun x S1 => ∃ a ks0, x = .ref a ∧ S1 a = some (.ndc ks0) ∧ ty τ S1 fun y S2 => ∃ ks k, S2 a = some (.ndc ks) ∧ y = ePK k ∧ k ∈ ks ∧ Q (.bl true) (ups S2 a (.ndc (ks.filter fun x => decide (x ≠ k))))
theorem q_dpopN (hr : Room k X.A) (ho : QE X o td) (he : QE X e ty) (m : M1 X o "pop" apos e cpos := by exact ⟨rfl, rfl, rfl, rfl⟩) : QE X (.Call (.Attribute o "pop" apos) [e] [] cpos) (uDPopN td ty) := PE.wk (pe_dpopN hr ho he m) fun σ H Q ⟨τ, S, Q2, rl, rs, t, k⟩ =>
  ⟨τ, S, _, rl, rs, t, fun d v S1 H1 g1 rs1 dv1 t1 => by
    obtain ⟨a, ks0, rfl, es0, t2⟩ := t1
    cases dv1
    obtain ⟨xs0, rfl, e0, r0⟩ := rs1 _ _ es0
    refine ⟨a, xs0, ⟨rfl, e0, r0⟩, τ, S1, _, rl.keep g1, rs1, t2, fun y u S2 H2 g2 rs2 dy t3 => ?_⟩
    obtain ⟨ks, kk, es, rfl, hm, t4⟩ := t3
    obtain ⟨xs, rfl, e, r⟩ := rs2 _ _ es
    have dy' := dy
    unfold ePK at dy'
    cases dy' with
    | @tup b vs ds h1 h2 =>
      have g3 : Good X.K H2 (upd H2 a (.ext (NdAt a (xs.filter fun x => decide (x.1 ≠ kk))))) := good_write e trivial
      refine ⟨b, xs, kk, rfl, ⟨rfl, e, r⟩, dy, hm, k _ _ _ _ ((g1.trans g2).trans g3) (rs2.write (o := .ndc ((xs.map (·.1)).filter fun x => decide (x ≠ kk))) e trivial ⟨xs.filter fun x => decide (x.1 ≠ kk), ?_, upd_same, fun x hx => Dv.keep g3 _ _ (r x (List.mem_filter.mp hx).1)⟩) (.bl true) t4⟩
      rw [List.filter_map]
      rfl⟩
end
/-! t < u of two tuples of whole numbers -/
def rLtT2 : R22 := fun d e S Q => ∃ ns ms : List Int, d = .tup (ns.map D.int) ∧ e = .tup (ms.map D.int) ∧ Q (.bl (HT.lexLt ns ms)) S
theorem srv_ltT {K : PySem.W.Frag} : Srv K (rLtT K) rLtT2 := by
  intro d e v u S H Q Q2 rs dv du t k
  obtain ⟨ns, ms, rfl, rfl, t⟩ := t
  cases dv with
  | tup h1 h2 =>
    cases du with
    | tup h3 h4 =>
      rw [Dvs.ints_of h2] at h1
      rw [Dvs.ints_of h4] at h3
      exact ⟨_, _, ns, ms, rfl, rfl, h1, h3, k _ _ _ _ (.refl H) rs (.bl _) t⟩
theorem Room.u0 {k : Nat} {A : Around} (hr : Room k A) : A.units < cLine := by have := Room.u65 hr; omega
section
variable {X : Cx} {k : Nat} {pos : Pos} {a b : Expr} {ta tb : TE2}
theorem q_ltT (hr : Room k X.A) (ha : QE X a ta) (hb : QE X b tb) : QE X (.Compare a [.Lt] [b] pos) (uOp rLtT2 ta tb) := q_cmp (op_ltT (Room.u0 hr)) srv_ltT (nomark _) ha hb
end
theorem z_ltT2 {a b c d : Int} {S : Sto} {Q : VK2} : rLtT2 (.tup [.int a, .int b]) (.tup [.int c, .int d]) S Q = Q (.bl (decide (a < c ∨ (a = c ∧ b < d)))) S := by
  have e : HT.lexLt [a, b] [c, d] = decide (a < c ∨ (a = c ∧ b < d)) := by
    unfold HT.lexLt HT.lexLt HT.lexLt
    by_cases h : a = c
    · subst h
      rw [if_pos rfl]
      by_cases h2 : b = d
      · subst h2
        rw [if_pos rfl]
        simp
      · rw [if_neg h2]
        refine decide_eq_decide.mpr ⟨fun z => .inr ⟨rfl, z⟩, fun z => ?_⟩
        rcases z with z | z
        · omega
        · exact z.2
    · rw [if_neg h]
      refine decide_eq_decide.mpr ⟨fun z => .inl z, fun z => ?_⟩
      rcases z with z | z
      · exact z
      · exact absurd z.1 h
  refine propext ⟨fun h => ?_, fun h => ⟨[a, b], [c, d], rfl, rfl, by rw [e]; exact h⟩⟩
  obtain ⟨ns, ms, h1, h2, h3⟩ := h
  have inj : ∀ {xs ys : List Int}, xs.map D.int = ys.map D.int → xs = ys := fun {xs ys} z => (List.map_inj_right (fun _ _ q => by injection q)).mp z
  have h1 : [a, b].map D.int = ns.map D.int := by injection h1
  have h2 : [c, d].map D.int = ms.map D.int := by injection h2
  rw [← inj h1, ← inj h2, e] at h3
  exact h3
end DL
/-! Pairs that wait: shapes. -/
namespace DL
open PySem PySem.Spec PyProof.Rows L2
/-- a time and a key -/
abbrev Wp := Rat × Int × Int
def eWp (p : Wp) : D := .tup [eQ p.1, .tup [.int p.2.1, .int p.2.2]]
def pkP (p : Wp) : PK := ((p.1.num, (p.1.den : Int)), p.2)
theorem q_ext {a b : Rat} (h1 : a.num = b.num) (h2 : (a.den : Int) = (b.den : Int)) : a = b := Rat.ext h1 (by exact_mod_cast h2)
theorem pkP_inj {a b : Wp} (h : pkP a = pkP b) : a = b := by
  obtain ⟨a1, a2⟩ := a
  obtain ⟨b1, b2⟩ := b
  unfold pkP at h
  obtain ⟨h1, h2⟩ := Prod.mk.inj h
  obtain ⟨h3, h4⟩ := Prod.mk.inj h1
  have h2 : a2 = b2 := h2
  exact Prod.ext (q_ext h3 h4) h2
def prLt (p q : Wp) : Prop := p.1 < q.1 ∨ (p.1 = q.1 ∧ (p.2.1 < q.2.1 ∨ (p.2.1 = q.2.1 ∧ p.2.2 < q.2.2)))
instance (p q : Wp) : Decidable (prLt p q) := by unfold prLt; infer_instance
theorem prLt_irr (p : Wp) : ¬ prLt p p := by unfold prLt; grind
theorem prLt_trans {p q r : Wp} (h : prLt p q) (k : prLt q r) : prLt p r := by unfold prLt at *; grind
theorem prLt_asymm {p q : Wp} (h : prLt p q) (k : prLt q p) : False := prLt_irr p (prLt_trans h k)
theorem prLt_total {p q : Wp} (h : p ≠ q) : prLt p q ∨ prLt q p := by
  obtain ⟨a, b, c⟩ := p
  obtain ⟨d, e, f⟩ := q
  unfold prLt
  dsimp only
  by_cases h1 : a = d
  · by_cases h2 : b = e
    · by_cases h3 : c = f
      · exact absurd (by rw [h1, h2, h3]) h
      · rcases Int.lt_or_gt_of_ne h3 with z | z
        · exact .inl (.inr ⟨h1, .inr ⟨h2, z⟩⟩)
        · exact .inr (.inr ⟨h1.symm, .inr ⟨h2.symm, z⟩⟩)
    · rcases Int.lt_or_gt_of_ne h2 with z | z
      · exact .inl (.inr ⟨h1, .inl z⟩)
      · exact .inr (.inr ⟨h1.symm, .inl z⟩)
  · grind
/-- not later -/
def prLe (p q : Wp) : Prop := ¬ prLt q p
theorem prLe_trans {p q r : Wp} (h : prLe p q) (k : prLe q r) : prLe p r := fun z => by
  by_cases e : p = q
  · subst e; exact k z
  · rcases prLt_total e with h1 | h1
    · by_cases e2 : q = r
      · subst e2; exact h z
      · rcases prLt_total e2 with h2 | h2
        · exact prLt_asymm (prLt_trans h1 h2) z
        · exact k h2
    · exact h h1
theorem prLe_of {p q : Wp} (h : prLt p q) : prLe p q := fun z => prLt_asymm h z
theorem prLe_refl (p : Wp) : prLe p p := prLt_irr p
inductive Sh where
  | nil | node (p : Wp) (l r : Sh)
def eSh : Sh → D
  | .nil => .non
  | .node p l r => .tup [eWp p, eSh l, eSh r]
namespace Sh
def rw : Sh → Nat
  | .nil => 0
  | .node _ _ r => 1 + rw r
def size : Sh → Nat
  | .nil => 0
  | .node _ l r => size l + size r + 1
def ht : Sh → Nat
  | .nil => 0
  | .node _ l r => max (ht l) (ht r) + 1
def toL : Sh → List Wp
  | .nil => []
  | .node p l r => p :: (toL l ++ toL r)
/-- the longer way on the left -/
def Lft : Sh → Prop
  | .nil => True
  | .node _ l r => Lft l ∧ Lft r ∧ rw r ≤ rw l
/-- none beneath is ahead -/
def Hp : Sh → Prop
  | .nil => True
  | .node p l r => Hp l ∧ Hp r ∧ ∀ q ∈ toL l ++ toL r, prLe p q
def laid (p : Wp) (a b : Sh) : Sh := if rw a < rw b then .node p b a else .node p a b
theorem toL_len : ∀ s : Sh, (toL s).length = size s
  | .nil => rfl
  | .node p l r => by unfold toL size; rw [List.length_cons, List.length_append, toL_len l, toL_len r]
theorem ht_size : ∀ s : Sh, ht s ≤ size s
  | .nil => Nat.le_refl _
  | .node p l r => by
    have h1 := ht_size l
    have h2 := ht_size r
    unfold ht size
    omega
theorem rw_size : ∀ s : Sh, Lft s → 2 ^ rw s ≤ size s + 1
  | .nil, _ => Nat.le_refl _
  | .node p l r, ⟨h1, h2, h3⟩ => by
    have k1 := rw_size l h1
    have k2 := rw_size r h2
    have k3 : 2 ^ rw r ≤ 2 ^ rw l := Nat.pow_le_pow_right (by decide) h3
    unfold rw size
    rw [Nat.pow_add]
    omega
theorem rw_lt {s : Sh} (h : Lft s) (hs : size s < 4095) : rw s < 12 := by
  have := rw_size s h
  rcases Nat.lt_or_ge (rw s) 12 with z | z
  · exact z
  · have h2 : 2 ^ 12 ≤ 2 ^ rw s := Nat.pow_le_pow_right (by decide) z
    omega
theorem laid_perm (p : Wp) (a b : Sh) : (toL (laid p a b)).Perm (p :: (toL a ++ toL b)) := by
  unfold laid
  split
  · exact List.Perm.cons _ List.perm_append_comm
  · exact .refl _
theorem laid_lft {p : Wp} {a b : Sh} (ha : Lft a) (hb : Lft b) : Lft (laid p a b) := by
  unfold laid
  split
  · next h => exact ⟨hb, ha, Nat.le_of_lt h⟩
  · next h => exact ⟨ha, hb, Nat.not_lt.mp h⟩
theorem laid_hp {p : Wp} {a b : Sh} (ha : Hp a) (hb : Hp b) (h : ∀ q ∈ toL a ++ toL b, prLe p q) : Hp (laid p a b) := by
  unfold laid
  split
  · exact ⟨hb, ha, fun q hq => h q (List.perm_append_comm.mem_iff.mp hq)⟩
  · exact ⟨ha, hb, h⟩
def merged : Sh → Sh → Sh
  | .nil, b => b
  | .node p l r, .nil => .node p l r
  | .node p l r, .node q m s => if prLt q p then laid q m (merged s (.node p l r)) else laid p l (merged r (.node q m s))
termination_by a b => size a + size b
decreasing_by all_goals (simp only [size]; omega)
theorem merged_perm : ∀ a b : Sh, (toL (merged a b)).Perm (toL a ++ toL b)
  | .nil, b => by unfold merged; exact .refl _
  | .node p l r, .nil => by unfold merged; rw [show toL .nil = [] from rfl, List.append_nil]
  | .node p l r, .node q m s => by
    unfold merged
    split
    · refine (laid_perm _ _ _).trans ?_
      have ih := merged_perm s (.node p l r)
      have : toL (.node q m s) = q :: (toL m ++ toL s) := rfl
      rw [this]
      refine (List.Perm.cons q (List.Perm.append_left _ ih)).trans ?_
      rw [← List.append_assoc]
      exact (List.perm_append_comm (l₁ := q :: (toL m ++ toL s)) (l₂ := toL (.node p l r)))
    · refine (laid_perm _ _ _).trans ?_
      have ih := merged_perm r (.node q m s)
      have : toL (.node p l r) = p :: (toL l ++ toL r) := rfl
      rw [this]
      refine (List.Perm.cons p (List.Perm.append_left _ ih)).trans ?_
      rw [← List.append_assoc]
      exact .refl _
termination_by a b => size a + size b
decreasing_by all_goals (simp only [size]; omega)
theorem merged_size (a b : Sh) : size (merged a b) = size a + size b := by
  have := (merged_perm a b).length_eq
  rw [toL_len, List.length_append, toL_len, toL_len] at this
  exact this
theorem merged_lft : ∀ a b : Sh, Lft a → Lft b → Lft (merged a b)
  | .nil, b, _, hb => by unfold merged; exact hb
  | .node p l r, .nil, ha, _ => by unfold merged; exact ha
  | .node p l r, .node q m s, ha, hb => by
    unfold merged
    split
    · exact laid_lft hb.1 (merged_lft s _ hb.2.1 ha)
    · exact laid_lft ha.1 (merged_lft r _ ha.2.1 hb)
termination_by a b => size a + size b
decreasing_by all_goals (simp only [size]; omega)
theorem hp_all {p : Wp} {l r : Sh} (h : Hp (.node p l r)) : ∀ q ∈ toL (.node p l r), prLe p q := fun q hq => by
  rcases List.mem_cons.mp hq with rfl | hq
  · exact prLe_refl _
  · exact h.2.2 q hq
theorem merged_hp : ∀ a b : Sh, Hp a → Hp b → Hp (merged a b)
  | .nil, b, _, hb => by unfold merged; exact hb
  | .node p l r, .nil, ha, _ => by unfold merged; exact ha
  | .node p l r, .node q m s, ha, hb => by
    unfold merged
    split
    · next h =>
      refine laid_hp hb.1 (merged_hp s _ hb.2.1 ha) fun x hx => ?_
      rcases List.mem_append.mp hx with hx | hx
      · exact hb.2.2 x (List.mem_append_left _ hx)
      · rcases List.mem_append.mp ((merged_perm _ _).mem_iff.mp hx) with hx | hx
        · exact hb.2.2 x (List.mem_append_right _ hx)
        · exact prLe_trans (prLe_of h) (hp_all ha x hx)
    · next h =>
      refine laid_hp ha.1 (merged_hp r _ ha.2.1 hb) fun x hx => ?_
      rcases List.mem_append.mp hx with hx | hx
      · exact ha.2.2 x (List.mem_append_left _ hx)
      · rcases List.mem_append.mp ((merged_perm _ _).mem_iff.mp hx) with hx | hx
        · exact ha.2.2 x (List.mem_append_right _ hx)
        · exact prLe_trans h (hp_all hb x hx)
termination_by a b => size a + size b
decreasing_by all_goals (simp only [size]; omega)
def without (p : Wp) : Sh → Sh
  | .nil => .nil
  | .node q l r => if prLt p q then .node q l r else if q = p then merged l r else laid q (without p l) (without p r)
theorem without_lft (p : Wp) : ∀ s : Sh, Lft s → Lft (without p s)
  | .nil, _ => trivial
  | .node q l r, h => by
    unfold without
    split
    · exact h
    · split
      · exact merged_lft _ _ h.1 h.2.1
      · exact laid_lft (without_lft p l h.1) (without_lft p r h.2.1)
theorem without_size (p : Wp) : ∀ s : Sh, size (without p s) ≤ size s
  | .nil => Nat.le_refl _
  | .node q l r => by
    have h1 := without_size p l
    have h2 := without_size p r
    unfold without
    split
    · exact Nat.le_refl _
    · split
      · rw [merged_size]
        show size l + size r ≤ size l + size r + 1
        omega
      · have := (laid_perm q (without p l) (without p r)).length_eq
        rw [toL_len, List.length_cons, List.length_append, toL_len, toL_len] at this
        rw [this]
        show _ ≤ size l + size r + 1
        omega
theorem without_mem (p : Wp) : ∀ s : Sh, ∀ x ∈ toL (without p s), x ∈ toL s
  | .nil, x, h => h
  | .node q l r, x, h => by
    unfold without at h
    split at h
    · exact h
    · split at h
      · exact List.mem_cons_of_mem _ ((merged_perm l r).mem_iff.mp h)
      · rcases List.mem_cons.mp ((laid_perm _ _ _).mem_iff.mp h) with rfl | h
        · exact List.mem_cons_self ..
        · rcases List.mem_append.mp h with h | h
          · exact List.mem_cons_of_mem _ (List.mem_append_left _ (without_mem p l x h))
          · exact List.mem_cons_of_mem _ (List.mem_append_right _ (without_mem p r x h))
theorem without_hp (p : Wp) : ∀ s : Sh, Hp s → Hp (without p s)
  | .nil, _ => trivial
  | .node q l r, h => by
    unfold without
    split
    · exact h
    · split
      · exact merged_hp _ _ h.1 h.2.1
      · refine laid_hp (without_hp p l h.1) (without_hp p r h.2.1) fun x hx => h.2.2 x ?_
        rcases List.mem_append.mp hx with hx | hx
        · exact List.mem_append_left _ (without_mem p l x hx)
        · exact List.mem_append_right _ (without_mem p r x hx)
theorem filter_self {l : List Wp} {p : Wp} (h : p ∉ l) : l.filter (fun x => decide (x ≠ p)) = l := List.filter_eq_self.mpr fun x hx => by
  have : x ≠ p := fun z => h (z ▸ hx)
  simpa using this
/-- without tells all but the one -/
theorem without_perm (p : Wp) : ∀ s : Sh, Hp s → (toL s).Nodup → (toL (without p s)).Perm ((toL s).filter fun x => decide (x ≠ p))
  | .nil, _, _ => .refl _
  | .node q l r, h, nd => by
    have nd' : (q :: (toL l ++ toL r)).Nodup := nd
    obtain ⟨n1, n2⟩ := List.nodup_cons.mp nd'
    obtain ⟨n3, n4, n5⟩ := List.nodup_append.mp n2
    have e : toL (.node q l r) = q :: (toL l ++ toL r) := rfl
    unfold without
    split
    · next hlt =>
      rw [filter_self]
      intro hm
      exact hp_all h p hm hlt
    · split
      · next _ he =>
        subst he
        rw [e, List.filter_cons, if_neg (by simp), filter_self n1]
        exact merged_perm l r
      · next _ he =>
        rw [e, List.filter_cons, if_pos (by simpa using he), List.filter_append]
        exact (laid_perm _ _ _).trans (List.Perm.cons _ ((without_perm p l h.1 n3).append (without_perm p r h.2.1 n4)))
/-- all pairs, the least first -/
def drain : Nat → Sh → List Wp
  | _, .nil => []
  | 0, _ => []
  | n + 1, .node p l r => p :: drain n (merged l r)
theorem drain_sorted : ∀ (n : Nat) (s : Sh), Hp s → (drain n s).Pairwise prLe ∧ ∀ x ∈ drain n s, x ∈ toL s
  | 0, .nil, _ => ⟨.nil, fun _ h => (nomatch h)⟩
  | 0, .node _ _ _, _ => ⟨.nil, fun _ h => (nomatch h)⟩
  | n + 1, .nil, _ => ⟨.nil, fun _ h => (nomatch h)⟩
  | n + 1, .node p l r, h => by
    obtain ⟨h1, h2⟩ := drain_sorted n (merged l r) (merged_hp l r h.1 h.2.1)
    have h3 : ∀ x ∈ drain n (merged l r), x ∈ toL l ++ toL r := fun x hx => (merged_perm l r).mem_iff.mp (h2 x hx)
    refine ⟨List.pairwise_cons.mpr ⟨fun x hx => h.2.2 x (h3 x hx), h1⟩, fun x hx => ?_⟩
    rcases List.mem_cons.mp hx with rfl | hx
    · exact List.mem_cons_self ..
    · exact List.mem_cons_of_mem _ (h3 x hx)
theorem drain_perm : ∀ (n : Nat) (s : Sh), size s ≤ n → (drain n s).Perm (toL s)
  | 0, .nil, _ => .refl _
  | 0, .node _ _ _, h => by unfold size at h; omega
  | n + 1, .nil, _ => .refl _
  | n + 1, .node p l r, h => by
    have hs := merged_size l r
    have h' : size l + size r + 1 ≤ n + 1 := h
    exact List.Perm.cons _ ((drain_perm n (merged l r) (by omega)).trans (merged_perm l r))
end Sh
end DL
namespace DL
open PySem PySem.Spec PyProof.Rows L2
theorem eq_wp {S : Sto} {Q : VK2} {p q : Wp} (h : Q (.bl (decide (p = q))) S) : rEq (eWp p) (eWp q) S Q := rEq_of (eqD (α := Wp) p q (by decide)) h
theorem ne_wp {S : Sto} {Q : VK2} {p q : Wp} (h : Q (.bl (!decide (p = q))) S) : rNe (eWp p) (eWp q) S Q := rNe_of (eqD (α := Wp) p q (by decide)) h
end DL
namespace DL
open PySem PySem.Spec PyProof.Rows L2
theorem q_make0 {X : Cx} {l : Nat} {x : Str} {pos p : Pos} {sp : Sp2} (k : Kls) (hx : k.name = x) (M : MkAt X.K X.mg k) (F : FnM X.prog X.w X.K X.mg X.base l k "__init__" sp) (hr : Room (l + 1) X.A) (hg : Gl X x)
    (hdb : (x == ("__debug__" : Str)) = false := by decide) : QE X (.Call (.Name x p) [] [] pos) (uMake k sp uNil) := by
  subst hx
  obtain ⟨f, fd, ps, F, hm2, hb⟩ := F.ex
  refine PE.wk (pe_make0 ⟨M.makes, hm2.at_, hm2.fn, M.kp⟩ F hr hg M.gl hb .nil (pass0 (X := X)) hdb) fun σ H Q ⟨τ, S, Q2, rl, rs, t, kk⟩ => ?_
  intro a dx na nd hne
  have nd2 : H dx = none := nd
  have g2 : Good X.K H (upd H dx (.own a)) := good_new nd
  have na2 : upd H dx (.own a) a = none := by rw [upd_ne (Ne.symm hne)]; exact na
  have g3 : Good X.K (upd H dx (.own a)) (upd (upd H dx (.own a)) a (.ins (cA X.K k.name) dx [])) := good_new na2
  have rs2 := rs.newT (u := .own a) nd
  have hz : k.fields.zip ([] : List D) = [] := by simp
  have rs3 := rs2.new (o := .ins k []) na2 ⟨dx, [], upd_same, by rw [hz]; exact .nil⟩
  have t2 := t a (rs.fresh na)
  show dnSp X.K sp (.ref a :: ([] ++ [])) _ _ _
  rw [List.append_nil]
  refine ⟨_, _, _, _, .cons (.ref a) .nil, rs3, t2, fun d v S' H' g rs' dv ⟨e1, q⟩ => ?_, fun _ _ _ _ _ _ _ _ z => z.elim⟩
  subst e1
  cases dv
  exact ⟨rfl, kk _ _ _ _ ((g2.trans g3).trans g) rs' (.ref a) q⟩
/-- a Waiting stands at w, its dict at d -/
structure WtAt (k : Kls) (S : Sto) (w d : Addr) (sh : Sh) (ks : List PK) : Prop where
  ob : S w = some (.ins k [eSh sh, .ref d])
  hd : S d = some (.ndc ks)
theorem WtAt.wd {k : Kls} {S : Sto} {w d : Addr} {sh : Sh} {ks : List PK} (h : WtAt k S w d sh ks) : w ≠ d := st_ne h.ob h.hd fun z => nomatch z
theorem WtAt.sub {k : Kls} {S S' : Sto} {w d : Addr} {sh : Sh} {ks : List PK} (h : WtAt k S w d sh ks) (s : Sub S S') : WtAt k S' w d sh ks := ⟨s _ _ h.ob, s _ _ h.hd⟩
structure WtOk (sh : Sh) (ks : List PK) : Prop where
  lft : sh.Lft
  hp : sh.Hp
  nd : sh.toL.Nodup
  keys : ks.Perm (sh.toL.map pkP)
  nz : ∀ p ∈ sh.toL, Nz 4000 p.1
theorem WtOk.nil : WtOk .nil [] := ⟨trivial, trivial, .nil, .refl _, fun _ h => (nomatch h)⟩
theorem WtOk.mem {sh : Sh} {ks : List PK} (h : WtOk sh ks) (p : Wp) : pkP p ∈ ks ↔ p ∈ sh.toL := by
  rw [h.keys.mem_iff, List.mem_map]
  exact ⟨fun ⟨q, h1, h2⟩ => pkP_inj h2 ▸ h1, fun z => ⟨p, z, rfl⟩⟩
theorem WtOk.len {sh : Sh} {ks : List PK} (h : WtOk sh ks) : ks.length = sh.size := by rw [h.keys.length_eq, List.length_map, Sh.toL_len]
theorem WtOk.put {sh : Sh} {ks : List PK} {p : Wp} (h : WtOk sh ks) (hz : Nz 4000 p.1) (hn : p ∉ sh.toL) : WtOk (Sh.merged sh (.node p .nil .nil)) (ks ++ [pkP p]) ∧ (Sh.merged sh (.node p .nil .nil)).toL.Perm (p :: sh.toL) := by
  have h1 : Sh.Lft (.node p .nil .nil) := ⟨trivial, trivial, Nat.le_refl _⟩
  have h2 : Sh.Hp (.node p .nil .nil) := ⟨trivial, trivial, fun _ h => (nomatch h)⟩
  have hp := (Sh.merged_perm sh (.node p .nil .nil)).trans (List.perm_append_comm (l₁ := sh.toL) (l₂ := [p]))
  refine ⟨⟨Sh.merged_lft _ _ h.lft h1, Sh.merged_hp _ _ h.hp h2, hp.nodup_iff.mpr (List.nodup_cons.mpr ⟨hn, h.nd⟩), ?_, fun q hq => ?_⟩, hp⟩
  · refine List.Perm.trans ?_ (hp.map pkP).symm
    exact (List.perm_append_comm (l₁ := ks) (l₂ := [pkP p])).trans (List.Perm.cons _ h.keys)
  · rcases List.mem_cons.mp (hp.mem_iff.mp hq) with rfl | hq
    · exact hz
    · exact h.nz q hq
theorem WtOk.take {sh : Sh} {ks : List PK} {p : Wp} (h : WtOk sh ks) : WtOk (Sh.without p sh) (ks.filter fun x => decide (x ≠ pkP p)) ∧ (Sh.without p sh).toL.Perm (sh.toL.filter fun x => decide (x ≠ p)) := by
  have hp := Sh.without_perm p sh h.hp h.nd
  refine ⟨⟨Sh.without_lft p sh h.lft, Sh.without_hp p sh h.hp, hp.nodup_iff.mpr (List.Pairwise.filter _ h.nd), ?_, fun q hq => h.nz q (Sh.without_mem p sh q hq)⟩, hp⟩
  refine (h.keys.filter _).trans (List.Perm.trans (.of_eq ?_) (hp.map pkP).symm)
  rw [List.filter_map]
  congr 1
  refine List.filter_congr fun x _ => decide_eq_decide.mpr ⟨fun z e => z (by show pkP x = pkP p; rw [e]), fun z e => z (pkP_inj e)⟩
def fstD : Sh → D
  | .nil => .non
  | .node p _ _ => eWp p
end DL
/-! Walks along time. -/
namespace DL
open PySem PySem.Spec PyProof.Rows L2
/-- till when x is ahead of y, the time itself where it isn't from then on -/
def tlW (L : List Ln) (x y : Nat) (u : Rat) : Option Rat := if Ahd L y x u then some u else nxt L x y u
theorem tl_ge {L : List Ln} {x y : Nat} {u c : Rat} (h : tlW L x y u = some c) : u ≤ c := by
  unfold tlW at h
  split at h
  · cases h; exact Rat.le_refl
  · exact Rat.le_of_lt (nxt_gt h).1
/-- what is due not ahead of a time is so from there, too -/
theorem tl_stay {L : List Ln} {x y : Nat} {u t : Rat} (hn : x ≠ y) (hut : u ≤ t) (h : ∀ c, tlW L x y u = some c → t ≤ c) : tlW L x y t = tlW L x y u := by
  by_cases ha : Ahd L y x u
  · have e1 : tlW L x y u = some u := if_pos ha
    have := h u e1
    have e2 : t = u := Rat.le_antisymm this hut
    rw [e2]
  · have hax : Ahd L x y u := (ahd_total hn).resolve_right ha
    have e1 : tlW L x y u = nxt L x y u := if_neg ha
    rw [e1] at h ⊢
    cases en : nxt L x y u with
    | none =>
      have ht : Ahd L x y t := ahd_till hax hut fun c e => by rw [en] at e; cases e
      have e2 : tlW L x y t = nxt L x y t := if_neg fun z => ahd_asymm z ht
      rw [e2]
      cases e3 : nxt L x y t with
      | none => rfl
      | some c => rw [nxt_back e3 hut] at en; cases en
    | some c =>
      have htc := h c en
      by_cases e : t = c
      · subst e
        exact if_pos (change_up en hax)
      · have hlt : t < c := Rat.lt_of_le_of_ne htc e
        have ht : Ahd L x y t := ahd_till hax hut fun d e => by rw [en] at e; cases e; exact hlt
        have e2 : tlW L x y t = nxt L x y t := if_neg fun z => ahd_asymm z ht
        rw [e2]
        exact nxt_later en hlt
/-- the pair of a place that waits -/
def pwW (L : List Ln) (u : Rat) (row : List Nat) (i : Nat) : Option Wp := (tlW L (row.getD i 0) (row.getD (i + 1) 0) u).map fun c => (c, ((row.getD i 0 : Nat) : Int), ((row.getD (i + 1) 0 : Nat) : Int))
def pwI (L : List Ln) (u : Rat) (row : List Nat) (i : Int) : Option Wp := if 0 ≤ i ∧ i + 1 < (row.length : Int) then pwW L u row i.toNat else none
theorem pwW_some {L : List Ln} {u : Rat} {row : List Nat} {i : Nat} {p : Wp} (h : pwW L u row i = some p) : tlW L (row.getD i 0) (row.getD (i + 1) 0) u = some p.1 ∧ p.2.1 = ((row.getD i 0 : Nat) : Int) ∧ p.2.2 = ((row.getD (i + 1) 0 : Nat) : Int) := by
  unfold pwW at h
  obtain ⟨c, h1, rfl⟩ := Option.map_eq_some_iff.mp h
  exact ⟨h1, rfl, rfl⟩
theorem getD_inj {row : List Nat} (nd : row.Nodup) {i j : Nat} (hi : i < row.length) (hj : j < row.length) (e : row.getD i 0 = row.getD j 0) : i = j := by
  rw [List.getD_eq_getElem?_getD, List.getElem?_eq_getElem hi, List.getD_eq_getElem?_getD, List.getElem?_eq_getElem hj] at e
  have e : row[i] = row[j] := by simpa using e
  rcases Nat.lt_trichotomy i j with h | h | h
  · exact absurd e ((List.pairwise_iff_getElem.mp nd) i j hi hj h)
  · exact h
  · exact absurd e.symm ((List.pairwise_iff_getElem.mp nd) j i hj hi h)
theorem pwW_inj {L : List Ln} {u v : Rat} {row : List Nat} (nd : row.Nodup) {i j : Nat} (hi : i < row.length) (hj : j < row.length) {p : Wp} (h : pwW L u row i = some p) (k : pwW L v row j = some p) : i = j := by
  have h1 := (pwW_some h).2.1
  have h2 := (pwW_some k).2.1
  rw [h1] at h2
  exact getD_inj nd hi hj (by omega)
structure WkAt (kW kQ : Kls) (S : Sto) (k a r w d : Addr) (L : List Ln) (u : Rat) (row : List Nat) (sh : Sh) (ks : List PK) : Prop where
  ob : S k = some (.ins kW [.ref a, eQ u, .ref r, .ref w])
  la : LA S a L
  hr : S r = some (.lst (row.map eN))
  wt : WtAt kQ S w d sh ks
  ar : a ≠ r
  kw : k ≠ w
structure WkOk (L : List Ln) (u : Rat) (row : List Nat) : Prop where
  perm : row.Perm (List.range L.length)
  nz : Nz 3500 u
  len : L.length ≤ 20
theorem WkOk.nd {L : List Ln} {u : Rat} {row : List Nat} (h : WkOk L u row) : row.Nodup := h.perm.nodup_iff.mpr List.nodup_range
theorem WkOk.lt {L : List Ln} {u : Rat} {row : List Nat} (h : WkOk L u row) {x : Nat} (hx : x ∈ row) : x < L.length := List.mem_range.mp (h.perm.mem_iff.mp hx)
theorem WkOk.at_ {L : List Ln} {u : Rat} {row : List Nat} (h : WkOk L u row) {i : Nat} (hi : i < row.length) : row.getD i 0 < L.length := h.lt (row_mem hi)
/-- what waits: the pairs of those places that f says -/
def Waits (L : List Ln) (u : Rat) (row : List Nat) (sh : Sh) (f : Nat → Prop) : Prop := ∀ p, p ∈ sh.toL ↔ ∃ i, i + 1 < row.length ∧ f i ∧ pwW L u row i = some p
section
variable {kW kQ : Kls} {S S' : Sto} {k a r w d : Addr} {L : List Ln} {u : Rat} {row : List Nat} {sh : Sh} {ks : List PK}
theorem WkAt.sub (h : WkAt kW kQ S k a r w d L u row sh ks) (s : Sub S S') : WkAt kW kQ S' k a r w d L u row sh ks := ⟨s _ _ h.ob, h.la.sub s, s _ _ h.hr, h.wt.sub s, h.ar, h.kw⟩
end
end DL
namespace DL
open PySem PySem.Spec PyProof.Rows L2
theorem Waits.size {L : List Ln} {u : Rat} {row : List Nat} {sh : Sh} {f : Nat → Prop} (h : Waits L u row sh f) (nd : sh.toL.Nodup) : sh.size ≤ row.length := by
  rw [← Sh.toL_len]
  refine Nat.le_trans (nodup_sub (ys := (List.range row.length).filterMap (pwW L u row)) nd fun p hp => ?_) ?_
  · obtain ⟨i, h1, _, h2⟩ := (h p).mp hp
    exact List.mem_filterMap.mpr ⟨i, List.mem_range.mpr (by omega), h2⟩
  · exact Nat.le_trans (List.length_filterMap_le _ _) (by rw [List.length_range]; exact Nat.le_refl _)
theorem perm_same {α : Type} [DecidableEq α] {xs ys : List α} (h1 : xs.Nodup) (h2 : ys.Nodup) (h : ∀ x, x ∈ xs ↔ x ∈ ys) : xs.Perm ys := by
  rw [List.perm_iff_count]
  intro a
  rw [List.Nodup.count h1, List.Nodup.count h2]
  by_cases z : a ∈ xs
  · rw [if_pos z, if_pos ((h a).mp z)]
  · rw [if_neg z, if_neg fun q => z ((h a).mpr q)]
end DL
namespace DL
open PySem PySem.Spec PyProof.Rows L2
end DL
namespace DL
open PySem PySem.Spec PyProof.Rows L2
structure WRec where
  (k a r w d : Addr) (u : Rat) (row : List Nat) (sh : Sh) (ks : List PK)
structure WGood (kW kQ : Kls) (S : Sto) (L : List Ln) (x : WRec) : Prop where
  at_ : WkAt kW kQ S x.k x.a x.r x.w x.d L x.u x.row x.sh x.ks
  ok : WkOk L x.u x.row
  ord : IsOrd L x.u L.length x.row
def WRec.off (x : WRec) (h : Addr) : Prop := h ≠ x.k ∧ h ≠ x.a ∧ h ≠ x.r ∧ h ≠ x.w ∧ h ≠ x.d
theorem WkAt.upd {kW kQ : Kls} {S : Sto} {k a r w d h : Addr} {L : List Ln} {u : Rat} {row : List Nat} {sh : Sh} {ks : List PK} {o : O} (g : WkAt kW kQ S k a r w d L u row sh ks) (n1 : h ≠ k) (n2 : h ≠ a) (n3 : h ≠ r) (n4 : h ≠ w) (n5 : h ≠ d) : WkAt kW kQ (ups S h o) k a r w d L u row sh ks :=
  ⟨(ups_ne n1.symm).trans g.ob, g.la.upd n2.symm, (ups_ne n3.symm).trans g.hr, ⟨(ups_ne n4.symm).trans g.wt.ob, (ups_ne n5.symm).trans g.wt.hd⟩, g.ar, g.kw⟩
theorem WGood.sub {kW kQ : Kls} {S S' : Sto} {L : List Ln} {x : WRec} (g : WGood kW kQ S L x) (s : Sub S S') : WGood kW kQ S' L x := ⟨g.at_.sub s, g.ok, g.ord⟩
theorem WGood.upd {kW kQ : Kls} {S : Sto} {L : List Ln} {x : WRec} {h : Addr} {o : O} (g : WGood kW kQ S L x) (n : x.off h) : WGood kW kQ (ups S h o) L x := ⟨g.at_.upd n.1 n.2.1 n.2.2.1 n.2.2.2.1 n.2.2.2.2, g.ok, g.ord⟩
/-- all but one stand: a walk off it stays good -/
theorem WGood.fr {kW kQ : Kls} {S S' : Sto} {L : List Ln} {x : WRec} {h : Addr} (g : WGood kW kQ S L x) (f : Fr S S' h) (n : x.off h) : WGood kW kQ S' L x :=
  ⟨⟨f _ _ n.1.symm g.at_.ob, ⟨f _ _ n.2.1.symm g.at_.la.st, g.at_.la.ok, g.at_.la.sz⟩, f _ _ n.2.2.1.symm g.at_.hr, ⟨f _ _ n.2.2.2.1.symm g.at_.wt.ob, f _ _ n.2.2.2.2.symm g.at_.wt.hd⟩, g.at_.ar, g.at_.kw⟩, g.ok, g.ord⟩
end DL
/-! Steps of walks. -/
namespace DL
open PySem PySem.Spec PyProof.Rows L2
theorem swap_get {l : List Nat} {p j : Nat} (h : p + 1 < l.length) : (swapG l p).getD j 0 = if j = p then l.getD (p + 1) 0 else if j = p + 1 then l.getD p 0 else l.getD j 0 := by
  unfold swapG
  have hp : (l.take p).length = p := by rw [List.length_take]; omega
  simp only [List.getD_eq_getElem?_getD]
  by_cases h1 : j < p
  · rw [List.append_assoc, List.getElem?_append_left (by omega), List.getElem?_take_of_lt h1, if_neg (by omega), if_neg (by omega)]
  · by_cases h2 : j = p
    · subst h2
      rw [List.append_assoc, List.getElem?_append_right (by omega), if_pos rfl, hp, Nat.sub_self]
      rfl
    · by_cases h3 : j = p + 1
      · subst h3
        rw [List.append_assoc, List.getElem?_append_right (by omega), if_neg h2, if_pos rfl, hp, show p + 1 - p = 1 by omega]
        rfl
      · rw [List.getElem?_append_right (by rw [List.length_append, hp]; show p + 2 ≤ j; omega), if_neg h2, if_neg h3, List.getElem?_drop, List.length_append, hp]
        show (l[p + 2 + (j - (p + 2))]?).getD 0 = _
        rw [show p + 2 + (j - (p + 2)) = j by omega]
def sw (p j : Nat) : Nat := if j = p then p + 1 else if j = p + 1 then p else j
theorem swap_sw {l : List Nat} {p j : Nat} (h : p + 1 < l.length) : (swapG l p).getD j 0 = l.getD (sw p j) 0 := by
  rw [swap_get h]
  unfold sw
  by_cases h1 : j = p
  · rw [if_pos h1, if_pos h1]
  · by_cases h2 : j = p + 1
    · rw [if_neg h1, if_pos h2, if_neg h1, if_pos h2]
    · rw [if_neg h1, if_neg h2, if_neg h1, if_neg h2]
/-- the first place with the least till -/
structure IsNx (L : List Ln) (u : Rat) (row : List Nat) (t : Rat) (i : Nat) : Prop where
  lt : i + 1 < row.length
  at_ : tlW L (row.getD i 0) (row.getD (i + 1) 0) u = some t
  le : ∀ j c, j + 1 < row.length → tlW L (row.getD j 0) (row.getD (j + 1) 0) u = some c → t ≤ c
  fst : ∀ j, j < i → tlW L (row.getD j 0) (row.getD (j + 1) 0) u ≠ some t
def NoNx (L : List Ln) (u : Rat) (row : List Nat) : Prop := ∀ j, j + 1 < row.length → tlW L (row.getD j 0) (row.getD (j + 1) 0) u = none
theorem IsNx.uniq {L : List Ln} {u : Rat} {row : List Nat} {t t' : Rat} {i j : Nat} (h : IsNx L u row t i) (k : IsNx L u row t' j) : t = t' ∧ i = j := by
  have e : t = t' := Rat.le_antisymm (h.le j t' k.lt k.at_) (k.le i t h.lt h.at_)
  subst e
  refine ⟨rfl, ?_⟩
  rcases Nat.lt_trichotomy i j with z | z | z
  · exact absurd h.at_ (k.fst i z)
  · exact z
  · exact absurd k.at_ (h.fst j z)
theorem NoNx.not {L : List Ln} {u : Rat} {row : List Nat} {t : Rat} {i : Nat} (h : NoNx L u row) (k : IsNx L u row t i) : False := by
  have := h i k.lt
  rw [k.at_] at this
  cases this
section
variable {L : List Ln} {u t : Rat} {row : List Nat} {sh sh' : Sh} {f g : Nat → Prop}
theorem pwI_some {x : Int} {q : Wp} (h : pwI L u row x = some q) : 0 ≤ x ∧ x + 1 < (row.length : Int) ∧ pwW L u row x.toNat = some q := by
  unfold pwI at h
  split at h
  · next c => exact ⟨c.1, c.2, h⟩
  · cases h
theorem pwI_nat {j : Nat} (h : j + 1 < row.length) : pwI L u row (j : Int) = pwW L u row j := by
  unfold pwI
  rw [if_pos (by omega), Int.toNat_natCast]
theorem Waits.drop {x : Int} (h : Waits L u row sh f) (nd : row.Nodup) (hq : ∀ q, q ∈ sh'.toL ↔ q ∈ sh.toL ∧ pwI L u row x ≠ some q) : Waits L u row sh' (fun j => f j ∧ (j : Int) ≠ x) := fun q => by
  rw [hq q, h q]
  constructor
  · rintro ⟨⟨i, h1, h2, h3⟩, h4⟩
    exact ⟨i, h1, ⟨h2, fun e => h4 (by rw [← e, pwI_nat h1, h3])⟩, h3⟩
  · rintro ⟨i, h1, ⟨h2, h4⟩, h3⟩
    refine ⟨⟨i, h1, h2, h3⟩, fun e => ?_⟩
    obtain ⟨k1, k2, k3⟩ := pwI_some e
    have := pwW_inj nd (show i < row.length by omega) (show x.toNat < row.length by omega) h3 k3
    omega
theorem Waits.keep {x : Int} (h : Waits L u row sh f) (hq : ∀ q, q ∈ sh'.toL ↔ q ∈ sh.toL ∨ pwI L u row x = some q) : Waits L u row sh' (fun j => f j ∨ (j : Int) = x) := fun q => by
  rw [hq q, h q]
  constructor
  · rintro (⟨i, h1, h2, h3⟩ | h4)
    · exact ⟨i, h1, .inl h2, h3⟩
    · obtain ⟨k1, k2, k3⟩ := pwI_some h4
      exact ⟨x.toNat, by omega, .inr (by omega), k3⟩
  · rintro ⟨i, h1, h2 | h2, h3⟩
    · exact .inl ⟨i, h1, h2, h3⟩
    · exact .inr (by rw [← h2, pwI_nat h1, h3])
theorem getD_ne {i j : Nat} (nd : row.Nodup) (hi : i < row.length) (hj : j < row.length) (h : i ≠ j) : row.getD i 0 ≠ row.getD j 0 := fun e => h (getD_inj nd hi hj e)
/-- those not beside the two that are exchanged stay -/
theorem Waits.swap {a : Nat} (h : Waits L u row sh f) (nd : row.Nodup) (ha : a + 1 < row.length) (hf : ∀ j, f j → (j : Int) ≠ (a : Int) - 1 ∧ j ≠ a ∧ j ≠ a + 1) (hut : u ≤ t) (hle : ∀ j c, j + 1 < row.length → tlW L (row.getD j 0) (row.getD (j + 1) 0) u = some c → t ≤ c) : Waits L t (swapG row a) sh f := fun q => by
  rw [h q]
  have key : ∀ i, i + 1 < row.length → f i → pwW L t (swapG row a) i = pwW L u row i := fun i h1 h2 => by
    obtain ⟨k1, k2, k3⟩ := hf i h2
    have e1 : (swapG row a).getD i 0 = row.getD i 0 := by rw [swap_get ha, if_neg k2, if_neg k3]
    have e2 : (swapG row a).getD (i + 1) 0 = row.getD (i + 1) 0 := by rw [swap_get ha, if_neg (by omega), if_neg (by omega)]
    unfold pwW
    rw [e1, e2, tl_stay (getD_ne nd (by omega) h1 (by omega)) hut (hle i · h1)]
  have hl := swap_len ha
  constructor
  · rintro ⟨i, h1, h2, h3⟩
    exact ⟨i, by omega, h2, (key i h1 h2).trans h3⟩
  · rintro ⟨i, h1, h2, h3⟩
    have h1' : i + 1 < row.length := by omega
    exact ⟨i, h1', h2, (key i h1' h2).symm.trans h3⟩
end
def FrW (S S' : Sto) (k r w d : Addr) : Prop := ∀ b o, b ≠ k → b ≠ r → b ≠ w → b ≠ d → S b = some o → S' b = some o
theorem FrW.trans {S S' S'' : Sto} {k r w d : Addr} (h : FrW S S' k r w d) (g : FrW S' S'' k r w d) : FrW S S'' k r w d := fun b o n1 n2 n3 n4 e => g b o n1 n2 n3 n4 (h b o n1 n2 n3 n4 e)
theorem FrW.sub {S S' S'' : Sto} {k r w d : Addr} (h : FrW S S' k r w d) (g : Sub S' S'') : FrW S S'' k r w d := fun b o n1 n2 n3 n4 e => g _ _ (h b o n1 n2 n3 n4 e)
theorem FrW.wr {S S' : Sto} {k r w d : Addr} {o : O} (h : FrW S S' k r w d) : FrW S (ups S' r o) k r w d := fun b p n1 n2 n3 n4 e => (ups_ne n2).trans (h b p n1 n2 n3 n4 e)
theorem FrW.refl {S : Sto} {k r w d : Addr} : FrW S S k r w d := fun _ _ _ _ _ _ e => e
theorem WkOk.swap {L : List Ln} {u t : Rat} {row : List Nat} {a : Nat} (h : WkOk L u row) (ha : a + 1 < row.length) (ht : Nz 3500 t) : WkOk L t (swapG row a) := ⟨(swap_perm ha).trans h.perm, ht, h.len⟩
/-! how many are still to come -/
def Bf (row : List Nat) (x y : Nat) : Prop := ∃ i j, i < j ∧ j < row.length ∧ row.getD i 0 = x ∧ row.getD j 0 = y
theorem bf_swap {row : List Nat} {p x y : Nat} (h : p + 1 < row.length) (nd : row.Nodup) (k : Bf (swapG row p) x y) : (x = row.getD (p + 1) 0 ∧ y = row.getD p 0) ∨ (Bf row x y ∧ ¬ (x = row.getD p 0 ∧ y = row.getD (p + 1) 0)) := by
  obtain ⟨i, j, h1, h2, rfl, rfl⟩ := k
  rw [swap_len h] at h2
  rw [swap_sw h, swap_sw h]
  by_cases c : i = p ∧ j = p + 1
  · obtain ⟨rfl, rfl⟩ := c
    refine .inl ⟨?_, ?_⟩
    · unfold sw; rw [if_pos rfl]
    · unfold sw; rw [if_neg (by omega), if_pos rfl]
  · have hs : sw p i < sw p j ∧ sw p j < row.length ∧ ¬ (sw p i = p ∧ sw p j = p + 1) := by unfold sw; grind
    refine .inr ⟨⟨_, _, hs.1, hs.2.1, rfl, rfl⟩, fun ⟨e1, e2⟩ => ?_⟩
    have k1 := getD_inj nd (by omega) (by omega) e1
    have k2 := getD_inj nd (by omega) (by omega) e2
    exact hs.2.2 ⟨k1, k2⟩
theorem bf_ne {row : List Nat} {x y : Nat} (nd : row.Nodup) (k : Bf row x y) : x ≠ y := by
  obtain ⟨i, j, h1, h2, rfl, rfl⟩ := k
  exact getD_ne nd (by omega) h2 (by omega)
theorem tl_back {L : List Ln} {x y : Nat} {u t c : Rat} (hn : x ≠ y) (hut : u ≤ t) (h : tlW L x y t = some c) : ∃ d, tlW L x y u = some d := by
  by_cases ha : Ahd L y x u
  · exact ⟨u, if_pos ha⟩
  · have hax : Ahd L x y u := (ahd_total hn).resolve_right ha
    have e1 : tlW L x y u = nxt L x y u := if_neg ha
    rw [e1]
    cases en : nxt L x y u with
    | some d => exact ⟨d, rfl⟩
    | none =>
      have ht : Ahd L x y t := ahd_till hax hut fun c e => by rw [en] at e; cases e
      have e2 : tlW L x y t = nxt L x y t := if_neg fun z => ahd_asymm z ht
      rw [e2] at h
      rw [nxt_back h hut] at en
      cases en
/-- two that stand wrong will not change again -/
def Inv (L : List Ln) (u : Rat) (row : List Nat) : Prop := ∀ x y, Bf row x y → Ahd L y x u → nxt L x y u = none
theorem tl_ahd {L : List Ln} {a b : Nat} {u t : Rat} (hn : a ≠ b) (h : tlW L a b u = some t) : Ahd L b a t := by
  unfold tlW at h
  split at h
  · next c => cases h; exact c
  · next c => exact change_up h ((ahd_total hn).resolve_right c)
theorem Inv.swap {L : List Ln} {u t : Rat} {row : List Nat} {p : Nat} (h : Inv L u row) (nd : row.Nodup) (k : IsNx L u row t p) : Inv L t (swapG row p) := fun x y hb ha => by
  have hut := tl_ge k.at_
  have hab := tl_ahd (getD_ne nd (by have := k.lt; omega) k.lt (by omega)) k.at_
  rcases bf_swap k.lt nd hb with ⟨rfl, rfl⟩ | ⟨hb, _⟩
  · exact absurd ha fun z => ahd_asymm z hab
  · cases e : nxt L x y t with
    | none => rfl
    | some c =>
      have eb := nxt_back e hut
      by_cases hu : Ahd L y x u
      · rw [h x y hb hu] at eb; cases eb
      · have hx : Ahd L x y u := (ahd_total (bf_ne nd hb)).resolve_right hu
        have := ahd_till (t := t) hx hut fun d e2 => by rw [eb] at e2; cases e2; exact (nxt_gt e).1
        exact (ahd_asymm this ha).elim
open Classical in
noncomputable def muW (L : List Ln) (u : Rat) (row : List Nat) : Nat := ((List.range (L.length * L.length)).filter fun k => decide (Bf row (k / L.length) (k % L.length) ∧ ∃ c, tlW L (k / L.length) (k % L.length) u = some c)).length
theorem muW_le (L : List Ln) (u : Rat) (row : List Nat) : muW L u row ≤ L.length * L.length := by
  unfold muW
  exact Nat.le_trans (List.length_filter_le _ _) (by rw [List.length_range]; exact Nat.le_refl _)
theorem muW_ltP {L : List Ln} {u t : Rat} {row : List Nat} {p : Nat} (h : Inv L u row) (hp0 : row.Perm (List.range L.length)) (k : IsNx L u row t p) : muW L t (swapG row p) < muW L u row := by
  classical
  have nd : row.Nodup := hp0.nodup_iff.mpr List.nodup_range
  have oka : ∀ {i : Nat}, i < row.length → row.getD i 0 < L.length := fun hi => List.mem_range.mp (hp0.mem_iff.mp (row_mem hi))
  have hp := k.lt
  have h1 := oka (show p < row.length by omega)
  have h2 := oka hp
  have hne := getD_ne nd (show p < row.length by omega) hp (by omega)
  have hut := tl_ge k.at_
  have hab := tl_ahd hne k.at_
  have hat := k.at_
  have hbf : Bf row (row.getD p 0) (row.getD (p + 1) 0) := ⟨p, p + 1, by omega, hp, rfl, rfl⟩
  have hsw := fun x y => bf_swap (x := x) (y := y) hp nd
  have hdone : tlW L (row.getD (p + 1) 0) (row.getD p 0) t = none := by
    have e2 : tlW L (row.getD (p + 1) 0) (row.getD p 0) t = nxt L (row.getD (p + 1) 0) (row.getD p 0) t := if_neg fun z => ahd_asymm z hab
    rw [e2]
    cases e : nxt L (row.getD (p + 1) 0) (row.getD p 0) t with
    | none => rfl
    | some c =>
      rw [nxt_comm] at e
      have eb := nxt_back e hut
      by_cases hu : Ahd L (row.getD (p + 1) 0) (row.getD p 0) u
      · rw [h _ _ hbf hu] at eb; cases eb
      · have e3 : tlW L (row.getD p 0) (row.getD (p + 1) 0) u = nxt L (row.getD p 0) (row.getD (p + 1) 0) u := if_neg hu
        rw [e3, eb] at hat
        cases hat
        exact absurd (nxt_gt e).1 (by grind)
  generalize row.getD p 0 = a at *
  generalize row.getD (p + 1) 0 = b at *
  have hn0 : 0 < L.length := by omega
  have hk : a * L.length + b < L.length * L.length := by
    have : (a + 1) * L.length ≤ L.length * L.length := Nat.mul_le_mul h1 (Nat.le_refl _)
    rw [Nat.add_mul] at this
    omega
  have hd1 : (a * L.length + b) / L.length = a := by rw [Nat.mul_comm, Nat.mul_add_div hn0, Nat.div_eq_of_lt h2, Nat.add_zero]
  have hd2 : (a * L.length + b) % L.length = b := by rw [Nat.mul_comm, Nat.mul_add_mod, Nat.mod_eq_of_lt h2]
  unfold muW
  refine Nat.lt_of_lt_of_le (Nat.lt_succ_self _) (Nat.le_trans (Nat.le_of_eq (List.length_cons (a := a * L.length + b)).symm) ?_)
  refine nodup_sub (List.nodup_cons.mpr ⟨fun hm => ?_, List.Pairwise.filter _ List.nodup_range⟩) fun x hx => ?_
  · have := (of_decide_eq_true (List.mem_filter.mp hm).2).1
    rw [hd1, hd2] at this
    rcases hsw _ _ this with ⟨z, _⟩ | ⟨_, z⟩
    · exact hne z
    · exact z ⟨rfl, rfl⟩
  · refine List.mem_filter.mpr ?_
    rcases List.mem_cons.mp hx with rfl | hx
    · exact ⟨List.mem_range.mpr hk, decide_eq_true (by rw [hd1, hd2]; exact ⟨hbf, _, hat⟩)⟩
    · obtain ⟨m1, m2⟩ := List.mem_filter.mp hx
      obtain ⟨m2, c, m3⟩ := of_decide_eq_true m2
      refine ⟨m1, decide_eq_true ?_⟩
      rcases hsw _ _ m2 with ⟨z1, z2⟩ | ⟨z, _⟩
      · rw [z1, z2, hdone] at m3; cases m3
      · exact ⟨z, tl_back (bf_ne nd z) hut m3⟩
theorem Inv.ord {L : List Ln} {u : Rat} {row : List Nat} (h : IsOrd L u L.length row) : Inv L u row := fun x y ⟨i, j, h1, h2, e1, e2⟩ ha => by
  subst e1 e2
  have := (List.pairwise_iff_getElem.mp h.pw) i j (by omega) h2 h1
  have eg : ∀ k (hk : k < row.length), row.getD k 0 = row[k] := fun k hk => by rw [List.getD_eq_getElem?_getD, List.getElem?_eq_getElem hk]; rfl
  rw [eg i (by omega), eg j h2] at ha
  exact (ahd_asymm ha this).elim
end DL
/-! Walks that go to a time. -/
namespace DL
open PySem PySem.Spec PyProof.Rows L2
/-- what a walk tells on its way to a time, and where it stands then -/
inductive Goes (L : List Ln) (t : Rat) : Rat → List Nat → List (Tri Rat Nat Nat) → Rat → List Nat → Prop where
  | stop {u : Rat} {row : List Nat} (h : ∀ j c, j + 1 < row.length → tlW L (row.getD j 0) (row.getD (j + 1) 0) u = some c → t < c) : Goes L t u row [] u row
  | step {u c v : Rat} {row row' : List Nat} {i : Nat} {es : List (Tri Rat Nat Nat)} (h : IsNx L u row c i) (hc : c ≤ t) (g : Goes L t c (swapG row i) es v row') : Goes L t u row (⟨c, row.getD i 0, row.getD (i + 1) 0⟩ :: es) v row'
theorem Goes.uniq {L : List Ln} {t u v v' : Rat} {row row' row2 : List Nat} {es es' : List (Tri Rat Nat Nat)} (h : Goes L t u row es v row') (k : Goes L t u row es' v' row2) : es = es' ∧ v = v' ∧ row' = row2 := by
  induction h generalizing es' v' row2 with
  | stop h =>
    cases k with
    | stop _ => exact ⟨rfl, rfl, rfl⟩
    | step h' hc' g' => exact absurd (h _ _ h'.lt h'.at_) (Rat.not_lt.mpr hc')
  | step h hc g ih =>
    cases k with
    | stop h' => exact absurd (h' _ _ h.lt h.at_) (Rat.not_lt.mpr hc)
    | step h' hc' g' =>
      obtain ⟨rfl, rfl⟩ := h.uniq h'
      obtain ⟨rfl, rfl, rfl⟩ := ih g'
      exact ⟨rfl, rfl, rfl⟩
/-- what waits stays when time goes on without a step -/
theorem Waits.on {L : List Ln} {u t : Rat} {row : List Nat} {sh : Sh} {f : Nat → Prop} (h : Waits L u row sh f) (nd : row.Nodup) (hut : u ≤ t) (hle : ∀ j c, j + 1 < row.length → tlW L (row.getD j 0) (row.getD (j + 1) 0) u = some c → t < c) : Waits L t row sh f := fun q => by
  rw [h q]
  have key : ∀ i, i + 1 < row.length → pwW L t row i = pwW L u row i := fun i h1 => by
    unfold pwW
    rw [tl_stay (getD_ne nd (by omega) h1 (by omega)) hut fun c e => Rat.le_of_lt (hle i c h1 e)]
  exact ⟨fun ⟨i, h1, h2, h3⟩ => ⟨i, h1, h2, (key i h1).trans h3⟩, fun ⟨i, h1, h2, h3⟩ => ⟨i, h1, h2, (key i h1).symm.trans h3⟩⟩
theorem Inv.on {L : List Ln} {u t : Rat} {row : List Nat} (h : Inv L u row) (nd : row.Nodup) (hut : u ≤ t) : Inv L t row := fun x y hb ha => by
  cases e : nxt L x y t with
  | none => rfl
  | some c =>
    have eb := nxt_back e hut
    by_cases hu : Ahd L y x u
    · rw [h x y hb hu] at eb; cases eb
    · have hx : Ahd L x y u := (ahd_total (bf_ne nd hb)).resolve_right hu
      have := ahd_till (t := t) hx hut fun d e2 => by rw [eb] at e2; cases e2; exact (nxt_gt e).1
      exact (ahd_asymm this ha).elim
end DL
/-! Dicts with tuple keys: in, not in, len. -/
namespace DL
open PySem PySem.Spec PyProof.Rows L2
def inTQ (f : Bool → Bool) (ds : List D) (d : D) (S : Sto) (Q : VK2) : Prop := match d with
  | .ref a => ds.length ≤ 1000 ∧ onS (tOf (S a)) fun kvs => onS (keysOf ds) fun k => Q (.bl (f (dget kvs k).isSome)) S
  | _ => False
def uInT (f : Bool → Bool) (i : Nat) (t : TA2) : TE2 := fun τ S Q => t τ S fun ds S1 => match τ[i]? with
  | some (some d) => inTQ f ds d S1 Q
  | _ => False
theorem KVs.isSome {κ : Type} [DecidableEq κ] {K : PySem.W.Frag} {H : Hp} {ds : List (κ × D)} {vs : List (κ × V)} (h : KVs K H ds vs) (k : κ) : (valV vs k).isSome = (dget ds k).isSome := by
  cases e : dget ds k with
  | none => rw [h.getN e]; rfl
  | some d => obtain ⟨v, e2, _⟩ := h.get e; rw [e2]; rfl
section
variable {X : Cx} {pos p : Pos} {e : Expr} {t : TA2} {S : Sto} {Q : VK2} {a : Addr} {ds : List D} {f : Bool → Bool}
theorem z_inT : inTQ f ds (.ref a) S Q = (ds.length ≤ 1000 ∧ onS (tOf (S a)) fun kvs => onS (keysOf ds) fun k => Q (.bl (f (dget kvs k).isSome)) S) := rfl
theorem z_tOf1 {kvs : List (List Key × D)} : tOf (some (.dct kvs)) = some kvs := rfl
theorem z_tOf2 {o : Obj} {kvs : List (List Key × D)} : tOf (some (.fdt o kvs)) = some kvs := rfl
theorem z_wT1 {kvs : List (List Key × D)} : wT (some (.dct kvs)) = some kvs := rfl
end
end DL
/-! All steps of a walk: each pair that is due is exchanged once. -/
namespace DL
open PySem PySem.Spec PyProof.Rows L2
/-! tables by pairs of runners -/
theorem keysOf_two (a b : Int) : keysOf [.int a, .int b] = some [.inl a, .inl b] := rfl
/-! which are due -/
def dueB (L : List Ln) (t : Rat) (p : Pr) : Bool := decide ((ln L p.1).2 < (ln L p.2).2 ∧ t < met (ln L p.1) (ln L p.2))
def dueP (L : List Ln) (t : Rat) : List Pr := (allP L.length).filter (dueB L t)
theorem due_iff {L : List Ln} {t : Rat} {x y : Nat} : ((ln L x).2 < (ln L y).2 ∧ t < met (ln L x) (ln L y)) ↔ Ahd L x y t ∧ nxt L x y t = some (met (ln L x) (ln L y)) := by
  constructor
  · rintro ⟨h1, h2⟩
    have hne : (ln L x).2 ≠ (ln L y).2 := by grind
    exact ⟨(ahd_lt hne h2).mpr h1, by unfold nxt; rw [if_pos ⟨hne, h2⟩]⟩
  · rintro ⟨h1, h2⟩
    obtain ⟨h3, h4, _⟩ := nxt_gt h2
    exact ⟨(ahd_lt h4 h3).mp h1, h3⟩
theorem mem_due {L : List Ln} {t : Rat} {p : Pr} : p ∈ dueP L t ↔ (p.1 < L.length ∧ p.2 < L.length) ∧ Ahd L p.1 p.2 t ∧ nxt L p.1 p.2 t = some (met (ln L p.1) (ln L p.2)) := by
  unfold dueP dueB
  rw [List.mem_filter, allP_mem, decide_eq_true_iff, due_iff]
theorem due_nd (L : List Ln) (t : Rat) : (dueP L t).Nodup := (allP_nd _).filter _
/-! neighbours and all pairs -/
section
variable {L : List Ln} {u t c : Rat} {row : List Nat}
theorem nb_ahd (nd : row.Nodup) (hut : u ≤ t) (h : ∀ j e, j + 1 < row.length → tlW L (row.getD j 0) (row.getD (j + 1) 0) u = some e → t < e) : ∀ j, j + 1 < row.length → Ahd L (row.getD j 0) (row.getD (j + 1) 0) t := fun j hj => by
  have hne := getD_ne nd (show j < row.length by omega) hj (by omega)
  have hna : ¬ Ahd L (row.getD (j + 1) 0) (row.getD j 0) u := fun z => by
    have := h j u hj (if_pos z)
    grind
  have ha : Ahd L (row.getD j 0) (row.getD (j + 1) 0) u := (ahd_total hne).resolve_right hna
  exact ahd_till ha hut fun e he => h j e hj (by unfold tlW; rw [if_neg hna, he])
theorem bf_ahd (h : ∀ j, j + 1 < row.length → Ahd L (row.getD j 0) (row.getD (j + 1) 0) t) {x y : Nat} (k : Bf row x y) : Ahd L x y t := by
  obtain ⟨i, j, h1, h2, rfl, rfl⟩ := k
  obtain ⟨m, rfl⟩ : ∃ m, j = i + 1 + m := ⟨j - i - 1, by omega⟩
  induction m with
  | zero => exact h i h2
  | succ m ih => exact ahd_trans (ih (by omega) (by omega)) (h (i + 1 + m) h2)
theorem ord_nb {n : Nat} (hp : row.Perm (List.range n)) (h : ∀ j, j + 1 < row.length → Ahd L (row.getD j 0) (row.getD (j + 1) 0) t) : IsOrd L t n row := by
  refine ⟨?_, fun i => by rw [hp.mem_iff, List.mem_range]⟩
  rw [List.pairwise_iff_getElem]
  intro i j hi hj hij
  have := bf_ahd h (x := row.getD i 0) (y := row.getD j 0) ⟨i, j, hij, hj, rfl, rfl⟩
  rw [List.getD_eq_getElem?_getD, List.getElem?_eq_getElem hi, List.getD_eq_getElem?_getD, List.getElem?_eq_getElem hj] at this
  exact this
theorem tl_no {x y : Nat} {d : Rat} (hne : x ≠ y) (h1 : Ahd L x y u) (h2 : ∀ e, tlW L x y u = some e → Ahd L x y e) (h : tlW L x y u = some d) : False := by
  have := h2 d h
  unfold tlW at h
  rw [if_neg fun z => ahd_asymm z h1] at h
  exact ahd_asymm (change_up h h1) this
/-- no pair fails ahead of the first neighbours that do -/
theorem nx_all {i : Nat} (nd : row.Nodup) (h : IsNx L u row c i) {x y : Nat} {d : Rat} (k : Bf row x y) (e : tlW L x y u = some d) : c ≤ d := by
  have hud := tl_ge e
  have hne := bf_ne nd k
  refine Rat.not_lt.mp fun hdc => ?_
  have nb : ∀ t, u ≤ t → t < c → Ahd L x y t := fun t h1 h2 => bf_ahd (nb_ahd nd h1 fun j e' hj he => by have := h.le j e' hj he; grind) k
  exact tl_no hne (nb u Rat.le_refl (by grind)) (fun e' he' => by rw [e] at he'; cases he'; exact nb d hud hdc) e
theorem no_all (nd : row.Nodup) (h : NoNx L u row) {x y : Nat} (k : Bf row x y) : tlW L x y u = none := by
  cases e : tlW L x y u with
  | none => rfl
  | some d =>
    have nb : ∀ t, u ≤ t → Ahd L x y t := fun t h1 => bf_ahd (nb_ahd nd h1 fun j e' hj he => by rw [h j hj] at he; cases he) k
    exact (tl_no (bf_ne nd k) (nb u Rat.le_refl) (fun e' he' => nb e' (tl_ge he')) e).elim
theorem bf_swap_of {p x y : Nat} (h : p + 1 < row.length) (nd : row.Nodup) (k : Bf row x y) (hn : ¬ (x = row.getD p 0 ∧ y = row.getD (p + 1) 0)) : Bf (swapG row p) x y := by
  obtain ⟨i, j, h1, h2, rfl, rfl⟩ := k
  have hsw : ∀ j, sw p (sw p j) = j := fun j => by unfold sw; grind
  have hs : sw p i < sw p j ∧ sw p j < row.length := by
    have c : ¬ (i = p ∧ j = p + 1) := fun ⟨a, b⟩ => hn ⟨by rw [a], by rw [b]⟩
    unfold sw; grind
  refine ⟨sw p i, sw p j, hs.1, by rw [swap_len h]; exact hs.2, ?_, ?_⟩
  · rw [swap_sw h, hsw]
  · rw [swap_sw h, hsw]
theorem bf_swap_one {p : Nat} (h : p + 1 < row.length) : Bf (swapG row p) (row.getD (p + 1) 0) (row.getD p 0) :=
  ⟨p, p + 1, by omega, by rw [swap_len h]; exact h, by rw [swap_get h, if_pos rfl], by rw [swap_get h, if_neg (by omega), if_pos rfl]⟩
theorem bf_or {n x y : Nat} (hp : row.Perm (List.range n)) (hx : x < n) (hy : y < n) (hne : x ≠ y) : Bf row x y ∨ Bf row y x := by
  have mx := hp.mem_iff.mpr (List.mem_range.mpr hx)
  have my := hp.mem_iff.mpr (List.mem_range.mpr hy)
  obtain ⟨i, hi, ei⟩ := List.getElem_of_mem mx
  obtain ⟨j, hj, ej⟩ := List.getElem_of_mem my
  have gi : row.getD i 0 = x := by rw [List.getD_eq_getElem?_getD, List.getElem?_eq_getElem hi]; exact ei
  have gj : row.getD j 0 = y := by rw [List.getD_eq_getElem?_getD, List.getElem?_eq_getElem hj]; exact ej
  rcases Nat.lt_trichotomy i j with z | z | z
  · exact .inl ⟨i, j, z, hj, gi, gj⟩
  · subst z; exact absurd (gi.symm.trans gj) hne
  · exact .inr ⟨j, i, z, hi, gj, gi⟩
end
/-! all steps -/
inductive Stp (L : List Ln) : Rat → List Nat → List (Tri Rat Nat Nat) → Rat → List Nat → Prop where
  | stop {u : Rat} {row : List Nat} (h : NoNx L u row) : Stp L u row [] u row
  | step {u c v : Rat} {row row' : List Nat} {i : Nat} {es : List (Tri Rat Nat Nat)} (h : IsNx L u row c i) (g : Stp L c (swapG row i) es v row') : Stp L u row (⟨c, row.getD i 0, row.getD (i + 1) 0⟩ :: es) v row'
section
variable {L : List Ln} {u v v' t : Rat} {row row' row2 : List Nat} {es es' : List (Tri Rat Nat Nat)}
theorem Stp.no (h : Stp L u row es v row') : NoNx L v row' := by
  induction h with
  | stop h => exact h
  | step _ _ ih => exact ih
theorem Stp.perm {n : Nat} (h : Stp L u row es v row') (hp : row.Perm (List.range n)) : row'.Perm (List.range n) := by
  induction h with
  | stop h => exact hp
  | step h g ih => exact ih ((swap_perm h.lt).trans hp)
theorem Goes.perm {n : Nat} (h : Goes L t u row es v row') (hp : row.Perm (List.range n)) : row'.Perm (List.range n) := by
  induction h with
  | stop h => exact hp
  | step h _ g ih => exact ih ((swap_perm h.lt).trans hp)
theorem perm_nd {n : Nat} (hp : row.Perm (List.range n)) : row.Nodup := hp.nodup_iff.mpr List.nodup_range
theorem tl_stay_nb (nd : row.Nodup) (hut : u ≤ t) (h : ∀ j c, j + 1 < row.length → tlW L (row.getD j 0) (row.getD (j + 1) 0) u = some c → t ≤ c) {j : Nat} (hj : j + 1 < row.length) : tlW L (row.getD j 0) (row.getD (j + 1) 0) t = tlW L (row.getD j 0) (row.getD (j + 1) 0) u := tl_stay (getD_ne nd (by omega) hj (by omega)) hut fun c e => h j c hj e
theorem IsNx.on {c : Rat} {i : Nat} (h : IsNx L u row c i) (nd : row.Nodup) (hut : u ≤ t) (hl : ∀ j c, j + 1 < row.length → tlW L (row.getD j 0) (row.getD (j + 1) 0) u = some c → t ≤ c) : IsNx L t row c i where
  lt := h.lt
  at_ := by rw [tl_stay_nb nd hut hl h.lt]; exact h.at_
  le := fun j d hj e => by rw [tl_stay_nb nd hut hl hj] at e; exact h.le j d hj e
  fst := fun j hj e => by have := h.lt; rw [tl_stay_nb nd hut hl (by omega)] at e; exact h.fst j hj e
theorem Stp.on (h : Stp L u row es v row') (nd : row.Nodup) (hut : u ≤ t) (hl : ∀ j c, j + 1 < row.length → tlW L (row.getD j 0) (row.getD (j + 1) 0) u = some c → t ≤ c) : ∃ v', Stp L t row es v' row' := by
  cases h with
  | stop h => exact ⟨t, .stop fun j hj => by rw [tl_stay_nb nd hut hl hj]; exact h j hj⟩
  | step h g => exact ⟨_, .step (h.on nd hut hl) g⟩
theorem Goes.split {n : Nat} {es1 : List (Tri Rat Nat Nat)} {u1 : Rat} {row1 : List Nat} (h : Goes L t u row es1 u1 row1) (hp : row.Perm (List.range n)) (hut : u ≤ t) (k : Stp L u row es v row') : ∃ es2 v', es = es1 ++ es2 ∧ Stp L t row1 es2 v' row' := by
  induction h generalizing es with
  | stop h =>
    obtain ⟨v', k'⟩ := k.on (perm_nd hp) hut fun j c hj e => Rat.le_of_lt (h j c hj e)
    exact ⟨es, v', rfl, k'⟩
  | step h hc g ih =>
    cases k with
    | stop k => exact (k.not h).elim
    | step k g' =>
      obtain ⟨rfl, rfl⟩ := h.uniq k
      obtain ⟨es2, v', rfl, k'⟩ := ih ((swap_perm h.lt).trans hp) hc g'
      exact ⟨es2, v', rfl, k'⟩
theorem Goes.ord {n : Nat} (h : Goes L t u row es v row') (hp : row.Perm (List.range n)) (hut : u ≤ t) : IsOrd L t n row' := by
  induction h with
  | stop h => exact ord_nb hp (nb_ahd (perm_nd hp) hut h)
  | step h hc g ih => exact ih ((swap_perm h.lt).trans hp) hc
/-! what was exchanged, and what is due yet -/
structure Jv (L : List Ln) (t0 u : Rat) (row : List Nat) (seen : List Pr) : Prop where
  bf : ∀ x y, Bf row x y → (Ahd L x y t0 ∧ tlW L x y u = nxt L x y t0 ∧ (x, y) ∉ seen) ∨ (Ahd L y x t0 ∧ (y, x) ∈ seen ∧ tlW L x y u = none)
  sn : ∀ p ∈ seen, Bf row p.2 p.1 ∧ Ahd L p.1 p.2 t0 ∧ nxt L p.1 p.2 t0 = some (met (ln L p.1) (ln L p.2))
  nd : seen.Nodup
theorem Jv.start {t0 : Rat} (h : IsOrd L t0 L.length row) : Jv L t0 t0 row [] where
  bf := fun x y k => by
    have ha : Ahd L x y t0 := by
      obtain ⟨i, j, h1, h2, rfl, rfl⟩ := k
      have := (List.pairwise_iff_getElem.mp h.pw) i j (by omega) h2 h1
      rw [List.getD_eq_getElem?_getD, List.getElem?_eq_getElem (by omega), List.getD_eq_getElem?_getD, List.getElem?_eq_getElem h2]
      exact this
    exact .inl ⟨ha, if_neg fun z => ahd_asymm z ha, List.not_mem_nil⟩
  sn := fun p h => nomatch h
  nd := .nil
theorem Jv.here {t0 c : Rat} {i : Nat} {seen : List Pr} (h : Jv L t0 u row seen) (k : IsNx L u row c i) : Ahd L (row.getD i 0) (row.getD (i + 1) 0) t0 ∧ nxt L (row.getD i 0) (row.getD (i + 1) 0) t0 = some c ∧ (row.getD i 0, row.getD (i + 1) 0) ∉ seen := by
  have hb : Bf row (row.getD i 0) (row.getD (i + 1) 0) := ⟨i, i + 1, by omega, k.lt, rfl, rfl⟩
  rcases h.bf _ _ hb with ⟨h1, h2, h3⟩ | ⟨_, _, h3⟩
  · exact ⟨h1, by rw [← h2]; exact k.at_, h3⟩
  · rw [k.at_] at h3; cases h3
theorem Jv.step {t0 c : Rat} {i : Nat} {seen : List Pr} (h : Jv L t0 u row seen) (nd : row.Nodup) (k : IsNx L u row c i) : Jv L t0 c (swapG row i) (seen ++ [(row.getD i 0, row.getD (i + 1) 0)]) := by
  obtain ⟨h1, h2, h3⟩ := h.here k
  have huc := tl_ge k.at_
  have hl := k.lt
  have all := fun x y (kb : Bf row x y) d (e : tlW L x y u = some d) => nx_all nd k kb e
  have stay := fun x y (kb : Bf row x y) => tl_stay (bf_ne nd kb) huc (all x y kb)
  have hec := (nxt_gt h2).2.2
  refine ⟨fun a b kb => ?_, fun p hp => ?_, ?_⟩
  · rcases bf_swap hl nd kb with ⟨rfl, rfl⟩ | ⟨kb, hn⟩
    · refine .inr ⟨h1, by simp, ?_⟩
      have ha := change_up h2 h1
      have e2 : tlW L (row.getD (i + 1) 0) (row.getD i 0) c = nxt L (row.getD (i + 1) 0) (row.getD i 0) c := if_neg fun z => ahd_asymm z ha
      rw [e2, nxt_comm]
      cases e : nxt L (row.getD i 0) (row.getD (i + 1) 0) c with
      | none => rfl
      | some d =>
        obtain ⟨k1, _, k2⟩ := nxt_gt e
        grind
    · rcases h.bf a b kb with ⟨g1, g2, g3⟩ | ⟨g1, g2, g3⟩
      · refine .inl ⟨g1, by rw [stay a b kb, g2], fun hm => ?_⟩
        rcases List.mem_append.mp hm with hm | hm
        · exact g3 hm
        · have := List.mem_singleton.mp hm
          exact hn ⟨congrArg Prod.fst this, congrArg Prod.snd this⟩
      · exact .inr ⟨g1, List.mem_append_left _ g2, by rw [stay a b kb, g3]⟩
  · rcases List.mem_append.mp hp with hp | hp
    · obtain ⟨g1, g2, g3⟩ := h.sn p hp
      refine ⟨bf_swap_of hl nd g1 fun ⟨e1, e2⟩ => ?_, g2, g3⟩
      rw [← e1, ← e2] at h1
      exact ahd_asymm h1 g2
    · rw [List.mem_singleton.mp hp]
      exact ⟨bf_swap_one hl, h1, by rw [← hec]; exact h2⟩
  · rw [List.nodup_append]
    exact ⟨h.nd, by simp, fun a ha b hb e => by subst e; rw [List.mem_singleton.mp hb] at ha; exact h3 ha⟩
theorem Jv.all {t0 : Rat} {seen : List Pr} (h : Jv L t0 u row seen) (hp : row.Perm (List.range L.length)) (hn : NoNx L u row) : seen.Perm (dueP L t0) := by
  refine perm_same h.nd (due_nd L t0) fun p => ?_
  rw [mem_due]
  constructor
  · intro hm
    obtain ⟨h1, h2, h3⟩ := h.sn p hm
    obtain ⟨i, j, k1, k2, e1, e2⟩ := h1
    have hlt := fun i (hi : i < row.length) => List.mem_range.mp (hp.mem_iff.mp (row_mem hi))
    exact ⟨⟨by rw [← e2]; exact hlt j k2, by rw [← e1]; exact hlt i (by omega)⟩, h2, h3⟩
  · rintro ⟨⟨h1, h2⟩, h3, h4⟩
    obtain ⟨x, y⟩ := p
    have hne : x ≠ y := fun e => by subst e; exact ahd_irr h3
    rcases bf_or hp h1 h2 hne with kb | kb
    · have := no_all (perm_nd hp) hn kb
      rcases h.bf _ _ kb with ⟨_, g, _⟩ | ⟨g, _, _⟩
      · rw [g, h4] at this; cases this
      · exact (ahd_asymm g h3).elim
    · rcases h.bf _ _ kb with ⟨g, _, _⟩ | ⟨_, g, _⟩
      · exact (ahd_asymm g h3).elim
      · exact g
end
/-! a time between -/
end DL
/-! Walks from till to till. -/
namespace DL
open PySem PySem.Spec PyProof.Rows L2
theorem PenC.sub {S S' : Sto} {a : Addr} {n : Nat} (h : PenC S a n) (s : Sub S S') : PenC S' a n := let ⟨x, y, z, e, r⟩ := h; ⟨x, y, z, s _ _ e, r⟩
theorem PenC.by {S S' : Sto} {a : Addr} {n : Nat} (h : PenC S a n) (s : ∀ o, S a = some o → S' a = some o) : PenC S' a n := let ⟨x, y, z, e, r⟩ := h; ⟨x, y, z, s _ e, r⟩
theorem LA.by {S S' : Sto} {p : Addr} {L : List Ln} (h : LA S p L) (s : ∀ o, S p = some o → S' p = some o) : LA S' p L := ⟨s _ h.st, h.ok, h.sz⟩
end DL
/-! Defs of a class that may raise. -/
namespace DL
open PySem PySem.Spec PyProof.Rows L2
structure FnMX (P : Program) (w : World) (K : PySem.W.Frag) (mg : Str → Option Value) (base : Heap) (l : Nat) (k : Kls) (m : Str) (sp : Sp2) : Prop where
  ex : ∃ f fd ps, FnOk P w K mg base (L2.CX P w) l f fd ps (dnSp K sp) ∧ Meth K (cA K k.name) m f ∧ Binds K fd ps []
theorem FnMX.mono {P : Program} {w : World} {K : PySem.W.Frag} {mg : Str → Option Value} {base : Heap} {i l : Nat} {k : Kls} {m : Str} {sp : Sp2} (F : FnMX P w K mg base i k m sp) (h : i ≤ l) : FnMX P w K mg base l k m sp := by
  obtain ⟨f, fd, ps, h1, h2⟩ := F.ex
  exact ⟨f, fd, ps, h1.mono h, h2⟩
def uMethX (k : Kls) (sp : Sp2) (W2 : St2 → XK2) (to : TE2) (t : TA2) : TE2 := fun τ S Q => to τ S fun d S1 => mthQ k d S1 (t τ S1 fun ds S2 => sp (d :: ds) S2 Q (W2 τ))
end DL
/-! A walk kept beside: lines, order, time in a list. -/
namespace DL
open PySem PySem.Spec PyProof.Rows L2
structure StAt (S : Sto) (s p o : Addr) (L : List Ln) (u : Rat) (row : List Nat) : Prop where
  st : S s = some (.lst [.ref p, .ref o, eQ u])
  la : LA S p L
  hr : S o = some (.lst (row.map eN))
  sp : s ≠ p
  so : s ≠ o
  po : p ≠ o
theorem StAt.by {S S' : Sto} {s p o : Addr} {L : List Ln} {u : Rat} {row : List Nat} (h : StAt S s p o L u row) (k : ∀ b x, (b = s ∨ b = p ∨ b = o) → S b = some x → S' b = some x) : StAt S' s p o L u row :=
  ⟨k _ _ (.inl rfl) h.st, h.la.by (k _ · (.inr (.inl rfl))), k _ _ (.inr (.inr rfl)) h.hr, h.sp, h.so, h.po⟩
theorem StAt.sub {S S' : Sto} {s p o : Addr} {L : List Ln} {u : Rat} {row : List Nat} (h : StAt S s p o L u row) (k : Sub S S') : StAt S' s p o L u row := h.by fun b x _ => k b x
theorem StAt.upd {S : Sto} {s p o b : Addr} {L : List Ln} {u : Rat} {row : List Nat} {x : O} (h : StAt S s p o L u row) (n1 : b ≠ s) (n2 : b ≠ p) (n3 : b ≠ o) : StAt (ups S b x) s p o L u row :=
  ⟨(ups_ne n1.symm).trans h.st, h.la.upd n2.symm, (ups_ne n3.symm).trans h.hr, h.sp, h.so, h.po⟩
end DL
/-! Races. -/
namespace DL
open PySem PySem.Spec PyProof.Rows L2
/-- the lines that a log has at a time -/
abbrev MT (D : List Dd) (t : Rat) : Mp := (runM (thenD D t)).1
/-- the papers of those who run, by their numbers -/
def ppM (M : Mp) (t : Rat) : List PprI := (pprs (lnM M) t (ordL (lnM M) t)).map fun x => ⟨kN M x.a, kN M x.b, x.c⟩
/-- an exchange, by numbers -/
abbrev StI := Tri Rat Int Int
def stM (M : Mp) (x : Tri Rat Nat Nat) : StI := ⟨x.a, kN M x.b, kN M x.c⟩
/-- what a race tells on its way -/
def RGo (D : List Dd) : Option Rat → Rat → List StI → Prop
  | none, _, es => es = []
  | some u, t, es => ∃ es' v row', Goes (lnM (MT D u)) t u (ordL (lnM (MT D u)) u) es' v row' ∧ es = es'.map (stM (MT D u))
theorem RGo.uniq {D : List Dd} {now : Option Rat} {t : Rat} {a b : List StI} (h : RGo D now t a) (k : RGo D now t b) : a = b := by
  cases now with
  | none => exact (show a = [] from h).trans (show b = [] from k).symm
  | some u =>
    obtain ⟨e1, _, _, g1, rfl⟩ := h
    obtain ⟨e2, _, _, g2, rfl⟩ := k
    rw [(g1.uniq g2).1]
structure RcAt (kR : Kls) (S : Sto) (r dl gl cl : Addr) (D : List Dd) (now : Option Rat) (G C : List PprI) : Prop where
  ob : S r = some (.ins kR [.ref dl, eO now, .ref gl, .ref cl])
  hd : S dl = some (.lst (D.map eDd))
  hg : S gl = some (.lst (G.map eI3))
  hc : S cl = some (.lst (C.map eI3))
  dg : dl ≠ gl
  dc : dl ≠ cl
section
variable {kR : Kls} {S S' : Sto} {r dl gl cl p : Addr} {D : List Dd} {now : Option Rat} {G C : List PprI} {o : O}
theorem RcAt.by (h : RcAt kR S r dl gl cl D now G C) (k : ∀ b x, (b = r ∨ b = dl ∨ b = gl ∨ b = cl) → S b = some x → S' b = some x) : RcAt kR S' r dl gl cl D now G C :=
  ⟨k _ _ (.inl rfl) h.ob, k _ _ (.inr (.inl rfl)) h.hd, k _ _ (.inr (.inr (.inl rfl))) h.hg, k _ _ (.inr (.inr (.inr rfl))) h.hc, h.dg, h.dc⟩
theorem RcAt.sub (h : RcAt kR S r dl gl cl D now G C) (k : Sub S S') : RcAt kR S' r dl gl cl D now G C := h.by fun b x _ => k b x
theorem RcAt.off (h : RcAt kR S r dl gl cl D now G C) (n : S p = none) : p ≠ r ∧ p ≠ dl ∧ p ≠ gl ∧ p ≠ cl := ⟨(ne_of_st h.ob n).symm, (ne_of_st h.hd n).symm, (ne_of_st h.hg n).symm, (ne_of_st h.hc n).symm⟩
theorem RcAt.upd (h : RcAt kR S r dl gl cl D now G C) (n : p ≠ r ∧ p ≠ dl ∧ p ≠ gl ∧ p ≠ cl) : RcAt kR (ups S p o) r dl gl cl D now G C :=
  ⟨(ups_ne n.1.symm).trans h.ob, (ups_ne n.2.1.symm).trans h.hd, (ups_ne n.2.2.1.symm).trans h.hg, (ups_ne n.2.2.2.symm).trans h.hc, h.dg, h.dc⟩
end
theorem Goes.mem {L : List Ln} {t u v : Rat} {row row' : List Nat} {es : List (Tri Rat Nat Nat)} {n : Nat} (g : Goes L t u row es v row') (hp : row.Perm (List.range n)) : ∀ x ∈ es, x.b < n ∧ x.c < n := by
  induction g with
  | stop _ => exact fun x h => nomatch h
  | step h hc g ih =>
    have hlt := fun j (hj : j < _) => List.mem_range.mp (hp.mem_iff.mp (row_mem hj))
    intro x hx
    rcases List.mem_cons.mp hx with rfl | hx
    · exact ⟨hlt _ (by have := h.lt; omega), hlt _ h.lt⟩
    · exact ih ((swap_perm h.lt).trans hp) x hx
theorem Goes.lenW {L : List Ln} {t u v : Rat} {row row' : List Nat} {es : List (Tri Rat Nat Nat)} (g : Goes L t u row es v row') (hp : row.Perm (List.range L.length)) (hI : Inv L u row) : es.length ≤ muW L u row := by
  induction g with
  | stop _ => exact Nat.zero_le _
  | step h hc g ih =>
    have := ih ((swap_perm h.lt).trans hp) (hI.swap (perm_nd hp) h)
    have := muW_ltP hI hp h
    rw [List.length_cons]
    omega
theorem Goes.len {L : List Ln} {t u v : Rat} {row row' : List Nat} {es : List (Tri Rat Nat Nat)} (g : Goes L t u row es v row') (hp : row.Perm (List.range L.length)) (hI : Inv L u row) (hl : L.length ≤ 20) : es.length ≤ 400 := by
  have h1 := g.lenW hp hI
  have h2 := muW_le L u row
  have h3 : L.length * L.length ≤ 20 * 20 := Nat.mul_le_mul hl hl
  omega
/-- the branch of a test is kept closed while the test is walked -/
theorem if_gen {t : TT2} {A B : TS2} {E : Ends2} {τ : St2} {S : Sto} (h : ∀ A' : TS2, (∀ D τ S, A D τ S → A' D τ S) → uIf t A' B E τ S) : uIf t A B E τ S := h A fun _ _ _ h => h
end DL
/-! How many are exchanged on a way; logs of small numbers. -/
namespace DL
open PySem PySem.Spec PyProof.Rows L2
end DL
/-! The leader that a told row of leaders tells at a time. -/
namespace DL
open PySem PySem.Spec PyProof.Rows L2
def LeR (x : Rat) (R : Fo) : Prop := ∀ y ∈ R, ∀ s, y.2 = some s → s ≤ x
theorem LeR.put {x t : Rat} {R : Fo} {r : Option Int} (h : LeR x R) (ht : t ≤ x) : LeR x (putR R r t) := by
  unfold putR
  split
  · exact h
  · intro y hy s e
    rcases List.mem_append.mp hy with hy | hy
    · exact h y hy s e
    · rw [List.mem_singleton.mp hy] at e; cases e; exact ht
end DL
/-! Waiting lists beside a sorted list of their pairs. -/
namespace DL
open PySem PySem.Spec PyProof.Rows L2
abbrev PwK (K : List Wp) : Prop := K.Pairwise prLt
/-- a waiting list at w, d; the sorted list of its pairs at k -/
structure OneW (kW : Kls) (S : Sto) (w d k : Addr) (sh : Sh) (ks : List PK) (K : List Wp) : Prop where
  wt : WtAt kW S w d sh ks
  ok : WtOk sh ks
  hk : S k = some (.lst (K.map eWp))
  pm : K.Perm sh.toL
  pw : PwK K
section
variable {kW : Kls} {S S' : Sto} {w d k : Addr} {sh sh' : Sh} {ks ks' : List PK} {K : List Wp}
theorem OneW.sub (h : OneW kW S w d k sh ks K) (s : Sub S S') : OneW kW S' w d k sh ks K := { h with wt := h.wt.sub s, hk := s _ _ h.hk }
theorem drain_eq (ok : WtOk sh ks) (pm : K.Perm sh.toL) (pw : PwK K) : Sh.drain sh.size sh = K := by
  have h1 := Sh.drain_perm sh.size sh (Nat.le_refl _)
  have h2 := (Sh.drain_sorted sh.size sh ok.hp).1
  have nd : (Sh.drain sh.size sh).Nodup := h1.nodup_iff.mpr ok.nd
  have h3 : PwK (Sh.drain sh.size sh) := (h2.and (List.nodup_iff_pairwise_ne.mp nd)).imp fun {a b} x => (prLt_total x.2).resolve_right x.1
  exact pw_ext (fun _ _ => prLt_asymm) h3 pw fun z => by rw [h1.mem_iff, pm.mem_iff]
theorem OneW.drain (h : OneW kW S w d k sh ks K) : Sh.drain sh.size sh = K := drain_eq h.ok h.pm h.pw
/-- the first one -/
def hdD (K : List Wp) : D := match K with
  | [] => .non
  | p :: _ => eWp p
theorem OneW.first (h : OneW kW S w d k sh ks K) : fstD sh = hdD K := by
  have e := h.drain
  cases sh with
  | nil => rw [← e]; rfl
  | node p l r => rw [← e]; rfl
theorem OneW.len (h : OneW kW S w d k sh ks K) : sh.size = K.length := by rw [h.pm.length_eq, Sh.toL_len]
theorem OneW.mem (h : OneW kW S w d k sh ks K) (p : Wp) : p ∈ sh.toL ↔ p ∈ K := (h.pm.mem_iff).symm
theorem OneW.nz (h : OneW kW S w d k sh ks K) : ∀ p ∈ K, Nz 4000 p.1 := fun p hp => h.ok.nz p ((h.mem p).mpr hp)
end
section
variable {kW : Kls} {S S' : Sto} {w d : Addr} {sh : Sh} {ks : List PK}
theorem WtAt.lst (h : WtAt kW S w d sh ks) (fr : Fr2 S S' w d) {b : Addr} {xs : List D} (e : S b = some (.lst xs)) : S' b = some (.lst xs) :=
  fr b _ (st_ne e h.ob fun z => nomatch z) (st_ne e h.hd fun z => nomatch z) e
theorem WtAt.pen (h : WtAt kW S w d sh ks) (fr : Fr2 S S' w d) {a : Addr} {n : Nat} (hp : PenC S a n) : PenC S' a n := let ⟨x, y, z, e, r⟩ := hp; ⟨x, y, z, h.lst fr e, r⟩
theorem WtAt.fr (h : WtAt kW S w d sh ks) {a : Addr} {n : Nat} (fr : Fr S S' a) (hp : PenC S a n) : WtAt kW S' w d sh ks :=
  let ⟨_, _, _, e, _⟩ := hp
  ⟨fr _ _ (st_ne h.ob e fun z => nomatch z) h.ob, fr _ _ (st_ne h.hd e fun z => nomatch z) h.hd⟩
end
end DL
/-! A try whose one clause names a class and keeps no name. -/
namespace DL
open PySem PySem.Spec PyProof.Rows L2
end DL
/-! sorted of pairs of pairs of whole numbers. -/
namespace DL
open PySem PySem.Spec PyProof.Rows L2
def pyP (k : PK) : PyData := .tuple [.tuple [.int k.1.1, .int k.1.2], .tuple [.int k.2.1, .int k.2.2]]
def lt2 (a b : Int × Int) : Prop := a.1 < b.1 ∨ (a.1 = b.1 ∧ a.2 < b.2)
def ltP (a b : PK) : Prop := lt2 a.1 b.1 ∨ (a.1 = b.1 ∧ lt2 a.2 b.2)
instance (a b : Int × Int) : Decidable (lt2 a b) := by unfold lt2; infer_instance
instance (a b : PK) : Decidable (ltP a b) := by unfold ltP; infer_instance
theorem lt2_irr (a : Int × Int) : ¬ lt2 a a := by unfold lt2; omega
theorem lt2_trans {a b c : Int × Int} (h : lt2 a b) (k : lt2 b c) : lt2 a c := by unfold lt2 at *; omega
theorem lt2_tot {a b : Int × Int} (h : a ≠ b) : lt2 a b ∨ lt2 b a := by
  unfold lt2
  obtain ⟨a1, a2⟩ := a
  obtain ⟨b1, b2⟩ := b
  dsimp only
  by_cases e : a1 = b1
  · have : a2 ≠ b2 := fun z => h (by rw [e, z])
    omega
  · omega
theorem ltP_irr (a : PK) : ¬ ltP a a := by
  rintro (h | h)
  · exact lt2_irr _ h
  · exact lt2_irr _ h.2
theorem ltP_trans {a b c : PK} (h : ltP a b) (k : ltP b c) : ltP a c := by
  rcases h with h | ⟨h1, h2⟩ <;> rcases k with k | ⟨k1, k2⟩
  · exact .inl (lt2_trans h k)
  · exact .inl (k1 ▸ h)
  · exact .inl (h1 ▸ k)
  · exact .inr ⟨h1.trans k1, lt2_trans h2 k2⟩
theorem ltP_tot {a b : PK} (h : a ≠ b) : ltP a b ∨ ltP b a := by
  by_cases e : a.1 = b.1
  · have : a.2 ≠ b.2 := fun z => h (Prod.ext e z)
    rcases lt2_tot this with z | z
    · exact .inl (.inr ⟨e, z⟩)
    · exact .inr (.inr ⟨e.symm, z⟩)
  · rcases lt2_tot e with z | z
    · exact .inl (.inl z)
    · exact .inr (.inl z)
def leP (a b : PK) : Bool := decide (¬ ltP b a)
theorem eqv2 (x y : Int × Int) : PyData.eqv (.tuple [.int x.1, .int x.2]) (.tuple [.int y.1, .int y.2]) = decide (x = y) := by
  rw [Bool.eq_iff_iff, decide_eq_true_iff]
  simp [PyData.eqv, PyData.eqvAll, Prod.ext_iff]
theorem dataLt_P (a b : PK) : PySem.W.dataLt (pyP a) (pyP b) = decide (ltP a b) := by
  unfold pyP
  rw [PySem.W.dataLt_pair rfl rfl, eqv2, eqv2, PySem.W.dataLt_ii, PySem.W.dataLt_ii]
  by_cases h : a.1 = b.1
  · rw [if_pos (decide_eq_true h)]
    by_cases h2 : a.2 = b.2
    · rw [if_pos (decide_eq_true h2)]
      refine (decide_eq_false fun z => ?_).symm
      rw [Prod.ext h h2] at z
      exact ltP_irr _ z
    · rw [if_neg (by rw [decide_eq_false h2]; decide)]
      refine decide_eq_decide.mpr ⟨fun z => .inr ⟨h, z⟩, fun z => ?_⟩
      rcases z with z | z
      · rw [h] at z; exact absurd z (lt2_irr _)
      · exact z.2
  · rw [if_neg (by rw [decide_eq_false h]; decide)]
    refine decide_eq_decide.mpr ⟨fun z => .inl z, fun z => ?_⟩
    rcases z with z | z
    · exact z
    · exact absurd z.1 h
theorem dataLe_P {β : Type} (f : β → PK) : PySem.W.dataLe false (fun b => pyP (f b)) = fun a b => leP (f a) (f b) := by
  rw [PySem.W.dataLe_eq]
  funext a b
  show (!PySem.W.dataLt (pyP (f b)) (pyP (f a))) = _
  rw [dataLt_P]
  unfold leP
  rw [decide_not]
theorem leP_trans (a b c : PK) (h : leP a b = true) (k : leP b c = true) : leP a c = true := by
  unfold leP at *
  have h := of_decide_eq_true h
  have k := of_decide_eq_true k
  refine decide_eq_true fun z => ?_
  by_cases e : a = b
  · subst e; exact k z
  · rcases ltP_tot e with z2 | z2
    · exact k (ltP_trans z z2)
    · exact h z2
theorem leP_total (a b : PK) : (leP a b || leP b a) = true := by
  unfold leP
  by_cases h : ltP b a
  · have : ¬ ltP a b := fun z => ltP_irr _ (ltP_trans z h)
    rw [decide_eq_true this, Bool.or_true]
  · rw [decide_eq_true h, Bool.true_or]
def srtP (ks : List PK) : List PK := ks.mergeSort leP
theorem srtP_perm {xs ys : List PK} (h : xs.Perm ys) : srtP xs = srtP ys := by
  unfold srtP
  refine List.Perm.eq_of_pairwise (le := fun a b => leP a b = true) (fun a b _ _ h1 h2 => ?_) (List.pairwise_mergeSort leP_trans leP_total xs) (List.pairwise_mergeSort leP_trans leP_total ys) ((List.mergeSort_perm xs leP).trans (h.trans (List.mergeSort_perm ys leP).symm))
  have h1 := of_decide_eq_true h1
  have h2 := of_decide_eq_true h2
  refine Classical.byContradiction fun e => ?_
  rcases ltP_tot e with z | z
  · exact h2 z
  · exact h1 z
theorem srtP_mem {xs : List PK} {x : PK} : x ∈ srtP xs ↔ x ∈ xs := (List.mergeSort_perm xs leP).mem_iff
/-! the rule -/
def rSortW (K : PySem.W.Frag) : List V → Hp → VK → Prop := fun vs H Q => ∃ (a : Addr) (xs : List (PK × Addr)), vs = [V.ref a] ∧ SqL K H a (xs.map fun x => V.ref x.2) ∧ (∀ x ∈ xs, Dv K H (ePK x.1) (.ref x.2)) ∧
  ∀ p, H p = none → Q (.ref p) (upd H p (.lst ((xs.mergeSort fun b c => leP b.1 c.1).map fun x => V.ref x.2)))
section
variable {X : Cx} {pins : List (Addr × Obj)} {σ : L2.St} {H : Hp} {s : Shared}
theorem pair_rd {p : Addr} {i j : Int} (I : L2.Inv X pins σ H s) (h : Dv X.K H (.tup [.int i, .int j]) (.ref p)) : Reads s.heap (.ref p) (.tuple [.int i, .int j]) [] := by
  cases h with
  | tup h1 h2 =>
    obtain ⟨its, r, ⟨o, e, c, n, d⟩, _⟩ := I.tuple h1
    cases h2 with
    | cons d1 h2 =>
      cases d1
      cases h2 with
      | cons d2 h2 =>
        cases d2
        cases h2
        cases r with
        | cons r1 r =>
          cases r with
          | cons r2 r =>
            cases r
            obtain ⟨t1, rfl⟩ := r1
            obtain ⟨t2, rfl⟩ := r2
            exact .tuple e c d (.cons (.int _ _) (.cons (.int _ _) .nil))
theorem key_rd {k : PK} {b : Addr} (I : L2.Inv X pins σ H s) (h : Dv X.K H (ePK k) (.ref b)) : Reads s.heap (.ref b) (pyP k) [] := by
  unfold ePK at h
  cases h with
  | tup h1 h2 =>
    obtain ⟨its, r, ⟨o, e, c, n, d⟩, _⟩ := I.tuple h1
    cases h2 with
    | @cons _ v1 _ _ d1 h2 =>
      cases h2 with
      | @cons _ v2 _ _ d2 h2 =>
        cases h2
        cases r with
        | cons r1 r =>
          cases r with
          | cons r2 r =>
            cases r
            cases d1 with
            | tup a1 a2 =>
              cases d2 with
              | tup b1 b2 =>
                cases r1
                cases r2
                exact .tuple e c d (.cons (pair_rd I (.tup a1 a2)) (.cons (pair_rd I (.tup b1 b2)) .nil))
theorem each_of {xs : List (PK × Addr)} : ∀ {us : List Value}, Vals (xs.map fun x => V.ref x.2) us → PySem.W.EachIs (fun (v : Value) (b : PK × Addr) => v = .ref b.2) us xs := by
  induction xs with
  | nil =>
    intro us h
    cases h
    exact .nil
  | cons x xs ih =>
    intro us h
    cases h with
    | cons h1 h2 => exact .cons h1 (ih h2)
theorem of_each : ∀ {us : List Value} {xs : List (PK × Addr)}, PySem.W.EachIs (fun (v : Value) (b : PK × Addr) => v = .ref b.2) us xs → Vals (xs.map fun x => V.ref x.2) us
  | _, _, .nil => .nil
  | _, _, .cons h t => .cons h (of_each t)
theorem each_rd (I : L2.Inv X pins σ H s) : ∀ {us : List Value} {xs : List (PK × Addr)}, PySem.W.EachIs (fun (v : Value) (b : PK × Addr) => v = .ref b.2) us xs → (∀ x ∈ xs, Dv X.K H (ePK x.1) (.ref x.2)) → PySem.W.EachIs (fun v (b : PK × Addr) => ∃ as, Reads s.heap v (pyP b.1) as) us xs
  | _, _, .nil, _ => .nil
  | _, _, .cons (b := b) h t, k => .cons (by subst h; exact ⟨[], key_rd I (k b (List.mem_cons_self ..))⟩) (each_rd I t fun x hx => k x (List.mem_cons_of_mem _ hx))
theorem call_sortW (hu : X.A.units + 65 < cLine) : CallR X (.builtin "sorted") (rSortW X.K) := by
  intro pins s σ H vs us Q I r h
  obtain ⟨a, xs, rfl, hs, hx, q⟩ := h
  obtain ⟨its, rv, hl, hz⟩ := I.list hs
  rw [Vals.ref1 r]
  have e := each_of rv
  refine PySem.W.sorted_data (enc := fun b : PK × Addr => pyP b.1) (bs := xs) hl.isList e (each_rd I e hx) (PySem.W.AllAlike.of fun b b' => rfl) (PySem.W.Sortable.tuples fun b => ⟨_, _, rfl⟩) ?_ (fun b _ => ?_) (fun out hlen hout => ?_)
  · have := rv.length
    rw [List.length_map] at this hz
    omega
  · show X.A.units + 2 + (pyP b.1).depth < cLine
    have : (pyP b.1).depth ≤ 4 := by simp [pyP, PyData.depth, PyData.depthAll]
    omega
  · rw [dataLe_P (fun b : PK × Addr => b.1)] at hout
    obtain ⟨ep, he'⟩ := PyProof.Rows.sortedAll_at s.heap its out.toArray
    have hv := of_each hout
    have hlen2 : ((xs.mergeSort fun b c => leP b.1 c.1).map fun x => V.ref x.2).length ≤ sizeLine := by
      rw [List.length_map, List.length_mergeSort]
      have := rv.length
      rw [List.length_map] at this hz
      omega
    exact ⟨.ref _, upd H (s.heap.objs.size + 1) (.lst ((xs.mergeSort fun b c => leP b.1 c.1).map fun x => V.ref x.2)), I.laid (t' := s.toks) (fun _ _ => PyProof.Rows.sortedAll_old) (Nat.le_succ _) ⟨hlen2, out, ep, hv, he'⟩, rfl, q _ (I.hok.fresh (Nat.le_succ _))⟩
end
def rSortW2 : List D → Sto → VK2 → Prop := fun ds S Q => ∃ (d : D) (ks : List PK), ds = [d] ∧ listOf S d = some (ks.map ePK) ∧ ∀ p, S p = none → Q (.ref p) (ups S p (.lst ((srtP ks).map ePK)))
theorem dvs_pk {K : PySem.W.Frag} {H : Hp} : ∀ {ks : List PK} {vs : List V}, Dvs K H (ks.map ePK) vs → ∃ xs : List (PK × Addr), vs = xs.map (fun x => V.ref x.2) ∧ xs.map (·.1) = ks ∧ ∀ x ∈ xs, Dv K H (ePK x.1) (.ref x.2)
  | [], _, h => by cases h; exact ⟨[], rfl, rfl, fun _ h => nomatch h⟩
  | k :: ks, _, h => by
    cases h with
    | @cons _ v _ vs h1 h2 =>
      obtain ⟨xs, rfl, rfl, hx⟩ := dvs_pk h2
      have h1' := h1
      unfold ePK at h1
      cases h1 with
      | @tup p _ _ h3 h4 =>
        refine ⟨(k, p) :: xs, rfl, rfl, fun x hm => ?_⟩
        rcases List.mem_cons.mp hm with rfl | hm
        · exact h1'
        · exact hx x hm
theorem pk_dvs {K : PySem.W.Frag} {H : Hp} : ∀ {xs : List (PK × Addr)}, (∀ x ∈ xs, Dv K H (ePK x.1) (.ref x.2)) → Dvs K H ((xs.map (·.1)).map ePK) (xs.map fun x => V.ref x.2)
  | [], _ => .nil
  | x :: xs, h => .cons (h x (List.mem_cons_self ..)) (pk_dvs fun y hy => h y (List.mem_cons_of_mem _ hy))
theorem srv_sortW {K : PySem.W.Frag} : SrvC K (rSortW K) rSortW2 := by
  intro ds vs S H Q Q2 rs dvs t k
  obtain ⟨d, ks, rfl, h, q⟩ := t
  cases dvs with
  | cons h1 h2 =>
    cases h2
    obtain ⟨p, us, rfl, hq, r⟩ := list_sq rs h1 h
    obtain ⟨xs, rfl, rfl, hx⟩ := dvs_pk r
    refine ⟨p, xs, rfl, hq, hx, fun a na => ?_⟩
    have hm : ∀ x ∈ xs.mergeSort (fun b c => leP b.1 c.1), Dv K H (ePK x.1) (.ref x.2) := fun x hm => hx x ((List.mergeSort_perm xs _).mem_iff.mp hm)
    have e : (xs.mergeSort fun b c => leP b.1 c.1).map (·.1) = srtP (xs.map (·.1)) := List.map_mergeSort fun a _ b _ => rfl
    refine k _ _ _ _ (good_new na) (rs.new (o := .lst ((srtP (xs.map (·.1))).map ePK)) na ⟨_, upd_same, ?_⟩) (.ref a) (q a (rs.fresh na))
    rw [← e]
    exact (pk_dvs hm).new na
theorem q_sortedW {X : Cx} {k : Nat} {p pos : Pos} {e : Expr} {t : TA2} (hr : Room k X.A) (hm : X.mg "sorted" = none) (hg : Gl X "sorted") (ha : QA X [e] t) (he : starEach [e] X.env = (false, eval e X.env) :: starEach [] X.env := by rfl) : QE X (.Call (.Name "sorted" p) [e] [] pos) (uCB rSortW2 t) :=
  q_callB (call_sortW (Room.u65 hr)) srv_sortW hm PyProof.Rows.boot_sorted hg ha (he := he)
end DL
/-! xs.count(x) of data. -/
namespace DL
open PySem PySem.Spec PyProof.Rows L2
/-! ### not among a tuple's things -/
end DL
/-! Ways put one behind the other; what a deed changes in the papers. -/
namespace DL
open PySem PySem.Spec PyProof.Rows L2
theorem Goes.on {L : List Ln} {u m t v : Rat} {row row' : List Nat} {es : List (Tri Rat Nat Nat)} (h : Goes L t u row es v row') (nd : row.Nodup) (hum : u ≤ m) (hl : ∀ j c, j + 1 < row.length → tlW L (row.getD j 0) (row.getD (j + 1) 0) u = some c → m ≤ c) : ∃ v', Goes L t m row es v' row' := by
  cases h with
  | stop h => exact ⟨m, .stop fun j c hj e => h j c hj (by rw [← tl_stay_nb nd hum hl hj]; exact e)⟩
  | step h hc g => exact ⟨_, .step (h.on nd hum hl) hc g⟩
theorem Goes.off {L : List Ln} {u m t v : Rat} {row row' : List Nat} {es : List (Tri Rat Nat Nat)} (h : Goes L t m row es v row') (nd : row.Nodup) (hum : u ≤ m) (hl : ∀ j c, j + 1 < row.length → tlW L (row.getD j 0) (row.getD (j + 1) 0) u = some c → m ≤ c) : ∃ v', Goes L t u row es v' row' := by
  cases h with
  | stop h => exact ⟨u, .stop fun j c hj e => h j c hj (by rw [tl_stay_nb nd hum hl hj]; exact e)⟩
  | step h hc g =>
    refine ⟨_, .step ⟨h.lt, ?_, fun j d hj e => ?_, fun j hj e => ?_⟩ hc g⟩
    · rw [← tl_stay_nb nd hum hl h.lt]; exact h.at_
    · rw [← tl_stay_nb nd hum hl hj] at e; exact h.le j d hj e
    · have := h.lt
      rw [← tl_stay_nb nd hum hl (by omega)] at e; exact h.fst j hj e
/-! ### orders and papers by numbers -/
def AhK (M : Mp) (t : Rat) (x y : Int) : Prop := Ahd (LI M) x.toNat y.toNat t
def nxK (M : Mp) (t : Rat) (x y : Int) : Option Rat := nxt (LI M) x.toNat y.toNat t
def prsI (O : List Int) : List (Int × Int) := O.zip (O.drop 1)
theorem kN_key {M : Mp} {i : Nat} (h : i < M.length) : ∃ k : Nat, kN M i = (k : Int) ∧ k ∈ keysM M := by
  obtain ⟨k, l, e, e1, _⟩ := kN_get h
  exact ⟨k, e1, List.mem_map.mpr ⟨_, List.mem_of_getElem? e, rfl⟩⟩
theorem prsI_map {α : Type} (f : Nat → Int) (O : List Nat) : prsI (O.map f) = (prs O).map fun p => (f p.1, f p.2) := by
  unfold prsI prs
  rw [← List.map_drop, List.zip_map]
  rfl
theorem nxt_idx {M : Mp} (hk : (keysM M).Pairwise (· < ·)) {i j : Nat} {t : Rat} (hi : i < M.length) (hj : j < M.length) : nxt (lnM M) i j t = nxK M t (kN M i) (kN M j) := by
  obtain ⟨a, ea, _⟩ := kN_key hi
  obtain ⟨b, eb, _⟩ := kN_key hj
  unfold nxK nxt
  rw [ea, eb, Int.toNat_natCast, Int.toNat_natCast, ln_idx hk hi ea, ln_idx hk hj eb]
theorem ordM_lt {M : Mp} {t : Rat} {x : Nat} (h : x ∈ ordL (lnM M) t) : x < M.length := by
  have := ((ordL_ok (lnM M) t).mem x).mp h
  rwa [lnM_len] at this
theorem ppM_ids {M : Mp} (hk : (keysM M).Pairwise (· < ·)) (t : Rat) : ppM M t = (prsI (OM M t)).map fun p => (⟨p.1, p.2, nxK M t p.1 p.2⟩ : PprI) := by
  unfold ppM pprs OM
  rw [prsI_map (α := Nat), List.map_map, List.map_map]
  refine List.map_congr_left fun p hp => ?_
  have hm := prs_mem hp
  show (⟨kN M p.1, kN M p.2, nxt (lnM M) p.1 p.2 t⟩ : PprI) = _
  rw [nxt_idx hk (ordM_lt hm.1) (ordM_lt hm.2)]
  rfl
theorem OM_pw {M : Mp} (hk : (keysM M).Pairwise (· < ·)) (t : Rat) : (OM M t).Pairwise (AhK M t) := by
  unfold OM
  rw [List.pairwise_map]
  have hp := (ordL_ok (lnM M) t).pw
  refine List.Pairwise.imp_of_mem (fun {a b} ha hb h => ?_) hp
  obtain ⟨x, ex, _⟩ := kN_key (ordM_lt ha)
  obtain ⟨y, ey, _⟩ := kN_key (ordM_lt hb)
  unfold AhK
  rw [ex, ey, Int.toNat_natCast, Int.toNat_natCast]
  have := ahd_idx hk (ordM_lt ha) (ordM_lt hb) ex ey (t := t)
  exact (decide_eq_decide.mp this).mp h
theorem OM_mem {M : Mp} {t : Rat} {x : Int} : x ∈ OM M t ↔ x ∈ KM M := by
  rw [KM_range]
  unfold OM
  rw [List.mem_map, List.mem_map]
  constructor
  · rintro ⟨i, h, e⟩; exact ⟨i, List.mem_range.mpr (ordM_lt h), e⟩
  · rintro ⟨i, h, e⟩; exact ⟨i, ((ordL_ok (lnM M) t).mem i).mpr (by rw [lnM_len]; exact List.mem_range.mp h), e⟩
theorem KM_mem {M : Mp} {x : Int} : x ∈ KM M ↔ ∃ k : Nat, x = (k : Int) ∧ k ∈ keysM M := by
  unfold KM
  rw [List.mem_map]
  exact ⟨fun ⟨k, h, e⟩ => ⟨k, e.symm, h⟩, fun ⟨k, e, h⟩ => ⟨k, h, e.symm⟩⟩
/-- the same lines, but of one runner -/
structure But (M M' : Mp) (r : Nat) : Prop where
  k : (keysM M).Pairwise (· < ·)
  k' : (keysM M').Pairwise (· < ·)
  mem : ∀ x : Nat, x ∈ keysM M' ↔ x ∈ keysM M ∧ x ≠ r
  ln : ∀ x : Nat, x ∈ keysM M' → ln (LI M') x = ln (LI M) x
theorem But.ah {M M' : Mp} {r : Nat} (h : But M M' r) {t : Rat} {x y : Int} (hx : x ∈ KM M') (hy : y ∈ KM M') : AhK M' t x y ↔ AhK M t x y := by
  obtain ⟨a, rfl, ha⟩ := KM_mem.mp hx
  obtain ⟨b, rfl, hb⟩ := KM_mem.mp hy
  unfold AhK Ahd
  rw [Int.toNat_natCast, Int.toNat_natCast, h.ln a ha, h.ln b hb]
theorem But.nx {M M' : Mp} {r : Nat} (h : But M M' r) {t : Rat} {x y : Int} (hx : x ∈ KM M') (hy : y ∈ KM M') : nxK M' t x y = nxK M t x y := by
  obtain ⟨a, rfl, ha⟩ := KM_mem.mp hx
  obtain ⟨b, rfl, hb⟩ := KM_mem.mp hy
  unfold nxK nxt
  rw [Int.toNat_natCast, Int.toNat_natCast, h.ln a ha, h.ln b hb]
theorem But.om {M M' : Mp} {r : Nat} (h : But M M' r) {t : Rat} : OM M' t = (OM M t).filter fun x => decide (x ≠ (r : Int)) := by
  refine pw_ext (R := AhK M t) (fun _ _ a b => ahd_asymm a b) ?_ ((OM_pw h.k t).filter _) fun z => ?_
  · exact List.Pairwise.imp_of_mem (fun {a b} ha hb q => (h.ah (OM_mem.mp ha) (OM_mem.mp hb)).mp q) (OM_pw h.k' t)
  · rw [List.mem_filter, OM_mem, OM_mem, KM_mem, KM_mem, decide_eq_true_iff]
    constructor
    · rintro ⟨k, rfl, hk⟩
      have := (h.mem k).mp hk
      exact ⟨⟨k, rfl, this.1⟩, by have := this.2; omega⟩
    · rintro ⟨⟨k, rfl, hk⟩, n⟩
      exact ⟨k, rfl, (h.mem k).mpr ⟨hk, by omega⟩⟩
theorem prsI_mem {O : List Int} {p : Int × Int} (h : p ∈ prsI O) : p.1 ∈ O ∧ p.2 ∈ O := by
  unfold prsI at h
  have := List.of_mem_zip (show (p.1, p.2) ∈ O.zip (O.drop 1) from h)
  exact ⟨this.1, List.mem_of_mem_drop this.2⟩
theorem prsI_cons (x y : Int) (O : List Int) : prsI (x :: y :: O) = (x, y) :: prsI (y :: O) := rfl
/-- two neighbours stay so when another one goes -/
theorem prsI_filter {r : Int} : ∀ {O : List Int} {a b : Int}, (a, b) ∈ prsI O → a ≠ r → b ≠ r → (a, b) ∈ prsI (O.filter fun x => decide (x ≠ r))
  | [], _, _, h, _, _ => nomatch h
  | [x], _, _, h, _, _ => nomatch h
  | x :: y :: O, a, b, h, ha, hb => by
    rw [prsI_cons] at h
    have key : ∀ z (zs : List Int), (a, b) ∈ prsI zs → (a, b) ∈ prsI (z :: zs) := fun z zs h => by
      cases zs with
      | nil => exact h
      | cons w ws => rw [prsI_cons]; exact List.mem_cons_of_mem _ h
    rcases List.mem_cons.mp h with e | h
    · cases e
      rw [List.filter_cons_of_pos (by simpa using ha), List.filter_cons_of_pos (by simpa using hb), prsI_cons]
      exact List.mem_cons_self
    · have ih := prsI_filter (O := y :: O) h ha hb
      by_cases c : x = r
      · rw [List.filter_cons_of_neg (by simpa using c)]; exact ih
      · rw [List.filter_cons_of_pos (by simpa using c)]; exact key _ _ ih
/-- whether a runner is in a paper -/
def inP (r : Int) (x : PprI) : Bool := decide (x.a = r ∨ x.b = r)
section
variable {M M' : Mp} {r : Nat} {t : Rat}
theorem But.none (h : But M M' r) : ((ppM M t).filter fun x => !decide (x ∈ ppM M' t)).filter (fun x => !inP r x) = [] := by
  refine List.filter_eq_nil_iff.mpr fun x hx hn => ?_
  obtain ⟨h1, h2⟩ := List.mem_filter.mp hx
  rw [ppM_ids h.k] at h1
  obtain ⟨p, hp, rfl⟩ := List.mem_map.mp h1
  simp only [inP, Bool.not_eq_true', decide_eq_false_iff_not, not_or] at hn h2
  have hm := prsI_mem hp
  refine h2 ?_
  rw [ppM_ids h.k']
  have hp' := prsI_filter hp hn.1 hn.2
  rw [← h.om] at hp'
  have hm' := prsI_mem hp'
  refine List.mem_map.mpr ⟨p, hp', ?_⟩
  rw [h.nx (OM_mem.mp hm'.1) (OM_mem.mp hm'.2)]
end
/-! a join, a leaving -/
theorem But.join {M : Mp} {r : Nat} {l : Ln} (hk : (keysM M).Pairwise (· < ·)) (hr : ∀ k ∈ keysM M, k < r) : But (M ++ [(r, l)]) M r where
  k := by
    unfold keysM
    rw [List.map_append]
    refine List.pairwise_append.mpr ⟨hk, List.pairwise_singleton .., fun a ha b hb => ?_⟩
    rw [List.mem_singleton.mp hb]
    exact hr a ha
  k' := hk
  mem := fun x => by
    unfold keysM
    rw [List.map_append, List.mem_append]
    constructor
    · exact fun h => ⟨.inl h, by have := hr x h; omega⟩
    · rintro ⟨h | h, n⟩
      · exact h
      · exact absurd (List.mem_singleton.mp h) n
  ln := fun x hx => by
    have hx' : x ∈ keysM (M ++ [(r, l)]) := by unfold keysM; rw [List.map_append]; exact List.mem_append_left _ hx
    rw [ln_LI hx, ln_LI hx']
    unfold lnI
    rw [mget_app, if_pos hx]
theorem But.leave {M : Mp} {r : Nat} (hk : (keysM M).Pairwise (· < ·)) : But M (mdrop M r) r where
  k := hk
  k' := by rw [keys_mdrop]; exact hk.filter _
  mem := fun x => by rw [keys_mdrop, List.mem_filter, decide_eq_true_iff]
  ln := fun x hx => by
    have h2 := hx
    rw [keys_mdrop, List.mem_filter, decide_eq_true_iff] at h2
    rw [ln_LI hx, ln_LI h2.1]
    unfold lnI
    rw [mget_drop _ _ h2.2]
/-! a turn -/
structure Trn (L L' : List Ln) (t : Rat) (j : Nat) : Prop where
  len : L'.length = L.length
  lnx : ∀ i, i ≠ j → ln L' i = ln L i
  atx : at_ (ln L' j) t = at_ (ln L j) t
theorem Trn.ah {L L' : List Ln} {t : Rat} {j a b : Nat} (h : Trn L L' t j) (u : ∀ i, i < L'.length → i ≠ j → DL.at_ (DL.ln L' i) t ≠ DL.at_ (DL.ln L' j) t) (ha : a < L'.length) (hb : b < L'.length) : Ahd L' a b t ↔ Ahd L a b t := by
  by_cases e : a = b
  · subst e
    exact ⟨fun z => (ahd_irr z).elim, fun z => (ahd_irr z).elim⟩
  by_cases e1 : a = j
  · subst e1
    have h1 := u b hb (fun z => e z.symm)
    have h2 := h.lnx b (fun z => e z.symm)
    have h3 := h.atx
    unfold Ahd
    rw [h2] at h1 ⊢
    rw [h3] at h1 ⊢
    grind
  by_cases e2 : b = j
  · subst e2
    have h1 := u a ha e1
    have h2 := h.lnx a e1
    have h3 := h.atx
    unfold Ahd
    rw [h2] at h1 ⊢
    rw [h3] at h1 ⊢
    grind
  · unfold Ahd
    rw [h.lnx a e1, h.lnx b e2]
theorem Trn.ord {L L' : List Ln} {t : Rat} {j : Nat} (h : Trn L L' t j) (u : ∀ i, i < L'.length → i ≠ j → DL.at_ (DL.ln L' i) t ≠ DL.at_ (DL.ln L' j) t) : ordL L' t = ordL L t := by
  have ho := ordL_ok L t
  refine (IsOrd.eq ⟨?_, fun i => ?_⟩).symm
  · refine List.Pairwise.imp_of_mem (fun {a b} ha hb q => ?_) ho.pw
    have h1 := (ho.mem a).mp ha
    have h2 := (ho.mem b).mp hb
    exact (h.ah u (by rw [h.len]; exact h1) (by rw [h.len]; exact h2)).mpr q
  · rw [ho.mem, h.len]
end DL
/-! The same lines under other numbers, and told so much later. -/
namespace DL
open PySem PySem.Spec PyProof.Rows L2
structure Sim (L L' : List Ln) (π : Nat → Nat) (d : Rat) : Prop where
  len : L'.length = L.length
  lt : ∀ i, i < L.length → π i < L.length
  inj : ∀ i j, i < L.length → j < L.length → π i = π j → i = j
  sur : ∀ j, j < L.length → ∃ i, i < L.length ∧ π i = j
  gp : ∀ i j t, i < L.length → j < L.length → at_ (ln L' (π i)) (t + d) - at_ (ln L' (π j)) (t + d) = at_ (ln L i) t - at_ (ln L j) t
  tie : ∀ i j, i < L.length → j < L.length → i ≠ j → ln L i = ln L j → (π i < π j ↔ i < j)
section
variable {L L' : List Ln} {π : Nat → Nat} {d t : Rat} {i j k : Nat}
theorem Sim.sl (h : Sim L L' π d) (hi : i < L.length) (hj : j < L.length) : (ln L' (π i)).2 - (ln L' (π j)).2 = (ln L i).2 - (ln L j).2 := by
  have h0 := h.gp i j 0 hi hj
  have h1 := h.gp i j 1 hi hj
  unfold at_ at h0 h1
  grind
theorem Sim.ah (h : Sim L L' π d) (hi : i < L.length) (hj : j < L.length) : Ahd L' (π i) (π j) (t + d) ↔ Ahd L i j t := by
  by_cases e : i = j
  · subst e
    exact ⟨fun z => (ahd_irr z).elim, fun z => (ahd_irr z).elim⟩
  have g := h.gp i j t hi hj
  have s := h.sl hi hj
  have k : at_ (ln L i) t = at_ (ln L j) t → (ln L i).2 = (ln L j).2 → (π i < π j ↔ i < j) := fun e1 e2 => h.tie i j hi hj e (by
    refine Prod.ext ?_ e2
    unfold at_ at e1
    rw [e2] at e1
    grind)
  unfold Ahd
  generalize at_ (ln L' (π i)) (t + d) = a at *
  generalize at_ (ln L' (π j)) (t + d) = b at *
  generalize at_ (ln L i) t = a' at *
  generalize at_ (ln L j) t = b' at *
  generalize (ln L' (π i)).2 = c at *
  generalize (ln L' (π j)).2 = e at *
  generalize (ln L i).2 = c' at *
  generalize (ln L j).2 = e' at *
  have p1 : b < a ↔ b' < a' := by constructor <;> intro h <;> grind
  have p2 : a = b ↔ a' = b' := by constructor <;> intro h <;> grind
  have p3 : e < c ↔ e' < c' := by constructor <;> intro h <;> grind
  have p4 : c = e ↔ c' = e' := by constructor <;> intro h <;> grind
  rw [p1, p2, p3, p4]
  constructor
  · rintro (h | ⟨h1, h | ⟨h2, h3⟩⟩)
    · exact .inl h
    · exact .inr ⟨h1, .inl h⟩
    · exact .inr ⟨h1, .inr ⟨h2, (k h1 h2).mp h3⟩⟩
  · rintro (h | ⟨h1, h | ⟨h2, h3⟩⟩)
    · exact .inl h
    · exact .inr ⟨h1, .inl h⟩
    · exact .inr ⟨h1, .inr ⟨h2, (k h1 h2).mpr h3⟩⟩
theorem met_of {l m : Ln} {t : Rat} (n : l.2 ≠ m.2) (h : at_ l t = at_ m t) : met l m = t := by
  have h' := sub_ne n
  unfold at_ at h
  unfold met
  have e : m.1 - l.1 = t * (l.2 - m.2) := by grind
  rw [e]
  grind
theorem Sim.ne (h : Sim L L' π d) (hi : i < L.length) (hj : j < L.length) : (ln L' (π i)).2 ≠ (ln L' (π j)).2 ↔ (ln L i).2 ≠ (ln L j).2 := by
  have := h.sl hi hj
  constructor <;> intro a b <;> apply a <;> grind
theorem Sim.mt (h : Sim L L' π d) (hi : i < L.length) (hj : j < L.length) (n : (ln L i).2 ≠ (ln L j).2) : met (ln L' (π i)) (ln L' (π j)) = met (ln L i) (ln L j) + d := by
  refine met_of ((h.ne hi hj).mpr n) ?_
  have g := h.gp i j (met (ln L i) (ln L j)) hi hj
  have e := at_met n
  rw [e] at g
  grind
theorem Sim.nx (h : Sim L L' π d) (hi : i < L.length) (hj : j < L.length) : nxt L' (π i) (π j) (t + d) = (nxt L i j t).map (· + d) := by
  unfold nxt
  by_cases n : (ln L i).2 ≠ (ln L j).2
  · rw [h.mt hi hj n]
    by_cases c : t < met (ln L i) (ln L j)
    · rw [if_pos ⟨(h.ne hi hj).mpr n, by grind⟩, if_pos ⟨n, c⟩]; rfl
    · rw [if_neg fun z => c (by have := z.2; grind), if_neg fun z => c z.2]; rfl
  · rw [if_neg fun z => n ((h.ne hi hj).mp z.1), if_neg fun z => n z.1]; rfl
theorem ordL_lt {x : Nat} (h : x ∈ ordL L t) : x < L.length := ((ordL_ok L t).mem x).mp h
theorem Sim.ord (h : Sim L L' π d) : ordL L' (t + d) = (ordL L t).map π := by
  have o := ordL_ok L t
  symm
  refine IsOrd.eq ⟨?_, fun i => ?_⟩
  · rw [List.pairwise_map]
    exact List.Pairwise.imp_of_mem (fun {a b} ha hb q => (h.ah (ordL_lt ha) (ordL_lt hb)).mpr q) o.pw
  · rw [h.len, List.mem_map]
    constructor
    · rintro ⟨j, hj, rfl⟩; exact h.lt j (ordL_lt hj)
    · intro hi
      obtain ⟨j, hj, e⟩ := h.sur i hi
      exact ⟨j, (o.mem j).mpr hj, e⟩
/-! rows -/
theorem Sim.top (h : Sim L L' π d) {r : Nat} (k : IsTop L t r) : IsTop L' (t + d) (π r) := by
  refine ⟨by rw [h.len]; exact h.lt r k.1, fun j hj n => ?_⟩
  rw [h.len] at hj
  obtain ⟨i, hi, rfl⟩ := h.sur j hj
  exact (h.ah k.1 hi).mpr (k.2 i hi fun z => n (by rw [z]))
def ltr (π : Nat → Nat) (d : Rat) (x : Nat × Option Rat) : Nat × Option Rat := (π x.1, x.2.map (· + d))
theorem ge_off {s : Option Rat} {t' : Rat} (g : Ge (s.map (· + d)) t') : Ge s (t' - d) := fun v e => by
  subst e
  have := g (v + d) rfl
  grind
theorem Sim.seg (h : Sim L L' π d) : ∀ {rest : Rw} {s : Option Rat} {r : Nat}, Seg (IsTop L) s r rest → Seg (IsTop L') (s.map (· + d)) (π r) (rest.map (ltr π d))
  | [], s, r, k => fun t' g => by
    have := h.top (k (t' - d) (ge_off g))
    rwa [show t' - d + d = t' by grind] at this
  | (r', some u) :: rest, s, r, k => by
    obtain ⟨k1, k2, k3, k4⟩ := k
    refine ⟨fun v e => ?_, fun t' g hu => ?_, fun e => ?_, h.seg k4⟩
    · cases s with
      | none => cases e
      | some w =>
        cases e
        have := k1 w rfl
        grind
    · have := h.top (k2 (t' - d) (ge_off g) (by grind))
      rwa [show t' - d + d = t' by grind] at this
    · obtain ⟨t0, g0, g1⟩ := gt_between k1
      exact k3 (h.inj r r' (k2 t0 g0 g1).1 (Seg.at0 k4).1 e)
  | (_, none) :: _, _, _, k => k.elim
theorem Sim.row (h : Sim L L' π d) {rows : Rw} (k : IsRow L rows) : IsRow L' (rows.map (ltr π d)) := by
  rcases k with ⟨e, rfl⟩ | ⟨n, r, rest, rfl, k⟩
  · refine .inl ⟨?_, rfl⟩
    have := h.len
    rw [e] at this
    exact List.length_eq_zero_iff.mp this
  · refine .inr ⟨fun e => n ?_, π r, _, rfl, h.seg k⟩
    have := h.len
    rw [e] at this
    exact List.length_eq_zero_iff.mp this.symm
/-! covers -/
/-! changes -/
def mapP (π : Nat → Nat) (p : Pr) : Pr := (π p.1, π p.2)
theorem Sim.tm (h : Sim L L' π d) {lo hi : Rat} {p : Pr} (h1 : p.1 < L.length) (h2 : p.2 < L.length) : tmW L' (lo + d) (hi + d) (mapP π p) = (tmW L lo hi p).map (· + d) := by
  unfold tmW mapP
  simp only
  have s := h.sl h1 h2
  by_cases c : (ln L p.1).2 < (ln L p.2).2
  · have n : (ln L p.1).2 ≠ (ln L p.2).2 := fun z => by grind
    have c' : (ln L' (π p.1)).2 < (ln L' (π p.2)).2 := by grind
    rw [h.mt h1 h2 n]
    by_cases e : lo < met (ln L p.1) (ln L p.2) ∧ ¬ hi < met (ln L p.1) (ln L p.2)
    · rw [if_pos ⟨c', by grind, by grind⟩, if_pos ⟨c, e⟩]; rfl
    · rw [if_neg fun z => e ⟨by grind, by grind⟩, if_neg fun z => e z.2]; rfl
  · rw [if_neg fun z => c (by have := z.1; grind), if_neg fun z => c z.1]; rfl
theorem Sim.grp (h : Sim L L' π d) {lo hi : Rat} {C C' : Grp} (g : IsGrp (tmW L lo hi) (allP L.length) C) (h1 : C'.map (·.1) = C.map fun x => x.1 + d) (h2 : ∀ x ∈ C', ∃ y ∈ C, x.1 = y.1 + d ∧ x.2.Perm (y.2.map (mapP π)) ∧ x.2.Pairwise lexP) : IsGrp (tmW L' (lo + d) (hi + d)) (allP L'.length) C' := by
  rw [h.len]
  have tq : ∀ p ∈ allP L.length, tmW L' (lo + d) (hi + d) (mapP π p) = (tmW L lo hi p).map (· + d) := fun p hp => h.tm (allP_mem.mp hp).1 (allP_mem.mp hp).2
  have inP : ∀ p ∈ allP L.length, mapP π p ∈ allP L.length := fun p hp => allP_mem.mpr ⟨h.lt _ (allP_mem.mp hp).1, h.lt _ (allP_mem.mp hp).2⟩
  have exP : ∀ q ∈ allP L.length, ∃ p ∈ allP L.length, mapP π p = q := fun q hq => by
    obtain ⟨a, ha, ea⟩ := h.sur q.1 (allP_mem.mp hq).1
    obtain ⟨b, hb, eb⟩ := h.sur q.2 (allP_mem.mp hq).2
    exact ⟨(a, b), allP_mem.mpr ⟨ha, hb⟩, Prod.ext ea eb⟩
  have inj : ∀ p ∈ allP L.length, ∀ q ∈ allP L.length, mapP π p = mapP π q → p = q := fun p hp q hq e => by
    have hp := allP_mem.mp hp
    have hq := allP_mem.mp hq
    exact Prod.ext (h.inj _ _ hp.1 hq.1 (congrArg Prod.fst e)) (h.inj _ _ hp.2 hq.2 (congrArg Prod.snd e))
  have ms : ∀ {o : Option Rat} {t : Rat}, o.map (· + d) = some (t + d) ↔ o = some t := fun {o t} => by
    cases o with
    | none => simp
    | some x =>
      simp only [Option.map_some, Option.some.injEq]
      constructor <;> intro e <;> grind
  refine grp_mk ?_ (fun t => ?_) fun x hx => ?_
  · rw [h1]
    have := g.inc
    unfold Inc at this ⊢
    rw [List.pairwise_map] at this ⊢
    exact this.imp fun {a b} z => by grind
  · rw [h1, List.mem_map]
    constructor
    · rintro ⟨y, hy, rfl⟩
      obtain ⟨p, hp, e⟩ := (g.mem y.1).mp (List.mem_map.mpr ⟨y, hy, rfl⟩)
      exact ⟨mapP π p, inP p hp, by rw [tq p hp, e]; rfl⟩
    · rintro ⟨q, hq, e⟩
      obtain ⟨p, hp, rfl⟩ := exP q hq
      rw [tq p hp] at e
      obtain ⟨u, e1, rfl⟩ := Option.map_eq_some_iff.mp e
      obtain ⟨y, hy, e2⟩ := List.mem_map.mp ((g.mem u).mpr ⟨p, hp, e1⟩)
      exact ⟨y, hy, by rw [e2]⟩
  · obtain ⟨y, hy, ey, pm, pw⟩ := h2 x hx
    refine sortP_eq (pm.trans ?_) pw ((allP_sorted _).filter _)
    have gy := g.grp y hy
    refine perm_of (nodup_map (by rw [gy]; exact (allP_nd _).filter _) fun a ha b hb e => ?_) ((allP_nd _).filter _) fun z => ?_
    · rw [gy] at ha hb
      exact inj _ (List.mem_filter.mp ha).1 _ (List.mem_filter.mp hb).1 e
    · rw [List.mem_map, List.mem_filter, decide_eq_true_eq]
      constructor
      · rintro ⟨p, hp, rfl⟩
        rw [gy, List.mem_filter, decide_eq_true_eq] at hp
        exact ⟨inP p hp.1, by rw [tq p hp.1, hp.2, ey]; rfl⟩
      · rintro ⟨hz, e⟩
        obtain ⟨p, hp, rfl⟩ := exP z hz
        refine ⟨p, ?_, rfl⟩
        rw [gy, List.mem_filter, decide_eq_true_eq]
        refine ⟨hp, ?_⟩
        rw [tq p hp, ey] at e
        exact ms.mp e
/-! walks -/
end
end DL
namespace DL
open PySem PySem.Spec PyProof.Rows L2
/-! sizes -/
end DL
/-! The same lines in another order. -/
namespace DL
open PySem PySem.Spec PyProof.Rows L2
/-! lines unlike one another -/
/-! one thing taken out of those left -/
end DL
/-! Things that may be deeds. -/
namespace DL
open PySem PySem.Spec PyProof.Rows L2
/-- a thing that may be asked whether it is a small number -/
def ThN (S : Sto) (d : D) : Prop := Th S d ∧ ∀ t b, d = .tup [.int t, .int b] → Sz 9000 b
def smB : D → Bool
  | .tup [.int t, .int b] => isNumD (.tup [.int t, .int b]) && (decide (t.natAbs < 10 ^ 9) && decide (b ≤ 12))
  | _ => false
def whB : D → Bool
  | .int _ => true
  | _ => false
def ThD (S : Sto) (x : D) : Prop := (∃ T, tyOf S x = some T) ∧ ∀ ds, x = .tup ds → ∀ y ∈ ds, ThN S y
theorem ThN.sub {S S' : Sto} {d : D} (h : ThN S d) (s : Sub S S') : ThN S' d := ⟨Th.sub s h.1, h.2⟩
theorem ThD.sub {S S' : Sto} {x : D} (h : ThD S x) (s : Sub S S') : ThD S' x :=
  ⟨(Th.sub s (d := x) ⟨h.1, fun a b e => ⟨(h.2 _ e a (by simp)).1.1, (h.2 _ e b (by simp)).1.1⟩⟩).1, fun ds e y hy => (h.2 ds e y hy).sub s⟩
section
variable {S : Sto}
def BadX (E : List Dd) (x : D) : Prop := ¬ ∃ d, x = eDd d ∧ LogX (E ++ [d])
end
theorem ThD.wr {S S' : Sto} {x : D} (h : ThD S x) (e : ∀ d, tyOf S' d = tyOf S d) : ThD S' x := by
  unfold ThD ThN Th at *
  simpa only [e] using h
end DL
/-! Things that are alike, lists within lists. -/
namespace DL
open PySem PySem.Spec PyProof.Rows L2
section
variable {S : Sto} {Q : VK2} {x y : D} {n : Nat} {a b : Addr} {xs ys : List D}
/-- two things that stand for the same data -/
def Same (S : Sto) (n : Nat) (x y : D) : Prop := ∃ p, Py S x p ∧ Py S y p ∧ p.canLay0 = true ∧ p.depth ≤ n ∧ PyData.eqv p p = true
theorem Same.le {m : Nat} (h : Same S n x y) (k : n ≤ m) : Same S m x y := let ⟨p, h1, h2, h3, h4, h5⟩ := h; ⟨p, h1, h2, h3, Nat.le_trans h4 k, h5⟩
end
/-- what a race says of itself -/
def StS (S : Sto) (a s : Addr) (D : List Dd) (now : Option Rat) (G C : List PprI) : Prop := ∃ o p l g c, S s = some (.lst [eO now, .ref o, .ref p, .ref l, .tup [.ref g, .ref c]]) ∧ S o = some (.lst ((now.elim [] fun u => OM (MT D u) u).map DL.D.int)) ∧ S p = some (.lst ((now.elim [] fun u => ppM (MT D u) u).map eI3)) ∧ S l = some (.lst (D.map eDd)) ∧ S g = some (.lst (G.map eI3)) ∧ S c = some (.lst (C.map eI3)) ∧ s ≠ a ∧ o ≠ a ∧ p ≠ a ∧ l ≠ a ∧ g ≠ a ∧ c ≠ a
section
variable {S S' : Sto} {a s t : Addr} {D : List Dd} {now : Option Rat} {G C : List PprI}
theorem StS.fr (h : StS S a s D now G C) (f : Fr S S' a) : StS S' a s D now G C := by
  obtain ⟨o, p, l, g, c, h0, h1, h2, h3, h4, h5, n0, n1, n2, n3, n4, n5⟩ := h
  exact ⟨o, p, l, g, c, f _ _ n0 h0, f _ _ n1 h1, f _ _ n2 h2, f _ _ n3 h3, f _ _ n4 h4, f _ _ n5 h5, n0, n1, n2, n3, n4, n5⟩
theorem StS.sub (h : StS S a s D now G C) (f : Sub S S') : StS S' a s D now G C := h.fr fun b x _ e => f b x e
end
end DL
/-! upper; replace of the first sign alone, within a list behind a join (a token must be out). -/
namespace DL
open PySem PySem.Spec PyProof.Rows L2
end DL
/-! Texts that write no log or no book. -/
namespace DL
open PySem PySem.Spec PyProof.Rows L2
open TL (spl)
end DL
/-! Lines that write no row. -/
namespace DL
open PySem PySem.Spec PyProof.Rows L2
open TL (spl joinL spl_join)
/-- a row that is well written -/
def GoodR (b : Bool) (r : RwT) : Prop := (b = true ∧ ∃ d, fewD d ∧ r = rwD d) ∨ (b = false ∧ ∃ x, BROk x ∧ r = rwB x)
theorem GoodR.ok {b : Bool} {r : RwT} (h : GoodR b r) : RwOk r ∧ r.word ≠ [] := by
  rcases h with ⟨_, d, h, rfl⟩ | ⟨_, x, h, rfl⟩
  · exact rwD_ok h
  · exact rwB_ok h
end DL
/-! What is heard of texts. -/
namespace DL
open PySem PySem.Spec PyProof.Rows L2
open TL (spl joinL spl_join)
theorem LogX.keys {P : List Dd} (h : LogX P) : ∀ k ∈ keysM (runM P).1, k < 40 := fun k hk => by
  have h1 := (keyOk_run P).2 k hk
  have k2 : ∀ D : List Dd, (runM D).2 ≤ D.length := snoc_ind (Nat.le_refl _) fun D d ih => by
    rw [runM_snoc, List.length_append, List.length_singleton]
    cases d <;> simp only [stepM] <;> omega
  have := k2 P
  have := h.len
  omega
theorem LogX.first {d : Dd} {E : List Dd} (h : LogX (d :: E)) : ∃ t p m, d = .join t p m ∧ SmX t ∧ SmX p ∧ SmX m := by
  obtain ⟨h1, h2, _⟩ := h.ok [] d E rfl
  cases d with
  | join t p m => exact ⟨t, p, m, rfl, h1⟩
  | leave t k => cases h2
  | turn t k m => cases h2
end DL
/-! The law's own def, run where nothing else is being shown: what repr leans on. -/
namespace DL
open PySem PySem.Spec PyProof.Rows L2
section
variable {P : Program} {w : World} {K : PySem.W.Frag} {mg : Str → Option Value} {base : Heap}
/-- a def of the text, run in a given surrounding -/
theorem run_in {x : Str} {st : Stmt} {f : Addr} {fd : FuncData} {N ps : List Str} {A : Around} {outer : List Env} {s : Shared} {H : Hp} {args : Args} {us : List Value} {vs : List V} {Q : VK} {E : XK}
    (F : Fun K x x st f fd) (S : FnScope N ps (defScope st)) (hd : A.handled = none) (hp : A.depth < recursionLimit) (e0 : Env0 P w K mg base A outer s H) (hb : BindsTo s fd args (ps.zip us)) (r : Vals vs us) (hl : vs.length = ps.length)
    (body : ∀ cdv : Value, ∃ t, PSs (cxOf CX0 P w K mg base N x (defScope st) f cdv A outer s H E).nox (defBody st) t ∧ t { nx := fun _ H' => Q .non H', rt := Q } (start N vs) H) :
    codeAny (model P w) A (.call (.ref f) args) (CR CX0 outer P w H s Q E) s := by
  obtain ⟨_, _, _, _, _, _, cdv, _, _, rfl, lk, cd⟩ := F.ex
  obtain ⟨t, ht, q⟩ := body cdv
  have hK : K.In s.heap := e0.mod.kin.keeps fun b o e => (e0.bs b o e).1
  have hL : s.heap.NoLimit := e0.mod.nolimit.keeps fun b o e => (e0.bs b o e).1
  refine codeAny_call_function hp (hK _ _ lk) rfl S.co S.gen rfl (PySem.W.codeRec_of hK cd) (hb _ _ _ _ (wpAny_newFunctionEnv_cells S.kind (fun y hy => ?_) fun env he s1 ic => ?_))
  · rcases S.par y.1 (List.of_mem_zip (show (y.1, y.2) ∈ ps.zip us from hy)).1 with z | z
    · exact .inl z
    · exact .inr ⟨z, PySem.W.cellsFrom_some _ _ _ (.inl z)⟩
  subst he
  refine ⟨hL.keeps ic.toInCall.keep, codeAny_func (wpAny_mono (ht.nox.run [] s1 (start N vs) H _ (inv_start S hd e0 hl r ic) q) (fun fl s' z => ?_) fun _ _ z => z)⟩
  cases fl with
  | next =>
    obtain ⟨_, H', J, z⟩ := z
    exact ⟨.non, H', J.os, J.bare, J.base, J.hok, rfl, z⟩
  | ret u =>
    obtain ⟨v, _, H', J, rv, z⟩ := z
    exact ⟨v, H', J.os, J.bare, J.base, J.hok, rv, z⟩
  | brk => exact z.elim (fun _ z => z.elim fun _ z => z.2.elim)
  | cont => exact z.elim (fun _ z => z.elim fun _ z => z.2.elim)
end
end DL
/-! repr of data, where nothing else is being shown. -/
namespace DL
open PySem PySem.Spec PyProof.Rows L2
mutual
/-- no lists, no dicts -/
def NL : PyData → Bool
  | .none => true
  | .bool _ => true
  | .int _ => true
  | .str _ => true
  | .tuple ds => NLs ds
  | .list _ => false
  | .dict _ => false
def NLs : List PyData → Bool
  | [] => true
  | d :: ds => NL d && NLs ds
end
/-- .. over the store -/
def ShDI (S : Sto) (x : D) (p : PyData) : Prop := (Py S x p ∧ NL p = true) ∨ ∃ a, x = .ref a ∧ S a = some (.dic []) ∧ p = .dict []
def ShD (S : Sto) (x : D) (z : Str) : Prop :=
  (∃ d, Py S x d ∧ d.showable = true ∧ d.hasDict = false ∧ d.depth ≤ 40 ∧ d.shown.length ≤ 16000000 ∧ z = d.shown) ∨
  (∃ a, x = .ref a ∧ S a = some (.dic []) ∧ z = (PyData.dict []).shown) ∨
  ∃ a xs ds, x = .ref a ∧ S a = some (.lst xs) ∧ Paired (ShDI S) xs ds ∧ xs ≠ [] ∧ PyData.showableAll ds = true ∧ PyData.depthAll ds ≤ 40 ∧ (PyData.list ds).shown.length ≤ 16000000 ∧ z = (PyData.list ds).shown
end DL
/-! A law's own def and its end, where it asks for repr. -/
namespace DL
open PySem PySem.Spec PyProof.Rows L2
end DL
/-! Things that are shown, and how long that is; logs spoilt. -/
namespace DL
open PySem PySem.Spec PyProof.Rows L2
/-! ### what is shown of things -/
/-- data that is shown in few signs -/
structure RpD (p : PyData) (n k : Nat) : Prop where
  sh : p.showable = true
  le : p.leavesShort 70 = true
  hd : p.hasDict = false
  wt : p.weight ≤ n
  dp : p.depth ≤ k
structure RpDs (ps : List PyData) (n k : Nat) : Prop where
  sh : PyData.showableAll ps = true
  le : PyData.leavesShortAll 70 ps = true
  hd : PyData.hasDictAll ps = false
  wt : PyData.weightAll ps ≤ n
  dp : PyData.depthAll ps ≤ k
theorem RpDs.nil {n k : Nat} : RpDs [] n k := ⟨rfl, rfl, rfl, by simp [PyData.weightAll], by simp [PyData.depthAll]⟩
theorem RpDs.cons {p : PyData} {ps : List PyData} {n m k : Nat} (h : RpD p n k) (hs : RpDs ps m k) : RpDs (p :: ps) (n + 1 + m) k where
  sh := by simp only [PyData.showableAll]; rw [h.sh, hs.sh]; rfl
  le := by simp only [PyData.leavesShortAll]; rw [h.le, hs.le]; rfl
  hd := by simp only [PyData.hasDictAll]; rw [h.hd, hs.hd]; rfl
  wt := by simp only [PyData.weightAll]; have := h.wt; have := hs.wt; omega
  dp := by simp only [PyData.depthAll]; have := h.dp; have := hs.dp; omega
theorem RpD.tup {ps : List PyData} {n k : Nat} (h : RpDs ps n k) : RpD (.tuple ps) (n + 1) (k + 1) where
  sh := by simp only [PyData.showable]; exact h.sh
  le := by simp only [PyData.leavesShort]; exact h.le
  hd := by simp only [PyData.hasDict]; exact h.hd
  wt := by simp only [PyData.weight]; have := h.wt; omega
  dp := by simp only [PyData.depth]; have := h.dp; omega
theorem RpD.lst {ps : List PyData} {n k : Nat} (h : RpDs ps n k) : RpD (.list ps) (n + 1) (k + 1) where
  sh := by simp only [PyData.showable]; exact h.sh
  le := by simp only [PyData.leavesShort]; exact h.le
  hd := by simp only [PyData.hasDict]; exact h.hd
  wt := by simp only [PyData.weight]; have := h.wt; omega
  dp := by simp only [PyData.depth]; have := h.dp; omega
theorem RpD.mono {p : PyData} {n k m j : Nat} (h : RpD p n k) (h1 : n ≤ m) (h2 : k ≤ j) : RpD p m j := ⟨h.sh, h.le, h.hd, Nat.le_trans h.wt h1, Nat.le_trans h.dp h2⟩
theorem RpDs.mono {p : List PyData} {n k m j : Nat} (h : RpDs p n k) (h1 : n ≤ m) (h2 : k ≤ j) : RpDs p m j := ⟨h.sh, h.le, h.hd, Nat.le_trans h.wt h1, Nat.le_trans h.dp h2⟩
theorem shown_int_len {i : Int} (h : i.natAbs < 10 ^ 60) : (PyData.shown (.int i)).length ≤ 61 := by
  have e : PyData.shown (.int i) = tS (numI i) := str_int i
  rw [e, tS_len]
  exact numI_len h
theorem RpD.int {i : Int} (h : i.natAbs < 10 ^ 60) : RpD (.int i) 200 2 where
  sh := by simp only [PyData.showable]; exact decide_eq_true (log_lt h)
  le := by simp only [PyData.leavesShort]; exact decide_eq_true (Nat.le_trans (shown_int_len h) (by decide))
  hd := rfl
  wt := by
    simp only [PyData.weight]
    split
    · decide
    · next z =>
      have hi : i.natAbs ≠ 0 := fun e => z (by rw [Int.natAbs_eq_zero.mp e]; rfl)
      have : i.natAbs.log2 < 200 := (Nat.log2_lt hi).mpr (Nat.lt_trans h (by decide))
      omega
  dp := by simp [PyData.depth]
theorem RpD.non : RpD .none 2 2 := ⟨rfl, rfl, rfl, by simp [PyData.weight], by simp [PyData.depth]⟩
theorem RpD.bl {b : Bool} : RpD (.bool b) 2 2 := ⟨rfl, rfl, rfl, by simp [PyData.weight], by simp [PyData.depth]⟩
theorem RpD.str {x : Str} (h : (x.cps.toList.all fun c => decide (c < 128)) = true) (hl : x.cps.size ≤ 10) : RpD (.str x) 12 2 where
  sh := rfl
  le := by
    simp only [PyData.leavesShort]
    rw [List.all_eq_true] at h ⊢
    intro c hc
    have := h c hc
    rw [decide_eq_true_eq] at this ⊢
    exact Nat.lt_trans this (by decide)
  hd := rfl
  wt := by simp only [PyData.weight]; omega
  dp := by simp [PyData.depth]
theorem RpD.q {q : Rat} (h1 : q.num.natAbs < 10 ^ 60) (h2 : q.den < 10 ^ 60) : RpD (pyQ q) 403 3 :=
  (RpD.tup (n := 402) (k := 2) ((RpDs.cons (.int h1) (.cons (.int (by exact h2)) (.nil (n := 0)))).mono (by decide) (by decide)))
/-- a thing whose text is short -/
def Rp (S : Sto) (x : D) (n k : Nat) : Prop := ∃ p, Py S x p ∧ RpD p n k
def Rps (S : Sto) (xs : List D) (n k : Nat) : Prop := ∃ ps, Pys S xs ps ∧ RpDs ps n k
section
variable {S S' : Sto} {x : D} {xs : List D} {n m k j : Nat}
theorem Rp.sub (s : Sub S S') (h : Rp S x n k) : Rp S' x n k := let ⟨p, h1, h2⟩ := h; ⟨p, Py.sub s p x h1, h2⟩
theorem Rps.sub (s : Sub S S') (h : Rps S xs n k) : Rps S' xs n k := let ⟨p, h1, h2⟩ := h; ⟨p, Pys.sub s p xs h1, h2⟩
theorem Rp.mono (h : Rp S x n k) (h1 : n ≤ m) (h2 : k ≤ j) : Rp S x m j := let ⟨p, a, b⟩ := h; ⟨p, a, b.mono h1 h2⟩
theorem Rps.mono (h : Rps S xs n k) (h1 : n ≤ m) (h2 : k ≤ j) : Rps S xs m j := let ⟨p, a, b⟩ := h; ⟨p, a, b.mono h1 h2⟩
theorem Rps.nil : Rps S [] 0 k := ⟨[], .nil, .nil⟩
theorem Rps.cons (h : Rp S x n k) (hs : Rps S xs m k) : Rps S (x :: xs) (n + 1 + m) k := let ⟨p, a, b⟩ := h; let ⟨ps, c, d⟩ := hs; ⟨p :: ps, .cons a c, .cons b d⟩
theorem Rp.tup (h : Rps S xs n k) : Rp S (.tup xs) (n + 1) (k + 1) := let ⟨_, a, b⟩ := h; ⟨_, .tup a, .tup b⟩
theorem Rp.lst {a : Addr} (e : S a = some (.lst xs)) (h : Rps S xs n k) : Rp S (.ref a) (n + 1) (k + 1) := let ⟨_, a, b⟩ := h; ⟨_, .lst e a, .lst b⟩
theorem Rp.non : Rp S .non 2 2 := ⟨_, .non, .non⟩
theorem Rp.bl {b : Bool} : Rp S (.bl b) 2 2 := ⟨_, .bl b, .bl⟩
theorem Rp.int {i : Int} (h : i.natAbs < 10 ^ 60) : Rp S (.int i) 200 2 := ⟨_, .int i, .int h⟩
theorem Rp.str {z : Str} (h : (z.cps.toList.all fun c => decide (c < 128)) = true) (hl : z.cps.size ≤ 10) : Rp S (.str z) 12 2 := ⟨_, .str z, .str h hl⟩
theorem Rp.q {q : Rat} (h : SmX q) : Rp S (eQ q) 403 3 := ⟨_, py_eQ q, .q (Nat.lt_trans h.1 (by decide)) (Nat.lt_of_le_of_lt h.2 (by decide))⟩
theorem Rps.app {ys : List D} : ∀ {xs : List D} {n : Nat}, Rps S xs n k → Rps S ys m k → Rps S (xs ++ ys) (n + m) k := fun {xs} => by
  induction xs with
  | nil => exact fun h hs => hs.mono (by omega) (Nat.le_refl _)
  | cons x xs ih =>
    rintro n ⟨ps, h1, h2⟩ hs
    cases h1 with
    | cons h1 h3 =>
      have e1 : RpD _ _ k := ⟨by have := h2.sh; simp only [PyData.showableAll, Bool.and_eq_true] at this; exact this.1, by have := h2.le; simp only [PyData.leavesShortAll, Bool.and_eq_true] at this; exact this.1, by have := h2.hd; simp only [PyData.hasDictAll, Bool.or_eq_false_iff] at this; exact this.1, Nat.le_refl _, by have := h2.dp; simp only [PyData.depthAll] at this; omega⟩
      have e2 : RpDs _ _ k := ⟨by have := h2.sh; simp only [PyData.showableAll, Bool.and_eq_true] at this; exact this.2, by have := h2.le; simp only [PyData.leavesShortAll, Bool.and_eq_true] at this; exact this.2, by have := h2.hd; simp only [PyData.hasDictAll, Bool.or_eq_false_iff] at this; exact this.2, Nat.le_refl _, by have := h2.dp; simp only [PyData.depthAll] at this; omega⟩
      have w := h2.wt
      simp only [PyData.weightAll] at w
      exact (Rps.cons ⟨_, h1, e1⟩ (ih ⟨_, h3, e2⟩ hs)).mono (by omega) (Nat.le_refl _)
theorem Rp.dd {d : Dd} (h : SmXD d) (hk : ∀ t r m, (d = .leave t r ∨ d = .turn t r m) → r < 10 ^ 60) : Rp S (eDd d) 1300 4 := by
  cases d with
  | join t p m => exact (Rp.tup (Rps.cons ((Rp.str (by decide +kernel) (by decide +kernel)).mono (Nat.le_refl _) (by decide : 2 ≤ 3)) (.cons (.q h.1) (.cons (.q h.2.1) (.cons (.q h.2.2) .nil))))).mono (by decide) (by decide)
  | leave t r => exact (Rp.tup (Rps.cons ((Rp.str (by decide +kernel) (by decide +kernel)).mono (Nat.le_refl _) (by decide : 2 ≤ 3)) (.cons (.q h) (.cons ((Rp.int (i := (r : Int)) (hk t r 0 (.inl rfl))).mono (Nat.le_refl _) (by decide)) .nil)))).mono (by decide) (by decide)
  | turn t r m => exact (Rp.tup (Rps.cons ((Rp.str (by decide +kernel) (by decide +kernel)).mono (Nat.le_refl _) (by decide : 2 ≤ 3)) (.cons (.q h.1) (.cons ((Rp.int (i := (r : Int)) (hk t r m (.inr rfl))).mono (Nat.le_refl _) (by decide)) (.cons (.q h.2) .nil))))).mono (by decide) (by decide)
theorem LogX.keyk {E : List Dd} (h : LogX E) {d : Dd} (hd : d ∈ E) : ∀ t r m, (d = .leave t r ∨ d = .turn t r m) → r < 10 ^ 60 := fun t r m e => by
  obtain ⟨a, b, rfl⟩ := List.append_of_mem hd
  obtain ⟨_, h2, _⟩ := h.ok a d b rfl
  have hk := (LogX.pre h).keys
  rcases e with rfl | rfl
  · exact Nat.lt_trans (hk r h2) (by decide)
  · exact Nat.lt_trans (hk r h2) (by decide)
theorem Rps.log : ∀ {E : List Dd}, (∀ d ∈ E, SmXD d ∧ ∀ t r m, (d = .leave t r ∨ d = .turn t r m) → r < 10 ^ 60) → Rps S (E.map eDd) (E.length * 1301) 4
  | [], _ => Rps.nil.mono (Nat.zero_le _) (Nat.le_refl _)
  | d :: E, h => by
    have h1 := h d (by simp)
    refine (Rps.cons (Rp.dd h1.1 h1.2) (Rps.log fun x hx => h x (by simp [hx]))).mono ?_ (Nat.le_refl _)
    rw [List.length_cons]
    omega
theorem Rps.of {E : List Dd} (h : LogX E) : Rps S (E.map eDd) (E.length * 1301) 4 := Rps.log fun d hd => ⟨h.mem hd, h.keyk hd⟩
theorem Rp.shown (h : Rp S x n k) (hn : n ≤ 200000) (hk : k ≤ 40) : ∃ z, ShD S x z := by
  obtain ⟨p, h1, h2⟩ := h
  have := PyData.shown_le 70 (by decide) p h2.le
  have hw := h2.wt
  have : 72 * p.weight ≤ 72 * 200000 := Nat.mul_le_mul_left _ (by omega)
  exact ⟨_, .inl ⟨p, h1, h2.sh, h2.hd, Nat.le_trans h2.dp hk, by omega, rfl⟩⟩
end
/-! ### odd things -/
/-- a thing that is no number -/
structure OddN (S : Sto) (v : D) : Prop where
  th : ThN S v
  no : smB v = false
  rp : Rp S v 1000 4
/-- a thing that is no deed -/
structure OddD (S : Sto) (y : D) : Prop where
  th : ThD S y
  no : ∀ E, LogX E → BadX E y
  rp : Rp S y 6000 8 ∨ ∃ g, y = .ref g ∧ S g = some (.dic [])
/-- a thing that is no runner of any log -/
structure OddR (S : Sto) (r : D) : Prop where
  th : ThN S r
  no : whB r = false ∨ ∃ i, r = .int i ∧ (i < 0 ∨ 40 ≤ i)
  rp : Rp S r 1000 4
section
variable {S S' : Sto} {v y r : D}
theorem OddN.sub (s : Sub S S') (h : OddN S v) : OddN S' v := ⟨h.th.sub s, h.no, h.rp.sub s⟩
theorem OddR.sub (s : Sub S S') (h : OddR S v) : OddR S' v := ⟨h.th.sub s, h.no, h.rp.sub s⟩
theorem OddD.sub (s : Sub S S') (h : OddD S v) : OddD S' v := ⟨h.th.sub s, h.no, h.rp.elim (fun z => .inl (z.sub s)) fun ⟨g, e, z⟩ => .inr ⟨g, e, s _ _ z⟩⟩
theorem Rps.all : ∀ {ds : List D}, (∀ z ∈ ds, Rp S z 1000 4) → Rps S ds (ds.length * 1001) 4
  | [], _ => Rps.nil
  | d :: ds, h => (Rps.cons (h d (by simp)) (Rps.all fun z hz => h z (by simp [hz]))).mono (by rw [List.length_cons]; omega) (Nat.le_refl _)
end
end DL
/-! Logs spoilt: who has left, too many who run, too many deeds. -/
namespace DL
open PySem PySem.Spec PyProof.Rows L2
/-- a spoilt thing, and where it is spoilt -/
def Spl (S : Sto) (x : D) (i : Int) : Prop := (∃ z, ShD S x z) ∧
  ((∃ (p : Addr) (E : List Dd) (y : D) (ys : List D), x = .ref p ∧ S p = some (.lst (E.map eDd ++ y :: ys)) ∧ LogX E ∧ ThD S y ∧ BadX E y ∧ i = (E.length : Int)) ∨ ((∃ T, tyOf S x = some T ∧ isiT T .lst = false) ∧ i = 0))
theorem pd_sub {S S' : Sto} (s : Sub S S') : ∀ {xs : List D} {ps : List PyData}, Paired (ShDI S) xs ps → Paired (ShDI S') xs ps
  | _, _, .nil => .nil
  | _, _, .cons h hs => .cons (h.elim (fun z => .inl ⟨Py.sub s _ _ z.1, z.2⟩) fun ⟨a, e, z, f⟩ => .inr ⟨a, e, s _ _ z, f⟩) (pd_sub s hs)
theorem ShD.sub {S S' : Sto} {x : D} {z : Str} (s : Sub S S') (h : ShD S x z) : ShD S' x z := by
  rcases h with ⟨d, h, r⟩ | ⟨a, e, h, r⟩ | ⟨a, xs, ds, e, h, hp, r⟩
  · exact .inl ⟨d, Py.sub s _ _ h, r⟩
  · exact .inr (.inl ⟨a, e, s _ _ h, r⟩)
  · exact .inr (.inr ⟨a, xs, ds, e, s _ _ h, pd_sub s hp, r⟩)
theorem Spl.sub {S S' : Sto} {x : D} {i : Int} (s : Sub S S') (h : Spl S x i) : Spl S' x i := by
  obtain ⟨⟨z, hz⟩, h⟩ := h
  refine ⟨⟨z, hz.sub s⟩, ?_⟩
  rcases h with ⟨p, E, y, ys, e, hp, hE, ht, hb, hi⟩ | ⟨⟨T, hT, hs⟩, hi⟩
  · exact .inl ⟨p, E, y, ys, e, s _ _ hp, hE, ht.sub s, hb, hi⟩
  · refine .inr ⟨⟨T, ?_, hs⟩, hi⟩
    cases x with
    | ref a =>
      have hT : tyO (S a) = some T := hT
      show tyO (S' a) = some T
      cases q : S a with
      | none => rw [q] at hT; cases hT
      | some o => rw [s _ _ q]; rw [q] at hT; exact hT
    | _ => exact hT
end DL
/-! zip of a text and a list. -/
namespace DL
open PySem PySem.Spec PyProof.Rows L2
end DL
/-! Defs that call themselves some hundred deep; == of things that are nested deeper; i << j; xs.remove(x) of data. -/
namespace DL
open PySem PySem.Spec PyProof.Rows L2
/-- room for n turns of one def, and k levels beside -/
structure RoomD (n k : Nat) (A : Around) : Prop where
  hd : A.handled = none
  dp : A.depth + n + 3 * k + 5 < recursionLimit
  un : A.units + 4 * n + 16 * k + 200 < cLine
section
variable {n k m : Nat} {A : Around}
theorem RoomD.room (r : RoomD n k A) : Room k A := ⟨r.hd, by have := r.dp; omega, by have := r.un; omega⟩
theorem RoomD.depth (r : RoomD n k A) : A.depth < recursionLimit := by have := r.dp; omega
theorem RoomD.of (r : Room (k + m) A) (h : n ≤ 3 * m) : RoomD n k A := ⟨r.hd, by have := r.dp; omega, by have := r.un; omega⟩
theorem RoomD.deeper (r : RoomD (n + 1) k A) (env : Env) : RoomD n k (A.deeper env) :=
  ⟨r.hd, by have := r.dp; show A.depth + 1 + n + 3 * k + 5 < _; omega, by have := r.un; show A.units + 3 + 4 * n + 16 * k + 200 < _; omega⟩
end
theorem Room.uL {n k : Nat} {A : Around} (hr : Room k A) (h : n ≤ 16 * k + 200) : A.units + n < cLine := by have := hr.un; omega
/-- a def that may go n deep -/
structure FnD (P : Program) (w : World) (K : PySem.W.Frag) (mg : Str → Option Value) (base : Heap) (n k : Nat) (x : Str) (sp : Sp2) : Prop where
  ex : ∃ (f : Addr) (fd : FuncData) (ps : List Str), mg x = some (.ref f) ∧ PySem.W.keepIn K (.ref f) = true ∧ Binds K fd ps [] ∧ (∀ ds S Q E, sp ds S Q E → ds.length = ps.length) ∧
    ∀ (A : Around) (outer : List Env) (s : Shared) (H : Hp) (args : Args) (us : List Value) (vs : List V) (Q : VK) (E : XK), RoomD n k A → Env0 P w K mg base A outer s H → BindsTo s fd args (ps.zip us) → Vals vs us → dnSp K sp vs H Q E →
      codeAny (model P w) A (.call (.ref f) args) (CR CX0 outer P w H s Q E) s
section
variable {P : Program} {w : World} {K : PySem.W.Frag} {mg : Str → Option Value} {base : Heap} {n k m : Nat} {x : Str} {sp : Sp2}
theorem FnD.vac {st : Stmt} {ps : List Str} (FA : FunAt K mg x st ps) : FnD P w K mg base n k x (fun _ _ _ _ => False) := by
  obtain ⟨f, fd, F, gm, bd⟩ := FA.ex
  refine ⟨f, fd, ps, gm, F.kp, bd, fun _ _ _ _ z => z.elim, fun A outer s H args us vs Q E _ _ _ _ h => ?_⟩
  obtain ⟨_, _, _, _, _, _, h, _⟩ := h
  exact h.elim
theorem FnD.fn (F : FnD P w K mg base n k x sp) (h : n ≤ 3 * m) : Fn P w K mg base (k + m) x sp := by
  obtain ⟨f, fd, ps, gm, kp, bd, len, run⟩ := F.ex
  refine ⟨f, fd, ps, ⟨fun vs H Q E z => ?_, fun A outer s H args us vs Q E hr e0 hb r q => run A outer s H args us vs Q E (.of hr h) e0 hb r q⟩, gm, kp, bd⟩
  obtain ⟨ds, S, Q2, E2, dvs, _, z, _⟩ := z
  rw [← dvs.length]
  exact len _ _ _ _ z
theorem fnD_intro {st : Stmt} {N ps : List Str} (FA : FunAt K mg x st ps) (S : FnScope N ps (defScope st)) (len : ∀ ds S Q E, sp ds S Q E → ds.length = ps.length)
    (hbody : ∀ (cdv : Value) (A : Around) (outer : List Env) (s : Shared) (H : Hp) (E : XK) (f : Addr), RoomD n k (A.deeper (envOfC x (defScope st) s.heap.objs.size f cdv)) →
      ∃ t, QSs (cxOf CX0 P w K mg base N x (defScope st) f cdv A outer s H E).nox (defBody st) t ∧ ∀ ds S Q E, sp ds S Q E → t { nx := fun _ S' => ∃ S0, Sub S0 S' ∧ Q .non S0, rt := fun d S' => ∃ S0, Sub S0 S' ∧ Q d S0 } (start2 N ds) S) : FnD P w K mg base (n + 1) k x sp := by
  obtain ⟨f, fd, F, gm, bd⟩ := FA.ex
  refine ⟨f, fd, ps, gm, F.kp, bd, len, fun A outer s H args us vs Q E hr e0 hb r h => ?_⟩
  obtain ⟨ds, S0, Q2, E2, dvs, rs, h, kk, _⟩ := h
  have hl : vs.length = ps.length := by
    rw [← dvs.length]
    exact len _ _ _ _ h
  refine run_in F S hr.hd hr.depth e0 hb r hl fun cdv => ?_
  obtain ⟨t, ht, rd⟩ := hbody cdv A outer s H E f (hr.deeper _)
  refine ⟨_, ht, start2 N ds, S0, _, Rl.start dvs, rs, rd ds S0 Q2 E2 h, ?_⟩
  exact ⟨fun τ S' σ' H' g _ rs' ⟨S1, sub, q⟩ => kk _ _ _ _ g (rs'.sub sub) .non q, fun d v S' H' g rs' dv ⟨S1, sub, q⟩ => kk _ _ _ _ g (rs'.sub sub) dv q, fun _ _ _ _ _ _ _ z => z.elim, fun _ _ _ _ _ _ _ z => z.elim⟩
end
section
variable {X : Cx} {n k : Nat} {x : Str} {sp : Sp2} {p pos : Pos} {e : Expr} {es : List Expr} {t : TA2}
theorem q_callD (F : FnD X.prog X.w X.K X.mg X.base n k x sp) (hr : RoomD n k X.A) (hg : Gl X x) (ha : QA X (e :: es) t) (hdb : (x == ("__debug__" : Str)) = false := by decide) (he : starEach (e :: es) X.env = (false, eval e X.env) :: starEach es X.env := by rfl) (hpl : (backTo pos (starEach es X.env)).any (·.1) = false := by rfl) :
    QE X (.Call (.Name x p) (e :: es) [] pos) (uCall sp t) := by
  obtain ⟨f, fd, ps, gm, kp, bd, len, run⟩ := F.ex
  have main : PE X (.Call (.Name x p) (e :: es) [] pos) (tCall (dnSp X.K sp) [] (fun _ _ _ => False) (dnA X.K t)) := by
    refine ⟨fun pins st σ H Q J z => ?_⟩
    apply wpAny_Call_Name_kw
    refine ld_glob J hg gm ?_ hdb
    refine PySem.W.callWith_K (h₀ := X.base) J.ok.mod.kin kp ?_ he hpl
    refine thn (ha.run pos pins st σ H _ J z) fun us st1 ⟨vs, H1, J1, r, q⟩ => ⟨J1.kIn, ?_⟩
    have q' : dnSp X.K sp vs H1 Q (fun _ _ _ => False) := by
      have q2 : dnSp X.K sp (vs ++ []) H1 Q (fun _ _ _ => False) := q
      rw [List.append_nil] at q2
      exact q2
    have hl : (us ++ []).length = ps.length := by
      obtain ⟨ds, S, Q2, E2, dvs, _, z, _⟩ := q'
      rw [List.append_nil, ← r.length, ← dvs.length]
      exact len _ _ _ _ z
    have hb := bd st1 us J1.kIn hl
    rw [List.append_nil] at hb
    refine wpAny_call (codeAny_mono (run X.A X.stack st1 H1 ⟨us, []⟩ us vs Q _ hr J1.env0 hb r q') fun res st2 hq => ?_)
    match res, hq with
    | .error err, hq => exact pass0 (X := X) pins σ H1 st1 err st2 J1 hq
    | .ok (.ret u), hq => exact J1.after hq
    | .ok .next, hq => exact hq.elim
    | .ok .brk, hq => exact hq.elim
    | .ok .cont, hq => exact hq.elim
  exact PE.wk main fun σ H Q => call_dn
end
/-! ### == of deep things -/
def EqL (n : Nat) (S : Sto) (x y : D) (b : Bool) : Prop := ∃ p q, Py S x p ∧ Py S y q ∧ p.canLay0 = true ∧ q.canLay0 = true ∧ p.depth ≤ n ∧ b = PyData.eqv p q
def rEqL (n : Nat) : R22 := fun d e S Q => ∃ b, EqL n S d e b ∧ Q (.bl b) S
section
variable {X : Cx} {K : PySem.W.Frag} {pos : Pos} {a b : Expr} {ta tb : TE2}
theorem op_eqL {n : Nat} (hu : X.A.units + n < cLine) : OpR X (compareOp .Eq) (fun x y H Q => ∃ d e, Dp X.K H x d ∧ Dp X.K H y e ∧ d.canLay0 = true ∧ e.canLay0 = true ∧ d.depth ≤ n ∧ Q (.bl (PyData.eqv d e)) H) := by
  rintro pins s σ H x y v u Q J rx ry ⟨d, e, hd, he, cd, ce, hn, q⟩
  obtain ⟨as, rd1⟩ := Dp.reads J d x v hd rx
  obtain ⟨bs, rd2⟩ := Dp.reads J e y u he ry
  refine SeqAt.compareEq_reads rd1 rd2 cd ce ?_ ⟨.bl _, H, J, rfl, q⟩
  have := Nat.min_le_left d.depth e.depth
  omega
theorem srv_eqL {n : Nat} : Srv K (fun x y H Q => ∃ d e, Dp K H x d ∧ Dp K H y e ∧ d.canLay0 = true ∧ e.canLay0 = true ∧ d.depth ≤ n ∧ Q (.bl (PyData.eqv d e)) H) (rEqL n) := by
  intro d e v u S H Q Q2 rs dv du t k
  obtain ⟨b, ⟨p, q, h1, h2, s1, s2, s3, rfl⟩, t⟩ := t
  exact ⟨p, q, Py.dp rs _ _ _ h1 dv, Py.dp rs _ _ _ h2 du, s1, s2, s3, k _ _ _ _ (.refl H) rs (.bl _) t⟩
theorem q_eqL {n : Nat} (hu : X.A.units + n < cLine) (ha : QE X a ta) (hb : QE X b tb) : QE X (.Compare a [.Eq] [b] pos) (uOp (rEqL n) ta tb) := q_cmp (op_eqL hu) srv_eqL (nomark _) ha hb
/-! ### i << j -/
def rShl : R22
  | .int i, .int j, S, Q => CPow i j ∧ Q (.int (i * 2 ^ j.toNat)) S
  | _, _, _, _ => False
theorem srv_shl : Srv K (rI CPow fun i j => .int (i * 2 ^ j.toNat)) rShl := by
  intro d e v u S H Q Q2 rs dv du t k
  unfold rShl at t
  split at t
  · cases dv; cases du
    exact ⟨_, _, rfl, rfl, t.1, k _ _ _ _ (.refl H) rs (.int _) t.2⟩
  · exact t.elim
theorem q_shl (ha : QE X a ta) (hb : QE X b tb) : QE X (.BinOp a .LShift b pos) (uOp rShl ta tb) := q_op op_shl srv_shl ha hb
end
theorem z_shl {i j : Int} {S : Sto} {Q : VK2} : rShl (.int i) (.int j) S Q = (CPow i j ∧ Q (.int (i * 2 ^ j.toNat)) S) := rfl
/-! ### xs.remove(x) -/
def rRemD (K : PySem.W.Frag) : V → List V → Hp → VK → Prop := fun x xs H Q => ∃ (l : Addr) (y : V) (zs : List V) (d : PyData) (ds : List PyData) (j : Nat) (hj : j < ds.length), x = .ref l ∧ xs = [y] ∧ H l = some (.lst zs) ∧ DpAll K H zs ds ∧ Dp K H y d ∧
  SeqAt.shaped (.list ds) = true ∧ SeqAt.shaped d = true ∧ PyData.eqv ds[j] d = true ∧ (∀ (m : Nat) (hm : m < ds.length), m < j → PyData.eqv ds[m] d = false) ∧ Q .non (upd H l (.lst (zs.eraseIdx j)))
section
variable {X : Cx}
theorem mt_removeD (hu : X.A.units + 65 < cLine) : MtM X "list.remove" (rRemD X.K) := by
  rintro pins s σ H x xs v us Q J rx rxs ⟨l, y, zs, d, ds, j, hj, rfl, rfl, hH, ha, hy, sl, sd, hit, hno, q⟩
  cases rx
  cases rxs with
  | cons ry rt =>
    rename_i uy ut
    cases rt
    obtain ⟨bs, rd⟩ := Dp.reads J d y uy hy ry
    have hxs : PyData.canLayAll0 ds = true := SeqAt.canLay_of_shaped sl
    have hroom : X.A.units + 1 + min (PyData.depthAll ds) d.depth < cLine := room_in_shaped sd hu
    obtain ⟨z, its, n, r, hl, e⟩ := J.lstM hH
    obtain ⟨as, rall⟩ := Dp.readsAll J ds _ its ha r
    have hmap : its.map (SeqAt.readOf s.heap) = ds := SeqAt.readsAll_map ds its as hxs rall
    have hlen : its.length = ds.length := by rw [← hmap, List.length_map]
    have at_ : ∀ (m : Nat) (hm : m < its.toArray.size), SeqAt.readOf s.heap its.toArray[m] = ds[m]'(by rw [List.size_toArray] at hm; omega) := fun m hm => by
      have hm2 : m < its.length := by rw [List.size_toArray] at hm; exact hm
      have e2 : (its.map (SeqAt.readOf s.heap))[m]? = ds[m]? := by rw [hmap]
      rw [List.getElem?_map, List.getElem?_eq_getElem hm2, List.getElem?_eq_getElem (by omega)] at e2
      exact Option.some.inj e2
    have hj2 : j < its.toArray.size := by rw [List.size_toArray]; omega
    refine call_meets PySem.F.slot_list_remove ⟨_, e, rfl⟩ PySem.F.entry_list_remove (PySem.F.args_list_remove_2 _ _)
      (SeqAt.list_removeAt l its.toArray n none #[] uy (fun u => PyData.eqv (SeqAt.readOf s.heap u) d) j hj2 (by show PyData.eqv (SeqAt.readOf s.heap its.toArray[j]) d = true; rw [at_ j hj2]; exact hit) (fun m hm hmj => ?_) (by rw [List.size_toArray]; omega)) ⟨e, SeqAt.items_eqAt (vs := its.toArray) (show ReadsAll s.heap its.toArray.toList ds as from rall) rd hxs (SeqAt.canLay_of_shaped sd) hroom, ?_⟩
    · show PyData.eqv (SeqAt.readOf s.heap its.toArray[m]) d = false
      rw [at_ m hm]
      exact hno m _ hmj
    · refine ⟨.non, _, J.lset (its' := its.eraseIdx j) (t' := s.toks) hH e ?_ (r.eraseIdx j) ?_, rfl, q⟩
      · show its.toArray.eraseIdxIfInBounds j = (its.eraseIdx j).toArray
        rw [List.eraseIdxIfInBounds_toArray]
      · have : (zs.eraseIdx j).length ≤ zs.length := List.length_eraseIdx_le ..
        omega
end
def rRemD2 : RM := fun x ds S Q => match x, ds with
  | .ref a, [d] => ∃ (xs : List D) (p : PyData) (qs : List PyData) (j : Nat) (hj : j < qs.length), S a = some (.lst xs) ∧ Py S d p ∧ Pys S xs qs ∧ SeqAt.shaped p = true ∧ SeqAt.shaped (.list qs) = true ∧ PyData.eqv qs[j] p = true ∧ (∀ (m : Nat) (hm : m < qs.length), m < j → PyData.eqv qs[m] p = false) ∧ Q .non (ups S a (.lst (xs.eraseIdx j)))
  | _, _ => False
section
variable {K : PySem.W.Frag}
theorem srv_removeD : SrvM K "list" (rRemD K) rRemD2 := by
  intro d v ds vs S H Q Q2 rs dv dvs t k
  unfold rRemD2 at t
  split at t
  · obtain ⟨xs, p, qs, j, hj, h, h1, h2, s1, s2, e1, e2, q⟩ := t
    cases dv
    cases dvs with
    | cons d1 d2 =>
      cases d2
      obtain ⟨us, e, r⟩ := rs _ _ h
      refine ⟨_, _, us, p, qs, j, hj, rfl, rfl, e, Pys.dp rs _ _ _ h2 r, Py.dp rs _ _ _ h1 d1, s2, s1, e1, e2, ?_⟩
      have g := good_write (K := K) (u' := .lst (us.eraseIdx j)) e trivial
      exact k _ _ _ _ g (rs.write (o := .lst (xs.eraseIdx j)) e trivial ⟨_, upd_same, Dvs.keep g _ _ (r.eraseIdx j)⟩) .non q
  · exact t.elim
variable {X : Cx} {k : Nat} {o e : Expr} {to : TE2} {t : TA2} {apos cpos : Pos}
theorem q_removeD (hr : Room k X.A) (ho : QE X o to) (ha : QA X [e] t) (hbase : attributeBase o "remove" X.env (eval o X.env) = eval o X.env := by rfl)
    (hfew : ((backTo cpos (starEach (e :: []) X.env)).all (fun x => !x.1) && (backToKw cpos (keywordEach [] X.env)).all (fun x => x.1.isSome) && decide ((e :: []).length + ([] : List Keyword).length + (if ([] : List Keyword).isEmpty then 0 else 1) < 30)) = true := by rfl)
    (hline : (apos.endLine == cpos.line) = true := by rfl) (hs : starEach (e :: []) X.env = (false, eval e X.env) :: starEach [] X.env := by rfl) (hplain : (backTo cpos (starEach [] X.env)).any (·.1) = false := by rfl) :
    QE X (.Call (.Attribute o "remove" apos) [e] [] cpos) (uBM isL rRemD2 to t) := q_bm PySem.F.plainAttrs_list PySem.F.slot_list_remove PySem.F.type_list_remove (mt_removeD (Room.u65 hr)) srv_removeD isL_ty ho ha hbase hfew hline hs hplain
end
theorem remD_of {α : Type} [DecidableEq α] [Enc α] {S : Sto} {Q : VK2} {a : Addr} {xs : List α} {x : α} (h : S a = some (.lst (xs.map Enc.enc))) (hm : x ∈ xs) (q : Q .non (ups S a (.lst ((xs.erase x).map Enc.enc)))) (hd : Enc.dep α + 1 ≤ 64 := by decide) : rRemD2 (.ref a) [Enc.enc x] S Q := by
  have key : ∃ (j : Nat) (hj : j < xs.length), xs[j] = x ∧ (∀ (m : Nat) (hm : m < xs.length), m < j → xs[m] ≠ x) ∧ xs.eraseIdx j = xs.erase x := by
    clear h q
    induction xs with
    | nil => cases hm
    | cons y ys ih =>
      by_cases e : y = x
      · subst e
        exact ⟨0, by simp, rfl, fun m _ z => absurd z (Nat.not_lt_zero _), by simp⟩
      · have hm2 : x ∈ ys := by
          rcases List.mem_cons.mp hm with z | z
          · exact absurd z.symm e
          · exact z
        obtain ⟨j, hj, e1, e2, e3⟩ := ih hm2
        refine ⟨j + 1, by rw [List.length_cons]; omega, by simpa using e1, fun m hm hmj => ?_, ?_⟩
        · cases m with
          | zero => simpa using e
          | succ m => simpa using e2 m (by rw [List.length_cons] at hm; omega) (by omega)
        · rw [List.eraseIdx_cons_succ, e3, List.erase_cons_tail]
          simpa using e
  obtain ⟨j, hj, e1, e2, e3⟩ := key
  refine ⟨xs.map Enc.enc, Enc.py x, xs.map Enc.py, j, by rw [List.length_map]; exact hj, h, Enc.isPy S x, pys_enc xs, shaped_of (Enc.lay x) (Nat.le_trans (Enc.dep_le x) (by omega)), shaped_list xs hd, ?_, fun m hm hmj => ?_, ?_⟩
  · rw [List.getElem_map, Enc.eqv, e1]
    exact decide_eq_true rfl
  · rw [List.getElem_map, Enc.eqv]
    rw [List.length_map] at hm
    exact decide_eq_false (e2 m hm hmj)
  · rw [show (xs.map Enc.enc).eraseIdx j = (xs.erase x).map Enc.enc by rw [← e3, erase_map]]
    exact q
end DL
namespace Claim
open PySem PySem.Spec PyProof.Rows L2 DL
local macro_rules | `(tactic| walk_at "d") => `(tactic| try simp only [DL.z_shl, DL.uDNewN, DL.uMethX, DL.uInT, DL.z_inT, DL.z_tOf1, DL.z_tOf2, DL.z_wT1, DL.keysOf_two, DL.uDPopN, DL.vDSubN, DL.z_ltT2, DL.uDLit, DL.uSlV, DL.uKGet, DL.uKGet2, DL.z_kg2, DL.z_remove, DL.uM1, DL.z_tupL, DL.uFld, DL.uSFld, DL.uMeth, DL.uMake, DL.z_fld, DL.z_sf, DL.z_mth, DL.z_insK, DL.putD, DL.vSl, DL.z_vSl, DL.uDNewT, DL.uDIxT, DL.vDSubT, DL.uItDT, DL.uLockST, DL.z_dxT, DL.z_dstT, DL.z_indexC, DL.z_mulS, DL.uItS, DL.z_str1, DL.z_intS, DL.z_join, DL.z_split, DL.z_part, DL.z_inC, DL.z_notinC, DL.z_itS, DL.z_isSs, DL.uIsiS, DL.uCallX, DL.uIsE, DL.uFldE, DL.uRaise, DL.uRaiseO, DL.isE_non, DL.isE_exc, DL.fldE_exc, DL.isNon_exc, DL.uSeq, DL.uSet, DL.uRet, DL.uRetN, DL.uIf, DL.uTest, DL.uOp, DL.uVar, DL.uC, DL.uCons, DL.uNil, DL.uTup, DL.uLst, DL.uCall, DL.uCB, DL.uIxk, DL.nthQ, DL.uNext, DL.uDrop, DL.uAsg, DL.uPar, DL.uAnd, DL.uOr, DL.uNot, DL.uAndV, DL.uOrV, DL.uNotV, DL.uIsi, DL.uNeg, DL.uFgt, DL.uFgtT, DL.vName, DL.vCons, DL.vNil, DL.vTup, DL.vSub, DL.uBM, DL.uChain, DL.uNever, DL.cnd_not, DL.ups_same, DL.ups_ups, DL.vSubk, DL.uIt, DL.uRng1, DL.uRng2, DL.uEnum, DL.uZip, DL.uSlL, DL.uNoPart, DL.uPart, DL.uBreak, DL.uCont, DL.uYes, DL.uFor, DL.uLoop, DL.uLc, DL.wipe2, DL.stayT, DL.z_getO, DL.z_onS, DL.z_addI, DL.z_addS, DL.z_addL, DL.z_addT, DL.z_sortedP, DL.z_mulL, DL.enc_nat, DL.enc_int, DL.enc_bl, DL.enc_rat, DL.enc_opt, DL.cut3_2, DL.isNon_eTO, DL.eTO_none, DL.eTO_some, Option.isNone_none, Option.isNone_some, DL.z_slT, DL.z_slS, DL.z_slR, DL.z_slF, DL.uSlG, DL.z_sub, DL.z_mul, DL.z_mod, DL.z_fdiv, DL.z_pow, DL.z_lt, DL.z_le, DL.z_gt, DL.z_ge, DL.z_isN, DL.z_isB, DL.z_isnN, DL.z_isnB, DL.uSlK, DL.uRevL, DL.uLenSetI, DL.uLenSetT, DL.z_succ, Int.ofNat_lt, DL.uDNew, DL.uDGet1, DL.uDPop1, DL.vDSub, DL.uListRg, DL.z_dOf1, DL.z_dOf2, DL.z_wOf, DL.z_keyI, DL.z_dix, DL.z_dictOf, DL.z_neE, DL.z_setD, DL.z_isDc, DL.z_exs, DL.uItD, DL.uLockS, DL.zs_jj, DL.zs_lj, DL.zs_tj, DL.zs_ll, DL.zs_tl, DL.dget_eM, DL.ddrop_eM, Option.getD_some, Option.getD_none, Option.map_some, Option.map_none, Function.comp_apply, DL.eDd_1, DL.zs_never, DL.zs_always, DL.zs_at, DL.z_nonN, DL.z_nonI, DL.z_nonB, DL.z_nonS, DL.z_nonT, DL.z_nonR, DL.z_nonF, DL.z_eqI, DL.z_eqB, DL.z_eqS, DL.z_neI, DL.z_neB, DL.z_neS, DL.z_eqQ, DL.z_neQ, DL.z_neMt, DL.z_eqLL, DL.z_neLL, DL.z_eqO, DL.z_neO, DL.z_eqQN, DL.z_neQN, DL.z_eqOQ, DL.z_neOQ, DL.z_eqON, DL.z_eqNN', DL.z_neNN', DL.z_eqNQ, DL.z_neNQ, DL.z_eqNO, DL.z_neNO, DL.z_eqQO, DL.z_neQO, DL.z_oL, DL.z_listOfR, DL.cutD_map, DL.cutG_1, DL.isNon_eCv, DL.z_neCv, List.drop_succ_cons, List.drop_zero, DL.z_neON, DL.isNon_eO, eq_self, DL.eO_none, DL.eO_some, Int.toNat_natCast, DL.z_ixT, DL.z_ixF, DL.z_ixR, DL.z_ixS, DL.z_ixg, DL.z_igT, DL.z_igF, DL.z_igR, DL.z_igS, DL.z_lenS, DL.z_lenT, DL.z_lenF, DL.z_lenR, DL.z_abs, DL.z_max, DL.z_min, DL.z_intI, DL.z_intB, DL.z_listT, DL.z_listF, DL.z_listR, DL.z_tupT, DL.z_tupF, DL.z_tupR, DL.z_any, DL.z_all, DL.z_sorted, DL.z_tyN, DL.z_tyB, DL.z_tyI, DL.z_tyS, DL.z_tyT, DL.z_tyF, DL.z_tyR, DL.z_tyL, DL.z_tyD, DL.z_isiII, DL.z_isiBI, DL.z_isiBB, DL.z_isiIB, DL.z_isiTT, DL.z_isiLL, DL.z_isiSS, DL.z_isiNI, DL.z_isiNB, DL.z_isiNT, DL.z_isiNL, DL.z_cndT, DL.z_cndF, DL.z_app, DL.z_ins, DL.z_pop0, DL.z_popAt, DL.z_rev, DL.z_clear, DL.z_setQ, DL.z_setkQ, DL.z_isLR, DL.z_isLF, DL.z_listOfF, DL.z_itR, DL.z_itF, DL.z_itT, DL.z_rng1, DL.z_rng2, DL.z_enum, DL.z_zip, List.getElem?_cons_zero, List.getElem?_cons_succ, List.set_cons_zero, List.set_cons_succ, List.length_cons, List.length_nil, List.length_map, Nat.reduceAdd, Nat.reduceLT, Nat.reduceLeDiff, Int.reduceToNat, Int.reducePow, Int.reduceLE, Int.reduceLT, Nat.reducePow, Int.reduceNeg, ne_eq, Int.reduceEq, not_false_eq_true, and_self, Int.reduceMul, Int.reduceAdd, Int.reduceSub, decide_true, decide_false, List.length_map, true_and, Bool.not_true, Bool.not_false, Bool.true_and, Bool.and_true])
local macro_rules | `(tactic| walk_at "f") => `(tactic| try simp only [*, DL.ups_ne, DL.atL, DL.atQ, DL.z_shl, DL.uDNewN, DL.uMethX, DL.uInT, DL.z_inT, DL.z_tOf1, DL.z_tOf2, DL.z_wT1, DL.keysOf_two, DL.uDPopN, DL.vDSubN, DL.z_ltT2, DL.uDLit, DL.uSlV, DL.uKGet, DL.uKGet2, DL.z_kg2, DL.z_remove, DL.uM1, DL.z_tupL, DL.uFld, DL.uSFld, DL.uMeth, DL.uMake, DL.z_fld, DL.z_sf, DL.z_mth, DL.z_insK, DL.putD, DL.vSl, DL.z_vSl, DL.uDNewT, DL.uDIxT, DL.vDSubT, DL.uItDT, DL.uLockST, DL.z_dxT, DL.z_dstT, DL.z_indexC, DL.z_mulS, DL.uItS, DL.z_str1, DL.z_intS, DL.z_join, DL.z_split, DL.z_part, DL.z_inC, DL.z_notinC, DL.z_itS, DL.z_isSs, DL.uIsiS, DL.uCallX, DL.uIsE, DL.uFldE, DL.uRaise, DL.uRaiseO, DL.isE_non, DL.isE_exc, DL.fldE_exc, DL.isNon_exc, DL.uSeq, DL.uSet, DL.uRet, DL.uRetN, DL.uIf, DL.uTest, DL.uOp, DL.uVar, DL.uC, DL.uCons, DL.uNil, DL.uTup, DL.uLst, DL.uCall, DL.uCB, DL.uIxk, DL.nthQ, DL.uNext, DL.uDrop, DL.uAsg, DL.uPar, DL.uAnd, DL.uOr, DL.uNot, DL.uAndV, DL.uOrV, DL.uNotV, DL.uIsi, DL.uNeg, DL.uFgt, DL.uFgtT, DL.vName, DL.vCons, DL.vNil, DL.vTup, DL.vSub, DL.uBM, DL.uChain, DL.uNever, DL.cnd_not, DL.ups_same, DL.ups_ups, DL.vSubk, DL.uIt, DL.uRng1, DL.uRng2, DL.uEnum, DL.uZip, DL.uSlL, DL.uNoPart, DL.uPart, DL.uBreak, DL.uCont, DL.uYes, DL.uFor, DL.uLoop, DL.uLc, DL.wipe2, DL.stayT, DL.z_getO, DL.z_onS, DL.z_addI, DL.z_addS, DL.z_addL, DL.z_addT, DL.z_sortedP, DL.z_mulL, DL.enc_nat, DL.enc_int, DL.enc_bl, DL.enc_rat, DL.enc_opt, DL.cut3_2, DL.isNon_eTO, DL.eTO_none, DL.eTO_some, Option.isNone_none, Option.isNone_some, DL.z_slT, DL.z_slS, DL.z_slR, DL.z_slF, DL.uSlG, DL.z_sub, DL.z_mul, DL.z_mod, DL.z_fdiv, DL.z_pow, DL.z_lt, DL.z_le, DL.z_gt, DL.z_ge, DL.z_isN, DL.z_isB, DL.z_isnN, DL.z_isnB, DL.uSlK, DL.uRevL, DL.uLenSetI, DL.uLenSetT, DL.z_succ, Int.ofNat_lt, DL.uDNew, DL.uDGet1, DL.uDPop1, DL.vDSub, DL.uListRg, DL.z_dOf1, DL.z_dOf2, DL.z_wOf, DL.z_keyI, DL.z_dix, DL.z_dictOf, DL.z_neE, DL.z_setD, DL.z_isDc, DL.z_exs, DL.uItD, DL.uLockS, DL.zs_jj, DL.zs_lj, DL.zs_tj, DL.zs_ll, DL.zs_tl, DL.dget_eM, DL.ddrop_eM, Option.getD_some, Option.getD_none, Option.map_some, Option.map_none, Function.comp_apply, DL.eDd_1, DL.zs_never, DL.zs_always, DL.zs_at, DL.z_nonN, DL.z_nonI, DL.z_nonB, DL.z_nonS, DL.z_nonT, DL.z_nonR, DL.z_nonF, DL.z_eqI, DL.z_eqB, DL.z_eqS, DL.z_neI, DL.z_neB, DL.z_neS, DL.z_eqQ, DL.z_neQ, DL.z_neMt, DL.z_eqLL, DL.z_neLL, DL.z_eqO, DL.z_neO, DL.z_eqQN, DL.z_neQN, DL.z_eqOQ, DL.z_neOQ, DL.z_eqON, DL.z_eqNN', DL.z_neNN', DL.z_eqNQ, DL.z_neNQ, DL.z_eqNO, DL.z_neNO, DL.z_eqQO, DL.z_neQO, DL.z_oL, DL.z_listOfR, DL.cutD_map, DL.cutG_1, DL.isNon_eCv, DL.z_neCv, List.drop_succ_cons, List.drop_zero, DL.z_neON, DL.isNon_eO, eq_self, DL.eO_none, DL.eO_some, Int.toNat_natCast, DL.z_ixT, DL.z_ixF, DL.z_ixR, DL.z_ixS, DL.z_ixg, DL.z_igT, DL.z_igF, DL.z_igR, DL.z_igS, DL.z_lenS, DL.z_lenT, DL.z_lenF, DL.z_lenR, DL.z_abs, DL.z_max, DL.z_min, DL.z_intI, DL.z_intB, DL.z_listT, DL.z_listF, DL.z_listR, DL.z_tupT, DL.z_tupF, DL.z_tupR, DL.z_any, DL.z_all, DL.z_sorted, DL.z_tyN, DL.z_tyB, DL.z_tyI, DL.z_tyS, DL.z_tyT, DL.z_tyF, DL.z_tyR, DL.z_tyL, DL.z_tyD, DL.z_isiII, DL.z_isiBI, DL.z_isiBB, DL.z_isiIB, DL.z_isiTT, DL.z_isiLL, DL.z_isiSS, DL.z_isiNI, DL.z_isiNB, DL.z_isiNT, DL.z_isiNL, DL.z_cndT, DL.z_cndF, DL.z_app, DL.z_ins, DL.z_pop0, DL.z_popAt, DL.z_rev, DL.z_clear, DL.z_setQ, DL.z_setkQ, DL.z_isLR, DL.z_isLF, DL.z_listOfF, DL.z_itR, DL.z_itF, DL.z_itT, DL.z_rng1, DL.z_rng2, DL.z_enum, DL.z_zip, List.getElem?_cons_zero, List.getElem?_cons_succ, List.set_cons_zero, List.set_cons_succ, List.length_cons, List.length_nil, List.length_map, Nat.reduceAdd, Nat.reduceLT, Nat.reduceLeDiff, Int.reduceToNat, Int.reducePow, Int.reduceLE, Int.reduceLT, Nat.reducePow, Int.reduceNeg, ne_eq, Int.reduceEq, not_false_eq_true, and_self, Int.reduceMul, Int.reduceAdd, Int.reduceSub, decide_true, decide_false, List.length_map, true_and, Bool.not_true, Bool.not_false, Bool.true_and, Bool.and_true])
def topS (i : Nat) : Stmt := PySem.Challenge.pw_leadtimes_k23_shapes_of_waiting.main.body.getD i (.Pass ⟨0, 0, 0, 0⟩)
abbrev kWaiting : Kls := ⟨"Waiting", ["tree", "kept"]⟩
abbrev s_Waiting___init__ : Stmt := inClass (topS 11) 0
abbrev N_Waiting___init__ : List Str := ["self"]
theorem sc_Waiting___init__ : FnScope N_Waiting___init__ ["self"] (defScope s_Waiting___init__) := ⟨rfl, rfl, rfl, by decide +kernel, rfl, by decide +kernel, by decide +kernel⟩
abbrev s_Waiting_first : Stmt := inClass (topS 11) 3
abbrev N_Waiting_first : List Str := ["self"]
theorem sc_Waiting_first : FnScope N_Waiting_first ["self"] (defScope s_Waiting_first) := ⟨rfl, rfl, rfl, by decide +kernel, rfl, by decide +kernel, by decide +kernel⟩
abbrev s_is_less : Stmt := topS 4
abbrev N_is_less : List Str := ["a", "b"]
theorem sc_is_less : FnScope N_is_less ["a", "b"] (defScope s_is_less) := ⟨rfl, rfl, rfl, by decide +kernel, rfl, by decide +kernel, by decide +kernel⟩
abbrev s_comes_ahead : Stmt := topS 6
abbrev N_comes_ahead : List Str := ["pair", "other"]
theorem sc_comes_ahead : FnScope N_comes_ahead ["pair", "other"] (defScope s_comes_ahead) := ⟨rfl, rfl, rfl, by decide +kernel, rfl, by decide +kernel, by decide +kernel⟩
abbrev s_right_way : Stmt := topS 7
abbrev N_right_way : List Str := ["shape"]
theorem sc_right_way : FnScope N_right_way ["shape"] (defScope s_right_way) := ⟨rfl, rfl, rfl, by decide +kernel, rfl, by decide +kernel, by decide +kernel⟩
abbrev s_laid : Stmt := topS 8
abbrev N_laid : List Str := ["pair", "one", "other"]
theorem sc_laid : FnScope N_laid ["pair", "one", "other"] (defScope s_laid) := ⟨rfl, rfl, rfl, by decide +kernel, rfl, by decide +kernel, by decide +kernel⟩
abbrev s_merged : Stmt := topS 9
abbrev N_merged : List Str := ["one", "other"]
theorem sc_merged : FnScope N_merged ["one", "other"] (defScope s_merged) := ⟨rfl, rfl, rfl, by decide +kernel, rfl, by decide +kernel, by decide +kernel⟩
abbrev s_Waiting_put : Stmt := inClass (topS 11) 1
abbrev N_Waiting_put : List Str := ["self", "time", "key"]
theorem sc_Waiting_put : FnScope N_Waiting_put ["self", "time", "key"] (defScope s_Waiting_put) := ⟨rfl, rfl, rfl, by decide +kernel, rfl, by decide +kernel, by decide +kernel⟩
abbrev s_Waiting_shape : Stmt := inClass (topS 11) 6
abbrev N_Waiting_shape : List Str := ["self"]
theorem sc_Waiting_shape : FnScope N_Waiting_shape ["self"] (defScope s_Waiting_shape) := ⟨rfl, rfl, rfl, by decide +kernel, rfl, by decide +kernel, by decide +kernel⟩
abbrev s_without : Stmt := topS 10
abbrev N_without : List Str := ["shape", "pair"]
theorem sc_without : FnScope N_without ["shape", "pair"] (defScope s_without) := ⟨rfl, rfl, rfl, by decide +kernel, rfl, by decide +kernel, by decide +kernel⟩
abbrev s_Waiting_take : Stmt := inClass (topS 11) 2
abbrev N_Waiting_take : List Str := ["self", "time", "key"]
theorem sc_Waiting_take : FnScope N_Waiting_take ["self", "time", "key"] (defScope s_Waiting_take) := ⟨rfl, rfl, rfl, by decide +kernel, rfl, by decide +kernel, by decide +kernel⟩
abbrev s_l_before : Stmt := topS 16
abbrev N_l_before : List Str := ["_law_pair", "_law_other", "_law_here", "_law_there"]
theorem sc_l_before : FnScope N_l_before ["_law_pair", "_law_other"] (defScope s_l_before) := ⟨rfl, rfl, rfl, by decide +kernel, rfl, by decide +kernel, by decide +kernel⟩
abbrev s_l_least : Stmt := topS 20
abbrev N_l_least : List Str := ["_law_kept", "_law_found", "_law_pair"]
theorem sc_l_least : FnScope N_l_least ["_law_kept"] (defScope s_l_least) := ⟨rfl, rfl, rfl, by decide +kernel, rfl, by decide +kernel, by decide +kernel⟩
abbrev s_l_pen : Stmt := topS 13
abbrev N_l_pen : List Str := ["_law_script", "_law_k", "_law_cell"]
theorem sc_l_pen : FnScope N_l_pen ["_law_script", "_law_k"] (defScope s_l_pen) := ⟨rfl, rfl, rfl, by decide +kernel, rfl, by decide +kernel, by decide +kernel⟩
abbrev s_l_is_pair : Stmt := topS 17
abbrev N_l_is_pair : List Str := ["_law_thing", "_law_part"]
theorem sc_l_is_pair : FnScope N_l_is_pair ["_law_thing"] (defScope s_l_is_pair) := ⟨rfl, rfl, rfl, by decide +kernel, rfl, by decide +kernel, by decide +kernel⟩
abbrev s_l_gone_through : Stmt := topS 18
abbrev N_l_gone_through : List Str := ["_law_tree", "_law_one", "_law_other", "_law_part", "_law_beneath"]
theorem sc_l_gone_through : FnScope N_l_gone_through ["_law_tree"] (defScope s_l_gone_through) := ⟨rfl, rfl, rfl, by decide +kernel, rfl, by decide +kernel, by decide +kernel⟩
abbrev s_l_right : Stmt := topS 19
abbrev N_l_right : List Str := ["_law_wait", "_law_kept", "_law_found"]
theorem sc_l_right : FnScope N_l_right ["_law_wait", "_law_kept"] (defScope s_l_right) := ⟨rfl, rfl, rfl, by decide +kernel, rfl, by decide +kernel, by decide +kernel⟩
abbrev s_l_take : Stmt := topS 14
abbrev N_l_take : List Str := ["_law_pen_here", "_law_many", "_law_digit", "_law_number"]
theorem sc_l_take : FnScope N_l_take ["_law_pen_here", "_law_many"] (defScope s_l_take) := ⟨rfl, rfl, rfl, by decide +kernel, rfl, by decide +kernel, by decide +kernel⟩
abbrev s_l_lowest : Stmt := topS 15
abbrev N_l_lowest : List Str := ["_law_top", "_law_bottom", "_law_one", "_law_other"]
theorem sc_l_lowest : FnScope N_l_lowest ["_law_top", "_law_bottom"] (defScope s_l_lowest) := ⟨rfl, rfl, rfl, by decide +kernel, rfl, by decide +kernel, by decide +kernel⟩
abbrev s_l_time : Stmt := topS 21
abbrev N_l_time : List Str := ["_law_pen_here", "_law_way", "_law_turn"]
theorem sc_l_time : FnScope N_l_time ["_law_pen_here", "_law_way", "_law_turn"] (defScope s_l_time) := ⟨rfl, rfl, rfl, by decide +kernel, rfl, by decide +kernel, by decide +kernel⟩
abbrev s_law : Stmt := topS 22
abbrev N_law : List Str := ["_law_script", "_law_pen_here", "_law_wait", "_law_way", "_law_often", "_law_most", "_law_kept", "_law_turn", "_law_pair", "_law_gone", "_law_found"]
theorem sc_law : FnScope N_law ["_law_script"] (defScope s_law) := ⟨rfl, rfl, rfl, by decide +kernel, rfl, by decide +kernel, by decide +kernel⟩
structure Txt (K : PySem.W.Frag) (mg : Str → Option Value) : Prop where
  b_abs : mg "abs" = none
  b_int : mg "int" = none
  b_isinstance : mg "isinstance" = none
  b_len : mg "len" = none
  b_range : mg "range" = none
  b_sorted : mg "sorted" = none
  b_tuple : mg "tuple" = none
  kl_Waiting : KlOk K kWaiting
  mk_Waiting : MkAt K mg kWaiting
  f_Waiting___init__ : MetAt K "Waiting" "__init__" "Waiting.__init__" s_Waiting___init__ ["self"]
  f_Waiting_first : MetAt K "Waiting" "first" "Waiting.first" s_Waiting_first ["self"]
  f_is_less : FunAt K mg "is_less" s_is_less ["a", "b"]
  f_comes_ahead : FunAt K mg "comes_ahead" s_comes_ahead ["pair", "other"]
  f_right_way : FunAt K mg "right_way" s_right_way ["shape"]
  f_laid : FunAt K mg "laid" s_laid ["pair", "one", "other"]
  f_merged : FunAt K mg "merged" s_merged ["one", "other"]
  f_Waiting_put : MetAt K "Waiting" "put" "Waiting.put" s_Waiting_put ["self", "time", "key"]
  f_Waiting_shape : MetAt K "Waiting" "shape" "Waiting.shape" s_Waiting_shape ["self"]
  f_without : FunAt K mg "without" s_without ["shape", "pair"]
  f_Waiting_take : MetAt K "Waiting" "take" "Waiting.take" s_Waiting_take ["self", "time", "key"]
  f_l_before : FunAt K mg "_law_before" s_l_before ["_law_pair", "_law_other"]
  f_l_least : FunAt K mg "_law_least" s_l_least ["_law_kept"]
  f_l_pen : FunAt K mg "_law_pen" s_l_pen ["_law_script", "_law_k"]
  f_l_is_pair : FunAt K mg "_law_is_pair" s_l_is_pair ["_law_thing"]
  f_l_gone_through : FunAt K mg "_law_gone_through" s_l_gone_through ["_law_tree"]
  f_l_right : FunAt K mg "_law_right" s_l_right ["_law_wait", "_law_kept"]
  f_l_take : FunAt K mg "_law_take" s_l_take ["_law_pen_here", "_law_many"]
  f_l_lowest : FunAt K mg "_law_lowest" s_l_lowest ["_law_top", "_law_bottom"]
  f_l_time : FunAt K mg "_law_time" s_l_time ["_law_pen_here", "_law_way", "_law_turn"]
  f_law : FunAt K mg "law" s_law ["_law_script"]
section
variable {P : Program} {w : World} {K : PySem.W.Frag} {mg : Str → Option Value} {base : Heap}
def sp_Waiting___init__ : Sp2 := fun ds S Q _ => ∃ w : Addr, ds = [.ref w] ∧ S w = some (.ins kWaiting []) ∧ ∀ d S', S d = none → Fr S S' w → WtAt kWaiting S' w d .nil [] → Q .non S'
theorem st_Waiting___init__ (x0 : DL.D) : start2 N_Waiting___init__ [x0] = [some x0] := rfl
set_option maxHeartbeats 8000000 in
theorem ok_Waiting___init__ (T : Txt K mg) : FnM P w K mg base 1 kWaiting "__init__" sp_Waiting___init__ := by
  refine fnM_intro T.f_Waiting___init__ sc_Waiting___init__ (fun ds S Q E h => ?_) (fun cdv A outer s H E f hr => ⟨_, (ss_cons (s_fld kWaiting 0 T.kl_Waiting rfl (by decide) (by decide) (qv 0 (pv 0)) q_non)
 (ss_one (s_fld kWaiting 1 T.kl_Waiting rfl (by decide) (by decide) (qv 0 (pv 0)) q_dnewN))), fun ds S Q E h => ?_⟩)
  · obtain ⟨_, rfl, _⟩ := h
    rfl
  · obtain ⟨w, rfl, hw, q⟩ := h
    rw [st_Waiting___init__]
    walk_at "f"
    intro d nd
    obtain ⟨dw, nd1⟩ := ups_no nd
    rw [ups_ne dw.symm, ups_same]
    walk_at "d"
    refine ⟨_, .refl _, q d _ nd1 (fun b o hb e => ?_) ⟨ups_same, ?_⟩⟩
    · rw [ups_ne hb, ups_ne (ne_of_st e nd1), ups_ne hb]
      exact e
    · rw [ups_ne dw, ups_same]
def sp_Waiting_first : Sp2 := fun ds S Q _ => ∃ (w d : Addr) (sh : Sh) (ks : List PK), ds = [.ref w] ∧ WtAt kWaiting S w d sh ks ∧ Q (fstD sh) S
theorem st_Waiting_first (x0 : DL.D) : start2 N_Waiting_first [x0] = [some x0] := rfl
set_option maxHeartbeats 8000000 in
theorem ok_Waiting_first (T : Txt K mg) : FnM P w K mg base 1 kWaiting "first" sp_Waiting_first := by
  refine fnM_intro T.f_Waiting_first sc_Waiting_first (fun ds S Q E h => ?_) (fun cdv A outer s H E f hr => ⟨_, (ss_cons (s_if (t_is (q_fld kWaiting 0 T.kl_Waiting rfl (by decide) (qv 0 (pv 0))) q_non)
 (ss_one (s_ret q_non))
 ss_nil)
 (ss_one (s_ret (q_ixk 0 (q_fld kWaiting 0 T.kl_Waiting rfl (by decide) (qv 0 (pv 0))))))), fun ds S Q E h => ?_⟩)
  · obtain ⟨_, _, _, _, rfl, _⟩ := h
    rfl
  · obtain ⟨w, d, sh, ks, rfl, h, q⟩ := h
    have hob := h.ob
    rw [st_Waiting_first]
    cases sh with
    | nil =>
      rw [show eSh .nil = DL.D.non from rfl] at hob
      walk_at "f"
      exact ⟨_, .refl _, q⟩
    | node p l r =>
      rw [show eSh (.node p l r) = DL.D.tup [eWp p, eSh l, eSh r] from rfl] at hob
      walk_at "f"
      exact ⟨_, .refl _, q⟩
def sp_is_less : Sp2 := fun ds S Q _ => ∃ a b : Rat, ds = [eQ a, eQ b] ∧ Nz 9000 a ∧ Nz 9000 b ∧ Q (.bl (decide (a < b))) S
theorem st_is_less (x0 x1 : DL.D) : start2 N_is_less [x0, x1] = [some x0, some x1] := rfl
set_option maxHeartbeats 8000000 in
theorem ok_is_less (T : Txt K mg) : Fn P w K mg base 1 "is_less" sp_is_less := by
  refine fn_intro2 T.f_is_less sc_is_less (fun ds S Q E h => ?_) (fun cdv A outer s H E f hr => ⟨_, (ss_one (s_ret (q_lt (q_mul (q_ixk 0 (qv 0 (pv 0))) (q_ixk 1 (qv 1 (pv 1)))) (q_mul (q_ixk 0 (qv 1 (pv 1))) (q_ixk 1 (qv 0 (pv 0))))))), fun ds S Q E h => ?_⟩)
  · obtain ⟨a, b, rfl, _⟩ := h
    rfl
  · obtain ⟨a, b, rfl, ha, hb, q⟩ := h
    rw [st_is_less]
    walk_at "d"
    refine ⟨.inl ⟨_, _, ha.1, hb.2, by decide⟩, .inl ⟨_, _, hb.1, ha.2, by decide⟩, ?_⟩
    rw [lt_quo]
    exact ⟨S, .refl S, q⟩
def sp_comes_ahead : Sp2 := fun ds S Q _ => ∃ p q : Wp, ds = [eWp p, eWp q] ∧ Nz 4000 p.1 ∧ Nz 4000 q.1 ∧ Q (.bl (decide (prLt p q))) S
theorem st_comes_ahead (x0 x1 : DL.D) : start2 N_comes_ahead [x0, x1] = [some x0, some x1] := rfl
set_option maxHeartbeats 8000000 in
theorem ok_comes_ahead (T : Txt K mg) : Fn P w K mg base 2 "comes_ahead" sp_comes_ahead := by
  refine fn_intro2 T.f_comes_ahead sc_comes_ahead (fun ds S Q E h => ?_) (fun cdv A outer s H E f hr => ⟨_, (ss_cons (s_if (t_ne hr (q_ixk 0 (qv 0 (pv 0))) (q_ixk 0 (qv 1 (pv 1))))
 (ss_one (s_ret (q_call (ok_is_less T) (hr.mono (by decide)) (by rfl) (a_cons (q_ixk 0 (qv 0 (pv 0))) (a_cons (q_ixk 0 (qv 1 (pv 1))) a_nil)))))
 ss_nil)
 (ss_one (s_ret (q_ltT hr (q_ixk 1 (qv 0 (pv 0))) (q_ixk 1 (qv 1 (pv 1))))))), fun ds S Q E h => ?_⟩)
  · obtain ⟨_, _, rfl, _⟩ := h
    rfl
  · obtain ⟨⟨a, b, c⟩, ⟨d, e, f⟩, rfl, hp, hq, k⟩ := h
    rw [st_comes_ahead]
    unfold eWp
    dsimp only at *
    walk_at "d"
    refine cnd_dec (fun h => ?_) (fun h => ?_)
    · have e1 : decide (prLt (a, b, c) (d, e, f)) = decide (b < e ∨ (b = e ∧ c < f)) := decide_eq_decide.mpr ⟨fun z => by
        rcases z with z | z
        · exact absurd z (by rw [show a = d from h]; exact Rat.lt_irrefl)
        · exact z.2, fun z => .inr ⟨h, z⟩⟩
      rw [e1] at k
      walk_at "d"
      exact ⟨S, .refl S, k⟩
    · have e1 : decide (prLt (a, b, c) (d, e, f)) = decide (a < d) := decide_eq_decide.mpr ⟨fun z => by
        rcases z with z | z
        · exact z
        · exact absurd z.1 h, fun z => .inl z⟩
      rw [e1] at k
      refine ⟨a, d, rfl, hp.le (by decide), hq.le (by decide), S, .refl S, k⟩
def sp_right_way (n : Nat) : Sp2 := fun ds S Q _ => ∃ s : Sh, ds = [eSh s] ∧ s.rw ≤ n ∧ Q (.int (s.rw : Nat)) S
theorem st_right_way (x0 : DL.D) : start2 N_right_way [x0] = [some x0] := rfl
set_option maxHeartbeats 8000000 in
theorem step_right_way (T : Txt K mg) (n : Nat) (R : Fn P w K mg base (n + 0) "right_way" (prevSp sp_right_way n)) : Fn P w K mg base (n + 1) "right_way" (sp_right_way n) := by
  refine fn_intro2 (k := n + 0) T.f_right_way sc_right_way (fun ds S Q E h => ?_) (fun cdv A outer s H E f hr => ⟨_, (ss_cons (s_if (t_is (qv 0 (pv 0)) q_non)
 (ss_one (s_ret q_int))
 ss_nil)
 (ss_one (s_ret (q_add q_int (q_call R hr (by rfl) (a_cons (q_ixk 2 (qv 0 (pv 0))) a_nil)))))), fun ds S Q E h => ?_⟩)
  · obtain ⟨_, rfl, _⟩ := h
    rfl
  · obtain ⟨s, rfl, hn, q⟩ := h
    rw [st_right_way]
    cases s with
    | nil =>
      rw [show eSh .nil = DL.D.non from rfl]
      walk_at "d"
      exact ⟨S, .refl S, q⟩
    | node p l r =>
      rw [show eSh (.node p l r) = DL.D.tup [eWp p, eSh l, eSh r] from rfl]
      have e1 : Sh.rw (.node p l r) = 1 + r.rw := rfl
      rw [e1] at q hn
      walk_at "d"
      obtain ⟨n, rfl⟩ : ∃ m, n = m + 1 := ⟨n - 1, by omega⟩
      refine ⟨r, rfl, by omega, ?_⟩
      walk_at "d"
      exact ⟨S, .refl S, by rw [show (1 : Int) + (r.rw : Nat) = ((1 + r.rw : Nat) : Int) by omega]; exact q⟩
theorem ok_right_way (T : Txt K mg) : ∀ n : Nat, Fn P w K mg base (n + 1) "right_way" (sp_right_way n)
  | 0 => step_right_way T 0 (Fn.vac T.f_right_way)
  | n + 1 => step_right_way T (n + 1) ((ok_right_way T n).mono (by omega))
def sp_laid : Sp2 := fun ds S Q _ => ∃ (p : Wp) (a b : Sh), ds = [eWp p, eSh a, eSh b] ∧ a.rw ≤ 13 ∧ b.rw ≤ 13 ∧ Q (eSh (Sh.laid p a b)) S
theorem st_laid (x0 x1 x2 : DL.D) : start2 N_laid [x0, x1, x2] = [some x0, some x1, some x2] := rfl
set_option maxHeartbeats 8000000 in
theorem ok_laid (T : Txt K mg) : Fn P w K mg base 15 "laid" sp_laid := by
  refine fn_intro2 T.f_laid sc_laid (fun ds S Q E h => ?_) (fun cdv A outer s H E f hr => ⟨_, (ss_cons (s_if (t_lt (q_call (ok_right_way T 13) (hr.mono (by decide)) (by rfl) (a_cons (qv 1 (pv 1)) a_nil)) (q_call (ok_right_way T 13) (hr.mono (by decide)) (by rfl) (a_cons (qv 2 (pv 2)) a_nil)))
 (ss_one (s_ret (q_tup (a_cons (qv 0 (pv 0)) (a_cons (qv 2 (pv 2)) (a_cons (qv 1 (pv 1)) a_nil))))))
 ss_nil)
 (ss_one (s_ret (q_tup (a_cons (qv 0 (pv 0)) (a_cons (qv 1 (pv 1)) (a_cons (qv 2 (pv 2)) a_nil))))))), fun ds S Q E h => ?_⟩)
  · obtain ⟨_, _, _, rfl, _⟩ := h
    rfl
  · obtain ⟨p, a, b, rfl, ha, hb, q⟩ := h
    rw [st_laid]
    walk_at "d"
    refine ⟨a, rfl, ha, ?_⟩
    refine ⟨b, rfl, hb, ?_⟩
    walk_at "d"
    unfold Sh.laid at q
    refine cnd_dec (fun h => ?_) (fun h => ?_)
    · rw [if_pos h] at q
      exact ⟨S, .refl S, q⟩
    · rw [if_neg h] at q
      exact ⟨S, .refl S, q⟩
def sp_merged (n : Nat) : Sp2 := fun ds S Q _ => ∃ a b : Sh, ds = [eSh a, eSh b] ∧ a.Lft ∧ b.Lft ∧ a.size + b.size ≤ 4000 ∧ a.rw + b.rw ≤ n ∧ (∀ p ∈ a.toL, Nz 4000 p.1) ∧ (∀ p ∈ b.toL, Nz 4000 p.1) ∧ Q (eSh (Sh.merged a b)) S
theorem st_merged (x0 x1 : DL.D) : start2 N_merged [x0, x1] = [some x0, some x1] := rfl
set_option maxHeartbeats 8000000 in
theorem step_merged (T : Txt K mg) (n : Nat) (R : Fn P w K mg base (n + 15) "merged" (prevSp sp_merged n)) : Fn P w K mg base (n + 16) "merged" (sp_merged n) := by
  refine fn_intro2 (k := n + 15) T.f_merged sc_merged (fun ds S Q E h => ?_) (fun cdv A outer s H E f hr => ⟨_, (ss_cons (s_if (t_is (qv 0 (pv 0)) q_non)
 (ss_one (s_ret (qv 1 (pv 1))))
 ss_nil)
 (ss_cons (s_if (t_is (qv 1 (pv 1)) q_non)
 (ss_one (s_ret (qv 0 (pv 0))))
 ss_nil)
 (ss_cons (s_if (t_val (q_call (ok_comes_ahead T) (hr.mono (by omega)) (by rfl) (a_cons (q_ixk 0 (qv 1 (pv 1))) (a_cons (q_ixk 0 (qv 0 (pv 0))) a_nil))))
 (ss_one (s_par 0 1 rfl sc_merged.nd rfl rfl (by decide) rfl rfl (a_cons (qv 1 (pv 1)) (a_cons (qv 0 (pv 0)) a_nil)) (by rfl)))
 ss_nil)
 (ss_one (s_ret (q_call (ok_laid T) (hr.mono (by omega)) (by rfl) (a_cons (q_ixk 0 (qv 0 (pv 0))) (a_cons (q_ixk 1 (qv 0 (pv 0))) (a_cons (q_call R hr (by rfl) (a_cons (q_ixk 2 (qv 0 (pv 0))) (a_cons (qv 1 (pv 1)) a_nil))) a_nil))))))))), fun ds S Q E h => ?_⟩)
  · obtain ⟨_, _, rfl, _⟩ := h
    rfl
  · obtain ⟨a, b, rfl, ha, hb, hs, hn, za, zb, q⟩ := h
    rw [st_merged]
    cases a with
    | nil =>
      rw [show eSh .nil = DL.D.non from rfl]
      unfold Sh.merged at q
      walk_at "d"
      exact ⟨S, .refl S, q⟩
    | node p l r =>
      cases b with
      | nil =>
        rw [show eSh (.node p l r) = DL.D.tup [eWp p, eSh l, eSh r] from rfl, show eSh .nil = DL.D.non from rfl]
        unfold Sh.merged at q
        walk_at "d"
        exact ⟨S, .refl S, q⟩
      | node q' m s =>
        rw [show eSh (.node p l r) = DL.D.tup [eWp p, eSh l, eSh r] from rfl, show eSh (.node q' m s) = DL.D.tup [eWp q', eSh m, eSh s] from rfl]
        unfold Sh.merged at q
        have e1 : Sh.rw (.node p l r) = 1 + r.rw := rfl
        have e2 : Sh.rw (.node q' m s) = 1 + s.rw := rfl
        have e3 : Sh.size (.node p l r) = l.size + r.size + 1 := rfl
        have e4 : Sh.size (.node q' m s) = m.size + s.size + 1 := rfl
        have zp : Nz 4000 p.1 := za p (List.mem_cons_self ..)
        have zq : Nz 4000 q'.1 := zb q' (List.mem_cons_self ..)
        obtain ⟨n, rfl⟩ : ∃ k, n = k + 1 := ⟨n - 1, by omega⟩
        walk_at "d"
        refine ⟨q', p, rfl, zq, zp, ?_⟩
        refine cnd_dec (fun h => ?_) (fun h => ?_)
        · rw [if_pos h] at q
          walk_at "d"
          have r1 := Sh.rw_lt hb.1 (by omega)
          have r2 := Sh.rw_lt (Sh.merged_lft s (.node p l r) hb.2.1 ha) (by rw [Sh.merged_size, e3]; omega)
          refine ⟨s, .node p l r, rfl, hb.2.1, ha, by omega, by omega, fun x hx => zb x (List.mem_cons_of_mem _ (List.mem_append_right _ hx)), za, ?_⟩
          exact ⟨q', m, _, rfl, by omega, by omega, S, .refl S, q⟩
        · rw [if_neg h] at q
          walk_at "d"
          have r1 := Sh.rw_lt ha.1 (by omega)
          have r2 := Sh.rw_lt (Sh.merged_lft r (.node q' m s) ha.2.1 hb) (by rw [Sh.merged_size, e4]; omega)
          refine ⟨r, .node q' m s, rfl, ha.2.1, hb, by omega, by omega, fun x hx => za x (List.mem_cons_of_mem _ (List.mem_append_right _ hx)), zb, ?_⟩
          exact ⟨p, l, _, rfl, by omega, by omega, S, .refl S, q⟩
theorem ok_merged (T : Txt K mg) : ∀ n : Nat, Fn P w K mg base (n + 16) "merged" (sp_merged n)
  | 0 => step_merged T 0 (Fn.vac T.f_merged)
  | n + 1 => step_merged T (n + 1) ((ok_merged T n).mono (by omega))
def sp_Waiting_put : Sp2 := fun ds S Q _ => ∃ (w d : Addr) (sh : Sh) (ks : List PK) (p : Wp), ds = [.ref w, eQ p.1, .tup [.int p.2.1, .int p.2.2]] ∧ WtAt kWaiting S w d sh ks ∧ WtOk sh ks ∧ sh.size < 300 ∧ Nz 4000 p.1 ∧ p ∉ sh.toL ∧ ∀ S', Fr2 S S' w d → WtAt kWaiting S' w d (Sh.merged sh (.node p .nil .nil)) (ks ++ [pkP p]) → Q .non S'
theorem st_Waiting_put (x0 x1 x2 : DL.D) : start2 N_Waiting_put [x0, x1, x2] = [some x0, some x1, some x2] := rfl
set_option maxHeartbeats 8000000 in
theorem ok_Waiting_put (T : Txt K mg) : FnM P w K mg base 43 kWaiting "put" sp_Waiting_put := by
  refine fnM_intro T.f_Waiting_put sc_Waiting_put (fun ds S Q E h => ?_) (fun cdv A outer s H E f hr => ⟨_, (ss_cons (s_if (t_inN hr (q_tup (a_cons (qv 1 (pv 1)) (a_cons (qv 2 (pv 2)) a_nil))) (q_fld kWaiting 1 T.kl_Waiting rfl (by decide) (qv 0 (pv 0))))
 (ss_one s_never)
 ss_nil)
 (ss_cons (s_asg q_bl (g_dsubN hr (q_fld kWaiting 1 T.kl_Waiting rfl (by decide) (qv 0 (pv 0))) (q_tup (a_cons (qv 1 (pv 1)) (a_cons (qv 2 (pv 2)) a_nil)))))
 (ss_one (s_fld kWaiting 0 T.kl_Waiting rfl (by decide) (by decide) (qv 0 (pv 0)) (q_call (ok_merged T 26) (hr.mono (by decide)) (by rfl) (a_cons (q_fld kWaiting 0 T.kl_Waiting rfl (by decide) (qv 0 (pv 0))) (a_cons (q_tup (a_cons (q_tup (a_cons (qv 1 (pv 1)) (a_cons (qv 2 (pv 2)) a_nil))) (a_cons q_non (a_cons q_non a_nil)))) a_nil))))))), fun ds S Q E h => ?_⟩)
  · obtain ⟨_, _, _, _, _, rfl, _⟩ := h
    rfl
  · obtain ⟨w, d, sh, ks, p, rfl, h, ok, hs, hz, hn, q⟩ := h
    have hob := h.ob
    have hwd := h.wd
    have hlen := ok.len
    rw [st_Waiting_put]
    walk_at "f"
    refine ⟨pkP p, ks, d, rfl, rfl, h.hd, ?_⟩
    refine cnd_f (decide_eq_false fun z => hn ((ok.mem p).mp z)) ?_
    rw [hob]
    walk_at "d"
    refine ⟨d, ks, pkP p, rfl, h.hd, rfl, rfl, fun z => hn ((ok.mem p).mp z), by omega, ?_⟩
    walk_at "d"
    rw [ups_ne hwd, hob]
    walk_at "d"
    have r1 := Sh.rw_lt ok.lft (by omega)
    refine ⟨sh, .node p .nil .nil, rfl, ok.lft, ⟨trivial, trivial, Nat.le_refl _⟩, ?_, ?_, ok.nz, fun x hx => ?_, ?_⟩
    · show sh.size + 1 ≤ 4000
      omega
    · show sh.rw + 1 ≤ 26
      omega
    · rcases List.mem_cons.mp hx with rfl | hx
      · exact hz
      · exact nomatch hx
    try walk_at "d"
    rw [ups_ne hwd, hob]
    walk_at "d"
    refine ⟨_, .refl _, q _ (fun x o h1 h2 e => ?_) ⟨ups_same, ?_⟩⟩
    · rw [ups_ne h1, ups_ne h2]; exact e
    · rw [ups_ne hwd.symm, ups_same]
def sp_Waiting_shape : Sp2 := fun ds S Q _ => ∃ (w d : Addr) (sh : Sh) (ks : List PK), ds = [.ref w] ∧ WtAt kWaiting S w d sh ks ∧ Q (eSh sh) S
theorem st_Waiting_shape (x0 : DL.D) : start2 N_Waiting_shape [x0] = [some x0] := rfl
set_option maxHeartbeats 8000000 in
theorem ok_Waiting_shape (T : Txt K mg) : FnM P w K mg base 1 kWaiting "shape" sp_Waiting_shape := by
  refine fnM_intro T.f_Waiting_shape sc_Waiting_shape (fun ds S Q E h => ?_) (fun cdv A outer s H E f hr => ⟨_, (ss_one (s_ret (q_fld kWaiting 0 T.kl_Waiting rfl (by decide) (qv 0 (pv 0))))), fun ds S Q E h => ?_⟩)
  · obtain ⟨_, _, _, _, rfl, _⟩ := h
    rfl
  · obtain ⟨w, d, sh, ks, rfl, h, q⟩ := h
    have hob := h.ob
    rw [st_Waiting_shape]
    walk_at "f"
    exact ⟨_, .refl _, q⟩
def sp_without (n : Nat) : Sp2 := fun ds S Q _ => ∃ (s : Sh) (p : Wp), ds = [eSh s, eWp p] ∧ s.Lft ∧ s.size ≤ 2000 ∧ s.ht ≤ n ∧ (∀ x ∈ s.toL, Nz 4000 x.1) ∧ Nz 4000 p.1 ∧ Q (eSh (Sh.without p s)) S
theorem st_without (x0 x1 : DL.D) : start2 N_without [x0, x1] = [some x0, some x1] := rfl
set_option maxHeartbeats 8000000 in
theorem step_without (T : Txt K mg) (n : Nat) (R : FnD P w K mg base n 42 "without" (prevSp sp_without n)) : FnD P w K mg base (n + 1) 42 "without" (sp_without n) := by
  refine fnD_intro T.f_without sc_without (fun ds S Q E h => ?_) (fun cdv A outer s H E f hD => have hr := hD.room; ⟨_, (ss_cons (s_if (PW.pt (w_or (t_is (qv 0 (pv 0)) q_non) (w_or1 (t_val (q_call (ok_comes_ahead T) (hr.mono (by decide)) (by rfl) (a_cons (qv 1 (pv 1)) (a_cons (q_ixk 0 (qv 0 (pv 0))) a_nil)))))))
 (ss_one (s_ret (qv 0 (pv 0))))
 ss_nil)
 (ss_cons (s_if (t_eq hr (q_ixk 0 (qv 0 (pv 0))) (qv 1 (pv 1)))
 (ss_one (s_ret (q_call (ok_merged T 26) (hr.mono (by decide)) (by rfl) (a_cons (q_ixk 1 (qv 0 (pv 0))) (a_cons (q_ixk 2 (qv 0 (pv 0))) a_nil)))))
 ss_nil)
 (ss_one (s_ret (q_call (ok_laid T) (hr.mono (by decide)) (by rfl) (a_cons (q_ixk 0 (qv 0 (pv 0))) (a_cons (q_callD R hD (by rfl) (a_cons (q_ixk 1 (qv 0 (pv 0))) (a_cons (qv 1 (pv 1)) a_nil))) (a_cons (q_callD R hD (by rfl) (a_cons (q_ixk 2 (qv 0 (pv 0))) (a_cons (qv 1 (pv 1)) a_nil))) a_nil)))))))), fun ds S Q E h => ?_⟩)
  · obtain ⟨_, _, rfl, _⟩ := h
    rfl
  · obtain ⟨s, p, rfl, hl, hs, hn, zs, zp, q⟩ := h
    rw [st_without]
    cases s with
    | nil =>
      rw [show eSh .nil = DL.D.non from rfl]
      unfold Sh.without at q
      walk_at "d"
      exact ⟨S, .refl S, q⟩
    | node q' l r =>
      rw [show eSh (.node q' l r) = DL.D.tup [eWp q', eSh l, eSh r] from rfl]
      unfold Sh.without at q
      have e3 : Sh.size (.node q' l r) = l.size + r.size + 1 := rfl
      have e4 : Sh.ht (.node q' l r) = max l.ht r.ht + 1 := rfl
      have zq : Nz 4000 q'.1 := zs q' (List.mem_cons_self ..)
      have zl : ∀ x ∈ l.toL, Nz 4000 x.1 := fun x hx => zs x (List.mem_cons_of_mem _ (List.mem_append_left _ hx))
      have zr : ∀ x ∈ r.toL, Nz 4000 x.1 := fun x hx => zs x (List.mem_cons_of_mem _ (List.mem_append_right _ hx))
      obtain ⟨n, rfl⟩ : ∃ k, n = k + 1 := ⟨n - 1, by omega⟩
      have r1 := Sh.rw_lt hl.1 (by omega)
      have r2 := Sh.rw_lt hl.2.1 (by omega)
      walk_at "d"
      refine ⟨p, q', rfl, zp, zq, ?_⟩
      refine cnd_dec (fun h => ?_) (fun h => ?_)
      · rw [if_pos h] at q
        exact ⟨S, .refl S, q⟩
      · rw [if_neg h] at q
        have r3 := Sh.rw_lt (Sh.without_lft p l hl.1) (by have := Sh.without_size p l; omega)
        have r4 := Sh.rw_lt (Sh.without_lft p r hl.2.1) (by have := Sh.without_size p r; omega)
        refine eq_wp ?_
        walk_at "d"
        refine cnd_dec (fun h2 => ?_) (fun h2 => ?_)
        · rw [if_pos h2] at q
          refine ⟨l, r, rfl, hl.1, hl.2.1, by omega, by omega, zl, zr, S, .refl S, q⟩
        · rw [if_neg h2] at q
          refine ⟨l, p, rfl, hl.1, by omega, by omega, zl, zp, ?_⟩
          refine ⟨r, p, rfl, hl.2.1, by omega, by omega, zr, zp, ?_⟩
          refine ⟨q', _, _, rfl, by omega, by omega, S, .refl S, q⟩
theorem okD_without (T : Txt K mg) : ∀ n : Nat, FnD P w K mg base (n + 1) 42 "without" (sp_without n)
  | 0 => step_without T 0 (FnD.vac T.f_without)
  | n + 1 => step_without T (n + 1) (okD_without T n)
theorem ok_without (T : Txt K mg) : Fn P w K mg base 144 "without" (sp_without 300) := ((okD_without T 300).fn (m := 101) (by decide)).mono (by decide)
def sp_Waiting_take : Sp2 := fun ds S Q _ => ∃ (w d : Addr) (sh : Sh) (ks : List PK) (p : Wp), ds = [.ref w, eQ p.1, .tup [.int p.2.1, .int p.2.2]] ∧ WtAt kWaiting S w d sh ks ∧ WtOk sh ks ∧ sh.size ≤ 300 ∧ p ∈ sh.toL ∧ ∀ S', Fr2 S S' w d → WtAt kWaiting S' w d (Sh.without p sh) (ks.filter fun x => decide (x ≠ pkP p)) → Q .non S'
theorem st_Waiting_take (x0 x1 x2 : DL.D) : start2 N_Waiting_take [x0, x1, x2] = [some x0, some x1, some x2] := rfl
set_option maxHeartbeats 8000000 in
theorem ok_Waiting_take (T : Txt K mg) : FnM P w K mg base 145 kWaiting "take" sp_Waiting_take := by
  refine fnM_intro T.f_Waiting_take sc_Waiting_take (fun ds S Q E h => ?_) (fun cdv A outer s H E f hr => ⟨_, (ss_cons (s_if (t_notinN hr (q_tup (a_cons (qv 1 (pv 1)) (a_cons (qv 2 (pv 2)) a_nil))) (q_fld kWaiting 1 T.kl_Waiting rfl (by decide) (qv 0 (pv 0))))
 (ss_one s_never)
 ss_nil)
 (ss_cons (s_expr (q_dpopN hr (q_fld kWaiting 1 T.kl_Waiting rfl (by decide) (qv 0 (pv 0))) (q_tup (a_cons (qv 1 (pv 1)) (a_cons (qv 2 (pv 2)) a_nil)))))
 (ss_one (s_fld kWaiting 0 T.kl_Waiting rfl (by decide) (by decide) (qv 0 (pv 0)) (q_call (ok_without T) (hr.mono (by decide)) (by rfl) (a_cons (q_fld kWaiting 0 T.kl_Waiting rfl (by decide) (qv 0 (pv 0))) (a_cons (q_tup (a_cons (qv 1 (pv 1)) (a_cons (qv 2 (pv 2)) a_nil))) a_nil))))))), fun ds S Q E h => ?_⟩)
  · obtain ⟨_, _, _, _, _, rfl, _⟩ := h
    rfl
  · obtain ⟨w, d, sh, ks, p, rfl, h, ok, hs, hn, q⟩ := h
    have hob := h.ob
    have hwd := h.wd
    have hlen := ok.len
    rw [st_Waiting_take]
    walk_at "f"
    refine ⟨pkP p, ks, d, rfl, rfl, h.hd, ?_⟩
    refine cnd_f (by rw [decide_eq_true ((ok.mem p).mpr hn)]; rfl) ?_
    rw [hob]
    walk_at "d"
    refine ⟨d, ks, rfl, h.hd, ks, pkP p, h.hd, rfl, (ok.mem p).mpr hn, ?_⟩
    walk_at "d"
    try rw [ups_ne hwd, hob]
    walk_at "d"
    have h1 := Sh.ht_size sh
    refine ⟨sh, p, rfl, ok.lft, by omega, by omega, ok.nz, ok.nz p hn, ?_⟩
    walk_at "d"
    rw [ups_ne hwd, hob]
    walk_at "d"
    refine ⟨_, .refl _, q _ (fun x o h1 h2 e => ?_) ⟨ups_same, ?_⟩⟩
    · rw [ups_ne h1, ups_ne h2]; exact e
    · rw [ups_ne hwd.symm, ups_same]
theorem eq_quo {a b : Rat} : decide (a.num * (b.den : Int) = b.num * (a.den : Int)) = decide (a = b) := decide_eq_decide.mpr Rat.eq_iff_mul_eq_mul.symm
def sp_l_before : Sp2 := fun ds S Q _ => ∃ p q : Wp, ds = [eWp p, eWp q] ∧ Nz 4000 p.1 ∧ Nz 4000 q.1 ∧ Q (.bl (decide (prLt p q))) S
theorem st_l_before (x0 x1 : DL.D) : start2 N_l_before [x0, x1] = [some x0, some x1, none, none] := rfl
set_option maxHeartbeats 8000000 in
theorem ok_l_before (T : Txt K mg) : Fn P w K mg base 1 "_law_before" sp_l_before := by
  refine fn_intro2 T.f_l_before sc_l_before (fun ds S Q E h => ?_) (fun cdv A outer s H E f hr => ⟨_, (ss_cons (s_set 2 sc_l_before.nd rfl (by first | exact .inl rfl | exact .inr rfl) (.inl rfl) (q_mul (q_ixk 0 (q_ixk 0 (qv 0 (pv 0)))) (q_ixk 1 (q_ixk 0 (qv 1 (pv 1))))))
 (ss_cons (s_set 3 sc_l_before.nd rfl (by first | exact .inl rfl | exact .inr rfl) (.inl rfl) (q_mul (q_ixk 0 (q_ixk 0 (qv 1 (pv 1)))) (q_ixk 1 (q_ixk 0 (qv 0 (pv 0))))))
 (ss_one (s_ret (q_or (q_lt (qv 2 (pv 2)) (qv 3 (pv 3))) (q_one (q_and (q_eq hr (qv 2 (pv 2)) (qv 3 (pv 3))) (q_one (q_ltT hr (q_ixk 1 (qv 0 (pv 0))) (q_ixk 1 (qv 1 (pv 1)))))))))))), fun ds S Q E h => ?_⟩)
  · obtain ⟨_, _, rfl, _⟩ := h
    rfl
  · obtain ⟨⟨a, b, c⟩, ⟨d, e, f⟩, rfl, hp, hq, k⟩ := h
    rw [st_l_before]
    unfold eWp
    dsimp only at *
    walk_at "d"
    refine ⟨.inl ⟨_, _, hp.1, hq.2, by decide⟩, .inl ⟨_, _, hq.1, hp.2, by decide⟩, ?_⟩
    walk_at "d"
    have e1 : decide (prLt (a, b, c) (d, e, f)) = (decide (a < d) || (decide (a = d) && decide (b < e ∨ (b = e ∧ c < f)))) := by
      rw [Bool.eq_iff_iff, Bool.or_eq_true, Bool.and_eq_true, decide_eq_true_iff, decide_eq_true_iff, decide_eq_true_iff, decide_eq_true_iff]
      exact Iff.rfl
    rw [e1] at k
    rw [lt_quo, eq_quo]
    refine cnd_dec (fun h => ?_) (fun h => ?_)
    · rw [decide_eq_true h] at k
      exact ⟨S, .refl S, k⟩
    rw [decide_eq_false h] at k
    refine cnd_dec (fun h2 => ?_) (fun h2 => ?_)
    · rw [decide_eq_true h2] at k
      exact ⟨S, .refl S, k⟩
    · rw [decide_eq_false h2] at k
      exact ⟨S, .refl S, k⟩
def sp_l_least : Sp2 := fun ds S Q _ => ∃ (k : Addr) (K : List Wp), ds = [.ref k] ∧ S k = some (.lst (K.map eWp)) ∧ K ≠ [] ∧ K.length ≤ 400 ∧ (∀ p ∈ K, Nz 4000 p.1) ∧ ∀ p ∈ K, (∀ x ∈ K, prLe p x) → Q (eWp p) S
theorem st_l_least (x0 : DL.D) : start2 N_l_least [x0] = [some x0, none, none] := rfl
set_option maxHeartbeats 8000000 in
theorem ok_l_least (T : Txt K mg) : Fn P w K mg base 2 "_law_least" sp_l_least := by
  refine fn_intro2 T.f_l_least sc_l_least (fun ds S Q E h => ?_) (fun cdv A outer s H E f hr => ⟨_, (ss_cons (s_set 1 sc_l_least.nd rfl (by first | exact .inl rfl | exact .inr rfl) (.inl rfl) (q_ixk 0 (qv 0 (pv 0))))
 (ss_cons (s_for .never rfl (i_val (qv 0 (pv 0))) (g_name (i := 2) sc_l_least.nd rfl (by first | exact .inl rfl | exact .inr rfl) (.inl rfl))
 (ss_one (s_if (t_val (q_call (ok_l_before T) (hr.mono (by decide)) (by rfl) (a_cons (qv 2 (pv 2)) (a_cons (qv 1 (pv 1)) a_nil))))
 (ss_one (s_set 1 sc_l_least.nd rfl (by first | exact .inl rfl | exact .inr rfl) (.inl rfl) (qv 2 (pv 2))))
 ss_nil)))
 (ss_one (s_ret (qv 1 (pv 1)))))), fun ds S Q E h => ?_⟩)
  · obtain ⟨_, _, rfl, _⟩ := h
    rfl
  · obtain ⟨k, K, rfl, hk, hne, hl, hz, q⟩ := h
    rw [st_l_least]
    obtain ⟨x, K', rfl⟩ : ∃ x K', K = x :: K' := List.exists_cons_of_ne_nil hne
    have hk' : S k = some (.lst (eWp x :: K'.map eWp)) := hk
    walk_at "d"
    rw [hk']
    walk_at "d"
    rw [← List.map_cons]
    refine loop_inv (e := eWp) (xs := x :: K') (fun done rest τ S' => S' = S ∧ ∃ f v, f ∈ x :: K' ∧ (∀ y ∈ done, prLe f y) ∧ τ = [some (.ref k), some (eWp f), v]) ⟨rfl, x, _, List.mem_cons_self .., fun _ h => (nomatch h), rfl⟩ (fun _ _ _ S' _ ⟨h, _⟩ => by rw [h]; exact hk) ?_ ?_
    · rintro dn p r τ S' e ⟨rfl, f, v, hf, hd, rfl⟩
      have hp : p ∈ x :: K' := by rw [← e]; simp
      walk_at "d"
      refine ⟨p, f, rfl, hz p hp, hz f hf, ?_⟩
      refine cnd_dec (fun c => ?_) (fun c => ?_)
      · refine ⟨rfl, p, _, hp, fun y hy => ?_, rfl⟩
        rcases List.mem_append.mp hy with hy | hy
        · exact prLe_trans (prLe_of c) (hd y hy)
        · rw [List.mem_singleton.mp hy]; exact prLe_refl _
      · refine ⟨rfl, f, _, hf, fun y hy => ?_, rfl⟩
        rcases List.mem_append.mp hy with hy | hy
        · exact hd y hy
        · rw [List.mem_singleton.mp hy]; exact c
    · rintro τ S' ⟨rfl, f, v, hf, hd, rfl⟩
      walk_at "d"
      exact ⟨_, .refl _, q f hf hd⟩
def sp_l_pen : Sp2 := fun ds S Q _ => ∃ (sc : List Int) (k : Nat), ds = [.fl (sc.map D.int), .int (k : Int)] ∧ k < 2 ∧ ∀ p x y z, S p = none → 0 ≤ z → z ≤ ((1 : Nat) : Int) → Q (.ref p) (ups S p (penC x y z))
theorem st_l_pen (x0 x1 : DL.D) : start2 N_l_pen [x0, x1] = [some x0, some x1, none] := rfl
set_option maxHeartbeats 8000000 in
theorem ok_l_pen (T : Txt K mg) : Fn P w K mg base 1 "_law_pen" sp_l_pen := by
  refine fn_intro2 T.f_l_pen sc_l_pen (fun ds S Q E h => ?_) (fun cdv A outer s H E f hr => ⟨_, (ss_cons (s_set 2 sc_l_pen.nd rfl (by first | exact .inl rfl | exact .inr rfl) (.inl rfl) (q_add (q_add (q_mul (q_mul q_int (qv 1 (pv 1))) (qv 1 (pv 1))) (q_mul q_int (qv 1 (pv 1)))) q_int))
 (ss_cons (s_if (t_lt (qv 1 (pv 1)) (q_len T.b_len (by rfl) (a_cons (qv 0 (pv 0)) a_nil)))
 (ss_one (s_set 2 sc_l_pen.nd rfl (by first | exact .inl rfl | exact .inr rfl) (.inl rfl) (q_ixg (fun _ _ => rfl) (qv 0 (pv 0)) (qv 1 (pv 1)))))
 (ss_one (s_if (t_gt (q_len T.b_len (by rfl) (a_cons (qv 0 (pv 0)) a_nil)) q_int)
 (ss_one (s_set 2 sc_l_pen.nd rfl (by first | exact .inl rfl | exact .inr rfl) (.inl rfl) (q_add (q_mod (q_ixg (fun _ _ => rfl) (qv 0 (pv 0)) (q_mod (q_mul (qv 1 (pv 1)) q_int) (q_len T.b_len (by rfl) (a_cons (qv 0 (pv 0)) a_nil)))) (q_powk 100000000000000000 (by decide +kernel) (by decide +kernel))) (q_mul q_int (qv 1 (pv 1))))))
 ss_nil)))
 (ss_cons (s_if (t_ge (qv 2 (pv 2)) (q_powk 1000000000000000000 (by decide +kernel) (by decide +kernel)))
 (ss_one (s_ret (q_lst (a_cons (q_sub (qv 2 (pv 2)) (q_powk 1000000000000000000 (by decide +kernel) (by decide +kernel))) (a_cons (q_add (q_mod (qv 2 (pv 2)) q_int) (qv 1 (pv 1))) (a_cons q_int a_nil))))))
 ss_nil)
 (ss_one (s_ret (q_lst (a_cons q_int (a_cons (q_add (q_mod (qv 2 (pv 2)) q_int) (q_mul q_int (qv 1 (pv 1)))) (a_cons q_int a_nil))))))))), fun ds S Q E h => ?_⟩)
  · obtain ⟨sc, k, rfl, _⟩ := h
    rfl
  · obtain ⟨sc, k, rfl, hk, q⟩ := h
    rw [st_l_pen]
    walk_at "d"
    have k64 : Sz 64 (k : Int) := Sz.lit (by omega)
    refine ⟨.inr (.inl (Sz.lit (by decide))), .inr (.inr k64), .inr (.inr k64), ?_⟩
    refine cnd_dec (fun c => ?_) (fun c => ?_)
    · obtain ⟨v, hv⟩ := atI_ints (sc := sc) (show (0 : Int) ≤ (k : Int) by omega) (by omega)
      rw [hv]
      walk_at "d"
      refine cnd_dec (fun c => ?_) (fun c => ?_)
      · intro p np
        exact ⟨_, .refl _, q p _ _ _ np (by decide) (by decide)⟩
      · refine ⟨.inr (.inr k64), fun p np => ?_⟩
        exact ⟨_, .refl _, q p _ _ _ np (by decide) (by decide)⟩
    · refine cnd_dec (fun c => ?_) (fun c => ?_)
      · obtain ⟨v, hv⟩ := atI_ints (sc := sc) (fmod_lt (a := ((k : Int) * 7)) (m := (sc.length : Int)) c).1 (fmod_lt c).2
        refine ⟨.inr (.inl k64), by omega, ?_⟩
        rw [hv]
        walk_at "d"
        refine ⟨.inr (.inr k64), ?_⟩
        refine cnd_dec (fun c => ?_) (fun c => ?_)
        · intro p np
          exact ⟨_, .refl _, q p _ _ _ np (by decide) (by decide)⟩
        · refine ⟨.inr (.inr k64), fun p np => ?_⟩
          exact ⟨_, .refl _, q p _ _ _ np (by decide) (by decide)⟩
      · refine cnd_dec (fun c => ?_) (fun c => ?_)
        · intro p np
          exact ⟨_, .refl _, q p _ _ _ np (by decide) (by decide)⟩
        · refine ⟨.inr (.inr k64), fun p np => ?_⟩
          exact ⟨_, .refl _, q p _ _ _ np (by decide) (by decide)⟩
def sp_l_is_pair : Sp2 := fun ds S Q _ => ∃ p : Wp, ds = [eWp p] ∧ Q (.bl true) S
theorem st_l_is_pair (x0 : DL.D) : start2 N_l_is_pair [x0] = [some x0, none] := rfl
set_option maxHeartbeats 8000000 in
theorem ok_l_is_pair (T : Txt K mg) : Fn P w K mg base 1 "_law_is_pair" sp_l_is_pair := by
  refine fn_intro2 T.f_l_is_pair sc_l_is_pair (fun ds S Q E h => ?_) (fun cdv A outer s H E f hr => ⟨_, (ss_cons (s_if (PW.pt (w_or (t_not (t_val (q_isi .tup T.b_isinstance (by rfl) T.b_tuple (by rfl) PyProof.Rows.boot_tuple rfl (qv 0 (pv 0))))) (w_or1 (t_ne hr (q_len T.b_len (by rfl) (a_cons (qv 0 (pv 0)) a_nil)) q_int))))
 (ss_one (s_ret q_bl))
 ss_nil)
 (ss_cons (s_for .never rfl (i_val (qv 0 (pv 0))) (g_name (i := 1) sc_l_is_pair.nd rfl (by first | exact .inl rfl | exact .inr rfl) (.inl rfl))
 (ss_one (s_if (PW.pt (w_or (t_not (t_val (q_isi .tup T.b_isinstance (by rfl) T.b_tuple (by rfl) PyProof.Rows.boot_tuple rfl (qv 1 (pv 1))))) (w_or1 (t_ne hr (q_len T.b_len (by rfl) (a_cons (qv 1 (pv 1)) a_nil)) q_int))))
 (ss_one (s_ret q_bl))
 ss_nil)))
 (ss_one (s_ret q_bl)))), fun ds S Q E h => ?_⟩)
  · obtain ⟨_, rfl, _⟩ := h
    rfl
  · obtain ⟨p, rfl, q⟩ := h
    rw [st_l_is_pair]
    rw [show eWp p = .tup [.tup [.int p.1.num, .int (p.1.den : Int)], .tup [.int p.2.1, .int p.2.2]] from rfl]
    walk_at "d"
    refine cnd_t rfl ?_
    refine loop_inv (e := fun x : Int × Int => DL.D.tup [.int x.1, .int x.2]) (xs := [(p.1.num, (p.1.den : Int)), p.2]) (fun done rest τ S' => S' = S ∧ ∃ v, τ = [some (D.tup [D.tup [D.int p.fst.num, D.int ↑p.fst.den], D.tup [D.int p.snd.fst, D.int p.snd.snd]]), v]) ⟨rfl, _, rfl⟩ (fun _ _ _ S' _ ⟨h, _⟩ => by trivial) ?_ ?_
    · rintro dn ⟨x, y⟩ r τ S' e ⟨rfl, v, rfl⟩
      walk_at "d"
      refine cnd_t rfl ?_
      exact ⟨_, rfl⟩
    · rintro τ S' ⟨rfl, v, rfl⟩
      walk_at "d"
      exact ⟨_, .refl _, q⟩
def sp_l_gone_through (n : Nat) : Sp2 := fun ds S Q _ => ∃ s : Sh, ds = [eSh s] ∧ s.Lft ∧ s.Hp ∧ s.ht ≤ n ∧ s.size ≤ 400 ∧ (∀ p ∈ s.toL, Nz 4000 p.1) ∧ ∀ S' o, Sub S S' → S o = none → S' o = some (.lst (s.toL.map eWp)) → Q (.tup [.ref o, .int (s.rw : Nat)]) S'
theorem st_l_gone_through (x0 : DL.D) : start2 N_l_gone_through [x0] = [some x0, none, none, none, none] := rfl
set_option maxHeartbeats 8000000 in
theorem step_l_gone_through (T : Txt K mg) (n : Nat) (R : FnD P w K mg base n 1 "_law_gone_through" (prevSp sp_l_gone_through n)) : FnD P w K mg base (n + 1) 1 "_law_gone_through" (sp_l_gone_through n) := by
  refine fnD_intro T.f_l_gone_through sc_l_gone_through (fun ds S Q E h => ?_) (fun cdv A outer s H E f hD => have hr := hD.room; ⟨_, (ss_cons (s_if (t_is (qv 0 (pv 0)) q_non)
 (ss_one (s_ret (q_tup (a_cons (q_lst a_nil) (a_cons q_int a_nil)))))
 ss_nil)
 (ss_cons (s_if (PW.pt (w_or (t_not (t_val (q_isi .tup T.b_isinstance (by rfl) T.b_tuple (by rfl) PyProof.Rows.boot_tuple rfl (qv 0 (pv 0))))) (w_or (t_ne hr (q_len T.b_len (by rfl) (a_cons (qv 0 (pv 0)) a_nil)) q_int) (w_or1 (t_not (t_val (q_call (ok_l_is_pair T) (hr.mono (by decide)) (by rfl) (a_cons (q_ixk 0 (qv 0 (pv 0))) a_nil))))))))
 (ss_one (s_ret q_non))
 ss_nil)
 (ss_cons (s_set 1 sc_l_gone_through.nd rfl (by first | exact .inl rfl | exact .inr rfl) (.inl rfl) (q_callD R hD (by rfl) (a_cons (q_ixk 1 (qv 0 (pv 0))) a_nil)))
 (ss_cons (s_set 2 sc_l_gone_through.nd rfl (by first | exact .inl rfl | exact .inr rfl) (.inl rfl) (q_callD R hD (by rfl) (a_cons (q_ixk 2 (qv 0 (pv 0))) a_nil)))
 (ss_cons (s_if (PW.pt (w_or (t_is (qv 1 (pv 1)) q_non) (w_or1 (t_is (qv 2 (pv 2)) q_non))))
 (ss_one (s_ret q_non))
 ss_nil)
 (ss_cons (s_for .never rfl (i_val (q_slG (qv 0 (pv 0)) (o_some q_int) o_none)) (g_name (i := 3) sc_l_gone_through.nd rfl (by first | exact .inl rfl | exact .inr rfl) (.inl rfl))
 (ss_one (s_if (PW.pt (w_and (t_isnot (qv 3 (pv 3)) q_non) (w_and1 (t_val (q_call (ok_l_before T) (hr.mono (by decide)) (by rfl) (a_cons (q_ixk 0 (qv 3 (pv 3))) (a_cons (q_ixk 0 (qv 0 (pv 0))) a_nil)))))))
 (ss_one (s_ret q_non))
 ss_nil)))
 (ss_cons (s_set 4 sc_l_gone_through.nd rfl (by first | exact .inl rfl | exact .inr rfl) (.inl rfl) (q_add (q_ixk 0 (qv 1 (pv 1))) (q_ixk 0 (qv 2 (pv 2)))))
 (ss_cons (s_if (t_gt (q_shl q_int (q_add (q_ixk 1 (qv 2 (pv 2))) q_int)) (q_add (q_len T.b_len (by rfl) (a_cons (qv 4 (pv 4)) a_nil)) q_int))
 (ss_one (s_ret q_non))
 ss_nil)
 (ss_one (s_ret (q_tup (a_cons (q_add (q_lst (a_cons (q_ixk 0 (qv 0 (pv 0))) a_nil)) (qv 4 (pv 4))) (a_cons (q_add (q_ixk 1 (qv 2 (pv 2))) q_int) a_nil))))))))))))), fun ds S Q E h => ?_⟩)
  · obtain ⟨_, rfl, _⟩ := h
    rfl
  · obtain ⟨s, rfl, hl, hp, hn, hs, hz, q⟩ := h
    rw [st_l_gone_through]
    cases s with
    | nil =>
      rw [show eSh .nil = DL.D.non from rfl]
      walk_at "d"
      intro o no
      exact ⟨_, .refl _, q _ o (.drop no) no ups_same⟩
    | node p l r =>
      rw [show eSh (.node p l r) = DL.D.tup [eWp p, eSh l, eSh r] from rfl]
      have e3 : Sh.size (.node p l r) = l.size + r.size + 1 := rfl
      have e4 : Sh.ht (.node p l r) = max l.ht r.ht + 1 := rfl
      have e5 : Sh.rw (.node p l r) = 1 + r.rw := rfl
      have zp : Nz 4000 p.1 := hz p (List.mem_cons_self ..)
      have zl : ∀ x ∈ l.toL, Nz 4000 x.1 := fun x hx => hz x (List.mem_cons_of_mem _ (List.mem_append_left _ hx))
      have zr : ∀ x ∈ r.toL, Nz 4000 x.1 := fun x hx => hz x (List.mem_cons_of_mem _ (List.mem_append_right _ hx))
      obtain ⟨n, rfl⟩ : ∃ k, n = k + 1 := ⟨n - 1, by omega⟩
      walk_at "d"
      refine cnd_t rfl ?_
      refine ⟨p, rfl, ?_⟩
      walk_at "d"
      refine ⟨l, rfl, hl.1, hp.1, by omega, by omega, zl, fun S1 o1 s1 n1 h1 => ?_⟩
      refine ⟨r, rfl, hl.2.1, hp.2.1, by omega, by omega, zr, fun S2 o2 s2 n2 h2 => ?_⟩
      replace h1 := s2 _ _ h1
      walk_at "d"
      rw [show DL.cutD [eWp p, eSh l, eSh r] (some 1) none = [l, r].map eSh from rfl]
      refine loop_inv (e := eSh) (xs := [l, r]) (fun done rest τ S' => S' = S2 ∧ ∃ v, τ = [some (D.tup [eWp p, eSh l, eSh r]), some (D.tup [D.ref o1, D.int (l.rw : Nat)]), some (D.tup [D.ref o2, D.int (r.rw : Nat)]), v, none]) ⟨rfl, _, rfl⟩ (fun _ _ _ S' _ _ => trivial) ?_ ?_
      · rintro dn x rest τ S' e ⟨rfl, v, rfl⟩
        have hx : x = l ∨ x = r := by
          have : x ∈ [l, r] := by rw [← e]; simp
          simpa using this
        walk_at "d"
        cases x with
        | nil =>
          rw [show eSh .nil = DL.D.non from rfl]
          walk_at "d"
          exact ⟨_, rfl⟩
        | node p' l' r' =>
          rw [show eSh (.node p' l' r') = DL.D.tup [eWp p', eSh l', eSh r'] from rfl]
          walk_at "d"
          have hm : p' ∈ l.toL ++ r.toL := by
            rcases hx with z | z
            · rw [← z]; exact List.mem_append_left _ (List.mem_cons_self ..)
            · rw [← z]; exact List.mem_append_right _ (List.mem_cons_self ..)
          refine ⟨p', p, rfl, hz p' (List.mem_cons_of_mem _ hm), zp, ?_⟩
          refine cnd_f (decide_eq_false (hp.2.2 p' hm)) ?_
          exact ⟨rfl, _, rfl⟩
      · rintro τ S' ⟨rfl, v, rfl⟩
        walk_at "d"
        rw [h1, h2]
        walk_at "d"
        have l1 := Sh.toL_len l
        have l2 := Sh.toL_len r
        refine ⟨th_line' (by rw [l1, l2]; omega), fun b nb => ?_⟩
        have sb : Sub S' (ups S' b (.lst (l.toL.map eWp ++ r.toL.map eWp))) := Sub.drop nb
        have hb : ups S' b (.lst (l.toL.map eWp ++ r.toL.map eWp)) b = some (.lst (l.toL.map eWp ++ r.toL.map eWp)) := ups_same
        generalize ups S' b (.lst (l.toL.map eWp ++ r.toL.map eWp)) = S3 at *
        have hrw := Sh.rw_size _ hl
        rw [e5, e3, Nat.add_comm 1] at hrw
        have r1 := Sh.rw_lt hl.2.1 (by omega)
        refine ⟨⟨by omega, by omega, by decide⟩, ?_⟩
        refine cnd_f (decide_eq_false fun z => ?_) ?_
        · rw [List.length_append, List.length_map, List.length_map, l1, l2] at z
          have : ((2 : Int) ^ (r.rw + 1)) = ((2 ^ (r.rw + 1) : Nat) : Int) := by simp
          omega
        intro c nc
        have sc : Sub S3 (ups S3 c (.lst [eWp p])) := Sub.drop nc
        rw [sc _ _ hb]
        walk_at "d"
        refine ⟨th_line' (by rw [List.length_append, List.length_map, List.length_map, l1, l2]; omega), fun d nd => ?_⟩
        rw [e5] at q
        refine ⟨_, .refl _, ?_⟩
        rw [Nat.add_comm r.rw 1]
        have sd : Sub (ups S3 c (.lst [eWp p])) (ups (ups S3 c (.lst [eWp p])) d (.lst ([eWp p] ++ (l.toL.map eWp ++ r.toL.map eWp)))) := Sub.drop nd
        refine q _ d ((s1.trans s2).trans (sb.trans (sc.trans sd))) ((s1.trans s2).trans (sb.trans sc) |>.none nd) ?_
        rw [ups_same]
        show some (O.lst ([eWp p] ++ (l.toL.map eWp ++ r.toL.map eWp))) = some (O.lst ((p :: (l.toL ++ r.toL)).map eWp))
        rw [List.map_cons, List.map_append]
        rfl
theorem okD_l_gone_through (T : Txt K mg) : ∀ n : Nat, FnD P w K mg base (n + 1) 1 "_law_gone_through" (sp_l_gone_through n)
  | 0 => step_l_gone_through T 0 (FnD.vac T.f_l_gone_through)
  | n + 1 => step_l_gone_through T (n + 1) (okD_l_gone_through T n)
theorem ok_l_gone_through (T : Txt K mg) : Fn P w K mg base 103 "_law_gone_through" (sp_l_gone_through 300) := ((okD_l_gone_through T 300).fn (m := 101) (by decide)).mono (by decide)
def sp_l_right : Sp2 := fun ds S Q _ => ∃ (w d k : Addr) (sh : Sh) (ks : List PK) (K : List Wp), ds = [.ref w, .ref k] ∧ WtAt kWaiting S w d sh ks ∧ WtOk sh ks ∧ sh.size ≤ 300 ∧ S k = some (.lst (K.map eWp)) ∧ K.Perm sh.toL ∧ ∀ S', Sub S S' → Q (.bl true) S'
theorem st_l_right (x0 x1 : DL.D) : start2 N_l_right [x0, x1] = [some x0, some x1, none] := rfl
set_option maxHeartbeats 8000000 in
theorem ok_l_right (T : Txt K mg) : Fn P w K mg base 104 "_law_right" sp_l_right := by
  refine fn_intro2 T.f_l_right sc_l_right (fun ds S Q E h => ?_) (fun cdv A outer s H E f hr => ⟨_, (ss_cons (s_set 2 sc_l_right.nd rfl (by first | exact .inl rfl | exact .inr rfl) (.inl rfl) (q_call (ok_l_gone_through T) (hr.mono (by decide)) (by rfl) (a_cons (q_meth0 kWaiting T.kl_Waiting (ok_Waiting_shape T) (by decide) (hr.mono (by decide)) (qv 0 (pv 0))) a_nil)))
 (ss_one (s_ret (q_and (q_isnot (qv 2 (pv 2)) q_non) (q_one (q_eq hr (q_sortedW hr T.b_sorted (by rfl) (a_cons (q_ixk 0 (qv 2 (pv 2))) a_nil)) (q_sortedW hr T.b_sorted (by rfl) (a_cons (qv 1 (pv 1)) a_nil)))))))), fun ds S Q E h => ?_⟩)
  · obtain ⟨_, _, _, _, _, _, rfl, _⟩ := h
    rfl
  · obtain ⟨w, d, k, sh, ks, K, rfl, h, ok, hs, hk, pm, q⟩ := h
    rw [st_l_right]
    walk_at "d"
    rw [h.ob]
    walk_at "d"
    refine ⟨w, d, sh, ks, rfl, h, ?_⟩
    have h1 := Sh.ht_size sh
    refine ⟨sh, rfl, ok.lft, ok.hp, by omega, by omega, ok.nz, fun S1 o s1 no ho => ?_⟩
    walk_at "d"
    refine ⟨.ref o, sh.toL.map pkP, rfl, by rw [List.map_map]; show oL (S1 o) = _; rw [ho]; rfl, fun x nx => ?_⟩
    have sx : Sub S1 (ups S1 x (.lst ((srtP (sh.toL.map pkP)).map ePK))) := Sub.drop nx
    have hx : ups S1 x (.lst ((srtP (sh.toL.map pkP)).map ePK)) x = some (.lst ((srtP (sh.toL.map pkP)).map ePK)) := ups_same
    generalize ups S1 x (.lst ((srtP (sh.toL.map pkP)).map ePK)) = S2 at *
    have s2 := s1.trans sx
    have hk2 := s2 _ _ hk
    refine ⟨.ref k, K.map pkP, rfl, by rw [List.map_map]; show oL (S2 k) = _; rw [hk2]; rfl, fun y ny => ?_⟩
    have sy : Sub S2 (ups S2 y (.lst ((srtP (K.map pkP)).map ePK))) := Sub.drop ny
    refine eq_self' (sy _ _ hx) (by rw [srtP_perm (pm.map pkP)]; exact ups_same) (fun z hz => ?_) ?_
    · obtain ⟨u, hu, rfl⟩ := List.mem_map.mp hz
      obtain ⟨p, _, rfl⟩ := List.mem_map.mp (srtP_mem.mp hu)
      exact self_enc (α := Wp) p (by decide)
    · exact ⟨_, .refl _, q _ (s2.trans sy)⟩
def sp_l_take : Sp2 := fun ds S Q _ => ∃ a n m, ds = [.ref a, .int m] ∧ PenC S a n ∧ n ≤ 100000 ∧ 0 < m ∧ Sz 9000 m ∧ ∀ r x y z, 0 ≤ r → r < m → 0 ≤ z → z ≤ ((n + 1 : Nat) : Int) → Q (.int r) (ups S a (penC x y z))
theorem st_l_take (x0 x1 : DL.D) : start2 N_l_take [x0, x1] = [some x0, some x1, none, none] := rfl
set_option maxHeartbeats 8000000 in
theorem ok_l_take (T : Txt K mg) : Fn P w K mg base 1 "_law_take" sp_l_take := by
  refine fn_intro2 T.f_l_take sc_l_take (fun ds S Q E h => ?_) (fun cdv A outer s H E f hr => ⟨_, (ss_cons (s_if (t_gt (q_ixk 0 (qv 0 (pv 0))) q_int)
 (ss_cons (s_set 2 sc_l_take.nd rfl (by first | exact .inl rfl | exact .inr rfl) (.inl rfl) (q_mod (q_ixk 0 (qv 0 (pv 0))) (qv 1 (pv 1))))
 (ss_cons (s_asg (q_fdiv (q_ixk 0 (qv 0 (pv 0))) (qv 1 (pv 1))) (g_subk 0 (qv 0 (pv 0))))
 (ss_one (s_ret (qv 2 (pv 2))))))
 ss_nil)
 (ss_cons (s_asg (q_add (q_ixk 2 (qv 0 (pv 0))) q_int) (g_subk 2 (qv 0 (pv 0))))
 (ss_cons (s_set 3 sc_l_take.nd rfl (by first | exact .inl rfl | exact .inr rfl) (.inl rfl) (q_mod (q_mul (q_mod (q_add (q_ixk 1 (qv 0 (pv 0))) (q_mul (q_mul (q_ixk 2 (qv 0 (pv 0))) (q_ixk 2 (qv 0 (pv 0)))) q_int)) q_int) q_int) q_int))
 (ss_cons (s_set 3 sc_l_take.nd rfl (by first | exact .inl rfl | exact .inr rfl) (.inl rfl) (q_mod (q_add (q_add (q_mul (qv 3 (pv 3)) (qv 3 (pv 3))) (q_mul q_int (qv 3 (pv 3)))) (q_ixk 2 (qv 0 (pv 0)))) q_int))
 (ss_one (s_ret (q_mod (q_fdiv (qv 3 (pv 3)) q_int) (qv 1 (pv 1))))))))), fun ds S Q E h => ?_⟩)
  · obtain ⟨a, n, m, rfl, _⟩ := h
    rfl
  · obtain ⟨a, n, m, rfl, ⟨x, y, z, h0, z0, z1⟩, hn, hm, hz, q⟩ := h
    rw [st_l_take]
    unfold penC at h0
    walk_at "f"
    refine cnd_dec (fun c => ?_) (fun c => ?_)
    · exact ⟨by omega, ⟨by omega, hz⟩, _, .refl _, q _ _ _ _ (fmod_lt hm).1 (fmod_lt hm).2 z0 (by omega)⟩
    · have h2 : Sz 64 (z + 1) := Sz.lit (by omega)
      exact ⟨.inr (.inl h2), .inr (.inr (Sz.lit (by decide))), .inr (.inr (Sz.lit (by decide))), .inr (.inl (Sz.fmod (by decide) (Sz.lit (by decide)))), .inr (.inl (Sz.lit (by decide))), divOk_lit (by decide) (by decide), by omega, _, .refl _, q _ _ _ _ (fmod_lt hm).1 (fmod_lt hm).2 (by omega) (by omega)⟩
def sp_l_lowest : Sp2 := fun ds S Q _ => match ds with
  | [.int t, .int b] => 0 < b ∧ Sz 9000 b ∧ Q (eQ ((t : Rat) / (b : Rat))) S
  | _ => False
theorem st_l_lowest (x0 x1 : DL.D) : start2 N_l_lowest [x0, x1] = [some x0, some x1, none, none] := rfl
set_option maxHeartbeats 8000000 in
theorem ok_l_lowest (T : Txt K mg) : Fn P w K mg base 1 "_law_lowest" sp_l_lowest := by
  refine fn_intro2 T.f_l_lowest sc_l_lowest (fun ds S Q E h => ?_) (fun cdv A outer s H E f hr => ⟨_, (ss_cons (s_set 2 sc_l_lowest.nd rfl (by first | exact .inl rfl | exact .inr rfl) (.inl rfl) (q_abs T.b_abs (by rfl) (a_cons (qv 0 (pv 0)) a_nil)))
 (ss_cons (s_set 3 sc_l_lowest.nd rfl (by first | exact .inl rfl | exact .inr rfl) (.inl rfl) (qv 1 (pv 1)))
 (ss_cons (s_while .never (t_gt (qv 3 (pv 3)) q_int)
 (ss_one (s_par 2 3 rfl sc_l_lowest.nd rfl rfl (by decide) rfl rfl (a_cons (qv 3 (pv 3)) (a_cons (q_mod (qv 2 (pv 2)) (qv 3 (pv 3))) a_nil)) (by rfl))))
 (ss_one (s_ret (q_tup (a_cons (q_fdiv (qv 0 (pv 0)) (qv 2 (pv 2))) (a_cons (q_fdiv (qv 1 (pv 1)) (qv 2 (pv 2))) a_nil)))))))), fun ds S Q E h => ?_⟩)
  ·   unfold sp_l_lowest at h
      split at h
      · rfl
      · exact h.elim
  · unfold sp_l_lowest at h
    split at h
    · rename_i t b
      obtain ⟨hb0, hs, q⟩ := h
      have hb : b ≠ 0 := by omega
      rw [st_l_lowest]
      walk_at "d"
      rw [abs_nat]
      refine ⟨fun m τ S' => ∃ x : Nat, τ = [some (.int t), some (.int b), some (.int (x : Nat)), some (.int (m : Nat))] ∧ S' = S ∧ Nat.gcd x m = Int.gcd t b, ⟨b.natAbs, t.natAbs, by rw [show ((b.natAbs : Nat) : Int) = b by omega], rfl, rfl⟩, ?_⟩
      rintro m τ S' ⟨x, rfl, rfl, e⟩
      walk_at "d"
      refine cnd_dec (fun hm => ?_) (fun hm => ?_)
      · refine ⟨by omega, x % m, Nat.mod_lt _ (by omega), m, ?_, ?_⟩
        · rw [fmod_nat]
        · rw [gcd_stepN]; exact e
      · have : m = 0 := by omega
        subst this
        rw [Nat.gcd_zero_right] at e
        subst e
        have e1 := low_num (t := t) hb
        have e2 := low_den (t := t) hb
        rw [if_neg (by omega)] at e1 e2
        rw [e1, e2]
        exact ⟨gcd_div_ok hb hs, gcd_div_ok hb hs, _, .refl _, q⟩
    · exact h.elim
def sp_l_time : Sp2 := fun ds S Q _ => ∃ (a : Addr) (n : Nat) (way turn : Int), ds = [.ref a, .int way, .int turn] ∧ PenC S a n ∧ n ≤ 80000 ∧ 0 ≤ way ∧ 0 ≤ turn ∧ turn ≤ 300 ∧ ∀ S' r, Fr S S' a → PenC S' a (n + 2) → Nz 40 r → Q (eQ r) S'
theorem st_l_time (x0 x1 x2 : DL.D) : start2 N_l_time [x0, x1, x2] = [some x0, some x1, some x2] := rfl
set_option maxHeartbeats 8000000 in
theorem ok_l_time (T : Txt K mg) : Fn P w K mg base 2 "_law_time" sp_l_time := by
  refine fn_intro2 T.f_l_time sc_l_time (fun ds S Q E h => ?_) (fun cdv A outer s H E f hr => ⟨_, (ss_cons (s_if (t_lt (qv 1 (pv 1)) q_int)
 (ss_one (s_ret (q_tup (a_cons (q_ixg (fun _ _ => rfl) (q_lst (a_cons (q_sub (qv 2 (pv 2)) q_int) (a_cons (q_sub q_int (qv 2 (pv 2))) (a_cons q_int a_nil)))) (qv 1 (pv 1))) (a_cons q_int a_nil)))))
 ss_nil)
 (ss_cons (s_if (t_eq hr (qv 1 (pv 1)) q_int)
 (ss_one (s_ret (q_call (ok_l_lowest T) (hr.mono (by decide)) (by rfl) (a_cons (q_sub (q_call (ok_l_take T) (hr.mono (by decide)) (by rfl) (a_cons (qv 0 (pv 0)) (a_cons q_int a_nil))) q_int) (a_cons (q_add q_int (q_call (ok_l_take T) (hr.mono (by decide)) (by rfl) (a_cons (qv 0 (pv 0)) (a_cons q_int a_nil)))) a_nil)))))
 ss_nil)
 (ss_one (s_ret (q_call (ok_l_lowest T) (hr.mono (by decide)) (by rfl) (a_cons (q_sub (q_call (ok_l_take T) (hr.mono (by decide)) (by rfl) (a_cons (qv 0 (pv 0)) (a_cons q_int a_nil))) q_int) (a_cons (q_add q_int (q_call (ok_l_take T) (hr.mono (by decide)) (by rfl) (a_cons (qv 0 (pv 0)) (a_cons q_int a_nil)))) a_nil))))))), fun ds S Q E h => ?_⟩)
  · obtain ⟨_, _, _, _, rfl, _⟩ := h
    rfl
  · obtain ⟨a, n, way, turn, rfl, hp, hn, w0, t0, t1, q⟩ := h
    rw [st_l_time]
    walk_at "d"
    refine cnd_dec (fun c => ?_) (fun c => ?_)
    · have hp0 := hp
      intro l nl
      have sl : DL.Sub S (ups S l (.lst [.int (turn - 30), .int (30 - turn), .int 5])) := DL.Sub.drop nl
      first | replace hp := sl _ _ hp | replace hp := hp.sub sl | replace hp := hp.trans sl
      have hl : ups S l (.lst [.int (turn - 30), .int (30 - turn), .int 5]) l = some (.lst [.int (turn - 30), .int (30 - turn), .int 5]) := ups_same
      generalize ups S l (.lst [.int (turn - 30), .int (30 - turn), .int 5]) = S1 at *
      have fr := (Fr.refl S a).sub sl
      walk_at "d"
      obtain ⟨way, rfl⟩ := Int.eq_ofNat_of_zero_le w0
      obtain ⟨v, hv, v0⟩ : ∃ v : Int, ([DL.D.int (turn - 30), DL.D.int (30 - turn), DL.D.int 5] : List DL.D)[way]? = some (.int v) ∧ v.natAbs ≤ 330 := by
        have hm : way < 3 := by omega
        rcases way with _ | _ | _ | m
        · exact ⟨_, rfl, by omega⟩
        · exact ⟨_, rfl, by omega⟩
        · exact ⟨_, rfl, by decide⟩
        · omega
      rw [atI_nat hv]
      walk_at "d"
      refine ⟨_, .refl _, ?_⟩
      have hz : Nz 10 ((v : Int) : Rat) := Nz.lit (m := 9) (by omega)
      exact q S1 (v : Rat) fr (hp.le (by omega)) (hz.le (by decide))
    · refine cnd_dec (fun c2 => ?_) (fun c2 => ?_)
      · refine ⟨a, n, _, rfl, hp, by omega, by decide, Sz.lit (by decide), fun r x y z r0 r1 z0 z1 => ?_⟩
        have fr := (Fr.refl S a).wr (o := penC x y z)
        walk_at "d"
        refine ⟨a, n + 1, _, rfl, penC_again z0 z1, by omega, by decide, Sz.lit (by decide), fun r2 x2 y2 z2 r20 r21 z20 z21 => ?_⟩
        walk_at "d"
        show sp_l_lowest [.int (r - 1), .int (1 + r2)] _ _ _
        unfold sp_l_lowest
        have hz : Nz 8 (((r - 1 : Int) : Rat) / ((1 + r2 : Int) : Rat)) := Nz.quo2 (by omega) (Sz.lit (by omega)) (Sz.lit (by omega))
        refine ⟨by omega, (Sz.lit (m := 8) (by omega)).le (by decide), ?_⟩
        exact ⟨_, .refl _, q _ _ (Fr.wr (Fr.refl S a)) (penC_again z20 (by omega)) (hz.le (by decide))⟩
      · refine ⟨a, n, _, rfl, hp, by omega, by decide, Sz.lit (by decide), fun r x y z r0 r1 z0 z1 => ?_⟩
        have fr := (Fr.refl S a).wr (o := penC x y z)
        walk_at "d"
        refine ⟨a, n + 1, _, rfl, penC_again z0 z1, by omega, by decide, Sz.lit (by decide), fun r2 x2 y2 z2 r20 r21 z20 z21 => ?_⟩
        walk_at "d"
        show sp_l_lowest [.int (r - 500), .int (1 + r2)] _ _ _
        unfold sp_l_lowest
        have hz : Nz 20 (((r - 500 : Int) : Rat) / ((1 + r2 : Int) : Rat)) := Nz.quo2 (by omega) (Sz.lit (by omega)) (Sz.lit (by omega))
        refine ⟨by omega, (Sz.lit (m := 20) (by omega)).le (by decide), ?_⟩
        exact ⟨_, .refl _, q _ _ (Fr.wr (Fr.refl S a)) (penC_again z20 (by omega)) (hz.le (by decide))⟩
theorem erase_in {α : Type} [DecidableEq α] {l : List α} {a x : α} (h : x ∈ l.erase a) : x ∈ l := List.mem_of_mem_erase h
theorem erase_le {α : Type} [DecidableEq α] {l : List α} {a : α} : (l.erase a).length ≤ l.length := List.length_erase_le
theorem erase_nd {α : Type} [DecidableEq α] {l : List α} {a : α} (h : l.Nodup) : l.erase a = l.filter fun x => decide (x ≠ a) := by
  rw [h.erase_eq_filter]
  exact List.filter_congr fun x _ => by
    by_cases e : x = a
    · subst e; simp
    · simp [e]
structure H23 (S : Sto) (a w d k : Addr) (n : Nat) (sh : Sh) (ks : List PK) (K : List Wp) : Prop where
  hp : PenC S a n
  h : WtAt kWaiting S w d sh ks
  hk : S k = some (.lst (K.map eWp))
  ak : a ≠ k
structure P23 (sh : Sh) (ks : List PK) (K : List Wp) (m : Nat) : Prop where
  ok : WtOk sh ks
  pm : K.Perm sh.toL
  lt : ∀ p ∈ K, p.2.2 < (m : Int)
  le : K.length ≤ m
section
variable {S S' : Sto} {a w d k : Addr} {n m : Nat} {sh : Sh} {ks : List PK} {K : List Wp}
theorem H23.sub (h : H23 S a w d k n sh ks K) (s : Sub S S') : H23 S' a w d k n sh ks K := ⟨h.hp.sub s, h.h.sub s, s _ _ h.hk, h.ak⟩
theorem H23.mv (h : H23 S a w d k n sh ks K) (l : n ≤ m) : H23 S a w d k m sh ks K := { h with hp := h.hp.le l }
theorem H23.pen (h : H23 S a w d k n sh ks K) (s : Fr S S' a) (hp : PenC S' a m) : H23 S' a w d k m sh ks K := ⟨hp, h.h.fr s h.hp, s _ _ h.ak.symm h.hk, h.ak⟩
theorem H23.wt (h : H23 S a w d k n sh ks K) (s : Fr2 S S' w d) {sh' : Sh} {ks' : List PK} (q : WtAt kWaiting S' w d sh' ks') : H23 S' a w d k n sh' ks' K := ⟨h.h.pen s h.hp, q, h.h.lst s h.hk, h.ak⟩
theorem H23.ls (h : H23 S a w d k n sh ks K) {K' : List Wp} : H23 (ups S k (.lst (K'.map eWp))) a w d k n sh ks K' :=
  ⟨h.hp.upd h.ak, ⟨(ups_ne (st_ne h.h.ob h.hk fun z => nomatch z)).trans h.h.ob, (ups_ne (st_ne h.h.hd h.hk fun z => nomatch z)).trans h.h.hd⟩, ups_same, h.ak⟩
theorem P23.nz (P : P23 sh ks K m) : ∀ p ∈ K, Nz 4000 p.1 := fun p hp => P.ok.nz p (P.pm.mem_iff.mp hp)
theorem P23.nd (P : P23 sh ks K m) : K.Nodup := P.pm.nodup_iff.mpr P.ok.nd
theorem P23.sz (P : P23 sh ks K m) : sh.size ≤ m := by
  rw [← Sh.toL_len, ← P.pm.length_eq]
  exact P.le
theorem P23.put (P : P23 sh ks K m) {t : Rat} {x : Int} (hz : Nz 4000 t) : P23 (Sh.merged sh (.node (t, x, (m : Int)) .nil .nil)) (ks ++ [pkP (t, x, (m : Int))]) (K ++ [(t, x, (m : Int))]) (m + 1) := by
  have hn : ((t, x, (m : Int)) : Wp) ∉ sh.toL := fun z => by
    have h1 : (m : Int) < m := P.lt _ (P.pm.mem_iff.mpr z)
    omega
  obtain ⟨o1, o2⟩ := P.ok.put (p := (t, x, (m : Int))) hz hn
  refine ⟨o1, (List.perm_append_comm (l₁ := K)).trans ((List.Perm.cons _ P.pm).trans o2.symm), fun p hp => ?_, by rw [List.length_append, List.length_singleton]; exact Nat.succ_le_succ P.le⟩
  rcases List.mem_append.mp hp with hp | hp
  · have := P.lt p hp
    omega
  · rw [List.mem_singleton.mp hp]
    show (m : Int) < _
    omega
theorem P23.new (P : P23 sh ks K m) {t : Rat} {x : Int} : ((t, x, (m : Int)) : Wp) ∉ sh.toL := fun z => by
  have h1 : (m : Int) < m := P.lt _ (P.pm.mem_iff.mpr z)
  omega
theorem P23.take (P : P23 sh ks K m) {p : Wp} (hp : p ∈ K) : P23 (Sh.without p sh) (ks.filter fun x => decide (x ≠ pkP p)) (@List.erase Wp instBEqOfDecidableEq K p) m := by
  obtain ⟨o1, o2⟩ := P.ok.take (p := p)
  refine ⟨o1, ?_, fun x hx => P.lt x (erase_in (α := Wp) hx), Nat.le_trans (erase_le (α := Wp)) P.le⟩
  refine List.Perm.trans ?_ o2.symm
  rw [erase_nd (α := Wp) P.nd]
  exact P.pm.filter _
theorem P23.first (P : P23 sh ks K m) {p : Wp} (hp : p ∈ K) (h : ∀ x ∈ K, prLe p x) : fstD sh = eWp p := by
  have hm := P.pm.mem_iff.mp hp
  cases sh with
  | nil => exact nomatch hm
  | node q l r =>
    show eWp q = eWp p
    have h1 : prLe p q := h q (P.pm.mem_iff.mpr (List.mem_cons_self ..))
    have h2 : prLe q p := Sh.hp_all P.ok.hp p hm
    refine congrArg eWp (Classical.byContradiction fun e => ?_)
    rcases prLt_total e with z | z
    · exact h1 z
    · exact h2 z
end
theorem atI_gl {K : List Wp} (h : K ≠ []) : atI (K.map eWp) (-1) = some (eWp (K.getLast h)) := by
  have e := List.dropLast_concat_getLast h
  generalize K.getLast h = x at *
  generalize K.dropLast = Y at *
  subst e
  exact atI_lastmap
def pySh : Sh → PyData
  | .nil => .none
  | .node p l r => .tuple [Enc.py p, pySh l, pySh r]
theorem pySh_py {S : Sto} : ∀ s : Sh, Py S (eSh s) (pySh s)
  | .nil => .non
  | .node p l r => .tup (.cons (Enc.isPy (α := Wp) S p) (.cons (pySh_py l) (.cons (pySh_py r) .nil)))
theorem pySh_lay : ∀ s : Sh, (pySh s).canLay0 = true
  | .nil => rfl
  | .node p l r => by
    simp only [pySh, PyData.canLay0, PyData.canLayAll0, pySh_lay l, pySh_lay r, Enc.lay (α := Wp) p, Bool.and_self, Bool.true_and]
theorem pySh_dep : ∀ s : Sh, (pySh s).depth ≤ s.ht + 10
  | .nil => by simp only [pySh, PyData.depth]; omega
  | .node p l r => by
    have h1 := pySh_dep l
    have h2 := pySh_dep r
    have h3 : (Enc.py (α := Wp) p).depth ≤ 9 := Nat.le_trans (Enc.dep_le (α := Wp) p) (by decide)
    have e4 : Sh.ht (.node p l r) = max l.ht r.ht + 1 := rfl
    simp only [pySh, PyData.depth, PyData.depthAll]
    omega
theorem pySh_self : ∀ s : Sh, PyData.eqv (pySh s) (pySh s) = true
  | .nil => by simp [pySh, PyData.eqv]
  | .node p l r => by
    simp only [pySh, PyData.eqv, PyData.eqvAll, pySh_self l, pySh_self r, Enc.eqv (α := Wp) p p, decide_true, Bool.and_self, Bool.true_and]
def sp_law : Sp2 := fun ds S Q _ => ∃ sc : List Int, ds = [.fl (sc.map D.int)] ∧ ∀ S', Q (.bl true) S'
theorem st_law (x0 : DL.D) : start2 N_law [x0] = [some x0, none, none, none, none, none, none, none, none, none, none] := rfl
set_option maxHeartbeats 8000000 in
theorem ok_law (T : Txt K mg) {f : Addr} {fd : FuncData} (F : Fun K "law" "law" s_law f fd) : FnOk P w K mg base CX0 146 f fd ["_law_script"] (dnSp K sp_law) := by
  refine fn_core F sc_law (fun ds S Q E h => ?_) (fun cdv A outer s H E hr => ⟨_, (ss_cons (s_set 1 sc_law.nd rfl (by first | exact .inl rfl | exact .inr rfl) (.inl rfl) (q_call (ok_l_pen T) (hr.mono (by decide)) (by rfl) (a_cons (qv 0 (pv 0)) (a_cons q_int a_nil))))
 (ss_cons (s_set 2 sc_law.nd rfl (by first | exact .inl rfl | exact .inr rfl) (.inl rfl) (q_make0 kWaiting rfl T.mk_Waiting (ok_Waiting___init__ T) (hr.mono (by decide)) (by rfl)))
 (ss_cons (s_if (t_isnot (q_meth0 kWaiting T.kl_Waiting (ok_Waiting_shape T) (by decide) (hr.mono (by decide)) (qv 2 (pv 2))) q_non)
 (ss_one (s_ret q_bl))
 ss_nil)
 (ss_cons (s_set 3 sc_law.nd rfl (by first | exact .inl rfl | exact .inr rfl) (.inl rfl) (q_call (ok_l_take T) (hr.mono (by decide)) (by rfl) (a_cons (qv 1 (pv 1)) (a_cons q_int a_nil))))
 (ss_cons (s_set 4 sc_law.nd rfl (by first | exact .inl rfl | exact .inr rfl) (.inl rfl) (q_call (ok_l_take T) (hr.mono (by decide)) (by rfl) (a_cons (qv 1 (pv 1)) (a_cons q_int a_nil))))
 (ss_cons (s_set 5 sc_law.nd rfl (by first | exact .inl rfl | exact .inr rfl) (.inl rfl) (q_ixg (fun _ _ => rfl) (q_lst (a_cons q_int (a_cons q_int (a_cons q_int (a_cons q_int (a_cons q_int (a_cons q_int (a_cons q_int (a_cons q_int a_nil))))))))) (q_call (ok_l_take T) (hr.mono (by decide)) (by rfl) (a_cons (qv 1 (pv 1)) (a_cons q_int a_nil)))))
 (ss_cons (s_if (t_eq hr (q_call (ok_l_take T) (hr.mono (by decide)) (by rfl) (a_cons (qv 1 (pv 1)) (a_cons q_int a_nil))) q_int)
 (ss_one (s_set 5 sc_law.nd rfl (by first | exact .inl rfl | exact .inr rfl) (.inl rfl) q_int))
 ss_nil)
 (ss_cons (s_set 6 sc_law.nd rfl (by first | exact .inl rfl | exact .inr rfl) (.inl rfl) (q_lst a_nil))
 (ss_cons (s_for .never rfl (i_rng1 T.b_range (by rfl) (a_cons (q_add q_int (q_call (ok_l_take T) (hr.mono (by decide)) (by rfl) (a_cons (qv 1 (pv 1)) (a_cons (qv 5 (pv 5)) a_nil)))) a_nil)) (g_name (i := 7) sc_law.nd rfl (by first | exact .inl rfl | exact .inr rfl) (.inl rfl))
 (ss_cons (s_set 8 sc_law.nd rfl (by first | exact .inl rfl | exact .inr rfl) (.inl rfl) (q_tup (a_cons (q_call (ok_l_time T) (hr.mono (by decide)) (by rfl) (a_cons (qv 1 (pv 1)) (a_cons (qv 3 (pv 3)) (a_cons (qv 7 (pv 7)) a_nil)))) (a_cons (q_tup (a_cons (q_call (ok_l_take T) (hr.mono (by decide)) (by rfl) (a_cons (qv 1 (pv 1)) (a_cons q_int a_nil))) (a_cons (qv 7 (pv 7)) a_nil))) a_nil))))
 (ss_cons (s_expr (q_meth kWaiting T.kl_Waiting (ok_Waiting_put T) (by decide) (hr.mono (by decide)) (qv 2 (pv 2)) (a_cons (q_ixk 0 (qv 8 (pv 8))) (a_cons (q_ixk 1 (qv 8 (pv 8))) a_nil))))
 (ss_cons (s_expr (q_append (qv 6 (pv 6)) (a_cons (qv 8 (pv 8)) a_nil)))
 (ss_cons (s_if (PW.pt (w_and (t_gt (qv 4 (pv 4)) q_int) (w_and1 (t_lt (q_call (ok_l_take T) (hr.mono (by decide)) (by rfl) (a_cons (qv 1 (pv 1)) (a_cons q_int a_nil))) (qv 4 (pv 4))))))
 (ss_cons (s_set 9 sc_law.nd rfl (by first | exact .inl rfl | exact .inr rfl) (.inl rfl) (q_ixg (fun _ _ => rfl) (qv 6 (pv 6)) (q_call (ok_l_take T) (hr.mono (by decide)) (by rfl) (a_cons (qv 1 (pv 1)) (a_cons (q_len T.b_len (by rfl) (a_cons (qv 6 (pv 6)) a_nil)) a_nil)))))
 (ss_cons (s_if (t_eq hr (q_call (ok_l_take T) (hr.mono (by decide)) (by rfl) (a_cons (qv 1 (pv 1)) (a_cons q_int a_nil))) q_int)
 (ss_one (s_set 9 sc_law.nd rfl (by first | exact .inl rfl | exact .inr rfl) (.inl rfl) (q_ixg (fun _ _ => rfl) (q_lst (a_cons (q_call (ok_l_least T) (hr.mono (by decide)) (by rfl) (a_cons (qv 6 (pv 6)) a_nil)) (a_cons (q_ixg (fun _ _ => rfl) (qv 6 (pv 6)) (q_neg q_int)) a_nil))) (q_call (ok_l_take T) (hr.mono (by decide)) (by rfl) (a_cons (qv 1 (pv 1)) (a_cons q_int a_nil))))))
 ss_nil)
 (ss_cons (s_if (t_ne hr (q_meth0 kWaiting T.kl_Waiting (ok_Waiting_first T) (by decide) (hr.mono (by decide)) (qv 2 (pv 2))) (q_call (ok_l_least T) (hr.mono (by decide)) (by rfl) (a_cons (qv 6 (pv 6)) a_nil)))
 (ss_one (s_ret q_bl))
 ss_nil)
 (ss_cons (s_expr (q_meth kWaiting T.kl_Waiting (ok_Waiting_take T) (by decide) (hr.mono (by decide)) (qv 2 (pv 2)) (a_cons (q_ixk 0 (qv 9 (pv 9))) (a_cons (q_ixk 1 (qv 9 (pv 9))) a_nil))))
 (ss_one (s_expr (q_removeD hr (qv 6 (pv 6)) (a_cons (qv 9 (pv 9)) a_nil))))))))
 ss_nil)
 (ss_one (s_if (PW.pt (w_and (t_eq hr (q_mod (qv 7 (pv 7)) (q_ixg (fun _ _ => rfl) (q_lst (a_cons q_int (a_cons q_int a_nil))) (q_int1 T.b_int (by rfl) (a_cons (q_gt (qv 5 (pv 5)) q_int) a_nil)))) q_int) (w_and1 (t_not (t_val (q_call (ok_l_right T) (hr.mono (by decide)) (by rfl) (a_cons (qv 2 (pv 2)) (a_cons (qv 6 (pv 6)) a_nil))))))))
 (ss_one (s_ret q_bl))
 ss_nil)))))))
 (ss_cons (s_set 10 sc_law.nd rfl (by first | exact .inl rfl | exact .inr rfl) (.inl rfl) (q_meth0 kWaiting T.kl_Waiting (ok_Waiting_shape T) (by decide) (hr.mono (by decide)) (qv 2 (pv 2))))
 (ss_one (s_ret (q_and (q_call (ok_l_right T) (hr.mono (by decide)) (by rfl) (a_cons (qv 2 (pv 2)) (a_cons (qv 6 (pv 6)) a_nil))) (q_one (q_eqL (n := 320) (Room.uL hr (by decide)) (q_meth0 kWaiting T.kl_Waiting (ok_Waiting_shape T) (by decide) (hr.mono (by decide)) (qv 2 (pv 2))) (qv 10 (pv 10))))))))))))))))), fun ds S Q E h => ?_⟩)
  · obtain ⟨sc, rfl, _⟩ := h
    rfl
  · obtain ⟨sc, rfl, q⟩ := h
    rw [st_law]
    show uSeq _ _ _ _ _
    refine seq_cut (fun τ S' => ∃ a, PenC S' a 1 ∧ τ = [some (.fl (sc.map DL.D.int)), some (.ref a), none, none, none, none, none, none, none, none, none]) (fun τ S1 h1 => ?_) (fun R hR => ?_)
    rotate_left
    · walk_at "d"
      refine ⟨sc, 0, rfl, by decide, fun a x y z na z0 z1 => ?_⟩
      exact hR _ _ ⟨a, penC_again z0 z1, rfl⟩
    obtain ⟨a, hp, rfl⟩ := h1
    refine seq_cut (fun τ S' => ∃ w d, PenC S' a 1 ∧ WtAt kWaiting S' w d .nil [] ∧ τ = [some (.fl (sc.map DL.D.int)), some (.ref a), some (.ref w), none, none, none, none, none, none, none, none]) (fun τ S2 h2 => ?_) (fun R hR => ?_)
    rotate_left
    · walk_at "d"
      intro w nw
      have hp0 := hp.new (o := .ins kWaiting []) nw
      have aw := hp.ne nw
      refine ⟨w, rfl, ups_same, fun d S3 nd fr h => ⟨rfl, ?_⟩⟩
      exact hR _ _ ⟨w, d, hp0.by (fr a · aw), h, rfl⟩
    clear hp
    obtain ⟨w, d, hp, h0, rfl⟩ := h2
    refine seq_cut (fun τ S' => S' = S2 ∧ τ = [some (.fl (sc.map DL.D.int)), some (.ref a), some (.ref w), none, none, none, none, none, none, none, none]) (fun τ S3 h3 => ?_) (fun R hR => ?_)
    rotate_left
    · walk_at "d"
      rw [h0.ob]
      walk_at "d"
      refine ⟨w, d, .nil, [], rfl, h0, ?_⟩
      rw [show eSh .nil = DL.D.non from rfl]
      walk_at "d"
      exact hR _ _ ⟨rfl, rfl⟩
    obtain ⟨rfl, rfl⟩ := h3
    refine seq_cut (fun τ S' => ∃ way : Int, 0 ≤ way ∧ PenC S' a 2 ∧ WtAt kWaiting S' w d .nil [] ∧ τ = [some (.fl (sc.map DL.D.int)), some (.ref a), some (.ref w), some (.int way), none, none, none, none, none, none, none]) (fun τ S4 h4 => ?_) (fun R hR => ?_)
    rotate_left
    · walk_at "d"
      refine ⟨a, _, _, rfl, hp, by omega, by decide, Sz.lit (by decide), fun m x y z m0 m1 z0 z1 => ?_⟩
      exact hR _ _ ⟨m, m0, penC_again z0 z1, h0.fr (Fr.wr (Fr.refl _ a)) hp, rfl⟩
    clear h0 hp
    obtain ⟨way, w0, hp, h0, rfl⟩ := h4
    refine seq_cut (fun τ S' => ∃ often : Int, PenC S' a 3 ∧ WtAt kWaiting S' w d .nil [] ∧ τ = [some (.fl (sc.map DL.D.int)), some (.ref a), some (.ref w), some (.int way), some (.int often), none, none, none, none, none, none]) (fun τ S5 h5 => ?_) (fun R hR => ?_)
    rotate_left
    · walk_at "d"
      refine ⟨a, _, _, rfl, hp, by omega, by decide, Sz.lit (by decide), fun m x y z m0 m1 z0 z1 => ?_⟩
      exact hR _ _ ⟨m, penC_again z0 z1, h0.fr (Fr.wr (Fr.refl _ a)) hp, rfl⟩
    clear h0 hp
    obtain ⟨often, hp, h0, rfl⟩ := h5
    refine seq_cut (fun τ S' => ∃ most : Int, 0 < most ∧ most ≤ 120 ∧ PenC S' a 4 ∧ WtAt kWaiting S' w d .nil [] ∧ τ = [some (.fl (sc.map DL.D.int)), some (.ref a), some (.ref w), some (.int way), some (.int often), some (.int most), none, none, none, none, none]) (fun τ S6 h6 => ?_) (fun R hR => ?_)
    rotate_left
    · walk_at "d"
      have hp0 := hp
      intro l nl
      have sl : DL.Sub S5 (ups S5 l (.lst [.int 60, .int 60, .int 60, .int 60, .int 60, .int 60, .int 60, .int 120])) := DL.Sub.drop nl
      first | replace hp := sl _ _ hp | replace hp := hp.sub sl | replace hp := hp.trans sl
      first | replace h0 := sl _ _ h0 | replace h0 := h0.sub sl | replace h0 := h0.trans sl
      have hl : ups S5 l (.lst [.int 60, .int 60, .int 60, .int 60, .int 60, .int 60, .int 60, .int 120]) l = some (.lst [.int 60, .int 60, .int 60, .int 60, .int 60, .int 60, .int 60, .int 120]) := ups_same
      generalize ups S5 l (.lst [.int 60, .int 60, .int 60, .int 60, .int 60, .int 60, .int 60, .int 120]) = S6 at *
      have al := hp0.ne nl
      refine ⟨a, _, _, rfl, hp, by omega, by decide, Sz.lit (by decide), fun m x y z m0 m1 z0 z1 => ?_⟩
      replace h0 := h0.fr (Fr.wr (o := penC x y z) (Fr.refl _ a)) hp
      have hp7 : PenC (ups S6 a (penC x y z)) a 4 := penC_again z0 z1
      replace hl := (ups_ne (S := S6) (o := penC x y z) al.symm).trans hl
      generalize ups S6 a (penC x y z) = S7 at *
      walk_at "d"
      rw [hl]
      walk_at "d"
      obtain ⟨m, rfl⟩ := Int.eq_ofNat_of_zero_le m0
      obtain ⟨v, hv, v0, v1⟩ : ∃ v : Int, ([DL.D.int 60, DL.D.int 60, DL.D.int 60, DL.D.int 60, DL.D.int 60, DL.D.int 60, DL.D.int 60, DL.D.int 120] : List DL.D)[m]? = some (.int v) ∧ 0 < v ∧ v ≤ 120 := by
        have hm : m < 8 := by omega
        rcases m with _ | _ | _ | _ | _ | _ | _ | _ | m
        all_goals first | exact ⟨_, rfl, by decide, by decide⟩ | omega
      rw [atI_nat hv]
      walk_at "d"
      exact hR _ _ ⟨v, v0, v1, hp7, h0, rfl⟩
    clear h0 hp
    obtain ⟨most, m0, m1, hp, h0, rfl⟩ := h6
    refine seq_cut (fun τ S' => ∃ most : Int, 0 < most ∧ most ≤ 300 ∧ PenC S' a 5 ∧ WtAt kWaiting S' w d .nil [] ∧ τ = [some (.fl (sc.map DL.D.int)), some (.ref a), some (.ref w), some (.int way), some (.int often), some (.int most), none, none, none, none, none]) (fun τ S7 h7 => ?_) (fun R hR => ?_)
    rotate_left
    · walk_at "d"
      refine ⟨a, _, _, rfl, hp, by omega, by decide, Sz.lit (by decide), fun m x y z m00 m11 z0 z1 => ?_⟩
      replace h0 := h0.fr (Fr.wr (o := penC x y z) (Fr.refl _ a)) hp
      have hp7 : PenC (ups S6 a (penC x y z)) a 5 := penC_again z0 z1
      generalize ups S6 a (penC x y z) = S7 at *
      walk_at "d"
      refine cnd_dec (fun c => ?_) (fun c => ?_)
      · exact hR _ _ ⟨300, by decide, by decide, hp7, h0, rfl⟩
      · exact hR _ _ ⟨most, m0, by omega, hp7, h0, rfl⟩
    clear h0 hp m0 m1 most
    obtain ⟨most, m0, m1, hp, h0, rfl⟩ := h7
    refine seq_cut (fun τ S' => ∃ k, H23 S' a w d k 5 .nil [] [] ∧ τ = [some (.fl (sc.map DL.D.int)), some (.ref a), some (.ref w), some (.int way), some (.int often), some (.int most), some (.ref k), none, none, none, none]) (fun τ S8 h8 => ?_) (fun R hR => ?_)
    rotate_left
    · walk_at "d"
      have hp0 := hp
      intro k nk
      have sk : DL.Sub S7 (ups S7 k (.lst [])) := DL.Sub.drop nk
      first | replace hp := sk _ _ hp | replace hp := hp.sub sk | replace hp := hp.trans sk
      first | replace h0 := sk _ _ h0 | replace h0 := h0.sub sk | replace h0 := h0.trans sk
      have hk : ups S7 k (.lst []) k = some (.lst []) := ups_same
      generalize ups S7 k (.lst []) = S8 at *
      exact hR _ _ ⟨k, ⟨hp, h0, hk, hp0.ne nk⟩, rfl⟩
    clear h0 hp
    obtain ⟨k, H, rfl⟩ := h8
    walk_at "d"
    refine ⟨a, _, _, rfl, H.hp, by omega, by omega, (Sz.lit (m := 10) (by omega)).le (by decide), fun m x y z m00 m11 z0 z1 => ?_⟩
    replace H := H.pen (Fr.wr (o := penC x y z) (Fr.refl S8 a)) (penC_again (n := 6) z0 z1)
    generalize ups S8 a (penC x y z) = S9 at *
    obtain ⟨m, rfl⟩ := Int.eq_ofNat_of_zero_le m00
    walk_at "d"
    refine ⟨by omega, ?_⟩
    rw [show ((1 + (m : Int)).toNat) = 1 + m by omega]
    refine loop_r0 (n := 1 + m) (fun turn τ S' => ∃ (sh : Sh) (ks : List PK) (K : List Wp) (v7 v8 v9 : Option DL.D), H23 S' a w d k (6 + 20 * turn) sh ks K ∧ P23 sh ks K turn ∧ τ = [some (.fl (sc.map DL.D.int)), some (.ref a), some (.ref w), some (.int way), some (.int often), some (.int most), some (.ref k), v7, v8, v9, none]) ⟨_, _, _, _, _, _, H, ⟨.nil, .refl _, (fun _ h => nomatch h), Nat.le_refl _⟩, rfl⟩ ?_ ?_
    rotate_left
    · rintro τ S10 ⟨sh, ks, K, v7, v8, v9, H, P, rfl⟩
      have hsz := P.sz
      walk_at "d"
      rw [H.h.ob]
      walk_at "d"
      refine ⟨w, d, sh, ks, rfl, H.h, ?_⟩
      walk_at "d"
      refine ⟨w, d, k, sh, ks, K, rfl, H.h, P.ok, by omega, H.hk, P.pm, fun S11 s11 => ?_⟩
      walk_at "d"
      rw [s11 _ _ H.h.ob]
      walk_at "d"
      refine ⟨w, d, sh, ks, rfl, H.h.sub s11, ?_⟩
      walk_at "d"
      have h1 := Sh.ht_size sh
      refine ⟨_, ⟨pySh sh, pySh sh, pySh_py sh, pySh_py sh, pySh_lay sh, pySh_lay sh, Nat.le_trans (pySh_dep sh) (by omega), rfl⟩, ?_⟩
      rw [pySh_self]
      exact ⟨_, .refl _, q _⟩
    clear H
    rintro turn τ S10 ht ⟨sh, ks, K, v7, v8, v9, H, P, rfl⟩
    have hsz := P.sz
    refine seq_cut (fun τ S' => ∃ (t : Rat) (x : Int), Nz 4000 t ∧ H23 S' a w d k (9 + 20 * turn) sh ks K ∧ τ = [some (.fl (sc.map DL.D.int)), some (.ref a), some (.ref w), some (.int way), some (.int often), some (.int most), some (.ref k), some (.int (turn : Int)), some (eWp (t, x, (turn : Int))), v9, none]) (fun τ S11 h11 => ?_) (fun R hR => ?_)
    rotate_left
    · walk_at "d"
      refine ⟨a, _, way, _, rfl, H.hp, by omega, w0, by omega, by omega, fun S11 t fr hp zt => ?_⟩
      replace H := H.pen fr hp
      walk_at "d"
      refine ⟨a, _, _, rfl, H.hp, by omega, by decide, Sz.lit (by decide), fun x x' y z x0 x1 z0 z1 => ?_⟩
      replace H := H.pen (Fr.wr (o := penC x' y z) (Fr.refl S11 a)) (penC_again (n := 9 + 20 * turn) z0 (by omega))
      walk_at "d"
      exact hR _ _ ⟨t, x, zt.le (by decide), H, rfl⟩
    clear H
    obtain ⟨t, x, zt, H, rfl⟩ := h11
    refine seq_cut (fun τ S' => H23 S' a w d k (9 + 20 * turn) (Sh.merged sh (.node (t, x, (turn : Int)) .nil .nil)) (ks ++ [pkP (t, x, (turn : Int))]) K ∧ τ = [some (.fl (sc.map DL.D.int)), some (.ref a), some (.ref w), some (.int way), some (.int often), some (.int most), some (.ref k), some (.int (turn : Int)), some (eWp (t, x, (turn : Int))), v9, none]) (fun τ S12 h12 => ?_) (fun R hR => ?_)
    rotate_left
    · rw [show eWp (t, x, (turn : Int)) = .tup [eQ t, .tup [.int x, .int (turn : Int)]] from rfl] at *
      walk_at "d"
      rw [H.h.ob]
      walk_at "d"
      refine ⟨w, d, sh, ks, (t, x, (turn : Int)), rfl, H.h, P.ok, by omega, zt, P.new, fun S12 fr h => ?_⟩
      exact hR _ _ ⟨H.wt fr h, rfl⟩
    clear H
    obtain ⟨H, rfl⟩ := h12
    refine seq_cut (fun τ S' => ∃ sh ks K, H23 S' a w d k (9 + 20 * turn) sh ks K ∧ P23 sh ks K (turn + 1) ∧ K ≠ [] ∧ τ = [some (.fl (sc.map DL.D.int)), some (.ref a), some (.ref w), some (.int way), some (.int often), some (.int most), some (.ref k), some (.int (turn : Int)), some (eWp (t, x, (turn : Int))), v9, none]) (fun τ S12 h12 => ?_) (fun R hR => ?_)
    rotate_left
    · walk_at "d"
      rw [H.hk]
      walk_at "d"
      have hl := P.le
      refine ⟨⟨_, rfl⟩, lt_line (by omega), ?_⟩
      rw [show K.map eWp ++ [eWp (t, x, (turn : Int))] = (K ++ [(t, x, (turn : Int))]).map eWp by rw [List.map_append]; rfl]
      exact hR _ _ ⟨_, _, _, H.ls, P.put zt, by simp, rfl⟩
    clear H P hsz sh ks K
    obtain ⟨sh, ks, K, H, P, hne, rfl⟩ := h12
    have hsz := P.sz
    have hle := P.le
    refine seq_cut (fun τ S' => ∃ (sh : Sh) (ks : List PK) (K : List Wp) (v9 : Option DL.D), H23 S' a w d k (20 + 20 * turn) sh ks K ∧ P23 sh ks K (turn + 1) ∧ τ = [some (.fl (sc.map DL.D.int)), some (.ref a), some (.ref w), some (.int way), some (.int often), some (.int most), some (.ref k), some (.int (turn : Int)), some (eWp (t, x, (turn : Int))), v9, none]) (fun τ S13 h13 => ?_) (fun R hR => ?_)
    rotate_left
    · refine if_gen fun A' hA' => ?_
      walk_at "d"
      refine cnd_dec (fun c => ?_) (fun c => hR _ _ ⟨_, _, _, _, H.mv (by omega), P, rfl⟩)
      refine ⟨a, _, _, rfl, H.hp, by omega, by decide, Sz.lit (by decide), fun m x' y z m0 m1 z0 z1 => ?_⟩
      replace H := H.pen (Fr.wr (o := penC x' y z) (Fr.refl S12 a)) (penC_again (n := 10 + 20 * turn) z0 (by omega))
      generalize ups S12 a (penC x' y z) = S13 at *
      walk_at "d"
      refine cnd_dec (fun c2 => ?_) (fun c2 => hR _ _ ⟨_, _, _, _, H.mv (by omega), P, rfl⟩)
      refine hA' _ _ _ ?_
      clear hA'
      refine seq_cut (fun τ S' => ∃ p, p ∈ K ∧ H23 S' a w d k (11 + 20 * turn) sh ks K ∧ τ = [some (.fl (sc.map DL.D.int)), some (.ref a), some (.ref w), some (.int way), some (.int often), some (.int most), some (.ref k), some (.int (turn : Int)), some (eWp (t, x, (turn : Int))), some (eWp p), none]) (fun τ S14 h14 => ?_) (fun R2 hR2 => ?_)
      rotate_left
      · walk_at "d"
        rw [H.hk]
        walk_at "d"
        have hl0 : 0 < K.length := List.length_pos_iff.mpr hne
        refine ⟨a, _, _, rfl, H.hp, by omega, by omega, (Sz.lit (m := 10) (by omega)).le (by decide), fun j x' y z j0 j1 z0 z1 => ?_⟩
        replace H := H.pen (Fr.wr (o := penC x' y z) (Fr.refl S13 a)) (penC_again (n := 11 + 20 * turn) z0 (by omega))
        generalize ups S13 a (penC x' y z) = S14 at *
        obtain ⟨j, rfl⟩ := Int.eq_ofNat_of_zero_le j0
        have hj : j < K.length := by omega
        walk_at "d"
        rw [H.hk]
        walk_at "d"
        rw [atI_nat (xs := K.map eWp) (j := j) (v := eWp K[j]) (by rw [List.getElem?_map, List.getElem?_eq_getElem hj]; rfl)]
        walk_at "d"
        exact hR2 _ _ ⟨K[j], List.getElem_mem hj, H, rfl⟩
      clear H
      obtain ⟨p, hp, H, rfl⟩ := h14
      refine seq_cut (fun τ S' => ∃ p, p ∈ K ∧ H23 S' a w d k (14 + 20 * turn) sh ks K ∧ τ = [some (.fl (sc.map DL.D.int)), some (.ref a), some (.ref w), some (.int way), some (.int often), some (.int most), some (.ref k), some (.int (turn : Int)), some (eWp (t, x, (turn : Int))), some (eWp p), none]) (fun τ S15 h15 => ?_) (fun R2 hR2 => ?_)
      rotate_left
      · walk_at "d"
        refine ⟨a, _, _, rfl, H.hp, by omega, by decide, Sz.lit (by decide), fun m x' y z m0 m1 z0 z1 => ?_⟩
        replace H := H.pen (Fr.wr (o := penC x' y z) (Fr.refl S14 a)) (penC_again (n := 12 + 20 * turn) z0 (by omega))
        generalize ups S14 a (penC x' y z) = S15 at *
        walk_at "d"
        refine cnd_dec (fun c3 => ?_) (fun c3 => hR2 _ _ ⟨p, hp, H.mv (by omega), rfl⟩)
        refine ⟨k, K, rfl, H.hk, hne, by omega, P.nz, fun p2 hp2 hle2 => ?_⟩
        walk_at "d"
        rw [H.hk]
        walk_at "d"
        have hlast : K.getLast hne ∈ K := List.getLast_mem hne
        rw [atI_gl hne]
        walk_at "d"
        have hK0 := H.h
        intro l nl
        have al := H.hp.ne nl
        have H2 := H.sub (Sub.drop (o := .lst [eWp p2, eWp (K.getLast hne)]) nl)
        have hl2 : ups S15 l (.lst [eWp p2, eWp (K.getLast hne)]) l = some (.lst [eWp p2, eWp (K.getLast hne)]) := ups_same
        generalize ups S15 l (.lst [eWp p2, eWp (K.getLast hne)]) = S16 at *
        refine ⟨a, _, _, rfl, H2.hp, by omega, by decide, Sz.lit (by decide), fun j x' y z j0 j1 z0 z1 => ?_⟩
        replace H2 := H2.pen (Fr.wr (o := penC x' y z) (Fr.refl S16 a)) (penC_again (n := 14 + 20 * turn) z0 (by omega))
        replace hl2 := (ups_ne (S := S16) (o := penC x' y z) al.symm).trans hl2
        generalize ups S16 a (penC x' y z) = S17 at *
        obtain ⟨j, rfl⟩ := Int.eq_ofNat_of_zero_le j0
        walk_at "d"
        rw [hl2]
        walk_at "d"
        obtain ⟨v, hv, hvm⟩ : ∃ v : Wp, ([eWp p2, eWp (K.getLast hne)] : List DL.D)[j]? = some (eWp v) ∧ v ∈ K := by
          have hj : j < 2 := by omega
          rcases j with _ | _ | j
          · exact ⟨_, rfl, hp2⟩
          · exact ⟨_, rfl, hlast⟩
          · omega
        rw [atI_nat hv]
        walk_at "d"
        exact hR2 _ _ ⟨v, hvm, H2, rfl⟩
      clear H hp p
      obtain ⟨p, hp, H, rfl⟩ := h15
      refine seq_cut (fun τ S' => S' = S15 ∧ τ = [some (.fl (sc.map DL.D.int)), some (.ref a), some (.ref w), some (.int way), some (.int often), some (.int most), some (.ref k), some (.int (turn : Int)), some (eWp (t, x, (turn : Int))), some (eWp p), none]) (fun τ S16 h16 => ?_) (fun R2 hR2 => ?_)
      rotate_left
      · walk_at "d"
        rw [H.h.ob]
        walk_at "d"
        refine ⟨w, d, sh, ks, rfl, H.h, ?_⟩
        refine ⟨k, K, rfl, H.hk, hne, by omega, P.nz, fun p2 hp2 hle2 => ?_⟩
        rw [P.first hp2 hle2]
        refine ne_wp ?_
        walk_at "d"
        exact hR2 _ _ ⟨rfl, rfl⟩
      obtain ⟨rfl, rfl⟩ := h16
      refine seq_cut (fun τ S' => H23 S' a w d k (14 + 20 * turn) (Sh.without p sh) (ks.filter fun x => decide (x ≠ pkP p)) K ∧ τ = [some (.fl (sc.map DL.D.int)), some (.ref a), some (.ref w), some (.int way), some (.int often), some (.int most), some (.ref k), some (.int (turn : Int)), some (eWp (t, x, (turn : Int))), some (eWp p), none]) (fun τ S17 h17 => ?_) (fun R2 hR2 => ?_)
      rotate_left
      · obtain ⟨p1, p2, p3⟩ := p
        rw [show eWp (p1, p2, p3) = .tup [eQ p1, .tup [.int p2, .int p3]] from rfl] at *
        walk_at "d"
        rw [H.h.ob]
        walk_at "d"
        refine ⟨w, d, sh, ks, (p1, p2, p3), rfl, H.h, P.ok, by omega, P.pm.mem_iff.mp hp, fun S17 fr h => ?_⟩
        exact hR2 _ _ ⟨H.wt fr h, rfl⟩
      clear H
      obtain ⟨H, rfl⟩ := h17
      walk_at "d"
      refine ⟨⟨_, H.hk⟩, ?_⟩
      refine remD_of (α := Wp) (xs := K) (x := p) H.hk hp ?_
      exact hR _ _ ⟨_, _, _, _, (H.ls (K' := @List.erase Wp instBEqOfDecidableEq K p)).mv (by omega), P.take hp, rfl⟩
    clear H P hsz hle hne sh ks K
    obtain ⟨sh, ks, K, v9, H, P, rfl⟩ := h13
    have hsz := P.sz
    walk_at "d"
    intro u nu
    have H2 := H.sub (Sub.drop (o := .lst [.int 8, .int 30]) nu)
    generalize ups S13 u (.lst [.int 8, .int 30]) = S14 at *
    obtain ⟨v, hv, v0⟩ : ∃ v : Int, atI [DL.D.int 8, DL.D.int 30] (if decide (60 < most) = true then 1 else 0) = some (.int v) ∧ v ≠ 0 := by
      split
      · exact ⟨30, rfl, by decide⟩
      · exact ⟨8, rfl, by decide⟩
    rw [hv]
    walk_at "d"
    refine ⟨v0, ?_⟩
    refine cnd_dec (fun c => ?_) (fun c => ⟨_, _, _, _, _, _, H2.mv (by omega), P, rfl⟩)
    refine ⟨w, d, k, sh, ks, K, rfl, H2.h, P.ok, by omega, H2.hk, P.pm, fun S15 s15 => ?_⟩
    walk_at "d"
    exact ⟨_, _, _, _, _, _, (H2.sub s15).mv (by omega), P, rfl⟩
end
end Claim
open PySem PySem.W PyProof.Rows
set_option maxHeartbeats 0 in
theorem PySem.Challenge.cw_leadtimes_k23_shapes_of_waiting_holds : PySem.Challenge.rw_leadtimes_k23_shapes_of_waiting.Holds := by
  w_on; o_law; k_head; (case hw => w_witness2)
  k_fill
  refine L2.walk_of (l := PySem.Challenge.rw_leadtimes_k23_shapes_of_waiting) (n := 63) (k := 146) (x := "_law_script") (CX := fun _ => L2.CX0) (sp := fun w => DL.dnSp _ Claim.sp_law) rfl (by decide) rfl ⟨rfl, by decide, by decide⟩ (fun w h Y => PySem.W.kIn_of Y) ?F (fun _ _ a ns hl hO hS => DL.script_at hO hS fun _ => ⟨ns, rfl, fun _ => rfl⟩) (fun _ _ _ _ _ h => h)
  case F =>
    intro w mg fa h KX G hmg
    have T : Claim.Txt _ mg := {
      b_abs := PySem.W.mg_none_of KX G (by k_is)
      b_int := PySem.W.mg_none_of KX G (by k_is)
      b_isinstance := PySem.W.mg_none_of KX G (by k_is)
      b_len := PySem.W.mg_none_of KX G (by k_is)
      b_range := PySem.W.mg_none_of KX G (by k_is)
      b_sorted := PySem.W.mg_none_of KX G (by k_is)
      b_tuple := PySem.W.mg_none_of KX G (by k_is)
      kl_Waiting := DL.klOk_of (by kernel_rfl)
      mk_Waiting := DL.mkAt_of KX G (by kernel_rfl)
      f_Waiting___init__ := by refine' DL.met_at KX ?aC ?a ?i ?l ?c ?k (fun _ _ _ _ _ _ us hl => match us, hl with | [_], _ => rfl); (case aC => k_is); (case a => k_is); (case i => k_is); (case l => k_is); (case c => k_is); (case k => k_is)
      f_Waiting_first := by refine' DL.met_at KX ?aC ?a ?i ?l ?c ?k (fun _ _ _ _ _ _ us hl => match us, hl with | [_], _ => rfl); (case aC => k_is); (case a => k_is); (case i => k_is); (case l => k_is); (case c => k_is); (case k => k_is)
      f_is_less := by refine' DL.fun_at KX G ?a ?l ?c ?k (fun _ _ _ _ _ _ us hl => match us, hl with | [_, _], _ => rfl); (case a => k_is); (case l => k_is); (case c => k_is); (case k => k_is)
      f_comes_ahead := by refine' DL.fun_at KX G ?a ?l ?c ?k (fun _ _ _ _ _ _ us hl => match us, hl with | [_, _], _ => rfl); (case a => k_is); (case l => k_is); (case c => k_is); (case k => k_is)
      f_right_way := by refine' DL.fun_at KX G ?a ?l ?c ?k (fun _ _ _ _ _ _ us hl => match us, hl with | [_], _ => rfl); (case a => k_is); (case l => k_is); (case c => k_is); (case k => k_is)
      f_laid := by refine' DL.fun_at KX G ?a ?l ?c ?k (fun _ _ _ _ _ _ us hl => match us, hl with | [_, _, _], _ => rfl); (case a => k_is); (case l => k_is); (case c => k_is); (case k => k_is)
      f_merged := by refine' DL.fun_at KX G ?a ?l ?c ?k (fun _ _ _ _ _ _ us hl => match us, hl with | [_, _], _ => rfl); (case a => k_is); (case l => k_is); (case c => k_is); (case k => k_is)
      f_Waiting_put := by refine' DL.met_at KX ?aC ?a ?i ?l ?c ?k (fun _ _ _ _ _ _ us hl => match us, hl with | [_, _, _], _ => rfl); (case aC => k_is); (case a => k_is); (case i => k_is); (case l => k_is); (case c => k_is); (case k => k_is)
      f_Waiting_shape := by refine' DL.met_at KX ?aC ?a ?i ?l ?c ?k (fun _ _ _ _ _ _ us hl => match us, hl with | [_], _ => rfl); (case aC => k_is); (case a => k_is); (case i => k_is); (case l => k_is); (case c => k_is); (case k => k_is)
      f_without := by refine' DL.fun_at KX G ?a ?l ?c ?k (fun _ _ _ _ _ _ us hl => match us, hl with | [_, _], _ => rfl); (case a => k_is); (case l => k_is); (case c => k_is); (case k => k_is)
      f_Waiting_take := by refine' DL.met_at KX ?aC ?a ?i ?l ?c ?k (fun _ _ _ _ _ _ us hl => match us, hl with | [_, _, _], _ => rfl); (case aC => k_is); (case a => k_is); (case i => k_is); (case l => k_is); (case c => k_is); (case k => k_is)
      f_l_before := by refine' DL.fun_at KX G ?a ?l ?c ?k (fun _ _ _ _ _ _ us hl => match us, hl with | [_, _], _ => rfl); (case a => k_is); (case l => k_is); (case c => k_is); (case k => k_is)
      f_l_least := by refine' DL.fun_at KX G ?a ?l ?c ?k (fun _ _ _ _ _ _ us hl => match us, hl with | [_], _ => rfl); (case a => k_is); (case l => k_is); (case c => k_is); (case k => k_is)
      f_l_pen := by refine' DL.fun_at KX G ?a ?l ?c ?k (fun _ _ _ _ _ _ us hl => match us, hl with | [_, _], _ => rfl); (case a => k_is); (case l => k_is); (case c => k_is); (case k => k_is)
      f_l_is_pair := by refine' DL.fun_at KX G ?a ?l ?c ?k (fun _ _ _ _ _ _ us hl => match us, hl with | [_], _ => rfl); (case a => k_is); (case l => k_is); (case c => k_is); (case k => k_is)
      f_l_gone_through := by refine' DL.fun_at KX G ?a ?l ?c ?k (fun _ _ _ _ _ _ us hl => match us, hl with | [_], _ => rfl); (case a => k_is); (case l => k_is); (case c => k_is); (case k => k_is)
      f_l_right := by refine' DL.fun_at KX G ?a ?l ?c ?k (fun _ _ _ _ _ _ us hl => match us, hl with | [_, _], _ => rfl); (case a => k_is); (case l => k_is); (case c => k_is); (case k => k_is)
      f_l_take := by refine' DL.fun_at KX G ?a ?l ?c ?k (fun _ _ _ _ _ _ us hl => match us, hl with | [_, _], _ => rfl); (case a => k_is); (case l => k_is); (case c => k_is); (case k => k_is)
      f_l_lowest := by refine' DL.fun_at KX G ?a ?l ?c ?k (fun _ _ _ _ _ _ us hl => match us, hl with | [_, _], _ => rfl); (case a => k_is); (case l => k_is); (case c => k_is); (case k => k_is)
      f_l_time := by refine' DL.fun_at KX G ?a ?l ?c ?k (fun _ _ _ _ _ _ us hl => match us, hl with | [_, _, _], _ => rfl); (case a => k_is); (case l => k_is); (case c => k_is); (case k => k_is)
      f_law := by refine' DL.fun_at KX G ?a ?l ?c ?k (fun _ _ _ _ _ _ us hl => match us, hl with | [_], _ => rfl); (case a => k_is); (case l => k_is); (case c => k_is); (case k => k_is)
    }
    exact DL.law_at T.f_law hmg (fun _ _ _ _ _ _ _ _ => .of_eq rfl) (fun base f fd F => Claim.ok_law T F)
