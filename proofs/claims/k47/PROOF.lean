import PyProof.Rows.All
import Wide.All
import OpenK.AllK
import Wide.FinOn
import HandS.ForMost
import HandS.Wide
import HandS.IsInst
import HandS.More
import HandS.Deep
import HandS.Style
import HandS.Zip
import HandS.TupSets
import HandS.TupAny
import HandS.Keys
import HandS.Small
import HandS.Conv
import HandS.Exc
import HandS.ExcOwn
import HandS.ExcIs
import HandS.ExcInit
import HandS.ExcField
import HandS.WordsExc
import KE.KExcIs
import HandS.Text
import HandS.Codes
import HandS.Iter
import HandS.SetFor
import HandS.Remove
import HandS.Replace
import PyProof.StrOps2
import HandS.DictEq
import HandS.DictTup
import HandS.NoneIn
import KE.KDictKeyed
import HandS.TupLen
import KE.SortData
import HandS.ReplaceLit
import KE.GoesMore
import KE.GoesEnum
import KE.GoesRaise
import PyProof.Rows.SumGenB
import KE.DataFind
import HandS.StrSplit
import HandS.ReplaceDef
import HandS.ReplaceList
import PyProof.ToksMono
import PyProof.ReprRoads
import PyProof.ReprLen
import HandS.HeadEnd
import HandS.Head0
import HandS.Head1
import HandS.Head2
import HandS.HeadEnd
import HandS.HeadHook1
import Wide.Once
import PySem.Challenge.RW_leadtimes_k47_whole_mirrored_in_time
set_option Elab.async false
set_option linter.all false
set_option maxRecDepth 100000
set_option autoImplicit false
set_option maxHeartbeats 4000000
/-! A layer of data over the hand layer: tuples are values, lists stand in a store. -/
namespace DL
open PySem PySem.Spec PyProof.Rows L2
/-- data: a tuple is a value; a list that nobody writes (fl) is one, too; a list that may be written is told by its address -/
inductive D where
  | non | bl (b : Bool) | int (i : Int) | str (x : Str) | ty (n : String) | ref (a : Addr) | tup (ds : List D) | fl (ds : List D) | exc (x : Str) (f : Option (Str × Int))
/-- a class: its name, and its objects' fields in the order in which they are first written -/
structure Kls where
  name : Str
  fields : List Str
/-- what stands in the store -/
inductive O where
  | lst (ds : List D) | ins (k : Kls) (ds : List D) | dic (kvs : List (Key × D)) | fdc (o : Obj) (kvs : List (Key × D)) | dct (kvs : List (List Key × D)) | fdt (o : Obj) (kvs : List (List Key × D)) | ndc (ks : List ((Int × Int) × (Int × Int)))
abbrev Sto := Addr → Option O
/-- of a list that stands -/
def getO : Option O → (List D → Prop) → Prop
  | some (.lst xs), k => k xs
  | _, _ => False
theorem getO_get {o : Option O} {k : List D → Prop} (h : getO o k) : ∃ xs, o = some (.lst xs) ∧ k xs := by
  unfold getO at h
  split at h
  · exact ⟨_, rfl, h⟩
  · exact h.elim
theorem getO_of {o : Option O} {k : List D → Prop} {xs : List D} (e : o = some (.lst xs)) (h : k xs) : getO o k := by subst e; exact h
def onS {α : Type} : Option α → (α → Prop) → Prop
  | some x, k => k x
  | none, _ => False
theorem onS_get {α : Type} {o : Option α} {k : α → Prop} (h : onS o k) : ∃ x, o = some x ∧ k x := by
  cases o with
  | none => exact h.elim
  | some x => exact ⟨x, rfl, h⟩
theorem onS_of {α : Type} {o : Option α} {k : α → Prop} {x : α} (e : o = some x) (h : k x) : onS o k := by subst e; exact h
def ups (S : Sto) (a : Addr) (o : O) : Sto := fun b => if b = a then some o else S b
theorem ups_same {S : Sto} {a : Addr} {o : O} : ups S a o a = some o := by unfold ups; rw [if_pos rfl]
theorem ups_ne {S : Sto} {a b : Addr} {o : O} (h : b ≠ a) : ups S a o b = S b := by unfold ups; rw [if_neg h]
theorem ups_ups {S : Sto} {a : Addr} {o u : O} : ups (ups S a o) a u = ups S a u := by
  funext b; unfold ups; split <;> rfl
/-- all that stands in the one stands in the other -/
def Sub (S S' : Sto) : Prop := ∀ a o, S a = some o → S' a = some o
theorem Sub.refl (S : Sto) : Sub S S := fun _ _ h => h
theorem Sub.trans {S S1 S2 : Sto} (a : Sub S S1) (b : Sub S1 S2) : Sub S S2 := fun c o h => b c o (a c o h)
theorem ne_of_st {S : Sto} {a b : Addr} {o : O} (h : S a = some o) (h' : S b = none) : a ≠ b := by
  intro e; subst e; rw [h] at h'; cases h'
theorem Sub.new {S S' : Sto} {p : Addr} {o : O} (h : Sub S S') (n : S p = none) : Sub S (ups S' p o) := fun a u e => by
  rw [ups_ne (ne_of_st e n)]; exact h a u e
theorem Sub.none {S S' : Sto} {p : Addr} (h : Sub S S') (n : S' p = none) : S p = none := by
  cases q : S p with
  | none => rfl
  | some o => rw [h p o q] at n; cases n
theorem Sub.upd {S S' : Sto} {p : Addr} {o : O} (h : Sub S S') : Sub (ups S p o) (ups S' p o) := fun a u e => by
  by_cases ha : a = p
  · subst ha; rw [ups_same] at e ⊢; exact e
  · rw [ups_ne ha] at e ⊢; exact h a u e
/-- a list that nobody writes: known to its object, or of the module -/
def FrzL (K : PySem.W.Frag) (H : Hp) (a : Addr) (xs : List V) : Prop :=
  (∃ o, H a = some (.frz o (.lst xs))) ∨
    ∃ (o : Obj) (its : Array Value) (n : Nat), K.lookup a = some o ∧ o.cls = .type "list" ∧ o.dict = none ∧ o.data = .seq its n ∧ its.size ≤ sizeLine ∧ Vals xs its.toList
theorem FrzL.sq {K : PySem.W.Frag} {H : Hp} {a : Addr} {xs : List V} (h : FrzL K H a xs) : SqL K H a xs := by
  rcases h with h | h
  · exact .inl (.inr h)
  · exact .inr h
/-- a class of the module, by its name -/
def cA (K : PySem.W.Frag) (x : Str) : Addr := match PySem.W.nsIn K mainGlobals x with
  | some (some (.ref a)) => a
  | _ => 0
/-- something stands at a -/
def anyO (a : Addr) : HO := .ext fun h => ∃ o, h.get? a = some o
/-- the dict of an exception that nobody writes any more: no field, or one -/
def XDict (H : Hp) : Option Addr → Option (Str × Int) → Prop
  | none, none => True
  | some d, some (n, i) => ∃ od, H d = some (.frz od (.xd [(n, .int i)]))
  | _, _ => False
/-- an exception that was caught, of the class x, with its field -/
def ExcAt (K : PySem.W.Frag) (H : Hp) (a : Addr) (x : Str) (f : Option (Str × Int)) : Prop :=
  ∃ oe : Obj, H a = some (.frz oe (anyO a)) ∧ oe.cls = .ref (cA K x) ∧ (∃ vs, oe.data = .fields vs) ∧ XDict H oe.dict f
mutual
/-- d stands for v -/
inductive Dv (K : PySem.W.Frag) (H : Hp) : D → V → Prop
  | non : Dv K H .non .non
  | bl (b : Bool) : Dv K H (.bl b) (.bl b)
  | int (i : Int) : Dv K H (.int i) (.int i)
  | str (x : Str) : Dv K H (.str x) (.str x)
  | ty (n : String) : Dv K H (.ty n) (.ty n)
  | ref (a : Addr) : Dv K H (.ref a) (.ref a)
  | tup {p : Addr} {vs : List V} {ds : List D} : SqT K H p vs → Dvs K H ds vs → Dv K H (.tup ds) (.ref p)
  | fl {p : Addr} {vs : List V} {ds : List D} : FrzL K H p vs → Dvs K H ds vs → Dv K H (.fl ds) (.ref p)
  | exc {a : Addr} {x : Str} {f : Option (Str × Int)} : ExcAt K H a x f → Dv K H (.exc x f) (.ref a)
inductive Dvs (K : PySem.W.Frag) (H : Hp) : List D → List V → Prop
  | nil : Dvs K H [] []
  | cons {d : D} {v : V} {ds : List D} {vs : List V} : Dv K H d v → Dvs K H ds vs → Dvs K H (d :: ds) (v :: vs)
end
/-- the tuples, and the lists that nobody writes, stand as they stood -/
structure Good0 (K : PySem.W.Frag) (H H' : Hp) : Prop where
  tp : ∀ a xs, SqT K H a xs → SqT K H' a xs
  fz : ∀ a xs, FrzL K H a xs → FrzL K H' a xs
  xe : ∀ a x f, ExcAt K H a x f → ExcAt K H' a x f
/-- .. and what is locked -/
structure Good (K : PySem.W.Frag) (H H' : Hp) : Prop extends Good0 K H H' where
  fd : ∀ a o u, H a = some (.frz o u) → H' a = some (.frz o u)
theorem XDict.by {H H' : Hp} (g : ∀ a o u, H a = some (.frz o u) → H' a = some (.frz o u)) : ∀ {d : Option Addr} {f : Option (Str × Int)}, XDict H d f → XDict H' d f
  | none, none, _ => trivial
  | some _, some (_, _), ⟨od, q⟩ => ⟨od, g _ _ _ q⟩
  | none, some _, h => h.elim
  | some _, none, h => h.elim
theorem ExcAt.by {K : PySem.W.Frag} {H H' : Hp} (g : ∀ a o u, H a = some (.frz o u) → H' a = some (.frz o u)) {a : Addr} {x : Str} {f : Option (Str × Int)} : ExcAt K H a x f → ExcAt K H' a x f := fun ⟨oe, h1, h2, h3, h4⟩ => by
  exact ⟨oe, g _ _ _ h1, h2, h3, h4.by g⟩
theorem Good.refl {K : PySem.W.Frag} (H : Hp) : Good K H H := ⟨⟨fun _ _ h => h, fun _ _ h => h, fun _ _ _ h => h⟩, fun _ _ _ h => h⟩
theorem Good.trans {K : PySem.W.Frag} {H H1 H2 : Hp} (a : Good K H H1) (b : Good K H1 H2) : Good K H H2 := ⟨⟨fun p xs h => b.tp p xs (a.tp p xs h), fun p xs h => b.fz p xs (a.fz p xs h), fun p x f h => b.xe p x f (a.xe p x f h)⟩, fun p o u h => b.fd p o u (a.fd p o u h)⟩
mutual
theorem Dv.keep0 {K : PySem.W.Frag} {H H' : Hp} (g : Good0 K H H') : ∀ (d : D) (v : V), Dv K H d v → Dv K H' d v
  | .non, _, h => by cases h; exact .non
  | .bl b, _, h => by cases h; exact .bl b
  | .int b, _, h => by cases h; exact .int b
  | .str b, _, h => by cases h; exact .str b
  | .ty b, _, h => by cases h; exact .ty b
  | .ref b, _, h => by cases h; exact .ref b
  | .tup ds, _, h => by
    cases h with
    | tup h1 h2 => exact .tup (g.tp _ _ h1) (Dvs.keep0 g ds _ h2)
  | .fl ds, _, h => by
    cases h with
    | fl h1 h2 => exact .fl (g.fz _ _ h1) (Dvs.keep0 g ds _ h2)
  | .exc x f, _, h => by
    cases h with
    | exc h1 => exact .exc (g.xe _ _ _ h1)
theorem Dvs.keep0 {K : PySem.W.Frag} {H H' : Hp} (g : Good0 K H H') : ∀ (ds : List D) (vs : List V), Dvs K H ds vs → Dvs K H' ds vs
  | [], _, h => by cases h; exact .nil
  | d :: ds, _, h => by
    cases h with
    | cons h1 h2 => exact .cons (Dv.keep0 g d _ h1) (Dvs.keep0 g ds _ h2)
end
theorem Dv.keep {K : PySem.W.Frag} {H H' : Hp} (g : Good K H H') (d : D) (v : V) (h : Dv K H d v) : Dv K H' d v := Dv.keep0 g.toGood0 d v h
theorem Dvs.keep {K : PySem.W.Frag} {H H' : Hp} (g : Good K H H') (ds : List D) (vs : List V) (h : Dvs K H ds vs) : Dvs K H' ds vs := Dvs.keep0 g.toGood0 ds vs h
theorem Dvs.length {K : PySem.W.Frag} {H : Hp} : ∀ {ds : List D} {vs : List V}, Dvs K H ds vs → ds.length = vs.length
  | [], _, h => by cases h; rfl
  | _ :: ds, _, h => by
    cases h with
    | cons h1 h2 => rw [List.length_cons, List.length_cons, Dvs.length h2]
theorem Dvs.at {K : PySem.W.Frag} {H : Hp} : ∀ {ds : List D} {vs : List V} {i : Nat} {d : D}, Dvs K H ds vs → ds[i]? = some d → ∃ v, vs[i]? = some v ∧ Dv K H d v
  | [], _, _, _, _, e => by simp at e
  | _ :: ds, _, 0, d, h, e => by
    cases h with
    | cons h1 h2 =>
      obtain rfl := Option.some.inj e
      exact ⟨_, rfl, h1⟩
  | _ :: ds, _, i + 1, d, h, e => by
    cases h with
    | cons h1 h2 => exact Dvs.at (i := i) h2 e
theorem Dvs.at' {K : PySem.W.Frag} {H : Hp} : ∀ {ds : List D} {vs : List V} {i : Nat} {v : V}, Dvs K H ds vs → vs[i]? = some v → ∃ d, ds[i]? = some d ∧ Dv K H d v
  | [], _, _, _, h, e => by cases h; simp at e
  | _ :: ds, _, 0, v, h, e => by
    cases h with
    | cons h1 h2 =>
      obtain rfl := Option.some.inj e
      exact ⟨_, rfl, h1⟩
  | _ :: ds, _, i + 1, v, h, e => by
    cases h with
    | cons h1 h2 => exact Dvs.at' (i := i) h2 e
theorem Dvs.append {K : PySem.W.Frag} {H : Hp} : ∀ {ds es : List D} {vs us : List V}, Dvs K H ds vs → Dvs K H es us → Dvs K H (ds ++ es) (vs ++ us)
  | [], _, _, _, h, k => by cases h; exact k
  | _ :: ds, _, _, _, h, k => by
    cases h with
    | cons h1 h2 => exact .cons h1 (Dvs.append h2 k)
theorem Dvs.set {K : PySem.W.Frag} {H : Hp} {d : D} {v : V} (r : Dv K H d v) : ∀ {ds : List D} {vs : List V} (i : Nat), Dvs K H ds vs → Dvs K H (ds.set i d) (vs.set i v)
  | [], _, _, h => by cases h; exact .nil
  | _ :: ds, _, 0, h => by
    cases h with
    | cons h1 h2 => exact .cons r h2
  | _ :: ds, _, i + 1, h => by
    cases h with
    | cons h1 h2 => exact .cons h1 (Dvs.set r i h2)
theorem Dvs.take {K : PySem.W.Frag} {H : Hp} : ∀ {ds : List D} {vs : List V} (n : Nat), Dvs K H ds vs → Dvs K H (ds.take n) (vs.take n)
  | _, _, 0, _ => by simpa using Dvs.nil
  | [], _, _ + 1, h => by cases h; exact .nil
  | _ :: ds, _, n + 1, h => by
    cases h with
    | cons h1 h2 => exact .cons h1 (Dvs.take n h2)
theorem Dvs.drop {K : PySem.W.Frag} {H : Hp} : ∀ {ds : List D} {vs : List V} (n : Nat), Dvs K H ds vs → Dvs K H (ds.drop n) (vs.drop n)
  | _, _, 0, h => h
  | [], _, _ + 1, h => by cases h; exact .nil
  | _ :: ds, _, n + 1, h => by
    cases h with
    | cons h1 h2 => exact Dvs.drop n h2
theorem Dvs.dropLast {K : PySem.W.Frag} {H : Hp} {ds : List D} {vs : List V} (h : Dvs K H ds vs) : Dvs K H ds.dropLast vs.dropLast := by
  rw [List.dropLast_eq_take, List.dropLast_eq_take, h.length]
  exact h.take _
theorem Dvs.eraseIdx {K : PySem.W.Frag} {H : Hp} : ∀ {ds : List D} {vs : List V} (i : Nat), Dvs K H ds vs → Dvs K H (ds.eraseIdx i) (vs.eraseIdx i)
  | [], _, _, h => by cases h; exact .nil
  | _ :: ds, _, 0, h => by
    cases h with
    | cons h1 h2 => exact h2
  | _ :: ds, _, i + 1, h => by
    cases h with
    | cons h1 h2 => exact .cons h1 (Dvs.eraseIdx i h2)
theorem Dvs.reverse {K : PySem.W.Frag} {H : Hp} : ∀ {ds : List D} {vs : List V}, Dvs K H ds vs → Dvs K H ds.reverse vs.reverse
  | [], _, h => by cases h; exact .nil
  | _ :: ds, _, h => by
    cases h with
    | cons h1 h2 =>
      rw [List.reverse_cons, List.reverse_cons]
      exact (Dvs.reverse h2).append (.cons h1 .nil)
theorem Dvs.ints {K : PySem.W.Frag} {H : Hp} : ∀ (ns : List Int), Dvs K H (ns.map D.int) (ns.map V.int)
  | [] => .nil
  | n :: ns => .cons (.int n) (Dvs.ints ns)
theorem Dvs.ints_of {K : PySem.W.Frag} {H : Hp} : ∀ {ns : List Int} {vs : List V}, Dvs K H (ns.map D.int) vs → vs = ns.map V.int
  | [], _, h => by cases h; rfl
  | n :: ns, _, h => by
    cases h with
    | cons h1 h2 =>
      cases h1
      rw [Dvs.ints_of h2]
      rfl
/-- fields, item by item -/
inductive Flds (K : PySem.W.Frag) (H : Hp) : List (Str × D) → List (Str × V) → Prop
  | nil : Flds K H [] []
  | cons {f : Str} {d : D} {v : V} {ds : List (Str × D)} {vs : List (Str × V)} : Dv K H d v → Flds K H ds vs → Flds K H ((f, d) :: ds) ((f, v) :: vs)
theorem Flds.keep0 {K : PySem.W.Frag} {H H' : Hp} (g : Good0 K H H') {ds : List (Str × D)} {vs : List (Str × V)} (h : Flds K H ds vs) : Flds K H' ds vs := by
  induction h with
  | nil => exact .nil
  | cons h1 _ ih => exact .cons (Dv.keep0 g _ _ h1) ih
theorem Flds.keep {K : PySem.W.Frag} {H H' : Hp} (g : Good K H H') {ds : List (Str × D)} {vs : List (Str × V)} (h : Flds K H ds vs) : Flds K H' ds vs := h.keep0 g.toGood0
/-! a dict whose keys are pairs of pairs of whole numbers, each with the value True -/
abbrev PK := (Int × Int) × (Int × Int)
def ePK (k : PK) : D := .tup [.tup [.int k.1.1, .int k.1.2], .tup [.int k.2.1, .int k.2.2]]
def hP (k : PK) : Int := reduceHash (Builtin.Tuple.tupleHashOf [reduceHash (Builtin.Tuple.tupleHashOf [hashInt k.1.1, hashInt k.1.2]), reduceHash (Builtin.Tuple.tupleHashOf [hashInt k.2.1, hashInt k.2.2])])
def NdAt (a : Addr) (xs : List (PK × Addr)) : Heap → Prop := fun h => (a == sysModules) = false ∧ xs.length ≤ 1000 ∧
  ∃ o es ep, h.get? a = some o ∧ o.ExactDict ∧ o.data = .dict es ep ∧ es.toList = xs.map (fun x => (⟨hP x.1, .ref x.2, .bool true⟩ : DictEntry)) ∧ (xs.map (·.1)).Nodup
inductive KVs {κ : Type} (K : PySem.W.Frag) (H : Hp) : List (κ × D) → List (κ × V) → Prop
  | nil : KVs K H [] []
  | cons {f : κ} {d : D} {v : V} {ds : List (κ × D)} {vs : List (κ × V)} : Dv K H d v → KVs K H ds vs → KVs K H ((f, d) :: ds) ((f, v) :: vs)
theorem KVs.keep0 {κ : Type} {K : PySem.W.Frag} {H H' : Hp} (g : Good0 K H H') {ds : List (κ × D)} {vs : List (κ × V)} (h : KVs K H ds vs) : KVs K H' ds vs := by
  induction h with
  | nil => exact .nil
  | cons h1 _ ih => exact .cons (Dv.keep0 g _ _ h1) ih
theorem KVs.keep {κ : Type} {K : PySem.W.Frag} {H H' : Hp} (g : Good K H H') {ds : List (κ × D)} {vs : List (κ × V)} (h : KVs K H ds vs) : KVs K H' ds vs := h.keep0 g.toGood0
def OOk (K : PySem.W.Frag) (H : Hp) (a : Addr) : O → Prop
  | .lst ds => ∃ vs, H a = some (.lst vs) ∧ Dvs K H ds vs
  | .ins k ds => ∃ dx gs, H a = some (.ins (cA K k.name) dx gs) ∧ Flds K H (k.fields.zip ds) gs
  | .dic kvs => ∃ ks, H a = some (.dK ks) ∧ KVs K H kvs ks
  | .fdc o kvs => ∃ ks, H a = some (.frz o (.dK ks)) ∧ KVs K H kvs ks
  | .dct kvs => ∃ ks, H a = some (.dT ks) ∧ KVs K H kvs ks
  | .fdt o kvs => ∃ ks, H a = some (.frz o (.dT ks)) ∧ KVs K H kvs ks
  | .ndc ks => ∃ xs : List (PK × Addr), xs.map (·.1) = ks ∧ H a = some (.ext (NdAt a xs)) ∧ ∀ x ∈ xs, Dv K H (ePK x.1) (.ref x.2)
/-- the store is held -/
def RelS (K : PySem.W.Frag) (S : Sto) (H : Hp) : Prop := ∀ a o, S a = some o → OOk K H a o
section
variable {K : PySem.W.Frag} {S S' : Sto} {H H' : Hp} {a p : Addr} {o : O}
theorem OOk.some (h : OOk K H a o) : H a ≠ none := by
  cases o with
  | lst ds => obtain ⟨vs, e, _⟩ := h; rw [e]; simp
  | ins C fs => obtain ⟨dx, gs, e, _⟩ := h; rw [e]; simp
  | dic kvs => obtain ⟨ks, e, _⟩ := h; rw [e]; simp
  | fdc ob kvs => obtain ⟨ks, e, _⟩ := h; rw [e]; simp
  | dct kvs => obtain ⟨ks, e, _⟩ := h; rw [e]; simp
  | fdt ob kvs => obtain ⟨ks, e, _⟩ := h; rw [e]; simp
  | ndc ks => obtain ⟨xs, _, e, _⟩ := h; rw [e]; simp
theorem OOk.keep0 (g : Good0 K H H') (e : H' a = H a) (h : OOk K H a o) : OOk K H' a o := by
  cases o with
  | lst ds => obtain ⟨vs, q, r⟩ := h; exact ⟨vs, e.trans q, Dvs.keep0 g _ _ r⟩
  | ins C fs => obtain ⟨dx, gs, q, r⟩ := h; exact ⟨dx, gs, e.trans q, r.keep0 g⟩
  | dic kvs => obtain ⟨ks, q, r⟩ := h; exact ⟨ks, e.trans q, r.keep0 g⟩
  | fdc ob kvs => obtain ⟨ks, q, r⟩ := h; exact ⟨ks, e.trans q, r.keep0 g⟩
  | dct kvs => obtain ⟨ks, q, r⟩ := h; exact ⟨ks, e.trans q, r.keep0 g⟩
  | fdt ob kvs => obtain ⟨ks, q, r⟩ := h; exact ⟨ks, e.trans q, r.keep0 g⟩
  | ndc ks => obtain ⟨xs, q0, q, r⟩ := h; exact ⟨xs, q0, e.trans q, fun x hx => Dv.keep0 g _ _ (r x hx)⟩
theorem OOk.keep (g : Good K H H') (e : H' a = H a) (h : OOk K H a o) : OOk K H' a o := h.keep0 g.toGood0 e
theorem RelS.fresh (h : RelS K S H) (n : H p = none) : S p = none := by
  cases q : S p with
  | none => rfl
  | some o => exact absurd n (h p o q).some
theorem RelS.sub (h : RelS K S' H) (s : Sub S S') : RelS K S H := fun a o e => h a o (s a o e)
theorem RelS.keep (h : RelS K S H) (g : Good K H H') (e : ∀ a, S a ≠ none → H' a = H a) : RelS K S H' := fun a o q =>
  (h a o q).keep g (e a (by rw [q]; simp))
theorem good_new {u : HO} (n : H p = none) : Good K H (upd H p u) where
  xe := fun b x f => ExcAt.by fun b ob w h => by rw [upd_ne (ne_of_none h n)]; exact h
  fd := fun b ob w h => by rw [upd_ne (ne_of_none h n)]; exact h
  tp := fun b xs h => by
    rcases h with (h | ⟨ob, h⟩) | h
    · exact .inl (.inl (by rw [upd_ne (ne_of_none h n)]; exact h))
    · exact .inl (.inr ⟨ob, by rw [upd_ne (ne_of_none h n)]; exact h⟩)
    · exact .inr h
  fz := fun b xs h => by
    rcases h with ⟨ob, h⟩ | h
    · exact .inl ⟨ob, by rw [upd_ne (ne_of_none h n)]; exact h⟩
    · exact .inr h
/-- a thing that is no tuple and no known one is written -/
theorem good_write {u u' : HO} (h0 : H a = some u) (m : Mut (some u)) : Good K H (upd H a u') where
  xe := fun b x f => ExcAt.by fun b ob w h => by rw [upd_ne (fun z => by subst z; rw [h0] at h; cases h; exact m)]; exact h
  fd := fun b ob w h => by rw [upd_ne (fun z => by subst z; rw [h0] at h; cases h; exact m)]; exact h
  tp := fun b xs h => by
    rcases h with (h | ⟨ob, h⟩) | h
    · exact .inl (.inl (by rw [upd_ne (fun z => by subst z; rw [h0] at h; cases h; exact m)]; exact h))
    · exact .inl (.inr ⟨ob, by rw [upd_ne (fun z => by subst z; rw [h0] at h; cases h; exact m)]; exact h⟩)
    · exact .inr h
  fz := fun b xs h => by
    rcases h with ⟨ob, h⟩ | h
    · exact .inl ⟨ob, by rw [upd_ne (fun z => by subst z; rw [h0] at h; cases h; exact m)]; exact h⟩
    · exact .inr h
theorem RelS.newT {u : HO} (h : RelS K S H) (n : H p = none) : RelS K S (upd H p u) :=
  h.keep (good_new n) fun b hb => upd_ne fun z => by subst z; exact hb (h.fresh n)
theorem RelS.new {u : HO} (h : RelS K S H) (n : H p = none) (ok : OOk K (upd H p u) p o) : RelS K (ups S p o) (upd H p u) := fun b q e => by
  by_cases hb : b = p
  · subst hb; rw [ups_same] at e; cases e; exact ok
  · rw [ups_ne hb] at e; exact h.newT n b q e
theorem RelS.write {u u' : HO} (h : RelS K S H) (h0 : H a = some u) (m : Mut (some u)) (ok : OOk K (upd H a u') a o) : RelS K (ups S a o) (upd H a u') := fun b q e => by
  by_cases hb : b = a
  · subst hb; rw [ups_same] at e; cases e; exact ok
  · rw [ups_ne hb] at e; exact (h b q e).keep (good_write h0 m) (upd_ne hb)
theorem Dvs.new {u : HO} {ds : List D} {vs : List V} (r : Dvs K H ds vs) (n : H p = none) : Dvs K (upd H p u) ds vs := Dvs.keep (good_new n) _ _ r
end
/-- by a truth value -/
def Cnd (b : Bool) (A B : Prop) : Prop := match b with
  | true => A
  | false => B
theorem cnd_dec {p : Prop} {_ : Decidable p} {A B : Prop} (h1 : p → A) (h2 : ¬ p → B) : Cnd (decide p) A B := by
  by_cases h : p
  · rw [decide_eq_true h]; exact h1 h
  · rw [decide_eq_false h]; exact h2 h
theorem cnd_not {b : Bool} {A B : Prop} : Cnd (!b) A B = Cnd b B A := by cases b <;> rfl
theorem cnd_by {b : Bool} {A B : Prop} (h1 : b = true → A) (h2 : b = false → B) : Cnd b A B := by
  cases b
  · exact h2 rfl
  · exact h1 rfl
abbrev St2 := List (Option D)
/-- the slots -/
structure Rl (K : PySem.W.Frag) (H : Hp) (τ : St2) (σ : L2.St) : Prop where
  len : τ.length = σ.length
  at_ : ∀ (i : Nat) (d : D), τ[i]? = some (some d) → ∃ v, σ[i]? = some (some v) ∧ Dv K H d v
theorem Rl.keep0 {K : PySem.W.Frag} {H H' : Hp} {τ : St2} {σ : L2.St} (g : Good0 K H H') (h : Rl K H τ σ) : Rl K H' τ σ :=
  ⟨h.len, fun i d e => let ⟨v, q, r⟩ := h.at_ i d e; ⟨v, q, Dv.keep0 g _ _ r⟩⟩
theorem Rl.keep {K : PySem.W.Frag} {H H' : Hp} {τ : St2} {σ : L2.St} (g : Good K H H') (h : Rl K H τ σ) : Rl K H' τ σ := h.keep0 g.toGood0
theorem Rl.set {K : PySem.W.Frag} {H : Hp} {τ : St2} {σ : L2.St} {d : D} {v : V} (h : Rl K H τ σ) (i : Nat) (r : Dv K H d v) : Rl K H (τ.set i (some d)) (σ.set i (some v)) := by
  refine ⟨by simp [h.len], fun j e q => ?_⟩
  by_cases hj : i = j
  · subst hj
    by_cases hl : i < τ.length
    · rw [List.getElem?_set_self hl] at q
      cases q
      exact ⟨v, List.getElem?_set_self (by rw [← h.len]; exact hl), r⟩
    · rw [List.getElem?_eq_none (by simpa using hl)] at q
      cases q
  · rw [List.getElem?_set_ne hj] at q
    rw [List.getElem?_set_ne hj]
    exact h.at_ j e q
theorem Rl.start {K : PySem.W.Frag} {H : Hp} {N : List Str} {ds : List D} {vs : List V} (r : Dvs K H ds vs) : Rl K H (ds.map some ++ List.replicate (N.length - ds.length) none) (L2.start N vs) := by
  refine ⟨by unfold L2.start; simp [r.length], fun i d e => ?_⟩
  by_cases hi : i < ds.length
  · rw [List.getElem?_append_left (by simpa using hi), List.getElem?_map] at e
    cases q : ds[i]? with
    | none => rw [q] at e; cases e
    | some x =>
      rw [q] at e
      obtain rfl : x = d := by simpa using e
      obtain ⟨v, e2, r2⟩ := r.at q
      refine ⟨v, ?_, r2⟩
      unfold L2.start
      rw [List.getElem?_append_left (by simpa [← r.length] using hi), List.getElem?_map, e2]
      rfl
  · rw [List.getElem?_append_right (by simpa using hi)] at e
    rw [List.getElem?_replicate] at e
    split at e <;> cases e
def start2 (N : List Str) (ds : List D) : St2 := ds.map some ++ List.replicate (N.length - ds.length) none
abbrev VK2 := D → Sto → Prop
abbrev TE2 := St2 → Sto → VK2 → Prop
abbrev TT2 := St2 → Sto → (Bool → Sto → Prop) → Prop
abbrev TA2 := St2 → Sto → (List D → Sto → Prop) → Prop
/-- what is wanted of an exception: its class, its own fields -/
abbrev XK2 := Str → Option (Str × Int) → Sto → Prop
structure Ends2 where
  nx : St2 → Sto → Prop
  rt : VK2
  bk : St2 → Sto → Prop := fun _ _ => False
  ct : St2 → Sto → Prop := fun _ _ => False
abbrev TS2 := Ends2 → St2 → Sto → Prop
/-- the readings of the layer below -/
def dn (K : PySem.W.Frag) (t : TE2) : TE := fun σ H Q => ∃ τ S Q2, Rl K H τ σ ∧ RelS K S H ∧ t τ S Q2 ∧ ∀ d v S' H', Good K H H' → RelS K S' H' → Dv K H' d v → Q2 d S' → Q v H'
def dnT (K : PySem.W.Frag) (t : TT2) : TT := fun σ H Q => ∃ τ S Q2, Rl K H τ σ ∧ RelS K S H ∧ t τ S Q2 ∧ ∀ b S' H', Good K H H' → RelS K S' H' → Q2 b S' → Q b H'
def dnA (K : PySem.W.Frag) (t : TA2) : TA := fun σ H Q => ∃ τ S Q2, Rl K H τ σ ∧ RelS K S H ∧ t τ S Q2 ∧ ∀ ds vs S' H', Good K H H' → RelS K S' H' → Dvs K H' ds vs → Q2 ds S' → Q vs H'
def wants (K : PySem.W.Frag) (H : Hp) (P2 : St2 → Sto → Prop) (P : L2.St → Hp → Prop) : Prop := ∀ τ S σ H', Good K H H' → Rl K H' τ σ → RelS K S H' → P2 τ S → P σ H'
structure EndsR (K : PySem.W.Frag) (H : Hp) (D2 : Ends2) (D : Ends) : Prop where
  nx : wants K H D2.nx D.nx
  rt : ∀ d v S H', Good K H H' → RelS K S H' → Dv K H' d v → D2.rt d S → D.rt v H'
  bk : wants K H D2.bk D.bk
  ct : wants K H D2.ct D.ct
theorem wants.keep {K : PySem.W.Frag} {H H' : Hp} {P2 : St2 → Sto → Prop} {P : L2.St → Hp → Prop} (g : Good K H H') (h : wants K H P2 P) : wants K H' P2 P := fun τ S σ H2 g2 => h τ S σ H2 (g.trans g2)
theorem EndsR.keep {K : PySem.W.Frag} {H H' : Hp} {D2 : Ends2} {D : Ends} (g : Good K H H') (h : EndsR K H D2 D) : EndsR K H' D2 D :=
  ⟨h.nx.keep g, fun d v S H2 g2 => h.rt d v S H2 (g.trans g2), h.bk.keep g, h.ct.keep g⟩
def dnS (K : PySem.W.Frag) (t : TS2) : TS := fun D σ H => ∃ τ S D2, Rl K H τ σ ∧ RelS K S H ∧ t D2 τ S ∧ EndsR K H D2 D
abbrev QE (X : Cx) (e : Expr) (t : TE2) : Prop := PE X e (dn X.K t)
abbrev QT (X : Cx) (e : Expr) (t : TT2) : Prop := PT X e (dnT X.K t)
abbrev QW (X : Cx) (e : Expr) (t : TT2) : Prop := PW X e (dnT X.K t)
abbrev QA (X : Cx) (es : List Expr) (t : TA2) : Prop := PA X es (dnA X.K t)
abbrev QS (X : Cx) (s : Stmt) (t : TS2) : Prop := PS X s (dnS X.K t)
abbrev QSs (X : Cx) (s : List Stmt) (t : TS2) : Prop := PSs X s (dnS X.K t)
theorem PE.wk {X : Cx} {e : Expr} {t t' : TE} (h : PE X e t) (w : ∀ σ H Q, t' σ H Q → t σ H Q) : PE X e t' := ⟨fun pins s σ H Q I q => h.run pins s σ H Q I (w _ _ _ q)⟩
theorem PT.wk {X : Cx} {e : Expr} {t t' : TT} (h : PT X e t) (w : ∀ σ H Q, t' σ H Q → t σ H Q) : PT X e t' := ⟨fun pins s σ H Q I q => h.run pins s σ H Q I (w _ _ _ q)⟩
theorem PW.wk {X : Cx} {e : Expr} {t t' : TT} (h : PW X e t) (w : ∀ σ H Q, t' σ H Q → t σ H Q) : PW X e t' := ⟨fun wh pins s σ H Q I q => h.run wh pins s σ H Q I (w _ _ _ q)⟩
theorem PA.wk {X : Cx} {e : List Expr} {t t' : TA} (h : PA X e t) (w : ∀ σ H Q, t' σ H Q → t σ H Q) : PA X e t' := ⟨fun p pins s σ H Q I q => h.run p pins s σ H Q I (w _ _ _ q)⟩
theorem PS.wk {X : Cx} {e : Stmt} {t t' : TS} (h : PS X e t) (w : ∀ D σ H, t' D σ H → t D σ H) : PS X e t' := ⟨fun pins s σ H D I q => h.run pins s σ H D I (w _ _ _ q)⟩
theorem PSs.wk {X : Cx} {e : List Stmt} {t t' : TS} (h : PSs X e t) (w : ∀ D σ H, t' D σ H → t D σ H) : PSs X e t' := ⟨fun pins s σ H D I q => h.run pins s σ H D I (w _ _ _ q)⟩
/-! ### names, constants -/
def uVar (i : Nat) : TE2 := fun τ S Q => match τ[i]? with
  | some (some d) => Q d S
  | _ => False
def uC (d : D) : TE2 := fun _ S Q => Q d S
section
variable {X : Cx} {pos : Pos}
theorem qv (i : Nat) {x : Str} (h : PE X (.Name x pos) (tVar i)) : QE X (.Name x pos) (uVar i) := PE.wk h fun σ H Q ⟨τ, S, Q2, r, rs, t, k⟩ => by
  unfold uVar at t
  split at t
  · next d e =>
    obtain ⟨v, e2, rv⟩ := r.at_ i d e
    exact ⟨v, e2, k d v S H (.refl H) rs rv t⟩
  · exact t.elim
theorem q_const {e : Expr} {v : V} {d : D} (h : PE X e (tC v)) (r : ∀ H, Dv X.K H d v) : QE X e (uC d) := PE.wk h fun σ H Q ⟨τ, S, Q2, _, rs, t, k⟩ => k d v S H (.refl H) rs (r H) t
theorem q_int {i j} : QE X (.Constant (.int i) j pos) (uC (.int i)) := q_const pe_int fun _ => .int i
theorem q_bl {b j} : QE X (.Constant (.bool b) j pos) (uC (.bl b)) := q_const pe_bl fun _ => .bl b
theorem q_non {j} : QE X (.Constant .none j pos) (uC .non) := q_const pe_non fun _ => .non
theorem q_str {x j} : QE X (.Constant (.str x) j pos) (uC (.str x)) := q_const pe_str fun _ => .str x
end
/-! ### two expressions -/
abbrev R22 := D → D → Sto → VK2 → Prop
def uOp (r : R22) (ta tb : TE2) : TE2 := fun τ S Q => ta τ S fun x S1 => tb τ S1 fun y S2 => r x y S2 Q
/-- an operator's rule of the layer below serves r -/
def Srv (K : PySem.W.Frag) (r0 : R2) (r : R22) : Prop := ∀ d e v u S H Q Q2, RelS K S H → Dv K H d v → Dv K H e u → r d e S Q2 → (∀ d v S' H', Good K H H' → RelS K S' H' → Dv K H' d v → Q2 d S' → Q v H') → r0 v u H Q
section
variable {X : Cx} {pos : Pos} {a b : Expr} {ta tb : TE2}
theorem q_two {R : TE} {r0 : R2} {r : R22} (s : Srv X.K r0 r) (hR : ∀ σ H Q, tOp r0 (dn X.K ta) (dn X.K tb) σ H Q → R σ H Q) {e : Expr} (h : PE X e R) : QE X e (uOp r ta tb) :=
  PE.wk h fun σ H Q ⟨τ, S, Q2, rl, rs, t, k⟩ => hR σ H Q ⟨τ, S, _, rl, rs, t, fun d v S1 H1 g1 rs1 dv1 t1 =>
    ⟨τ, S1, _, rl.keep g1, rs1, t1, fun e u S2 H2 g2 rs2 dv2 t2 => s d e v u S2 H2 Q Q2 rs2 (Dv.keep g2 _ _ dv1) dv2 t2 fun d v S' H' g => k d v S' H' (g1.trans (g2.trans g))⟩⟩
theorem q_op {op : Operator} {r0 : R2} {r : R22} (ho : OpR X (binaryOp op) r0) (s : Srv X.K r0 r) (ha : QE X a ta) (hb : QE X b tb) : QE X (.BinOp a op b pos) (uOp r ta tb) := q_two s (fun _ _ _ h => h) (pe_op ho ha hb)
theorem q_cmp {op : CmpOp} {r0 : R2} {r : R22} (ho : OpR X (compareOp op) r0) (s : Srv X.K r0 r) (hm : behindInMarks op b = false) (ha : QE X a ta) (hb : QE X b tb) : QE X (.Compare a [op] [b] pos) (uOp r ta tb) := q_two s (fun _ _ _ h => h) (pe_cmpR ho ha hb hm)
theorem q_ix {r0 : R2} {r : R22} (ho : IxR X r0) (s : Srv X.K r0 r) (hs : PlainIx b) (ha : QE X a ta) (hb : QE X b tb) : QE X (.Subscript a b pos) (uOp r ta tb) := q_two s (fun _ _ _ h => h) (pe_ix ho ha hb hs)
/-- a test -/
def uTest (t : TE2) : TT2 := fun τ S Q => t τ S fun x S1 => match x with
  | .bl k => Q k S1
  | _ => False
theorem test_dn {t : TE2} {T : TT} {e : Expr} (hT : ∀ σ H Q, (dn X.K t σ H fun x H' => ∃ k, x = V.bl k ∧ Q k H') → T σ H Q) (h : PT X e T) : QT X e (uTest t) := PT.wk h fun σ H Q ⟨τ, S, Q2, rl, rs, t, k⟩ =>
  hT σ H Q ⟨τ, S, _, rl, rs, t, fun d v S1 H1 g1 rs1 dv1 t1 => by
    cases d with
    | bl b =>
      cases dv1
      exact ⟨b, rfl, k b S1 H1 g1 rs1 t1⟩
    | _ => exact t1.elim⟩
theorem t_cmp {op : CmpOp} {r0 : R2} {r : R22} (ho : OpR X (compareOp op) r0) (s : Srv X.K r0 r) (hm : behindInMarks op b = false) (ha : QE X a ta) (hb : QE X b tb) : QT X (.Compare a [op] [b] pos) (uTest (uOp r ta tb)) := by
  refine test_dn ?_ (pt_cmpR ho ha hb hm)
  rintro σ H Q ⟨τ, S, Q2, rl, rs, t, k⟩
  exact ⟨τ, S, _, rl, rs, t, fun d v S1 H1 g1 rs1 dv1 t1 =>
    ⟨τ, S1, _, rl.keep g1, rs1, t1, fun e u S2 H2 g2 rs2 dv2 t2 => s d e v u S2 H2 _ Q2 rs2 (Dv.keep g2 _ _ dv1) dv2 t2 fun d v S' H' g => k d v S' H' (g1.trans (g2.trans g))⟩⟩
/-- a value that is True or False -/
theorem t_val {e : Expr} {t : TE2} (h : QE X e t) (he : ∀ whole, isTrue e X.env whole = (do let v ← whole; standAt e.pos; holding [v] (truthy v)) := by intro _; rfl) : QT X e (uTest t) :=
  test_dn (fun _ _ _ h => h) (pt_val h he)
end
end DL
/-! What the end leans on, asked of the heap's objects by lists of questions; the head by some runs of the kernel (asked in parts: a run's memory). -/
namespace DL
open PySem PySem.Spec PyProof.Rows L2
def isub (x y : Str) : Bool := x == y || (y == "LeadError" || y == "ValueError")
def tabE (e : DictEntry) : Option (Str × Int × D) := match e.key, e.val with
  | .str x _, .int i _ => some (x, e.hash, .int i)
  | .str x _, .str y _ => some (x, e.hash, .str y)
  | _, _ => none
def tabV (K : PySem.W.Frag) (a : Addr) : Option (List (Option (Str × Int × D))) := match K.lookup a with
  | some ⟨.type c, none, .dict es _, sl⟩ => (match decide (c = "dict") && (sl.isEmpty && !(a == sysModules)) with
    | true => some (es.toList.map tabE)
    | false => none)
  | _ => none
def tabD (P : Params) (kvs : List (Str × D)) : List (Option (Str × Int × D)) := kvs.map fun p => some (p.1, PyData.keyHash P p.1, p.2)
abbrev TabT : Type := Option (List (Option (Str × Int × D)))
abbrev AlJ : Type := Bool × List He.FnV × List TabT
def obsJ (bs : List (PySem.W.Frag → Bool)) (fn : List He.FnD) (ts : List (Str × List (Str × D))) (K : PySem.W.Frag) : AlJ :=
  ((bs.all fun b => b K) && fn.all fun d => (He.Fa.code d.at_ d.qual).ok K, fn.map fun d => He.fnObs K d.at_, ts.map fun t => tabV K (cA K t.1))
def valJ (fn : List He.FnD) (ts : List (Str × List (Str × D))) (w : World) : AlJ := (true, fn.map He.FnD.val, ts.map fun t => some (tabD w.params t.2))
def SaysJ (bs : List (PySem.W.Frag → Bool)) (fn : List He.FnD) (ts : List (Str × List (Str × D))) (w : World) (K : PySem.W.Frag) : Prop := obsJ bs fn ts K = valJ fn ts w
def obJ (as : List Addr) (bs : List (PySem.W.Frag → Bool)) (fn : List He.FnD) (ts : List (Str × List (Str × D))) (s : PySem.W.SharedT) : AlJ := obsJ bs fn ts (He.frG (HandSHeadRun.getT s) as)
abbrev PartJ : Type := List (PySem.W.Frag → Bool) × List He.FnD × List (Str × List (Str × D))
def obP (as : List Addr) (ps : List PartJ) (s : PySem.W.SharedT) : List AlJ := ps.map fun p => obJ as p.1 p.2.1 p.2.2 s
/-- the run, a part of the questions asked behind it -/
def RunP (r : PySem.W.OpenRow) (M : Nat) (as : List Addr) (p : PartJ) (w : World) : Prop :=
  ∀ os : OsState, (HandSHeadRun.endF (HandSHeadRun.stepQ (HandSHeadRun.denQ HandSHeadRun.tabQ) r.prog w) M r.prog w os).map (fun s => obJ as p.1 p.2.1 p.2.2 s) = some (valJ p.2.1 p.2.2 w)
def RunsP (r : PySem.W.OpenRow) (M : Nat) (as : List Addr) (w : World) : List PartJ → Prop
  | [] => True
  | p :: ps => RunP r M as p w ∧ RunsP r M as w ps
theorem RunsP.of {r : PySem.W.OpenRow} {M : Nat} {as : List Addr} {w : World} {os : OsState} {s : PySem.W.SharedT} (e : HandSHeadRun.endF (HandSHeadRun.stepQ (HandSHeadRun.denQ HandSHeadRun.tabQ) r.prog w) M r.prog w os = some s) :
    ∀ {ps : List PartJ}, RunsP r M as w ps → obP as ps s = ps.map fun p => valJ p.2.1 p.2.2 w
  | [], _ => rfl
  | p :: ps, h => by
    have h1 := h.1 os
    rw [e] at h1
    have h2 : obJ as p.1 p.2.1 p.2.2 s = valJ p.2.1 p.2.2 w := Option.some.inj h1
    show obJ as p.1 p.2.1 p.2.2 s :: obP as ps s = _
    rw [h2, RunsP.of e h.2]
    rfl
theorem SaysP.at {ps : List PartJ} {w : World} {K : PySem.W.Frag} (c : ps.map (fun p => obsJ p.1 p.2.1 p.2.2 K) = ps.map fun p => valJ p.2.1 p.2.2 w) (j : Nat) {p : PartJ} (h : ps[j]? = some p := by rfl) : SaysJ p.1 p.2.1 p.2.2 w K := by
  have e := congrArg (fun l : List AlJ => l[j]?) c
  simp only [List.getElem?_map, h, Option.map_some] at e
  exact Option.some.inj e
end DL
namespace DL
open PySem PySem.Spec PyProof.Rows L2
/-! ### operators by values -/
def rAdd : D → D → Sto → VK2 → Prop
  | .int i, .int j, S, Q => Q (.int (i + j)) S
  | .str x, .str y, S, Q => x.length + y.length ≤ sizeLine ∧ Q (.str (x ++ y)) S
  | .ref a, .ref b, S, Q => getO (S a) fun xs => getO (S b) fun ys => xs.length + ys.length ≤ sizeLine ∧ ∀ p, S p = none → Q (.ref p) (ups S p (.lst (xs ++ ys)))
  | .tup xs, .tup ys, S, Q => xs.length + ys.length ≤ sizeLine ∧ Q (.tup (xs ++ ys)) S
  | _, _, _, _ => False
def rSub : D → D → Sto → VK2 → Prop
  | .int i, .int j, S, Q => Q (.int (i - j)) S
  | _, _, _, _ => False
/-- a number of less than so many bits -/
def Sz (n : Nat) (i : Int) : Prop := i.natAbs < 2 ^ n
def MulOk (i j : Int) : Prop := (∃ m n, Sz m i ∧ Sz n j ∧ m + n < 900000) ∨ Sz 64 i ∨ Sz 64 j
def DivOk (j : Int) : Prop := j ≠ 0 ∧ Sz 9000 j
def rMul : D → D → Sto → VK2 → Prop
  | .int i, .int j, S, Q => MulOk i j ∧ Q (.int (i * j)) S
  | .ref a, .int k, S, Q => getO (S a) fun xs => (0 ≤ k ∧ k ≤ 1000 ∧ xs.length ≤ 1000) ∧ ∀ p, S p = none → Q (.ref p) (ups S p (.lst (List.replicate k.toNat xs).flatten))
  | _, _, _, _ => False
def rMod : D → D → Sto → VK2 → Prop
  | .int i, .int j, S, Q => j ≠ 0 ∧ Q (.int (i.fmod j)) S
  | _, _, _, _ => False
def rFdiv : D → D → Sto → VK2 → Prop
  | .int i, .int j, S, Q => DivOk j ∧ Q (.int (i.fdiv j)) S
  | _, _, _, _ => False
def rPow : D → D → Sto → VK2 → Prop
  | .int i, .int j, S, Q => (0 ≤ j ∧ j ≤ 1000000 ∧ i.natAbs < 2 ^ 64) ∧ Q (.int (i ^ j.toNat)) S
  | _, _, _, _ => False
def rCmpI (p : Int → Int → Bool) : D → D → Sto → VK2 → Prop
  | .int i, .int j, S, Q => Q (.bl (p i j)) S
  | _, _, _, _ => False
section
variable {X : Cx} {K : PySem.W.Frag}
theorem srv_add : Srv K (fun x y H Q => rI0 (fun i j => .int (i + j)) x y H Q ∨ (∃ i j, x = .str i ∧ y = .str j ∧ i.length + j.length ≤ sizeLine ∧ Q (.str (i ++ j)) H) ∨ rCat x y H Q ∨ rCatA K x y H Q) rAdd := by
  intro d e v u S H Q Q2 rs dv du t k
  unfold rAdd at t
  split at t
  · cases dv; cases du
    exact .inl ⟨_, _, rfl, rfl, k _ _ _ _ (.refl H) rs (.int _) t⟩
  · cases dv; cases du
    exact .inr (.inl ⟨_, _, rfl, rfl, t.1, k _ _ _ _ (.refl H) rs (.str _) t.2⟩)
  · cases dv; cases du
    obtain ⟨xs, h1, t⟩ := getO_get t
    obtain ⟨ys, h2, hl, t⟩ := getO_get t
    obtain ⟨vs, e1, r1⟩ := rs _ _ h1
    obtain ⟨us, e2, r2⟩ := rs _ _ h2
    refine .inr (.inr (.inl ⟨_, _, vs, us, rfl, rfl, e1, e2, by rw [← r1.length, ← r2.length]; exact hl, fun p np => ?_⟩))
    exact k _ _ _ _ (good_new np) (rs.new (o := .lst (xs ++ ys)) np ⟨_, upd_same, (r1.append r2).new np⟩) (.ref p) (t p (rs.fresh np))
  · cases dv with
    | tup h1 d1 =>
      cases du with
      | tup h2 d2 =>
        refine .inr (.inr (.inr ⟨_, _, _, _, rfl, rfl, h1, h2, by rw [← d1.length, ← d2.length]; exact t.1, fun e => ?_, fun e e2 => ?_, fun e e2 p np => ?_⟩))
        · subst e; cases d1; exact k _ _ _ _ (.refl H) rs (.tup h2 d2) t.2
        · subst e2; cases d2; rw [List.append_nil] at t; exact k _ _ _ _ (.refl H) rs (.tup h1 d1) t.2
        · exact k _ _ _ _ (good_new np) (rs.newT np) (.tup (SqT.of upd_same) ((d1.append d2).new np)) t.2
  · exact t.elim
theorem srv_sub : Srv K (rI0 fun i j => .int (i - j)) rSub := by
  intro d e v u S H Q Q2 rs dv du t k
  unfold rSub at t
  split at t
  · cases dv; cases du
    exact ⟨_, _, rfl, rfl, k _ _ _ _ (.refl H) rs (.int _) t⟩
  · exact t.elim
theorem Sz.le {m n : Nat} {i : Int} (h : Sz m i) (l : m ≤ n) : Sz n i := Nat.lt_of_lt_of_le h (Nat.pow_le_pow_right (by decide) l)
theorem Sz.up {n : Nat} {i : Int} (h : Sz n i) : i.natAbs < 2 ^ (n + 1) := (h.le (Nat.le_succ n))
theorem MulOk.ok {i j : Int} (h : MulOk i j) : IntMulOk i j := by
  rcases h with ⟨m, n, h1, h2, h3⟩ | h | h
  · exact (wide_mul h1.up h2.up (Nat.succ_pos m) (Nat.succ_pos n) (by omega)).ok
  · have h' : i.natAbs < 2 ^ 64 := h
    exact CMul.ok (.inl ⟨by omega, by omega⟩)
  · have h' : j.natAbs < 2 ^ 64 := h
    exact CMul.ok (.inr ⟨by omega, by omega⟩)
theorem op_mulZ : OpR X (binaryOp .Mult) (rI MulOk fun i j => .int (i * j)) := opI fun _ _ _ _ _ _ _ hc q => mul_int q hc.ok
theorem op_fdivZ : OpR X (binaryOp .FloorDiv) (rI (fun _ j => DivOk j) fun i j => .int (i.fdiv j)) := opI fun i j _ _ _ _ _ hc q => by
  refine floordiv_int hc.1 q (.inl (PyProof.noPylong_of_log2 ?_))
  have h2 : j.natAbs < 2 ^ 9000 := hc.2
  exact PySem.Flt.log2_lt_of (by decide) h2
theorem Dvs.rep {H : Hp} {ds : List D} {vs : List V} (h : Dvs K H ds vs) : ∀ n : Nat, Dvs K H (List.replicate n ds).flatten (List.replicate n vs).flatten
  | 0 => .nil
  | n + 1 => by rw [List.replicate_succ, List.replicate_succ, List.flatten_cons, List.flatten_cons]; exact h.append (Dvs.rep h n)
theorem srv_mul : Srv K (fun x y H Q => rI MulOk (fun i j => .int (i * j)) x y H Q ∨ rRep x y H Q) rMul := by
  intro d e v u S H Q Q2 rs dv du t k
  unfold rMul at t
  split at t
  · cases dv; cases du
    exact .inl ⟨_, _, rfl, rfl, t.1, k _ _ _ _ (.refl H) rs (.int _) t.2⟩
  · rename_i aa kk
    cases dv; cases du
    obtain ⟨xs, h1, ⟨k0, k1, hl⟩, t⟩ := getO_get t
    obtain ⟨vs, e1, r1⟩ := rs _ _ h1
    have : vs.length * kk.toNat ≤ 1000 * 1000 := Nat.mul_le_mul (by rw [← r1.length]; exact hl) (by omega)
    refine .inr ⟨_, _, vs, rfl, rfl, e1, by omega, by omega, Nat.le_trans this (by rw [sizeLine_eq]; exact (by decide : 1000 * 1000 ≤ 16777216)), fun p np => ?_⟩
    exact k _ _ _ _ (good_new np) (rs.new (o := .lst (List.replicate kk.toNat xs).flatten) np ⟨_, upd_same, (r1.rep _).new np⟩) (.ref p) (t p (rs.fresh np))
  · exact t.elim
theorem srv_mod : Srv K (rI (fun _ j => j ≠ 0) fun i j => .int (i.fmod j)) rMod := by
  intro d e v u S H Q Q2 rs dv du t k
  unfold rMod at t
  split at t
  · cases dv; cases du
    exact ⟨_, _, rfl, rfl, t.1, k _ _ _ _ (.refl H) rs (.int _) t.2⟩
  · exact t.elim
theorem srv_fdiv : Srv K (rI (fun _ j => DivOk j) fun i j => .int (i.fdiv j)) rFdiv := by
  intro d e v u S H Q Q2 rs dv du t k
  unfold rFdiv at t
  split at t
  · cases dv; cases du
    exact ⟨_, _, rfl, rfl, t.1, k _ _ _ _ (.refl H) rs (.int _) t.2⟩
  · exact t.elim
theorem srv_pow : Srv K (rI CPow fun i j => .int (i ^ j.toNat)) rPow := by
  intro d e v u S H Q Q2 rs dv du t k
  unfold rPow at t
  split at t
  · cases dv; cases du
    exact ⟨_, _, rfl, rfl, t.1, k _ _ _ _ (.refl H) rs (.int _) t.2⟩
  · exact t.elim
theorem srv_cmpI {p : Int → Int → Bool} : Srv K (rI0 fun i j => .bl (p i j)) (rCmpI p) := by
  intro d e v u S H Q Q2 rs dv du t k
  unfold rCmpI at t
  split at t
  · cases dv; cases du
    exact ⟨_, _, rfl, rfl, k _ _ _ _ (.refl H) rs (.bl _) t⟩
  · exact t.elim
variable {pos : Pos} {a b : Expr} {ta tb : TE2}
theorem q_add (ha : QE X a ta) (hb : QE X b tb) : QE X (.BinOp a .Add b pos) (uOp rAdd ta tb) := q_op (op_add.or (op_add_str.or (op_cat.or op_catA))) srv_add ha hb
theorem q_sub (ha : QE X a ta) (hb : QE X b tb) : QE X (.BinOp a .Sub b pos) (uOp rSub ta tb) := q_op op_sub srv_sub ha hb
theorem q_mul (ha : QE X a ta) (hb : QE X b tb) : QE X (.BinOp a .Mult b pos) (uOp rMul ta tb) := q_op (op_mulZ.or op_rep) srv_mul ha hb
theorem q_mod (ha : QE X a ta) (hb : QE X b tb) : QE X (.BinOp a .Mod b pos) (uOp rMod ta tb) := q_op op_modN srv_mod ha hb
theorem q_fdiv (ha : QE X a ta) (hb : QE X b tb) : QE X (.BinOp a .FloorDiv b pos) (uOp rFdiv ta tb) := q_op op_fdivZ srv_fdiv ha hb
theorem q_pow (ha : QE X a ta) (hb : QE X b tb) : QE X (.BinOp a .Pow b pos) (uOp rPow ta tb) := q_op op_pow srv_pow ha hb
def rLt : R22 := rCmpI fun i j => decide (i < j)
def rLe : R22 := rCmpI fun i j => decide (i ≤ j)
def rGt : R22 := rCmpI fun i j => decide (j < i)
def rGe : R22 := rCmpI fun i j => decide (j ≤ i)
theorem q_lt (ha : QE X a ta) (hb : QE X b tb) : QE X (.Compare a [.Lt] [b] pos) (uOp rLt ta tb) := q_cmp op_lt srv_cmpI (nomark _) ha hb
theorem t_lt (ha : QE X a ta) (hb : QE X b tb) : QT X (.Compare a [.Lt] [b] pos) (uTest (uOp rLt ta tb)) := t_cmp op_lt srv_cmpI (nomark _) ha hb
theorem t_gt (ha : QE X a ta) (hb : QE X b tb) : QT X (.Compare a [.Gt] [b] pos) (uTest (uOp rGt ta tb)) := t_cmp op_gt srv_cmpI (nomark _) ha hb
theorem t_ge (ha : QE X a ta) (hb : QE X b tb) : QT X (.Compare a [.GtE] [b] pos) (uTest (uOp rGe ta tb)) := t_cmp op_ge srv_cmpI (nomark _) ha hb
/-! is None, is not None; is of bools -/
def isNon : D → Bool
  | .non => true
  | _ => false
def rIs : D → D → Sto → VK2 → Prop
  | d, .non, S, Q => Q (.bl (isNon d)) S
  | .bl a, .bl b, S, Q => Q (.bl (decide (a = b))) S
  | _, _, _, _ => False
def rIsNot : D → D → Sto → VK2 → Prop
  | d, .non, S, Q => Q (.bl (!isNon d)) S
  | .bl a, .bl b, S, Q => Q (.bl (!decide (a = b))) S
  | _, _, _, _ => False
theorem isNon_dec {H : Hp} {d : D} {v : V} (dv : Dv K H d v) : decide (v = .non) = isNon d := by cases dv <;> simp [isNon]
theorem srv_is {rB : R2} (hB : ∀ (a b : Bool) H Q, Q (.bl (decide (a = b))) H → rB (.bl a) (.bl b) H Q) : Srv K (fun x y H Q => (y = .non ∧ Q (.bl (decide (x = .non))) H) ∨ rB x y H Q) rIs := by
  intro d e v u S H Q Q2 rs dv du t k
  unfold rIs at t
  split at t
  · cases du
    refine .inl ⟨rfl, ?_⟩
    rw [isNon_dec dv]
    exact k _ _ _ _ (.refl H) rs (.bl _) t
  · cases du; cases dv
    exact .inr (hB _ _ H Q (k _ _ _ _ (.refl H) rs (.bl _) t))
  · exact t.elim
theorem srv_isNot : Srv K (fun x y H Q => (y = .non ∧ Q (.bl (!decide (x = .non))) H) ∨ (∃ a b : Bool, x = .bl a ∧ y = .bl b ∧ Q (.bl (!decide (a = b))) H)) rIsNot := by
  intro d e v u S H Q Q2 rs dv du t k
  unfold rIsNot at t
  split at t
  · cases du
    refine .inl ⟨rfl, ?_⟩
    rw [isNon_dec dv]
    exact k _ _ _ _ (.refl H) rs (.bl _) t
  · cases du; cases dv
    exact .inr ⟨_, _, rfl, rfl, k _ _ _ _ (.refl H) rs (.bl _) t⟩
  · exact t.elim
theorem op_isNotBl' : OpR X (compareOp .IsNot) (fun x y H Q => ∃ a b : Bool, x = .bl a ∧ y = .bl b ∧ Q (.bl (!decide (a = b))) H) := by
  intro pins s σ H x y v u Q I rx ry h
  obtain ⟨a, b, rfl, rfl, q⟩ := h
  cases (show v = Value.bool a from rx)
  cases (show u = Value.bool b from ry)
  by_cases e : a = b
  · subst e
    exact wpAny_isNot_self rfl ⟨.bl false, H, I, rfl, by simpa using q⟩
  · exact wpAny_isNot_other rfl (fun z => e (Value.bool.inj z)) ⟨.bl true, H, I, rfl, by simpa [e] using q⟩
theorem op_isBl' : OpR X (compareOp .Is) (fun x y H Q => ∃ a b : Bool, x = .bl a ∧ y = .bl b ∧ Q (.bl (decide (a = b))) H) := by
  intro pins s σ H x y v u Q I rx ry h
  obtain ⟨a, b, rfl, rfl, q⟩ := h
  cases (show v = Value.bool a from rx)
  cases (show u = Value.bool b from ry)
  by_cases e : a = b
  · subst e
    exact wpAny_is_self rfl ⟨.bl true, H, I, rfl, by simpa using q⟩
  · exact wpAny_is_other rfl (fun z => e (Value.bool.inj z)) ⟨.bl false, H, I, rfl, by simpa [e] using q⟩
theorem q_is (ha : QE X a ta) (hb : QE X b tb) : QE X (.Compare a [.Is] [b] pos) (uOp rIs ta tb) := q_cmp (op_isN.or op_isBl') (srv_is fun a b H Q q => ⟨a, b, rfl, rfl, q⟩) (nomark _) ha hb
theorem t_is (ha : QE X a ta) (hb : QE X b tb) : QT X (.Compare a [.Is] [b] pos) (uTest (uOp rIs ta tb)) := t_cmp (op_isN.or op_isBl') (srv_is fun a b H Q q => ⟨a, b, rfl, rfl, q⟩) (nomark _) ha hb
theorem t_isnot (ha : QE X a ta) (hb : QE X b tb) : QT X (.Compare a [.IsNot] [b] pos) (uTest (uOp rIsNot ta tb)) := t_cmp (op_notN.or op_isNotBl') srv_isNot (nomark _) ha hb
/-! unary minus -/
def uNeg (ta : TE2) : TE2 := fun τ S Q => ta τ S fun x S1 => match x with
  | .int i => Q (.int (-i)) S1
  | _ => False
theorem q_neg (ha : QE X a ta) : QE X (.UnaryOp .USub a pos) (uNeg ta) := PE.wk (pe_un un_neg ha) fun σ H Q ⟨τ, S, Q2, rl, rs, t, k⟩ =>
  ⟨τ, S, _, rl, rs, t, fun d v S1 H1 g1 rs1 dv1 t1 => by
    cases d with
    | int i =>
      cases dv1
      exact ⟨i, rfl, k _ _ _ _ g1 rs1 (.int _) t1⟩
    | _ => exact t1.elim⟩
end
/-! ### data as the comparison reads it -/
mutual
inductive Py (S : Sto) : D → PyData → Prop
  | non : Py S .non .none
  | bl (b : Bool) : Py S (.bl b) (.bool b)
  | int (i : Int) : Py S (.int i) (.int i)
  | str (x : Str) : Py S (.str x) (.str x)
  | tup {ds : List D} {ps : List PyData} : Pys S ds ps → Py S (.tup ds) (.tuple ps)
  | fl {ds : List D} {ps : List PyData} : Pys S ds ps → Py S (.fl ds) (.list ps)
  | lst {a : Addr} {ds : List D} {ps : List PyData} : S a = some (.lst ds) → Pys S ds ps → Py S (.ref a) (.list ps)
inductive Pys (S : Sto) : List D → List PyData → Prop
  | nil : Pys S [] []
  | cons {d : D} {p : PyData} {ds : List D} {ps : List PyData} : Py S d p → Pys S ds ps → Pys S (d :: ds) (p :: ps)
end
mutual
theorem Py.dp {K : PySem.W.Frag} {S : Sto} {H : Hp} (rs : RelS K S H) : ∀ (p : PyData) (d : D) (v : V), Py S d p → Dv K H d v → Dp K H v p
  | .none, _, _, h, dv => by cases h; cases dv; exact .non
  | .bool b, _, _, h, dv => by cases h; cases dv; exact .bl b
  | .int b, _, _, h, dv => by cases h; cases dv; exact .int b
  | .str b, _, _, h, dv => by cases h; cases dv; exact .str b
  | .tuple ps, _, _, h, dv => by
    cases h with
    | tup hs =>
      cases dv with
      | tup h1 h2 => exact .tup h1 (Pys.dp rs ps _ _ hs h2)
  | .list ps, _, _, h, dv => by
    cases h with
    | fl hs =>
      cases dv with
      | fl h1 h2 => exact .lst h1.sq (Pys.dp rs ps _ _ hs h2)
    | lst ha hs =>
      cases dv
      obtain ⟨vs, e, r⟩ := rs _ _ ha
      exact .lst (SqL.of e) (Pys.dp rs ps _ _ hs r)
  | .dict _, _, _, h, _ => by cases h
theorem Pys.dp {K : PySem.W.Frag} {S : Sto} {H : Hp} (rs : RelS K S H) : ∀ (ps : List PyData) (ds : List D) (vs : List V), Pys S ds ps → Dvs K H ds vs → DpAll K H vs ps
  | [], _, _, h, dv => by cases h; cases dv; exact .nil
  | p :: ps, _, _, h, dv => by
    cases h with
    | cons h1 h2 =>
      cases dv with
      | cons d1 d2 => exact .cons (Py.dp rs p _ _ h1 d1) (Pys.dp rs ps _ _ h2 d2)
end
/-- the answer of == -/
def EqD (S : Sto) (x y : D) (b : Bool) : Prop := ∃ p q, Py S x p ∧ Py S y q ∧ SeqAt.shaped p = true ∧ SeqAt.shaped q = true ∧ b = PyData.eqv p q
def rEq : D → D → Sto → VK2 → Prop
  | .int i, .int j, S, Q => Q (.bl (decide (i = j))) S
  | .bl i, .bl j, S, Q => Q (.bl (decide (i = j))) S
  | .str i, .str j, S, Q => Q (.bl (decide (i = j))) S
  | d, e, S, Q => ∃ b, EqD S d e b ∧ Q (.bl b) S
def rNe : D → D → Sto → VK2 → Prop
  | .int i, .int j, S, Q => Q (.bl (!decide (i = j))) S
  | .bl i, .bl j, S, Q => Q (.bl (!decide (i = j))) S
  | .str i, .str j, S, Q => Q (.bl (!decide (i = j))) S
  | d, e, S, Q => ∃ b, EqD S d e b ∧ Q (.bl (!b)) S
/-- the answer of «in» -/
def InD (S : Sto) (x y : D) (b : Bool) : Prop := ∃ p qs, Py S x p ∧ Py S y (.list qs) ∧ SeqAt.shaped p = true ∧ SeqAt.shaped (.list qs) = true ∧ b = qs.any fun z => PyData.eqv z p
def rIn : R22 := fun d e S Q => ∃ b, InD S d e b ∧ Q (.bl b) S
section
variable {X : Cx} {K : PySem.W.Frag}
theorem dec_V {α : Type} [DecidableEq α] {f : α → V} (hf : ∀ a b, f a = f b → a = b) (i j : α) : decide (f i = f j) = decide (i = j) := decide_eq_decide.mpr ⟨hf i j, fun e => by rw [e]⟩
theorem srv_eq : Srv K (fun x y H Q => L2.rEq x y H Q ∨ rEqD K x y H Q) rEq := by
  intro d e v u S H Q Q2 rs dv du t k
  unfold rEq at t
  split at t
  · cases dv; cases du
    exact .inl ⟨rfl, by rw [dec_V (f := V.int) fun _ _ e => V.int.inj e]; exact k _ _ _ _ (.refl H) rs (.bl _) t⟩
  · cases dv; cases du
    exact .inl ⟨rfl, by rw [dec_V (f := V.bl) fun _ _ e => V.bl.inj e]; exact k _ _ _ _ (.refl H) rs (.bl _) t⟩
  · cases dv; cases du
    exact .inl ⟨rfl, by rw [dec_V (f := V.str) fun _ _ e => V.str.inj e]; exact k _ _ _ _ (.refl H) rs (.bl _) t⟩
  · obtain ⟨b, ⟨p, q, h1, h2, s1, s2, rfl⟩, t⟩ := t
    exact .inr ⟨p, q, Py.dp rs _ _ _ h1 dv, Py.dp rs _ _ _ h2 du, s1, s2, k _ _ _ _ (.refl H) rs (.bl _) t⟩
theorem srv_ne : Srv K (fun x y H Q => L2.rNe x y H Q ∨ rNeD K x y H Q) rNe := by
  intro d e v u S H Q Q2 rs dv du t k
  unfold rNe at t
  split at t
  · cases dv; cases du
    exact .inl ⟨rfl, by rw [dec_V (f := V.int) fun _ _ e => V.int.inj e]; exact k _ _ _ _ (.refl H) rs (.bl _) t⟩
  · cases dv; cases du
    exact .inl ⟨rfl, by rw [dec_V (f := V.bl) fun _ _ e => V.bl.inj e]; exact k _ _ _ _ (.refl H) rs (.bl _) t⟩
  · cases dv; cases du
    exact .inl ⟨rfl, by rw [dec_V (f := V.str) fun _ _ e => V.str.inj e]; exact k _ _ _ _ (.refl H) rs (.bl _) t⟩
  · obtain ⟨b, ⟨p, q, h1, h2, s1, s2, rfl⟩, t⟩ := t
    exact .inr ⟨p, q, Py.dp rs _ _ _ h1 dv, Py.dp rs _ _ _ h2 du, s1, s2, k _ _ _ _ (.refl H) rs (.bl _) t⟩
def rInD' (K : PySem.W.Frag) : R2 := fun x y H Q => ∃ d ds, Dp K H x d ∧ Dp K H y (.list ds) ∧ SeqAt.shaped d = true ∧ SeqAt.shaped (.list ds) = true ∧ Q (.bl (ds.any fun z => PyData.eqv z d)) H
theorem room_in_sh {A : Around} {d : PyData} {n : Nat} (sd : SeqAt.shaped d = true) (hu : A.units + 65 < cLine) : A.units + 1 + min n d.depth < cLine := by
  have h1 := SeqAt.depth_of_shaped sd
  have h2 : min n d.depth ≤ d.depth := Nat.min_le_right _ _
  omega
theorem op_inD' (hu : X.A.units + 65 < cLine) : OpR X (compareOp .In) (rInD' X.K) := by
  intro pins s σ H x y v u Q I rx ry h
  obtain ⟨d, ds, hd, he, sd, se, q⟩ := h
  obtain ⟨as, r1⟩ := Dp.reads I d x v hd rx
  obtain ⟨bs, r2⟩ := Dp.reads I (.list ds) y u he ry
  exact SeqAt.in_list_reads r2 r1 (SeqAt.canLay_of_shaped se) (SeqAt.canLay_of_shaped sd) (room_in_sh sd hu) ⟨.bl _, H, I, rfl, q⟩
theorem srv_in : Srv K (rInD' K) rIn := by
  intro d e v u S H Q Q2 rs dv du t k
  obtain ⟨b, ⟨p, q, h1, h2, s1, s2, rfl⟩, t⟩ := t
  exact ⟨p, q, Py.dp rs _ _ _ h1 dv, Py.dp rs _ _ _ h2 du, s1, s2, k _ _ _ _ (.refl H) rs (.bl _) t⟩
variable {pos : Pos} {a b : Expr} {ta tb : TE2} {k : Nat}
theorem Room.u65 {A : Around} (hr : Room k A) : A.units + 65 < cLine := by have := hr.un; omega
theorem q_eq (hr : Room k X.A) (ha : QE X a ta) (hb : QE X b tb) : QE X (.Compare a [.Eq] [b] pos) (uOp rEq ta tb) := q_cmp (op_eq.or (op_eqD hr.units)) srv_eq (nomark _) ha hb
theorem t_eq (hr : Room k X.A) (ha : QE X a ta) (hb : QE X b tb) : QT X (.Compare a [.Eq] [b] pos) (uTest (uOp rEq ta tb)) := t_cmp (op_eq.or (op_eqD hr.units)) srv_eq (nomark _) ha hb
theorem t_ne (hr : Room k X.A) (ha : QE X a ta) (hb : QE X b tb) : QT X (.Compare a [.NotEq] [b] pos) (uTest (uOp rNe ta tb)) := t_cmp (op_ne.or (op_neD hr.units)) srv_ne (nomark _) ha hb
theorem t_in (hr : Room k X.A) (ha : QE X a ta) (hb : QE X b tb) (hm : behindInMarks .In b = false := by rfl) : QT X (.Compare a [.In] [b] pos) (uTest (uOp rIn ta tb)) := t_cmp (op_inD' (Room.u65 hr)) srv_in hm ha hb
end
/-! ### chains of ints, and, or, not -/
def uChain (r r' : R22) (ta tb tc : TE2) : TE2 := fun τ S Q => ta τ S fun x S1 => tb τ S1 fun y S2 => r x y S2 fun z S3 => match z with
  | .bl k => Cnd k (tc τ S3 fun w S4 => r' y w S4 Q) (Q (.bl false) S3)
  | _ => False
def uAnd (t u : TT2) : TT2 := fun τ S Q => t τ S fun c S1 => Cnd c (u τ S1 Q) (Q false S1)
def uOr (t u : TT2) : TT2 := fun τ S Q => t τ S fun c S1 => Cnd c (Q true S1) (u τ S1 Q)
def uNot (t : TT2) : TT2 := fun τ S Q => t τ S fun c S1 => Q (!c) S1
def uAndV (ta tb : TE2) : TE2 := fun τ S Q => ta τ S fun x S1 => match x with
  | .bl c => Cnd c (tb τ S1 Q) (Q (.bl false) S1)
  | _ => False
def uOrV (ta tb : TE2) : TE2 := fun τ S Q => ta τ S fun x S1 => match x with
  | .bl c => Cnd c (Q (.bl true) S1) (tb τ S1 Q)
  | _ => False
def uNotV (ta : TE2) : TE2 := fun τ S Q => ta τ S fun x S1 => match x with
  | .bl c => Q (.bl (!c)) S1
  | _ => False
section
variable {X : Cx} {pos : Pos} {a b c : Expr} {ta tb tc : TE2} {tA tB : TT2} {rest : List Expr}
theorem chain_dn {r0 r0' : R2} {r r' : R22} (s : Srv X.K r0 r) (s' : Srv X.K r0' r') {σ : L2.St} {H : Hp} {Q : VK} : dn X.K (uChain r r' ta tb tc) σ H Q → tChain r0 r0' (dn X.K ta) (dn X.K tb) (dn X.K tc) σ H Q := by
  rintro ⟨τ, S, Q2, rl, rs, t, k⟩
  refine ⟨τ, S, _, rl, rs, t, fun d v S1 H1 g1 rs1 dv1 t1 => ⟨τ, S1, _, rl.keep g1, rs1, t1, fun e u S2 H2 g2 rs2 dv2 t2 => ?_⟩⟩
  refine s d e v u S2 H2 _ _ rs2 (Dv.keep g2 _ _ dv1) dv2 t2 fun z vz S3 H3 g3 rs3 dz t3 => ?_
  cases z with
  | bl kk =>
    cases dz
    refine ⟨kk, rfl, ?_⟩
    have t3' := t3
    cases kk with
    | true =>
      rw [if_pos rfl]
      have t3 := t3'
      refine ⟨τ, S3, _, (rl.keep g1).keep (g2.trans g3), rs3, t3, fun w vw S4 H4 g4 rs4 dw t4 => ?_⟩
      exact s' e w u vw S4 H4 _ _ rs4 (Dv.keep (g3.trans g4) _ _ dv2) dw t4 fun d' v' S' H' g' => k d' v' S' H' (g1.trans (g2.trans (g3.trans (g4.trans g'))))
    | false =>
      rw [if_neg Bool.false_ne_true]
      exact k _ _ _ _ (g1.trans (g2.trans g3)) rs3 (.bl false) t3'
  | _ => exact t3.elim
theorem w_and1 (ha : QT X a tA) : QW X (.BoolOp .And [a] pos) tA := pw_and1 ha
theorem w_or1 (ha : QT X a tA) : QW X (.BoolOp .Or [a] pos) tA := pw_or1 ha
theorem w_and (ha : QT X a tA) (hb : QW X (.BoolOp .And (b :: rest) pos) tB) : QW X (.BoolOp .And (a :: b :: rest) pos) (uAnd tA tB) := PW.wk (pw_and ha hb) fun σ H Q ⟨τ, S, Q2, rl, rs, t, k⟩ =>
  ⟨τ, S, _, rl, rs, t, fun c S1 H1 g1 rs1 t1 => by
    cases c with
    | true =>
      rw [if_pos rfl]
      exact ⟨τ, S1, _, rl.keep g1, rs1, t1, fun b S' H' g => k b S' H' (g1.trans g)⟩
    | false =>
      rw [if_neg Bool.false_ne_true]
      exact k _ _ _ g1 rs1 t1⟩
theorem w_or (ha : QT X a tA) (hb : QW X (.BoolOp .Or (b :: rest) pos) tB) : QW X (.BoolOp .Or (a :: b :: rest) pos) (uOr tA tB) := PW.wk (pw_or ha hb) fun σ H Q ⟨τ, S, Q2, rl, rs, t, k⟩ =>
  ⟨τ, S, _, rl, rs, t, fun c S1 H1 g1 rs1 t1 => by
    cases c with
    | false =>
      rw [if_neg Bool.false_ne_true]
      exact ⟨τ, S1, _, rl.keep g1, rs1, t1, fun b S' H' g => k b S' H' (g1.trans g)⟩
    | true =>
      rw [if_pos rfl]
      exact k _ _ _ g1 rs1 t1⟩
theorem t_not (ha : QT X a tA) : QT X (.UnaryOp .Not a pos) (uNot tA) := PT.wk (pt_not ha) fun σ H Q ⟨τ, S, Q2, rl, rs, t, k⟩ => ⟨τ, S, _, rl, rs, t, fun c S1 H1 g1 rs1 t1 => k _ _ _ g1 rs1 t1⟩
theorem q_and (ha : QE X a ta) (hb : QE X (.BoolOp .And (b :: rest) pos) tb) : QE X (.BoolOp .And (a :: b :: rest) pos) (uAndV ta tb) := PE.wk (pe_and ha hb) fun σ H Q ⟨τ, S, Q2, rl, rs, t, k⟩ =>
  ⟨τ, S, _, rl, rs, t, fun d v S1 H1 g1 rs1 dv1 t1 => by
    cases d with
    | bl c =>
      cases dv1
      refine ⟨c, rfl, ?_⟩
      cases c with
      | true =>
        rw [if_pos rfl]
        exact ⟨τ, S1, _, rl.keep g1, rs1, t1, fun b v S' H' g => k b v S' H' (g1.trans g)⟩
      | false =>
        rw [if_neg Bool.false_ne_true]
        exact k _ _ _ _ g1 rs1 (.bl false) t1
    | _ => exact t1.elim⟩
theorem q_or (ha : QE X a ta) (hb : QE X (.BoolOp .Or (b :: rest) pos) tb) : QE X (.BoolOp .Or (a :: b :: rest) pos) (uOrV ta tb) := PE.wk (pe_or ha hb) fun σ H Q ⟨τ, S, Q2, rl, rs, t, k⟩ =>
  ⟨τ, S, _, rl, rs, t, fun d v S1 H1 g1 rs1 dv1 t1 => by
    cases d with
    | bl c =>
      cases dv1
      refine ⟨c, rfl, ?_⟩
      cases c with
      | false =>
        rw [if_neg Bool.false_ne_true]
        exact ⟨τ, S1, _, rl.keep g1, rs1, t1, fun b v S' H' g => k b v S' H' (g1.trans g)⟩
      | true =>
        rw [if_pos rfl]
        exact k _ _ _ _ g1 rs1 (.bl true) t1
    | _ => exact t1.elim⟩
theorem q_one {op} (h : QE X a ta) : QE X (.BoolOp op [a] pos) ta := pe_one h
theorem q_not (ha : QE X a ta) : QE X (.UnaryOp .Not a pos) (uNotV ta) := PE.wk (pe_not ha) fun σ H Q ⟨τ, S, Q2, rl, rs, t, k⟩ =>
  ⟨τ, S, _, rl, rs, t, fun d v S1 H1 g1 rs1 dv1 t1 => by
    cases d with
    | bl c =>
      cases dv1
      exact ⟨c, rfl, k _ _ _ _ g1 rs1 (.bl _) t1⟩
    | _ => exact t1.elim⟩
/-- the store as it was ahead of an expression -/
def uFgt (t : TE2) : TE2 := fun τ S Q => t τ S fun d S' => Sub S S' ∧ Q d S
def uFgtT (t : TT2) : TT2 := fun τ S Q => t τ S fun d S' => Sub S S' ∧ Q d S
end
/-! ### tuples, lists, items -/
def uNil : TA2 := fun _ S Q => Q [] S
def uCons (ta : TE2) (tr : TA2) : TA2 := fun τ S Q => ta τ S fun x S1 => tr τ S1 fun xs S2 => Q (x :: xs) S2
def uTup (t : TA2) : TE2 := fun τ S Q => t τ S fun ds S1 => ds.length ≤ 1000 ∧ Q (.tup ds) S1
def uLst (t : TA2) : TE2 := fun τ S Q => t τ S fun ds S1 => ds.length ≤ 1000 ∧ ∀ p, S1 p = none → Q (.ref p) (ups S1 p (.lst ds))
theorem th_line {n : Nat} (h : n ≤ 1000) : n ≤ sizeLine := Nat.le_of_lt (small1000 h)
section
variable {X : Cx} {pos : Pos} {e : Expr} {es : List Expr} {ta : TE2} {t : TA2}
theorem a_nil : QA X [] uNil := PA.wk pa_nil fun σ H Q ⟨τ, S, Q2, rl, rs, t, k⟩ => k _ _ _ _ (.refl H) rs .nil t
theorem a_cons (ha : QE X e ta) (hr : QA X es t) (hs : starEach (e :: es) X.env = (false, eval e X.env) :: starEach es X.env := by rfl) : QA X (e :: es) (uCons ta t) := PA.wk (pa_cons ha hr hs) fun σ H Q ⟨τ, S, Q2, rl, rs, t, k⟩ =>
  ⟨τ, S, _, rl, rs, t, fun d v S1 H1 g1 rs1 dv1 t1 => ⟨τ, S1, _, rl.keep g1, rs1, t1, fun ds vs S2 H2 g2 rs2 dvs2 t2 => k _ _ _ _ (g1.trans g2) rs2 (.cons (Dv.keep g2 _ _ dv1) dvs2) t2⟩⟩
theorem q_tup {x1} (h : QA X es t) : QE X (.Tuple es x1 pos) (uTup t) := PE.wk (pe_tup h) fun σ H Q ⟨τ, S, Q2, rl, rs, t, k⟩ =>
  ⟨τ, S, _, rl, rs, t, fun ds vs S1 H1 g1 rs1 dvs t1 => ⟨by rw [← dvs.length]; exact th_line t1.1, fun p np => k _ _ _ _ (g1.trans (good_new np)) (rs1.newT np) (.tup (SqT.of upd_same) (dvs.new np)) t1.2⟩⟩
theorem q_lst (h : QA X es t) : QE X (.List es pos) (uLst t) := PE.wk (pe_lst h) fun σ H Q ⟨τ, S, Q2, rl, rs, t, k⟩ =>
  ⟨τ, S, _, rl, rs, t, fun ds vs S1 H1 g1 rs1 dvs t1 => ⟨by rw [← dvs.length]; exact th_line t1.1, fun p np => k _ _ _ _ (g1.trans (good_new np)) (rs1.new (o := .lst ds) np ⟨_, upd_same, dvs.new np⟩) (.ref p) (t1.2 p (rs1.fresh np))⟩⟩
end
/-- the items of a list or a tuple -/
def itemsOf (S : Sto) (d : D) : Option (List D) := match d with
  | .ref a => match S a with
    | some (.lst xs) => some xs
    | _ => none
  | .fl xs => some xs
  | .tup xs => some xs
  | _ => none
theorem items_ref {S : Sto} {a : Addr} {xs : List D} (h : S a = some (.lst xs)) : itemsOf S (.ref a) = some xs := by
  unfold itemsOf; simp only [h]
theorem ref_items {S : Sto} {a : Addr} {xs : List D} (h : itemsOf S (.ref a) = some xs) : S a = some (.lst xs) := by
  unfold itemsOf at h
  simp only at h
  split at h
  · next q => obtain rfl := Option.some.inj h; exact q
  · cases h
theorem items_sq {K : PySem.W.Frag} {S : Sto} {H : Hp} {d : D} {v : V} {xs : List D} (rs : RelS K S H) (dv : Dv K H d v) (h : itemsOf S d = some xs) : ∃ p vs, v = .ref p ∧ (SqL K H p vs ∨ SqT K H p vs) ∧ Dvs K H xs vs := by
  cases dv with
  | ref a =>
    obtain ⟨vs, e, r⟩ := rs _ _ (ref_items h)
    exact ⟨a, vs, rfl, .inl (SqL.of e), r⟩
  | tup h1 h2 => obtain rfl := Option.some.inj h; exact ⟨_, _, rfl, .inr h1, h2⟩
  | fl h1 h2 => obtain rfl := Option.some.inj h; exact ⟨_, _, rfl, .inl h1.sq, h2⟩
  | _ => cases h
def nthQ {α : Type} : List α → Nat → (α → Prop) → Prop
  | x :: _, 0, Q => Q x
  | _ :: xs, n + 1, Q => nthQ xs n Q
  | [], _, _ => False
theorem nthQ_get {α : Type} : ∀ {xs : List α} {n : Nat} {Q : α → Prop}, nthQ xs n Q → ∃ x, xs[n]? = some x ∧ Q x
  | [], _, _, h => by cases h
  | x :: _, 0, _, h => ⟨x, rfl, h⟩
  | _ :: xs, n + 1, _, h => nthQ_get (xs := xs) (n := n) h
def ixkQ (k : Nat) : D → Sto → VK2 → Prop
  | .tup xs, S, Q => nthQ xs k fun x => Q x S
  | .fl xs, S, Q => nthQ xs k fun x => Q x S
  | .ref a, S, Q => getO (S a) fun xs => nthQ xs k fun x => Q x S
  | .str z, S, Q => z.length ≤ sizeLine ∧ onS z.cps.toList[k]? fun c => Q (.str ⟨#[c]⟩) S
  | _, _, _ => False
def uIxk (k : Nat) (ta : TE2) : TE2 := fun τ S Q => ta τ S fun d S1 => ixkQ k d S1 Q
def ixgQ (i : Int) : D → Sto → VK2 → Prop
  | .tup xs, S, Q => onS (atI xs i) fun x => Q x S
  | .fl xs, S, Q => onS (atI xs i) fun x => Q x S
  | .ref a, S, Q => getO (S a) fun xs => onS (atI xs i) fun x => Q x S
  | .str z, S, Q => z.length ≤ sizeLine ∧ onS (atI z.cps.toList i) fun c => Q (.str ⟨#[c]⟩) S
  | _, _, _ => False
def rIxg : D → D → Sto → VK2 → Prop
  | d, .int i, S, Q => ixgQ i d S Q
  | _, _, _, _ => False
theorem Dvs.atI {K : PySem.W.Frag} {H : Hp} {ds : List D} {vs : List V} {i : Int} {d : D} (h : Dvs K H ds vs) (e : L2.atI ds i = some d) : ∃ v, L2.atI vs i = some v ∧ Dv K H d v := by
  unfold L2.atI at e ⊢
  rw [← h.length]
  cases q : ixN ds.length i with
  | none => rw [q] at e; cases e
  | some j =>
    rw [q] at e
    exact h.at e
section
variable {X : Cx} {pos : Pos} {a b : Expr} {ta tb : TE2} {K : PySem.W.Frag}
theorem srv_ix : Srv K (rIx K) rIxg := by
  intro d e v u S H Q Q2 rs dv du t k
  unfold rIxg at t
  split at t
  · next i =>
    cases du
    have gen : ∀ xs, itemsOf S d = some xs → onS (atI xs i) (fun x => Q2 x S) → rIx K v (.int i) H Q := by
      intro xs h1 q
      obtain ⟨x, h2, q⟩ := onS_get q
      obtain ⟨p, vs, rfl, h, r⟩ := items_sq rs dv h1
      obtain ⟨y, e2, ry⟩ := r.atI h2
      rcases h with h | h
      · exact .inl ⟨p, vs, i, y, rfl, rfl, h, e2, k _ _ _ _ (.refl H) rs ry q⟩
      · exact .inr (.inl ⟨p, vs, i, y, rfl, rfl, h, e2, k _ _ _ _ (.refl H) rs ry q⟩)
    cases d with
    | tup xs => exact gen xs rfl t
    | fl xs => exact gen xs rfl t
    | ref a =>
      obtain ⟨xs, h1, q⟩ := getO_get t
      exact gen xs (items_ref h1) q
    | str z =>
      obtain ⟨hl, t⟩ := t
      obtain ⟨c, hc, q⟩ := onS_get t
      cases dv
      exact .inr (.inr ⟨z, i, c, rfl, rfl, hl, hc, k _ _ _ _ (.refl H) rs (.str _) q⟩)
    | _ => exact t.elim
  · exact t.elim
theorem q_ixg (hs : PlainIx b) (ha : QE X a ta) (hb : QE X b tb) : QE X (.Subscript a b pos) (uOp rIxg ta tb) := q_ix ix_seq srv_ix hs ha hb
theorem q_ixk (n : Nat) {j : Nat} {p2 : Pos} (ha : QE X a ta) : QE X (.Subscript a (.Constant (.int (n : Int)) j p2) pos) (uIxk n ta) := PE.wk (pe_ix ix_seq ha pe_int (fun _ _ => rfl)) fun σ H Q ⟨τ, S, Q2, rl, rs, t, k⟩ => by
  refine ⟨τ, S, _, rl, rs, t, fun d v S1 H1 g1 rs1 dv1 t1 => ?_⟩
  show rIx X.K v (.int n) H1 Q
  have gen : ∀ xs, itemsOf S1 d = some xs → nthQ xs n (fun x => Q2 x S1) → rIx X.K v (.int n) H1 Q := fun xs h1 q => by
    obtain ⟨x, h2, q⟩ := nthQ_get q
    obtain ⟨p, vs, rfl, h, r⟩ := items_sq rs1 dv1 h1
    obtain ⟨y, e2, ry⟩ := r.at h2
    rcases h with h | h
    · exact .inl ⟨p, vs, n, y, rfl, rfl, h, atI_nat e2, k _ _ _ _ g1 rs1 ry q⟩
    · exact .inr (.inl ⟨p, vs, n, y, rfl, rfl, h, atI_nat e2, k _ _ _ _ g1 rs1 ry q⟩)
  cases d with
  | tup xs => exact gen xs rfl t1
  | fl xs => exact gen xs rfl t1
  | ref a =>
    obtain ⟨xs, h1, q⟩ := getO_get t1
    exact gen xs (items_ref h1) q
  | str z =>
    obtain ⟨hl, t1⟩ := t1
    obtain ⟨c, hc, q⟩ := onS_get t1
    cases dv1
    exact .inr (.inr ⟨z, n, c, rfl, rfl, hl, atI_nat hc, k _ _ _ _ g1 rs1 (.str _) q⟩)
  | _ => exact t1.elim
end
end DL
namespace DL
open PySem PySem.Spec PyProof.Rows L2
/-! ### calls of builtins, by values -/
abbrev RC := List D → Sto → VK2 → Prop
def SrvC (K : PySem.W.Frag) (r0 : List V → Hp → VK → Prop) (r : RC) : Prop := ∀ ds vs S H Q Q2, RelS K S H → Dvs K H ds vs → r ds S Q2 → (∀ d v S' H', Good K H H' → RelS K S' H' → Dv K H' d v → Q2 d S' → Q v H') → r0 vs H Q
def uCB (r : RC) (t : TA2) : TE2 := fun τ S Q => t τ S fun ds S1 => r ds S1 Q
/-- methods of builtin types -/
abbrev RM := D → List D → Sto → VK2 → Prop
def SrvM (K : PySem.W.Frag) (T : String) (r0 : V → List V → Hp → VK → Prop) (r : RM) : Prop := ∀ d v ds vs S H Q Q2, RelS K S H → Dv K H d v → Dvs K H ds vs → r d ds S Q2 → (∀ d v S' H', Good K H H' → RelS K S' H' → Dv K H' d v → Q2 d S' → Q v H') → r0 v vs H Q
def isL (S : Sto) (d : D) : Prop := match d with
  | .ref a => ∃ xs, S a = some (.lst xs)
  | .fl _ => True
  | _ => False
def isS (S : Sto) (d : D) : Prop := match d with
  | .str _ => True
  | _ => False
def uBM (ty : Sto → D → Prop) (r : RM) (to : TE2) (t : TA2) : TE2 := fun τ S Q => to τ S fun x S1 => ty S1 x ∧ t τ S1 fun ds S2 => r x ds S2 Q
section
variable {X : Cx} {pos p cpos apos : Pos} {x name : Str} {e o : Expr} {es : List Expr} {t : TA2} {to : TE2} {r : RC} {r0 : List V → Hp → VK → Prop} {id T : String}
theorem dnCB (s : SrvC X.K r0 r) {σ : L2.St} {H : Hp} {Q : VK} : dn X.K (uCB r t) σ H Q → tCB r0 (dnA X.K t) σ H Q := fun ⟨τ, S, Q2, rl, rs, t, k⟩ =>
  ⟨τ, S, _, rl, rs, t, fun ds vs S1 H1 g1 rs1 dvs t1 => s ds vs S1 H1 Q Q2 rs1 dvs t1 fun d v S' H' g => k d v S' H' (g1.trans g)⟩
theorem q_callB (hc : CallR X (.builtin id) r0) (s : SrvC X.K r0 r) (hm : X.mg x = none) (hv : bootBuiltins x = some (.builtin id)) (hg : Gl X x) (ha : QA X (e :: es) t) (hn : x ≠ "__name__" := by decide) (hdb : (x == ("__debug__" : Str)) = false := by decide)
    (he : starEach (e :: es) X.env = (false, eval e X.env) :: starEach es X.env := by rfl) (hpl : (backTo pos (starEach es X.env)).any (·.1) = false := by rfl) :
    QE X (.Call (.Name x p) (e :: es) [] pos) (uCB r t) := PE.wk (pe_callB hc hg hm hv ha hn hdb he hpl) fun _ _ _ => dnCB s
theorem q_callTy (hc : CallR X (.type T) r0) (s : SrvC X.K r0 r) (hm : X.mg x = none) (hv : bootBuiltins x = some (.type T)) (hg : Gl X x) (ha : QA X (e :: es) t) (hn : x ≠ "__name__" := by decide) (hdb : (x == ("__debug__" : Str)) = false := by decide)
    (he : starEach (e :: es) X.env = (false, eval e X.env) :: starEach es X.env := by rfl) (hpl : (backTo pos (starEach es X.env)).any (·.1) = false := by rfl) :
    QE X (.Call (.Name x p) (e :: es) [] pos) (uCB r t) := PE.wk (pe_callTy hc hg hm hv ha hn hdb he hpl) fun _ _ _ => dnCB s
end
def rLen : List D → Sto → VK2 → Prop
  | [.str z], S, Q => z.length ≤ sizeLine ∧ Q (.int z.length) S
  | [.tup xs], S, Q => Q (.int xs.length) S
  | [.fl xs], S, Q => Q (.int xs.length) S
  | [.ref a], S, Q => getO (S a) fun xs => Q (.int xs.length) S
  | _, _, _ => False
def rAbs : List D → Sto → VK2 → Prop
  | [.int i], S, Q => Q (.int (if i < 0 then -i else i)) S
  | _, _, _ => False
def rMax2 : List D → Sto → VK2 → Prop
  | [.int i, .int j], S, Q => Q (.int (if j > i then j else i)) S
  | _, _, _ => False
def rMin2 : List D → Sto → VK2 → Prop
  | [.int i, .int j], S, Q => Q (.int (if j < i then j else i)) S
  | _, _, _ => False
def rInt1 : List D → Sto → VK2 → Prop
  | [.int i], S, Q => Q (.int i) S
  | [.bl k], S, Q => Q (.int (if k then 1 else 0)) S
  | _, _, _ => False
def rListOf : List D → Sto → VK2 → Prop
  | [.tup xs], S, Q => ∀ p, S p = none → Q (.ref p) (ups S p (.lst xs))
  | [.fl xs], S, Q => ∀ p, S p = none → Q (.ref p) (ups S p (.lst xs))
  | [.ref a], S, Q => getO (S a) fun xs => ∀ p, S p = none → Q (.ref p) (ups S p (.lst xs))
  | _, _, _ => False
def rTupleOf : List D → Sto → VK2 → Prop
  | [.tup xs], S, Q => Q (.tup xs) S
  | [.fl xs], S, Q => Q (.tup xs) S
  | [.ref a], S, Q => getO (S a) fun xs => Q (.tup xs) S
  | _, _, _ => False
/-- the items of a list -/
def listOf (S : Sto) (d : D) : Option (List D) := match d with
  | .ref a => match S a with
    | some (.lst xs) => some xs
    | _ => none
  | .fl xs => some xs
  | _ => none
theorem list_ref {S : Sto} {a : Addr} {xs : List D} (h : S a = some (.lst xs)) : listOf S (.ref a) = some xs := by
  unfold listOf; simp only [h]
theorem ref_list {S : Sto} {a : Addr} {xs : List D} (h : listOf S (.ref a) = some xs) : S a = some (.lst xs) := by
  unfold listOf at h
  simp only at h
  split at h
  · next q => obtain rfl := Option.some.inj h; exact q
  · cases h
theorem list_sq {K : PySem.W.Frag} {S : Sto} {H : Hp} {d : D} {v : V} {xs : List D} (rs : RelS K S H) (dv : Dv K H d v) (h : listOf S d = some xs) : ∃ p vs, v = .ref p ∧ SqL K H p vs ∧ Dvs K H xs vs := by
  cases dv with
  | ref a =>
    obtain ⟨vs, e, r⟩ := rs _ _ (ref_list h)
    exact ⟨a, vs, rfl, SqL.of e, r⟩
  | fl h1 h2 => obtain rfl := Option.some.inj h; exact ⟨_, _, rfl, h1.sq, h2⟩
  | _ => cases h
def rAny2 : List D → Sto → VK2 → Prop
  | [d], S, Q => ∃ bs : List Bool, listOf S d = some (bs.map D.bl) ∧ Q (.bl (bs.any fun b => b)) S
  | _, _, _ => False
def rAll2 : List D → Sto → VK2 → Prop
  | [d], S, Q => ∃ bs : List Bool, listOf S d = some (bs.map D.bl) ∧ Q (.bl (bs.all fun b => b)) S
  | _, _, _ => False
/-- the builtin type of a thing -/
inductive Ty where
  | non | bool | int | str | tup | lst | dic
def Ty.nm : Ty → String
  | .non => "NoneType" | .bool => "bool" | .int => "int" | .str => "str" | .tup => "tuple" | .lst => "list" | .dic => "dict"
def tyO : Option O → Option Ty
  | some (.lst _) => some .lst
  | some (.dic _) => some .dic
  | _ => none
def tyOf (S : Sto) : D → Option Ty
  | .non => some .non
  | .bl _ => some .bool
  | .int _ => some .int
  | .str _ => some .str
  | .tup _ => some .tup
  | .fl _ => some .lst
  | .ref a => tyO (S a)
  | _ => none
/-- isinstance(a thing of the one, the other) -/
def isiT : Ty → Ty → Bool
  | .bool, .bool | .bool, .int | .int, .int | .str, .str | .tup, .tup | .lst, .lst | .dic, .dic => true
  | _, _ => false
def Ty.ok : Ty → Bool
  | .non => false
  | _ => true
theorem isiT_kit : ∀ T n : Ty, n.ok = true → kitB T.nm n.nm = some (isiT T n) := by
  intro T n h
  cases n <;> first | (exact absurd h (by decide)) | (cases T <;> decide +kernel)
def uIsi (n : Ty) (ta : TE2) : TE2 := fun τ S Q => ta τ S fun d S1 => onS (tyOf S1 d) fun T => Q (.bl (isiT T n)) S1
def rSorted2 : List D → Sto → VK2 → Prop
  | [d], S, Q => ∃ ns : List Int, listOf S d = some (ns.map D.int) ∧ ns.length < 64 ∧ ∀ ms : List Int, ms.Perm ns → ms.Pairwise (· ≤ ·) → ∀ p, S p = none → Q (.ref p) (ups S p (.lst (ms.map D.int)))
  | _, _, _ => False
section
variable {X : Cx} {K : PySem.W.Frag}
theorem srv_len : SrvC K (fun xs H Q => (∃ p ys, xs = [.ref p] ∧ (SqL K H p ys ∨ SqT K H p ys) ∧ Q (.int ys.length) H) ∨ ∃ z, xs = [.str z] ∧ z.length ≤ sizeLine ∧ Q (.int z.length) H) rLen := by
  intro ds vs S H Q Q2 rs dvs t k
  have gen : ∀ (d : D) (v : V) (xs : List D), Dv K H d v → itemsOf S d = some xs → Q2 (.int xs.length) S → (∃ p ys, [v] = [.ref p] ∧ (SqL K H p ys ∨ SqT K H p ys) ∧ Q (.int ys.length) H) := fun d v xs dv h q => by
    obtain ⟨p, us, rfl, hq, r⟩ := items_sq rs dv h
    exact ⟨p, us, rfl, hq, by rw [← r.length]; exact k _ _ _ _ (.refl H) rs (.int _) q⟩
  unfold rLen at t
  split at t
  · cases dvs with
    | cons h1 h2 =>
      cases h1; cases h2
      exact .inr ⟨_, rfl, t.1, k _ _ _ _ (.refl H) rs (.int _) t.2⟩
  · cases dvs with
    | cons h1 h2 => cases h2; exact .inl (gen _ _ _ h1 rfl t)
  · cases dvs with
    | cons h1 h2 => cases h2; exact .inl (gen _ _ _ h1 rfl t)
  · obtain ⟨xs, e, q⟩ := getO_get t
    cases dvs with
    | cons h1 h2 => cases h2; exact .inl (gen _ _ _ h1 (items_ref e) q)
  · exact t.elim
theorem srv_abs : SrvC K (fun xs H Q => ∃ i, xs = [.int i] ∧ Q (.int (if i < 0 then -i else i)) H) rAbs := by
  intro ds vs S H Q Q2 rs dvs t k
  unfold rAbs at t
  split at t
  · cases dvs with
    | cons h1 h2 =>
      cases h1; cases h2
      exact ⟨_, rfl, k _ _ _ _ (.refl H) rs (.int _) t⟩
  · exact t.elim
theorem srv_min2 : SrvC K (fun xs H Q => ∃ i j, xs = [.int i, .int j] ∧ Q (.int (if j < i then j else i)) H) rMin2 := by
  intro ds vs S H Q Q2 rs dvs t k
  unfold rMin2 at t
  split at t
  · cases dvs with
    | cons h1 h2 =>
      cases h1
      cases h2 with
      | cons h3 h4 =>
        cases h3; cases h4
        exact ⟨_, _, rfl, k _ _ _ _ (.refl H) rs (.int _) t⟩
  · exact t.elim
theorem srv_int1 : SrvC K (fun xs H Q => (∃ i, xs = [.int i] ∧ Q (.int i) H) ∨ ∃ k, xs = [.bl k] ∧ Q (.int (if k then 1 else 0)) H) rInt1 := by
  intro ds vs S H Q Q2 rs dvs t k
  unfold rInt1 at t
  split at t
  · cases dvs with
    | cons h1 h2 =>
      cases h1; cases h2
      exact .inl ⟨_, rfl, k _ _ _ _ (.refl H) rs (.int _) t⟩
  · cases dvs with
    | cons h1 h2 =>
      cases h1; cases h2
      exact .inr ⟨_, rfl, k _ _ _ _ (.refl H) rs (.int _) t⟩
  · exact t.elim
variable {pos p : Pos} {e : Expr} {es : List Expr} {t : TA2} {ta tb : TE2}
theorem q_len (hm : X.mg "len" = none) (hg : Gl X "len") (ha : QA X [e] t) (he : starEach [e] X.env = (false, eval e X.env) :: starEach [] X.env := by rfl) : QE X (.Call (.Name "len" p) [e] [] pos) (uCB rLen t) :=
  q_callB (call_len_seq.or call_len_str) srv_len hm PySem.boot_len hg ha (he := he)
theorem q_abs (hm : X.mg "abs" = none) (hg : Gl X "abs") (ha : QA X [e] t) (he : starEach [e] X.env = (false, eval e X.env) :: starEach [] X.env := by rfl) : QE X (.Call (.Name "abs" p) [e] [] pos) (uCB rAbs t) :=
  q_callB call_abs srv_abs hm PyProof.Rows.boot_abs hg ha (he := he)
theorem q_min2 (hc : X.calm = true) (hm : X.mg "min" = none) (hg : Gl X "min") {e2 : Expr} (ha : QA X [e, e2] t) (he : starEach [e, e2] X.env = (false, eval e X.env) :: starEach [e2] X.env := by rfl) (hpl : (backTo pos (starEach [e2] X.env)).any (·.1) = false := by rfl) : QE X (.Call (.Name "min" p) [e, e2] [] pos) (uCB rMin2 t) :=
  q_callB (call_min2 hc) srv_min2 hm PyProof.Rows.boot_min hg ha (he := he) (hpl := hpl)
theorem q_int1 (hm : X.mg "int" = none) (hg : Gl X "int") (ha : QA X [e] t) (he : starEach [e] X.env = (false, eval e X.env) :: starEach [] X.env := by rfl) : QE X (.Call (.Name "int" p) [e] [] pos) (uCB rInt1 t) :=
  q_callTy call_int1 srv_int1 hm PyProof.Rows.boot_int hg ha (he := he)
/-- the type of what d stands for -/
theorem tyX_of {S : Sto} {H : Hp} {d : D} {v : V} {T : Ty} (rs : RelS K S H) (dv : Dv K H d v) (h : tyOf S d = some T) : TyX K H v (.type T.nm) := by
  cases dv with
  | non => obtain rfl := Option.some.inj h; exact .base .non
  | bl b => obtain rfl := Option.some.inj h; exact .base (.bl b)
  | int i => obtain rfl := Option.some.inj h; exact .base (.int i)
  | str x => obtain rfl := Option.some.inj h; exact .base (.str x)
  | ty n => cases h
  | exc _ => cases h
  | tup h1 h2 =>
    obtain rfl := Option.some.inj h
    rcases h1 with (h1 | ⟨o, h1⟩) | ⟨o, its, n, h1, h3, _⟩
    · exact .base (.tup h1)
    · exact .fTuple h1
    · exact .kTuple h1 h3
  | fl h1 h2 =>
    obtain rfl := Option.some.inj h
    rcases h1 with ⟨o, h1⟩ | ⟨o, its, n, h1, h3, _⟩
    · exact .base (.frz h1)
    · exact .kList h1 h3
  | ref a =>
    have h : tyO (S a) = some T := h
    unfold tyO at h
    split at h
    · next q =>
      obtain rfl := Option.some.inj h
      obtain ⟨vs, e, _⟩ := rs _ _ q
      exact .base (.lst e)
    · next q =>
      obtain rfl := Option.some.inj h
      obtain ⟨vs, e, _⟩ := rs _ _ q
      exact .base (.dK e)
    · cases h
theorem q_isi (n : Ty) {x : Str} {p2 : Pos} (hm : X.mg "isinstance" = none) (hg : Gl X "isinstance") (hm2 : X.mg x = none) (hg2 : Gl X x) (hb : bootBuiltins x = some (.type n.nm)) (hn : n.ok = true) (ha : QE X e ta)
    (he : starEach [e, .Name x p2] X.env = (false, eval e X.env) :: starEach [.Name x p2] X.env := by rfl) (hpl : (backTo pos (starEach [.Name x p2] X.env)).any (·.1) = false := by rfl)
    (hs2 : starEach [.Name x p2] X.env = (false, eval (.Name x p2) X.env) :: starEach [] X.env := by rfl) (hx : x ≠ "__name__" := by decide) (hd : (x == ("__debug__" : Str)) = false := by decide) : QE X (.Call (.Name "isinstance" p) [e, .Name x p2] [] pos) (uIsi n ta) :=
  PE.wk (pe_callB call_isi hg hm PyProof.Rows.boot_isinstance (pa_cons ha (pa_cons (pe_bltn (v := .ty n.nm) hg2 hm2 hb rfl hx hd) pa_nil hs2) he) (hpl := hpl) (he := he)) fun σ H Q ⟨τ, S, Q2, rl, rs, t, k⟩ =>
    ⟨τ, S, _, rl, rs, t, fun d v S1 H1 g1 rs1 dv1 t1 => let ⟨T, hT, t1⟩ := onS_get t1; ⟨v, .ty n.nm, .type T.nm, .type n.nm, isiT T n, rfl, .ty _, tyX_of rs1 dv1 hT, kit_ty (isiT_kit T n hn), k _ _ _ _ g1 rs1 (.bl _) t1⟩⟩
end
end DL
namespace DL
open PySem PySem.Spec PyProof.Rows L2
/-! ### methods of lists -/
def rAppend2 : D → List D → Sto → VK2 → Prop
  | .ref a, [d], S, Q => getO (S a) fun xs => xs.length < sizeLine ∧ Q .non (ups S a (.lst (xs ++ [d])))
  | _, _, _, _ => False
def rInsert2 : D → List D → Sto → VK2 → Prop
  | .ref a, [.int i, d], S, Q => getO (S a) fun xs => xs.length < sizeLine ∧ (0 ≤ i ∧ i < 2 ^ 63) ∧ Q .non (ups S a (.lst (xs.take i.toNat ++ [d] ++ xs.drop i.toNat)))
  | _, _, _, _ => False
def rPop0 : D → List D → Sto → VK2 → Prop
  | .ref a, [], S, Q => getO (S a) fun xs => onS xs[xs.length - 1]? fun y => Q y (ups S a (.lst xs.dropLast))
  | _, _, _, _ => False
def rPopAt2 : D → List D → Sto → VK2 → Prop
  | .ref a, [.int i], S, Q => getO (S a) fun xs => (-(2 ^ 63) ≤ i ∧ i < 2 ^ 63) ∧ onS (seqIndex? i xs.length) fun k => onS xs[k]? fun y => Q y (ups S a (.lst (xs.eraseIdx k)))
  | _, _, _, _ => False
def rReverse2 : D → List D → Sto → VK2 → Prop
  | .ref a, [], S, Q => getO (S a) fun xs => Q .non (ups S a (.lst xs.reverse))
  | _, _, _, _ => False
def rClear2 : D → List D → Sto → VK2 → Prop
  | .ref a, [], S, Q => getO (S a) fun xs => Q .non (ups S a (.lst []))
  | _, _, _, _ => False
section
variable {X : Cx} {K : PySem.W.Frag}
theorem isL_ty {S : Sto} {H : Hp} {d : D} {v : V} (rs : RelS K S H) (dv : Dv K H d v) (h : isL S d) : tyV K "list" v H := by
  cases dv with
  | ref a =>
    obtain ⟨xs, h⟩ := h
    obtain ⟨vs, e, _⟩ := rs _ _ h
    exact .inl ⟨rfl, vs, SqL.of e⟩
  | fl h1 h2 => exact .inl ⟨rfl, _, h1.sq⟩
  | _ => exact h.elim
variable {pos p cpos apos : Pos} {x name : Str} {e o : Expr} {es : List Expr} {t : TA2} {to : TE2} {r : RM} {r0 : V → List V → Hp → VK → Prop} {id T : String} {ty : Sto → D → Prop}
theorem q_bm (pa : PlainAttrs T) (slot : Slot T name id) (hty : typeOf (.builtin id) = pure (.type "method_descriptor")) (hm : MtR X id r0) (s : SrvM X.K T r0 r)
    (tyS : ∀ {S : Sto} {H : Hp} {d : D} {v : V}, RelS X.K S H → Dv X.K H d v → ty S d → tyV X.K T v H) (ho : QE X o to) (ha : QA X (e :: es) t)
    (hbase : attributeBase o name X.env (eval o X.env) = eval o X.env)
    (hfew : ((backTo cpos (starEach (e :: es) X.env)).all (fun x => !x.1) && (backToKw cpos (keywordEach [] X.env)).all (fun x => x.1.isSome)
      && decide ((e :: es).length + ([] : List Keyword).length + (if ([] : List Keyword).isEmpty then 0 else 1) < 30)) = true)
    (hline : (apos.endLine == cpos.line) = true) (hs : starEach (e :: es) X.env = (false, eval e X.env) :: starEach es X.env) (hplain : (backTo cpos (starEach es X.env)).any (·.1) = false) :
    QE X (.Call (.Attribute o name apos) (e :: es) [] cpos) (uBM ty r to t) := PE.wk (pe_bm pa slot hty hm ho ha hbase hfew hline hs hplain) fun σ H Q ⟨τ, S, Q2, rl, rs, t, k⟩ =>
  ⟨τ, S, _, rl, rs, t, fun d v S1 H1 g1 rs1 dv1 ⟨ht, t1⟩ => ⟨tyS rs1 dv1 ht, τ, S1, _, rl.keep g1, rs1, t1, fun ds vs S2 H2 g2 rs2 dvs2 t2 =>
    s d v ds vs S2 H2 Q Q2 rs2 (Dv.keep g2 _ _ dv1) dvs2 t2 fun d v S' H' g => k d v S' H' (g1.trans (g2.trans g))⟩⟩
theorem RelS.wl {S : Sto} {H : Hp} {a : Addr} {us us' : List V} {xs' : List D} (rs : RelS K S H) (e : H a = some (.lst us)) (r : Dvs K H xs' us') : Good K H (upd H a (.lst us')) ∧ RelS K (ups S a (.lst xs')) (upd H a (.lst us')) :=
  have g := good_write (K := K) (u' := .lst us') e trivial
  ⟨g, rs.write (o := .lst xs') e trivial ⟨us', upd_same, Dvs.keep g _ _ r⟩⟩
theorem srv_append : SrvM K "list" rAppend rAppend2 := by
  intro d v ds vs S H Q Q2 rs dv dvs t k
  unfold rAppend2 at t
  split at t
  · obtain ⟨xs, h, hl, q⟩ := getO_get t
    cases dv
    cases dvs with
    | cons h1 h2 =>
      cases h2
      obtain ⟨us, e, r⟩ := rs _ _ h
      refine ⟨_, us, _, rfl, rfl, e, by rw [← r.length]; exact hl, ?_⟩
      obtain ⟨g, r2⟩ := RelS.wl rs e (r.append (.cons h1 .nil))
      exact k _ _ _ _ g r2 .non q
  · exact t.elim
theorem srv_insert : SrvM K "list" (fun x vs H Q => ∃ (l : Addr) (xs : List V) (i : Int) (y : V), x = .ref l ∧ vs = [.int i, y] ∧ H l = some (.lst xs) ∧ xs.length < sizeLine ∧ 0 ≤ i ∧ i < 2 ^ 63 ∧
    Q .non (upd H l (.lst (xs.take i.toNat ++ [y] ++ xs.drop i.toNat)))) rInsert2 := by
  intro d v ds vs S H Q Q2 rs dv dvs t k
  unfold rInsert2 at t
  split at t
  · obtain ⟨xs, h, hl, ⟨h0, h9⟩, q⟩ := getO_get t
    cases dv
    cases dvs with
    | cons h1 h2 =>
      cases h1
      cases h2 with
      | cons h3 h4 =>
        cases h4
        obtain ⟨us, e, r⟩ := rs _ _ h
        refine ⟨_, us, _, _, rfl, rfl, e, by rw [← r.length]; exact hl, h0, h9, ?_⟩
        obtain ⟨g, r2⟩ := RelS.wl rs e (((r.take _).append (.cons h3 .nil)).append (r.drop _))
        exact k _ _ _ _ g r2 .non q
  · exact t.elim
variable {ta tb : TE2} {e2 : Expr} {k : Nat}
theorem q_append (ho : QE X o to) (ha : QA X [e] t) (hbase : attributeBase o "append" X.env (eval o X.env) = eval o X.env := by rfl)
    (hfew : ((backTo cpos (starEach (e :: []) X.env)).all (fun x => !x.1) && (backToKw cpos (keywordEach [] X.env)).all (fun x => x.1.isSome) && decide ((e :: []).length + ([] : List Keyword).length + (if ([] : List Keyword).isEmpty then 0 else 1) < 30)) = true := by rfl)
    (hline : (apos.endLine == cpos.line) = true := by rfl) (hs : starEach (e :: []) X.env = (false, eval e X.env) :: starEach [] X.env := by rfl) (hplain : (backTo cpos (starEach [] X.env)).any (·.1) = false := by rfl) :
    QE X (.Call (.Attribute o "append" apos) [e] [] cpos) (uBM isL rAppend2 to t) := q_bm PySem.F.plainAttrs_list PySem.F.slot_list_append PySem.F.type_list_append mt_append srv_append isL_ty ho ha hbase hfew hline hs hplain
theorem q_insert (ho : QE X o to) (ha : QA X [e, e2] t) (hbase : attributeBase o "insert" X.env (eval o X.env) = eval o X.env := by rfl)
    (hfew : ((backTo cpos (starEach (e :: [e2]) X.env)).all (fun x => !x.1) && (backToKw cpos (keywordEach [] X.env)).all (fun x => x.1.isSome) && decide ((e :: [e2]).length + ([] : List Keyword).length + (if ([] : List Keyword).isEmpty then 0 else 1) < 30)) = true := by rfl)
    (hline : (apos.endLine == cpos.line) = true := by rfl) (hs : starEach (e :: [e2]) X.env = (false, eval e X.env) :: starEach [e2] X.env := by rfl) (hplain : (backTo cpos (starEach [e2] X.env)).any (·.1) = false := by rfl) :
    QE X (.Call (.Attribute o "insert" apos) [e, e2] [] cpos) (uBM isL rInsert2 to t) := q_bm PySem.F.plainAttrs_list PySem.F.slot_list_insert PySem.F.type_list_insert mt_insert srv_insert isL_ty ho ha hbase hfew hline hs hplain
end
/-! ### slices -/
abbrev TO2 := St2 → Sto → (Option Int → Sto → Prop) → Prop
def dnO (K : PySem.W.Frag) (t : TO2) : TO := fun σ H Q => ∃ τ S Q2, Rl K H τ σ ∧ RelS K S H ∧ t τ S Q2 ∧ ∀ b S' H', Good K H H' → RelS K S' H' → Q2 b S' → Q b H'
def uNoPart : TO2 := fun _ S Q => Q none S
def uPart (ta : TE2) : TO2 := fun τ S Q => ta τ S fun d S1 => match d with
  | .int i => Q (some i) S1
  | _ => False
def cutD (xs : List D) (lo hi : Option Int) : List D := (xs.drop (HT.sIx xs.length 0 lo)).take (HT.sIx xs.length xs.length hi - HT.sIx xs.length 0 lo)
/-- a slice of a list: a new list -/
def uSlL (te : TE2) (tl th : TO2) : TE2 := fun τ S Q => te τ S fun d S1 => tl τ S1 fun lo S2 => th τ S2 fun hi S3 => onS (listOf S3 d) fun xs => ∀ p, S3 p = none → Q (.ref p) (ups S3 p (.lst (cutD xs lo hi)))
/-- a slice of whatever -/
def slQ (d : D) (lo hi : Option Int) (S : Sto) (Q : VK2) : Prop := match d with
  | .tup xs => Q (.tup (cutD xs lo hi)) S
  | .str z => z.length ≤ sizeLine ∧ Q (.str (cutS z lo hi)) S
  | d => onS (listOf S d) fun xs => ∀ p, S p = none → Q (.ref p) (ups S p (.lst (cutD xs lo hi)))
def uSlG (te : TE2) (tl th : TO2) : TE2 := fun τ S Q => te τ S fun d S1 => tl τ S1 fun lo S2 => th τ S2 fun hi S3 => slQ d lo hi S3 Q
section
variable {X : Cx} {K : PySem.W.Frag} {pos p2 : Pos} {e : Expr} {lo hi : Option Expr} {te : TE2} {tl th : TO2}
theorem cut_dvs {H : Hp} {xs : List D} {vs : List V} {lo hi : Option Int} (r : Dvs K H xs vs) : Dvs K H (cutD xs lo hi) (cutV vs lo hi) := by
  unfold cutD cutV
  rw [r.length]
  exact (r.drop _).take _
theorem cutV_whole {α : Type} {vs : List V} {lo hi : Option Int} (h : HT.sIx vs.length 0 lo = 0 ∧ HT.sIx vs.length vs.length hi = vs.length) : cutV vs lo hi = vs := by
  unfold cutV
  rw [h.1, h.2]
  simp
theorem o_none : PO X none (dnO X.K uNoPart) := ⟨fun pins s σ H Q I ⟨τ, S, Q2, rl, rs, t, k⟩ => po_none.run pins s σ H Q I (k _ _ _ (.refl H) rs t)⟩
theorem o_some (h : QE X e te) : PO X (some e) (dnO X.K (uPart te)) := ⟨fun pins s σ H Q I ⟨τ, S, Q2, rl, rs, t, k⟩ => (po_some h).run pins s σ H Q I ⟨τ, S, _, rl, rs, t, fun d v S1 H1 g1 rs1 dv1 t1 => by
  cases d with
  | int i => cases dv1; exact ⟨i, rfl, k _ _ _ g1 rs1 t1⟩
  | _ => exact t1.elim⟩⟩
theorem q_slG (he : QE X e te) (hl : PO X lo (dnO X.K tl)) (hh : PO X hi (dnO X.K th)) : QE X (.Subscript e (.Slice lo hi none p2) pos) (uSlG te tl th) := PE.wk (pe_slice (sl_list.or (sl_tupA.or sl_str)) he hl hh) fun σ H Q ⟨τ, S, Q2, rl, rs, t, k⟩ =>
  ⟨τ, S, _, rl, rs, t, fun d v S1 H1 g1 rs1 dv1 t1 => ⟨τ, S1, _, rl.keep g1, rs1, t1, fun l S2 H2 g2 rs2 t2 => ⟨τ, S2, _, (rl.keep g1).keep g2, rs2, t2, fun u S3 H3 g3 rs3 t3 => by
    have dv3 := Dv.keep (g2.trans g3) _ _ dv1
    have gg := g1.trans (g2.trans g3)
    have lst : (onS (listOf S3 d) fun xs => ∀ p, S3 p = none → Q2 (.ref p) (ups S3 p (.lst (cutD xs l u)))) → ∃ p xs, v = .ref p ∧ SqL X.K H3 p xs ∧ ∀ p', H3 p' = none → Q (.ref p') (upd H3 p' (.lst (cutV xs l u))) := fun t => by
      obtain ⟨xs, h, q⟩ := onS_get t
      obtain ⟨p, vs, rfl, hq, r⟩ := list_sq rs3 dv3 h
      refine ⟨p, vs, rfl, hq, fun p' np => ?_⟩
      exact k _ _ _ _ (gg.trans (good_new np)) (rs3.new (o := .lst (cutD xs l u)) np ⟨_, upd_same, (cut_dvs r).new np⟩) (.ref p') (q p' (rs3.fresh np))
    unfold slQ at t3
    split at t3
    · cases dv3 with
      | tup h1 h2 =>
        refine .inr (.inl ⟨_, _, rfl, h1, fun hw => ?_, fun _ p np => ?_⟩)
        · exact k _ _ _ _ gg rs3 (.tup h1 (by have := cut_dvs (lo := l) (hi := u) h2; rwa [cutV_whole (α := D) hw] at this)) t3
        · exact k _ _ _ _ (gg.trans (good_new np)) (rs3.newT np) (.tup (SqT.of upd_same) ((cut_dvs h2).new np)) t3
    · cases dv3; exact .inr (.inr ⟨_, rfl, t3.1, k _ _ _ _ gg rs3 (.str _) t3.2⟩)
    · exact .inl (lst t3)⟩⟩⟩
end
/-! ### targets -/
abbrev TG2 := D → St2 → Sto → (St2 → Sto → Prop) → Prop
abbrev TGs2 := List D → St2 → Sto → (St2 → Sto → Prop) → Prop
/-- the slots beside tch stay -/
def Beside (tch : List Nat) (σ σ' : L2.St) : Prop := σ'.length = σ.length ∧ ∀ i : Nat, i ∉ tch → σ'[i]? = σ[i]?
def dnG (K : PySem.W.Frag) (tch : List Nat) (g : TG2) : TG := fun v σ H Q => ∃ d τ S Q2, Dv K H d v ∧ Rl K H τ σ ∧ RelS K S H ∧ g d τ S Q2 ∧ ∀ τ' S' σ' H', Good K H H' → Rl K H' τ' σ' → RelS K S' H' → Beside tch σ σ' → Q2 τ' S' → Q σ' H'
def dnGs (K : PySem.W.Frag) (tch : List Nat) (g : TGs2) : TGs := fun vs σ H Q => ∃ ds τ S Q2, Dvs K H ds vs ∧ Rl K H τ σ ∧ RelS K S H ∧ g ds τ S Q2 ∧ ∀ τ' S' σ' H', Good K H H' → Rl K H' τ' σ' → RelS K S' H' → Beside tch σ σ' → Q2 τ' S' → Q σ' H'
abbrev QG (X : Cx) (tch : List Nat) (tg : Expr) (g : TG2) : Prop := PG X tg (dnG X.K tch g)
abbrev QGs (X : Cx) (tch : List Nat) (tg : List Expr) (g : TGs2) : Prop := PGs X tg (dnGs X.K tch g)
theorem PG.wk {X : Cx} {e : Expr} {t t' : TG} (h : PG X e t) (w : ∀ v σ H Q, t' v σ H Q → t v σ H Q) : PG X e t' := ⟨fun pins s σ H v u Q I r q => h.run pins s σ H v u Q I r (w _ _ _ _ q)⟩
theorem PGs.wk {X : Cx} {e : List Expr} {t t' : TGs} (h : PGs X e t) (w : ∀ v σ H Q, t' v σ H Q → t v σ H Q) : PGs X e t' := ⟨fun pins s σ H v u Q I r q => h.run pins s σ H v u Q I r (w _ _ _ _ q)⟩
def vName (i : Nat) : TG2 := fun d τ S Q => Q (τ.set i (some d)) S
def vNil : TGs2 := fun ds τ S Q => match ds with
  | [] => Q τ S
  | _ => False
def vCons (g : TG2) (gs : TGs2) : TGs2 := fun ds τ S Q => match ds with
  | d :: r => g d τ S fun τ' S' => gs r τ' S' Q
  | [] => False
def vTup (n : Nat) (gs : TGs2) : TG2 := fun d τ S Q => match d with
  | .tup ds => ds.length = n ∧ gs ds τ S Q
  | _ => False
/-- o[i] = v, o a list -/
def setQ (d : D) : D → D → Sto → (Sto → Prop) → Prop
  | .ref a, .int k, S, Q => getO (S a) fun xs => onS (ixN xs.length k) fun j => Q (ups S a (.lst (xs.set j d)))
  | _, _, _, _ => False
def vSub (to ti : TE2) : TG2 := fun d τ S Q => to τ S fun o S1 => ti τ S1 fun i S2 => setQ d o i S2 fun S3 => Q τ S3
/-- o[k] = v, k written -/
def setkQ (k : Nat) (d : D) : D → Sto → (Sto → Prop) → Prop
  | .ref a, S, Q => getO (S a) fun xs => k < xs.length ∧ Q (ups S a (.lst (xs.set k d)))
  | _, _, _ => False
def vSubk (k : Nat) (to : TE2) : TG2 := fun d τ S Q => to τ S fun o S1 => setkQ k d o S1 fun S3 => Q τ S3
section
variable {X : Cx} {pos : Pos} {tch tch' : List Nat}
theorem Beside.set {i : Nat} {σ : L2.St} {v : V} : Beside [i] σ (σ.set i (some v)) := ⟨by simp, fun j h => List.getElem?_set_ne fun e => h (by simp [e])⟩
theorem Beside.refl {σ : L2.St} : Beside tch σ σ := ⟨rfl, fun _ _ => rfl⟩
theorem Beside.trans {σ σ1 σ2 : L2.St} (a : Beside tch σ σ1) (b : Beside tch' σ1 σ2) : Beside (tch ++ tch') σ σ2 := ⟨b.1.trans a.1, fun j h => (b.2 j fun z => h (List.mem_append_right _ z)).trans (a.2 j fun z => h (List.mem_append_left _ z))⟩
theorem g_name {i : Nat} {x : Str} (hN : X.N.Nodup) (hi : X.N[i]? = some x) (hx : Loc X.env.scope x) (hf : X.fn x = true ∨ X.env.scope.names.lookup x = some .local) : QG X [i] (.Name x pos) (vName i) := PG.wk (pg_name (pos := pos) hN hi hx hf) fun v σ H Q ⟨d, τ, S, Q2, dv, rl, rs, t, k⟩ =>
  k _ _ _ _ (.refl H) (rl.set i dv) rs .set t
theorem gs_nil : QGs X [] [] vNil := PGs.wk pgs_nil fun v σ H Q ⟨ds, τ, S, Q2, dvs, rl, rs, t, k⟩ => by
  cases dvs with
  | nil => exact ⟨rfl, k _ _ _ _ (.refl H) rl rs .refl t⟩
  | cons _ _ => exact t.elim
theorem gs_cons {e : Expr} {es : List Expr} {g : TG2} {gs : TGs2} (h1 : QG X tch e g) (h2 : QGs X tch' es gs) (hs : (assignEach (e :: es) X.env).map (·.2) = assign e X.env :: (assignEach es X.env).map (·.2) := by rfl) : QGs X (tch ++ tch') (e :: es) (vCons g gs) := PGs.wk (pgs_cons h1 h2 hs) fun v σ H Q ⟨ds, τ, S, Q2, dvs, rl, rs, t, k⟩ => by
  cases dvs with
  | nil => exact t.elim
  | cons d1 d2 =>
    refine ⟨_, _, rfl, _, τ, S, _, d1, rl, rs, t, fun τ1 S1 σ1 H1 g1 rl1 rs1 b1 t1 => ?_⟩
    exact ⟨_, τ1, S1, _, Dvs.keep g1 _ _ d2, rl1, rs1, t1, fun τ2 S2 σ2 H2 g2 rl2 rs2 b2 t2 => k _ _ _ _ (g1.trans g2) rl2 rs2 (b1.trans b2) t2⟩
theorem g_tup {es : List Expr} {kk n : Nat} {gs : TGs2} (hc : X.calm = true) (h : QGs X tch es gs) (hn : (assignEach es X.env).length = n := by rfl) (hst : (assignEach es X.env).findIdx? (·.1) = none := by rfl) : QG X tch (.Tuple es kk pos) (vTup n gs) := PG.wk (pg_tup (pos := pos) (k := kk) hc h hn hst) fun v σ H Q ⟨d, τ, S, Q2, dv, rl, rs, t, k⟩ => by
  cases dv with
  | tup h1 h2 =>
    obtain ⟨hl, t⟩ := t
    exact ⟨_, _, rfl, h1, by rw [← h2.length]; exact hl, _, τ, S, Q2, h2, rl, rs, t, k⟩
  | _ => exact t.elim
theorem setQ_ok {K : PySem.W.Frag} {S : Sto} {H : Hp} {d x y : D} {v vx vy : V} {R : Sto → Prop} {Q : Hp → Prop} (rs : RelS K S H) (dv : Dv K H d v) (dx : Dv K H x vx) (dy : Dv K H y vy) (t : setQ d x y S R)
    (k : ∀ S' H', Good K H H' → RelS K S' H' → R S' → Q H') : rSetL vx vy v H Q := by
  unfold setQ at t
  split at t
  · obtain ⟨xs, h, t⟩ := getO_get t
    obtain ⟨j, hj, q⟩ := onS_get t
    cases dx; cases dy
    obtain ⟨us, e, r⟩ := rs _ _ h
    refine ⟨_, us, _, j, rfl, rfl, e, by rw [← r.length]; exact hj, ?_⟩
    obtain ⟨g, r2⟩ := RelS.wl rs e (Dvs.set dv j r)
    exact k _ _ g r2 q
  · exact t.elim
theorem g_subk (n : Nat) {o : Expr} {to : TE2} {j : Nat} {p2 : Pos} (ho : QE X o to)
    (ha : ∀ v, assign (.Subscript o (.Constant (.int (n : Int)) j p2) pos) X.env v = (do
      let ov ← holding [v] (eval o X.env)
      let iv ← holding [v, ov] (eval (.Constant (.int (n : Int)) j p2) X.env)
      standAt pos
      holding [v, ov, iv] (setItem ov iv v)
      release [v, ov, iv] []) := by intro _; rfl) : QG X [] (.Subscript o (.Constant (.int (n : Int)) j p2) pos) (vSubk n to) := PG.wk (pg_sub ho pe_int set_list ha) fun v σ H Q ⟨d, τ, S, Q2, dv, rl, rs, t, k⟩ =>
  ⟨τ, S, _, rl, rs, t, fun x vx S1 H1 g1 rs1 dx t1 => by
    refine setQ_ok (d := d) (x := x) (y := .int n) (R := fun S3 => Q2 τ S3) rs1 (Dv.keep g1 _ _ dv) dx (.int _) ?_ fun S' H' g r2 q => k _ _ _ _ (g1.trans g) ((rl.keep g1).keep g) r2 .refl q
    cases x with
    | ref a =>
      obtain ⟨xs, h, hl, q⟩ := getO_get t1
      refine getO_of h (onS_of (x := n) ?_ q)
      unfold ixN
      rw [if_pos (Int.natCast_nonneg n), if_pos (by omega), Int.toNat_natCast]
    | _ => exact t1.elim⟩
end
/-! ### statements -/
def uNext : TS2 := fun D τ S => D.nx τ S
def uSeq (t u : TS2) : TS2 := fun D τ S => t { D with nx := u D } τ S
def uDrop (te : TE2) : TS2 := fun D τ S => te τ S fun _ S1 => D.nx τ S1
def uRet (te : TE2) : TS2 := fun D τ S => te τ S D.rt
def uRetN : TS2 := fun D τ S => D.rt .non S
def uIf (c : TT2) (t u : TS2) : TS2 := fun D τ S => c τ S fun b S1 => Cnd b (t D τ S1) (u D τ S1)
def uAsg (te : TE2) (g : TG2) : TS2 := fun D τ S => te τ S fun x S1 => g x τ S1 D.nx
def uSet (i : Nat) (te : TE2) : TS2 := fun D τ S => te τ S fun x S1 => D.nx (τ.set i (some x)) S1
def uPar (i j : Nat) (ta : TA2) : TS2 := fun D τ S => ta τ S fun ds S1 => match ds with
  | [d, e] => D.nx ((τ.set i (some d)).set j (some e)) S1
  | _ => False
def uBreak : TS2 := fun D τ S => D.bk τ S
def uCont : TS2 := fun D τ S => D.ct τ S
def uWhile (c : TT2) (tb : TS2) : TS2 := fun D τ S => ∃ W : Nat → St2 → Sto → Prop, (∃ m, W m τ S) ∧ ∀ m τ S, W m τ S →
  c τ S fun b S1 => Cnd b (tb { D with nx := fun τ' S' => ∃ m', m' < m ∧ W m' τ' S', ct := fun τ' S' => ∃ m', m' < m ∧ W m' τ' S', bk := D.nx } τ S1) (D.nx τ S1)
section
variable {X : Cx} {pos : Pos} {e : Expr} {es : List Expr} {te : TE2} {st : Stmt} {rest : List Stmt} {t u : TS2} {a b : List Stmt} {tc : TT2} {tch : List Nat}
theorem ss_nil : QSs X [] uNext := PSs.wk pss_nil fun D σ H ⟨τ, S, D2, rl, rs, t, k⟩ => k.nx _ _ _ _ (.refl H) rl rs t
theorem ss_cons (h1 : QS X st t) (h2 : QSs X rest u) : QSs X (st :: rest) (uSeq t u) := PSs.wk (pss_cons h1 h2) fun D σ H ⟨τ, S, D2, rl, rs, t, k⟩ =>
  ⟨τ, S, _, rl, rs, t, ⟨fun τ1 S1 σ1 H1 g1 rl1 rs1 t1 => ⟨τ1, S1, D2, rl1, rs1, t1, k.keep g1⟩, k.rt, k.bk, k.ct⟩⟩
theorem ss_one (h1 : QS X st t) : QSs X [st] t := pss_one h1
theorem s_expr (he : QE X e te) (hs : swapsWith e none pos.line X.env = pure false := by rfl) : QS X (.Expr e pos) (uDrop te) := PS.wk (ps_expr he hs) fun D σ H ⟨τ, S, D2, rl, rs, t, k⟩ =>
  ⟨τ, S, _, rl, rs, t, fun d v S1 H1 g1 rs1 dv1 t1 => k.nx _ _ _ _ g1 (rl.keep g1) rs1 t1⟩
theorem s_ret (he : QE X e te) : QS X (.Return (some e) pos) (uRet te) := PS.wk (ps_ret he) fun D σ H ⟨τ, S, D2, rl, rs, t, k⟩ => ⟨τ, S, _, rl, rs, t, fun d v S1 H1 g1 rs1 dv1 t1 => k.rt _ _ _ _ g1 rs1 dv1 t1⟩
theorem s_if {c : Expr} (hc : QT X c tc) (ha : QSs X a t) (hb : QSs X b u) : QS X (.If c a b pos) (uIf tc t u) := PS.wk (ps_if hc ha hb) fun D σ H ⟨τ, S, D2, rl, rs, t, k⟩ =>
  ⟨τ, S, _, rl, rs, t, fun b S1 H1 g1 rs1 t1 => by
    cases b with
    | true => rw [if_pos rfl]; exact ⟨τ, S1, D2, rl.keep g1, rs1, t1, k.keep g1⟩
    | false => rw [if_neg Bool.false_ne_true]; exact ⟨τ, S1, D2, rl.keep g1, rs1, t1, k.keep g1⟩⟩
theorem s_asg {tg : Expr} {g : TG2} (he : QE X e te) (hg : QG X tch tg g) (hs : swapsWithSole [tg] e pos.line X.env = pure false := by rfl) (hw : swappedStores [tg] e X.env = pure none := by rfl)
    (h1 : (assignEach [tg] X.env).map (·.2) = [assign tg X.env] := by rfl) : QS X (.Assign [tg] e pos) (uAsg te g) := PS.wk (ps_asg he hg hs hw h1) fun D σ H ⟨τ, S, D2, rl, rs, t, k⟩ =>
  ⟨τ, S, _, rl, rs, t, fun d v S1 H1 g1 rs1 dv1 t1 => ⟨d, τ, S1, _, dv1, rl.keep g1, rs1, t1, fun τ2 S2 σ2 H2 g2 rl2 rs2 _ t2 => k.nx _ _ _ _ (g1.trans g2) rl2 rs2 t2⟩⟩
theorem s_set (i : Nat) {x : Str} {pos' : Pos} (hN : X.N.Nodup) (hi : X.N[i]? = some x) (hx : Loc X.env.scope x) (hf : X.fn x = true ∨ X.env.scope.names.lookup x = some .local) (he : QE X e te) (hs : swapsWith e (some (.Name x pos')) pos.line X.env = pure false := by rfl) :
    QS X (.Assign [.Name x pos'] e pos) (uSet i te) := PS.wk (ps_set hN hi hx he hs hf) fun D σ H ⟨τ, S, D2, rl, rs, t, k⟩ =>
  ⟨τ, S, _, rl, rs, t, fun d v S1 H1 g1 rs1 dv1 t1 => k.nx _ _ _ _ g1 ((rl.keep g1).set i dv1) rs1 t1⟩
theorem s_par (i j : Nat) {x y : Str} {ea eb : Expr} {ta : TA2} {px py pt : Pos} {kt k2 pt2} (hc : X.calm = true) (hN : X.N.Nodup) (hi : X.N[i]? = some x) (hj : X.N[j]? = some y) (hij : i ≠ j)
    (hx : X.env.scope.names.lookup x = some .local) (hy : X.env.scope.names.lookup y = some .local) (ha : QA X [ea, eb] ta)
    (hw : swappedStores [.Tuple [.Name x px, .Name y py] kt pt] (.Tuple [ea, eb] k2 pt2) X.env = pure (some [x, y]))
    (hs : swapsWithSole [.Tuple [.Name x px, .Name y py] kt pt] (.Tuple [ea, eb] k2 pt2) pos.line X.env = pure false := by rfl) :
    QS X (.Assign [.Tuple [.Name x px, .Name y py] kt pt] (.Tuple [ea, eb] k2 pt2) pos) (uPar i j ta) := PS.wk (ps_par hc hN hi hj hij hx hy ha hw hs) fun D σ H ⟨τ, S, D2, rl, rs, t, k⟩ =>
  ⟨τ, S, _, rl, rs, t, fun ds vs S1 H1 g1 rs1 dvs t1 => by
    cases dvs with
    | nil => exact t1.elim
    | cons d1 r1 =>
      cases r1 with
      | nil => exact t1.elim
      | cons d2 r2 =>
        cases r2 with
        | nil => exact ⟨_, _, rfl, k.nx _ _ _ _ g1 (((rl.keep g1).set i d1).set j d2) rs1 t1⟩
        | cons _ _ => exact t1.elim⟩
theorem s_while {c : Expr} {body : List Stmt} {tb : TS2} (hp : PassesOwn (model X.prog X.w) X.A X.env X.xe) (hc : QT X c tc) (hb : QSs X body tb) : QS X (.While c body [] pos) (uWhile tc tb) := PS.wk (ps_while hp hc hb) fun D σ H ⟨τ, S, D2, rl, rs, ⟨W, ⟨m0, w0⟩, turn⟩, k⟩ => by
  refine ⟨fun m σ' H' => ∃ τ' S', Good X.K H H' ∧ Rl X.K H' τ' σ' ∧ RelS X.K S' H' ∧ W m τ' S', ⟨m0, τ, S, .refl H, rl, rs, w0⟩, ?_⟩
  rintro m σ1 H1 ⟨τ1, S1, g1, rl1, rs1, w1⟩
  refine ⟨τ1, S1, _, rl1, rs1, turn m τ1 S1 w1, fun b S2 H2 g2 rs2 t2 => ?_⟩
  cases b with
  | true =>
    rw [if_pos rfl]
    refine ⟨fun σ' H' => ∃ τ' S', Good X.K H H' ∧ Rl X.K H' τ' σ' ∧ RelS X.K S' H' ∧ ∃ m', m' < m ∧ W m' τ' S', fun σ' H' ⟨τ', S', g', rl', rs', n'⟩ => ?_, τ1, S2, _, rl1.keep g2, rs2, t2, ?_⟩
    · obtain ⟨m', hm, w'⟩ := n'
      exact ⟨m', hm, τ', S', g', rl', rs', w'⟩
    · exact ⟨fun τ' S' σ' H' g' rl' rs' n' => ⟨τ', S', (g1.trans g2).trans g', rl', rs', n'⟩, (k.keep (g1.trans g2)).rt, (k.keep (g1.trans g2)).nx, fun τ' S' σ' H' g' rl' rs' n' => ⟨τ', S', (g1.trans g2).trans g', rl', rs', n'⟩⟩
  | false =>
    rw [if_neg Bool.false_ne_true]
    exact k.nx _ _ _ _ (g1.trans g2) (rl1.keep g2) rs2 t2
end
end DL
namespace DL
open PySem PySem.Spec PyProof.Rows L2
/-! ### what is walked -/
structure Drv (K : PySem.W.Frag) (H0 : Hp) (J : It) (ds : List D) (stay : Sto → Prop) : Prop where
  step : ∀ i S H, Good K H0 H → RelS K S H → stay S → i < ds.length → J.go i H ∧ ∀ v H2, J.yld i H v H2 → Good K H H2 ∧ RelS K S H2 ∧ ∃ d, ds[i]? = some d ∧ Dv K H2 d v
  stop : ∀ i S H, Good K H0 H → RelS K S H → stay S → ds.length = i → J.stop i H
  mono : ∀ S S', Sub S S' → stay S → stay S'
abbrev TI2 := St2 → Sto → (List D → (Sto → Prop) → Sto → Prop) → Prop
def dnI (K : PySem.W.Frag) (ti : TI2) : TI := fun σ H R => ∃ τ S R2, Rl K H τ σ ∧ RelS K S H ∧ ti τ S R2 ∧ ∀ ds stay S' H' J, Good K H H' → RelS K S' H' → Drv K H' J ds stay → R2 ds stay S' → R J H'
abbrev QI (X : Cx) (tg iter : Expr) (ti : TI2) : Prop := PI X tg iter (dnI X.K ti)
theorem PI.wk {X : Cx} {tg e : Expr} {t t' : TI} (h : PI X tg e t) (w : ∀ σ H R, t' σ H R → t σ H R) : PI X tg e t' := ⟨fun pins s σ H R I q => h.run pins s σ H R I (w _ _ _ q)⟩
/-- a list or a tuple, by its value -/
def iVal (K : PySem.W.Frag) (tl : TE) : TI := fun σ H R => tl σ H fun x H1 => ∃ a, x = .ref a ∧ (((∃ xs, SqL K H1 a xs) ∧ R (Itl K a) H1) ∨ ((∃ xs, SqT K H1 a xs) ∧ R (Itt K a) H1))
theorem pi_val {X : Cx} {tg l : Expr} {tl : TE} (hl : PE X l tl) : PI X tg l (iVal X.K tl) := by
  refine ⟨fun pins s σ H R I h => ?_⟩
  refine thn (hl.run pins s σ H _ I h) fun v s1 ⟨x, H1, I1, r1, q1⟩ => ?_
  obtain ⟨a, e, q1⟩ := q1
  subst e
  cases r1
  rcases q1 with ⟨⟨xs, hq⟩, q⟩ | ⟨⟨xs, hq⟩, q⟩
  · obtain ⟨its, rv, p, hz⟩ := I1.list hq
    refine wpAny_pyIter_list p.isList ?_
    refine ⟨s1.heap.objs.size, [s1.heap.objs.size], _, _, H1, rfl, I1.kept (t' := s1.toks) fun b o e => Heap.get?_push_of_some _ e, turn_list a _, ⟨_, Heap.get?_push_size _ rfl, rfl, rfl⟩, fun b hb => ?_, q⟩
    have e : b = s1.heap.objs.size := by simpa using hb
    subst e
    exact I1.fpOk (Nat.le_refl _) (I1.hok.fresh (Nat.le_refl _))
  · obtain ⟨its, rv, p, hz⟩ := I1.tuple hq
    refine wpAny_pyIter_tuple (show s1.heap.IsTuple a its.toArray from p) ?_
    refine ⟨s1.heap.objs.size, [s1.heap.objs.size], _, _, H1, rfl, I1.kept (t' := s1.toks) fun b o e => Heap.get?_push_of_some _ e, turn_tuple a _, ⟨_, Heap.get?_push_size _ rfl, rfl, rfl⟩, fun b hb => ?_, q⟩
    have e : b = s1.heap.objs.size := by simpa using hb
    subst e
    exact I1.fpOk (Nat.le_refl _) (I1.hok.fresh (Nat.le_refl _))
def stayT : Sto → Prop := fun _ => True
def stayL (a : Addr) (ds : List D) : Sto → Prop := fun S => S a = some (.lst ds)
def stay2 (s t : Sto → Prop) : Sto → Prop := fun S => s S ∧ t S
def itQ : D → Sto → (List D → (Sto → Prop) → Sto → Prop) → Prop
  | .ref a, S, R => getO (S a) fun ds => R ds (stayL a ds) S
  | .fl ds, S, R => R ds stayT S
  | .tup ds, S, R => R ds stayT S
  | _, _, _ => False
def uIt (tl : TE2) : TI2 := fun τ S R => tl τ S fun d S1 => itQ d S1 R
def rangeD (lo : Int) (n : Nat) : List D := (List.range n).map fun (i : Nat) => D.int (lo + (i : Int))
theorem rangeD_len (lo : Int) (n : Nat) : (rangeD lo n).length = n := by unfold rangeD; simp
theorem rangeD_get {lo : Int} {n i : Nat} (h : i < n) : (rangeD lo n)[i]? = some (.int (lo + (i : Int))) := by
  unfold rangeD; rw [List.getElem?_map, List.getElem?_range h]; rfl
theorem rangeD_at {lo : Int} {n i : Nat} {x : D} (h : (rangeD lo n)[i]? = some x) : i < n ∧ x = .int (lo + (i : Int)) := by
  have hi : i < n := by
    have := (List.getElem?_eq_some_iff.mp h).1
    rwa [rangeD_len] at this
  rw [rangeD_get hi] at h
  exact ⟨hi, (Option.some.inj h).symm⟩
def rngQ1 : List D → Sto → (List D → (Sto → Prop) → Sto → Prop) → Prop
  | [.int j], S, R => (-(2 ^ 62) ≤ j ∧ j < 2 ^ 62) ∧ R (rangeD 0 j.toNat) stayT S
  | _, _, _ => False
def uRng1 (ta : TA2) : TI2 := fun τ S R => ta τ S fun ds S1 => rngQ1 ds S1 R
def rngQ2 : List D → Sto → (List D → (Sto → Prop) → Sto → Prop) → Prop
  | [.int i, .int j], S, R => (-(2 ^ 62) ≤ i ∧ i < 2 ^ 62 ∧ -(2 ^ 62) ≤ j ∧ j < 2 ^ 62) ∧ R (rangeD i (j - i).toNat) stayT S
  | _, _, _ => False
def uRng2 (ta : TA2) : TI2 := fun τ S R => ta τ S fun ds S1 => rngQ2 ds S1 R
def enumD (n : Nat) : List D → List D
  | [] => []
  | d :: ds => .tup [.int (n : Int), d] :: enumD (n + 1) ds
def enumQ : List D → Sto → (List D → (Sto → Prop) → Sto → Prop) → Prop
  | [.ref a], S, R => getO (S a) fun xs => R (enumD 0 xs) (stayL a xs) S
  | _, _, _ => False
def uEnum (ta : TA2) : TI2 := fun τ S R => ta τ S fun ds S1 => enumQ ds S1 R
def zipD (xs ys : List D) : List D := (xs.zip ys).map fun (p : D × D) => D.tup [p.1, p.2]
def zipQ : List D → Sto → (List D → (Sto → Prop) → Sto → Prop) → Prop
  | [.ref a, .ref b], S, R => getO (S a) fun xs => getO (S b) fun ys => R (zipD xs ys) (stay2 (stayL a xs) (stayL b ys)) S
  | _, _, _ => False
def uZip (ta : TA2) : TI2 := fun τ S R => ta τ S fun ds S1 => zipQ ds S1 R
section
variable {X : Cx} {K : PySem.W.Frag} {tg : Expr} {H0 : Hp}
theorem drv_list {a : Addr} {ds : List D} : Drv K H0 (Itl K a) ds (stayL a ds) where
  step := fun i S H g rs st hi => by
    obtain ⟨vs, e, r⟩ := rs _ _ (show S a = some (.lst ds) from st)
    obtain ⟨v, hv, rv⟩ := r.at (List.getElem?_eq_getElem hi)
    refine ⟨⟨vs, v, SqL.of e, hv⟩, fun x H2 y => ?_⟩
    obtain ⟨e1, y⟩ := y
    subst e1
    have := y vs (SqL.of e)
    rw [hv] at this
    obtain rfl := Option.some.inj this
    exact ⟨.refl _, rs, _, List.getElem?_eq_getElem hi, rv⟩
  stop := fun i S H g rs st hi0 => have hi := Nat.le_of_eq hi0; by
    obtain ⟨vs, e, r⟩ := rs _ _ (show S a = some (.lst ds) from st)
    exact ⟨vs, SqL.of e, by rw [← r.length]; exact hi⟩
  mono := fun S S' s st => s _ _ st
theorem drv_fl {a : Addr} {ds : List D} {vs : List V} (h : FrzL K H0 a vs) (r0 : Dvs K H0 ds vs) : Drv K H0 (Itl K a) ds stayT where
  step := fun i S H g rs st hi => by
    have r := Dvs.keep g _ _ r0
    have hq := (g.fz _ _ h).sq
    obtain ⟨v, hv, rv⟩ := r.at (List.getElem?_eq_getElem hi)
    refine ⟨⟨vs, v, hq, hv⟩, fun x H2 y => ?_⟩
    obtain ⟨e1, y⟩ := y
    subst e1
    have := y vs hq
    rw [hv] at this
    obtain rfl := Option.some.inj this
    exact ⟨.refl _, rs, _, List.getElem?_eq_getElem hi, rv⟩
  stop := fun i S H g rs st hi0 => have hi := Nat.le_of_eq hi0; ⟨vs, (g.fz _ _ h).sq, by rw [← r0.length]; exact hi⟩
  mono := fun _ _ _ st => st
theorem drv_tup {a : Addr} {ds : List D} {vs : List V} (h : SqT K H0 a vs) (r0 : Dvs K H0 ds vs) : Drv K H0 (Itt K a) ds stayT where
  step := fun i S H g rs st hi => by
    have r := Dvs.keep g _ _ r0
    have hq := g.tp _ _ h
    obtain ⟨v, hv, rv⟩ := r.at (List.getElem?_eq_getElem hi)
    refine ⟨⟨vs, v, hq, hv⟩, fun x H2 y => ?_⟩
    obtain ⟨e1, y⟩ := y
    subst e1
    have := y vs hq
    rw [hv] at this
    obtain rfl := Option.some.inj this
    exact ⟨.refl _, rs, _, List.getElem?_eq_getElem hi, rv⟩
  stop := fun i S H g rs st hi0 => have hi := Nat.le_of_eq hi0; ⟨vs, g.tp _ _ h, by rw [← r0.length]; exact hi⟩
  mono := fun _ _ _ st => st
theorem drv_range {lo : Int} {n : Nat} : Drv K H0 (Itr lo n) (rangeD lo n) stayT where
  step := fun i S H g rs st hi => by
    rw [rangeD_len] at hi
    refine ⟨hi, fun x H2 y => ?_⟩
    obtain ⟨e1, y⟩ := y
    subst e1 y
    exact ⟨.refl _, rs, _, rangeD_get hi, .int _⟩
  stop := fun i S H g rs st hi0 => have hi := Nat.le_of_eq hi0; by rw [rangeD_len] at hi; exact hi
  mono := fun _ _ _ st => st
theorem drv_zip {a b : Addr} {ds es : List D} : Drv K H0 (Itz K a b) (zipD ds es) (stay2 (stayL a ds) (stayL b es)) where
  step := fun i S H g rs st hi => by
    have hi2 : i < ds.length ∧ i < es.length := by
      unfold zipD at hi; rw [List.length_map, List.length_zip] at hi; omega
    obtain ⟨vs, e, r⟩ := rs _ _ (show S a = some (.lst ds) from st.1)
    obtain ⟨us, e2, r2⟩ := rs _ _ (show S b = some (.lst es) from st.2)
    obtain ⟨v, hv, rv⟩ := r.at (List.getElem?_eq_getElem hi2.1)
    obtain ⟨u, hu, ru⟩ := r2.at (List.getElem?_eq_getElem hi2.2)
    refine ⟨⟨vs, us, v, u, SqL.of e, SqL.of e2, hv, hu⟩, fun x H2 y => ?_⟩
    obtain ⟨T, z, z2, rfl, nT, rfl, y1, y2⟩ := y
    have q1 := y1 vs (SqL.of e)
    have q2 := y2 us (SqL.of e2)
    rw [hv] at q1
    rw [hu] at q2
    obtain rfl := Option.some.inj q1
    obtain rfl := Option.some.inj q2
    refine ⟨good_new nT, rs.newT nT, .tup [ds[i]'hi2.1, es[i]'hi2.2], ?_, .tup (SqT.of upd_same) (.cons (Dv.keep (good_new nT) _ _ rv) (.cons (Dv.keep (good_new nT) _ _ ru) .nil))⟩
    unfold zipD
    rw [List.getElem?_map, List.getElem?_zip_eq_some (z := (ds[i]'hi2.1, es[i]'hi2.2)) |>.mpr ⟨List.getElem?_eq_getElem hi2.1, List.getElem?_eq_getElem hi2.2⟩]
    rfl
  stop := fun i S H g rs st hi0 => have hi := Nat.le_of_eq hi0; by
    obtain ⟨vs, e, r⟩ := rs _ _ (show S a = some (.lst ds) from st.1)
    obtain ⟨us, e2, r2⟩ := rs _ _ (show S b = some (.lst es) from st.2)
    have l1 := r.length
    have l2 := r2.length
    unfold zipD at hi; rw [List.length_map, List.length_zip] at hi
    exact ⟨vs, us, SqL.of e, SqL.of e2, by omega⟩
  mono := fun S S' s st => ⟨s _ _ st.1, s _ _ st.2⟩
variable {l a b : Expr} {tl : TE2} {ta : TA2} {p pos tpos : Pos} {elts : List Expr} {kk : Nat}
theorem i_val (hl : QE X l tl) : QI X tg l (uIt tl) := PI.wk (pi_val hl) fun σ H R ⟨τ, S, R2, rl, rs, t, k⟩ =>
  ⟨τ, S, _, rl, rs, t, fun d v S1 H1 g1 rs1 dv1 t1 => by
    cases d with
    | ref a =>
      obtain ⟨ds, h, q⟩ := getO_get t1
      cases dv1
      obtain ⟨vs, e, r⟩ := rs1 _ _ h
      exact ⟨a, rfl, .inl ⟨⟨vs, SqL.of e⟩, k _ _ _ _ _ g1 rs1 drv_list q⟩⟩
    | fl ds =>
      cases dv1 with
      | fl h1 h2 => exact ⟨_, rfl, .inl ⟨⟨_, h1.sq⟩, k _ _ _ _ _ g1 rs1 (drv_fl h1 h2) t1⟩⟩
    | tup ds =>
      cases dv1 with
      | tup h1 h2 => exact ⟨_, rfl, .inr ⟨⟨_, h1⟩, k _ _ _ _ _ g1 rs1 (drv_tup h1 h2) t1⟩⟩
    | _ => exact t1.elim⟩
theorem i_rng1 (hm : X.mg "range" = none) (hg : Gl X "range") (ha : QA X [a] ta) (hs : starEach [a] X.env = [(false, eval a X.env)] := by rfl) : QI X tg (.Call (.Name "range" p) [a] [] pos) (uRng1 ta) := PI.wk (pi_range1 hg hm ha hs) fun σ H R ⟨τ, S, R2, rl, rs, t, k⟩ =>
  ⟨τ, S, _, rl, rs, t, fun ds vs S1 H1 g1 rs1 dvs t1 => by
    unfold rngQ1 at t1
    split at t1
    · cases dvs with
      | cons h1 h2 =>
        cases h1; cases h2
        exact ⟨_, rfl, t1.1.1, t1.1.2, k _ _ _ _ _ g1 rs1 drv_range t1.2⟩
    · exact t1.elim⟩
theorem i_rng2 (hm : X.mg "range" = none) (hg : Gl X "range") (ha : QA X [a, b] ta) (hs : starEach [a, b] X.env = [(false, eval a X.env), (false, eval b X.env)] := by rfl) (hs2 : starEach [b] X.env = [(false, eval b X.env)] := by rfl) : QI X tg (.Call (.Name "range" p) [a, b] [] pos) (uRng2 ta) := PI.wk (pi_range2 hg hm ha hs hs2) fun σ H R ⟨τ, S, R2, rl, rs, t, k⟩ =>
  ⟨τ, S, _, rl, rs, t, fun ds vs S1 H1 g1 rs1 dvs t1 => by
    unfold rngQ2 at t1
    split at t1
    · cases dvs with
      | cons h1 h2 =>
        cases h1
        cases h2 with
        | cons h3 h4 =>
          cases h3; cases h4
          exact ⟨_, _, rfl, t1.1, k _ _ _ _ _ g1 rs1 drv_range t1.2⟩
    · exact t1.elim⟩
theorem i_zip (hm : X.mg "zip" = none) (hg : Gl X "zip") (ha : QA X [a, b] ta) (hs : starEach [a, b] X.env = (false, eval a X.env) :: starEach [b] X.env := by rfl) (hpl : (backTo pos (starEach [b] X.env)).any (·.1) = false := by rfl) : QI X (.Tuple elts kk tpos) (.Call (.Name "zip" p) [a, b] [] pos) (uZip ta) := PI.wk (pi_zip hg hm ha hs hpl) fun σ H R ⟨τ, S, R2, rl, rs, t, k⟩ =>
  ⟨τ, S, _, rl, rs, t, fun ds vs S1 H1 g1 rs1 dvs t1 => by
    unfold zipQ at t1
    split at t1
    · obtain ⟨xs, h, t1⟩ := getO_get t1
      obtain ⟨ys, h', q⟩ := getO_get t1
      cases dvs with
      | cons h1 h2 =>
        cases h1
        cases h2 with
        | cons h3 h4 =>
          cases h3; cases h4
          obtain ⟨us, e, r⟩ := rs1 _ _ h
          obtain ⟨us2, e2, r2⟩ := rs1 _ _ h'
          exact ⟨_, _, us, us2, rfl, SqL.of e, SqL.of e2, k _ _ _ _ _ g1 rs1 drv_zip q⟩
    · exact t1.elim⟩
end
/-! ### for -/
/-- a walk over so many things, by what stands ahead of each turn -/
def LoopP (stay : Sto → Prop) (g : TG2) (tb : TS2) (ds : List D) (D : Ends2) (τ : St2) (S : Sto) : Prop := ∃ W : Nat → St2 → Sto → Prop, W 0 τ S ∧ (∀ i τ S, i ≤ ds.length → W i τ S → stay S) ∧
  (∀ (i : Nat) (x : DL.D) (τ : St2) (S : Sto), ds[i]? = some x → W i τ S → g x τ S fun τ' S' => tb { D with nx := W (i + 1), ct := W (i + 1), bk := D.nx } τ' S') ∧ ∀ τ S, W ds.length τ S → D.nx τ S
def uFor (ti : TI2) (g : TG2) (tb : TS2) : TS2 := fun D τ S => ti τ S fun ds stay S1 => LoopP stay g tb ds D τ S1
section
variable {X : Cx} {pos : Pos} {tch : List Nat}
theorem s_for {tg iter : Expr} {body : List Stmt} {ti : TI2} {g : TG2} {tb : TS2} (hp : PassesOwn (model X.prog X.w) X.A X.env X.xe) (hc : X.calm = true) (hi : QI X tg iter ti) (hg : QG X tch tg g) (hb : QSs X body tb)
    (hs : ∀ x, foldedSetIterable iter X.env x = pure x := by intro _; rfl) : QS X (.For tg iter body [] pos) (uFor ti g tb) := PS.wk (ps_for hp hc hi hg hb hs) fun D σ H ⟨τ, S, D2, rl, rs, t, k⟩ => by
  refine ⟨τ, S, _, rl, rs, t, fun ds stay S1 H1 J g1 rs1 drv ⟨W, w0, hst, hstep, hend⟩ => ?_⟩
  refine ⟨fun i m σ' H' => m = ds.length - i ∧ i ≤ ds.length ∧ ∃ τ' S', Good X.K H1 H' ∧ Rl X.K H' τ' σ' ∧ RelS X.K S' H' ∧ W i τ' S', ⟨ds.length, by simp, Nat.zero_le _, τ, S1, .refl _, rl.keep g1, rs1, w0⟩, ?_⟩
  rintro i m σ2 H2 ⟨rfl, hi, τ2, S2, g2, rl2, rs2, w2⟩
  by_cases hlt : i < ds.length
  · obtain ⟨go, yl⟩ := drv.step i S2 H2 g2 rs2 (hst i τ2 S2 hi w2) hlt
    refine .inr ⟨go, fun σ' H' => ∃ τ' S', Good X.K H1 H' ∧ Rl X.K H' τ' σ' ∧ RelS X.K S' H' ∧ W (i + 1) τ' S', fun σ' H' h => ⟨ds.length - (i + 1), by omega, rfl, hlt, h⟩, fun x H3 y => ?_⟩
    obtain ⟨g3, rs3, d, hd, dv⟩ := yl x H3 y
    refine ⟨d, τ2, S2, _, dv, rl2.keep g3, rs3, hstep i d τ2 S2 hd w2, fun τ4 S4 σ4 H4 g4 rl4 rs4 _ t4 => ?_⟩
    refine ⟨τ4, S4, _, rl4, rs4, t4, ?_⟩
    have gg := (g2.trans g3).trans g4
    have kk := k.keep (g1.trans gg)
    exact ⟨fun τ' S' σ' H' g' rl' rs' n' => ⟨τ', S', gg.trans g', rl', rs', n'⟩, kk.rt, kk.nx, fun τ' S' σ' H' g' rl' rs' n' => ⟨τ', S', gg.trans g', rl', rs', n'⟩⟩
  · have e : i = ds.length := by omega
    subst e
    exact .inl ⟨drv.stop _ S2 H2 g2 rs2 (hst _ τ2 S2 hi w2) rfl, k.nx _ _ _ _ (g1.trans g2) rl2 rs2 (hend τ2 S2 w2)⟩
end
/-! ### list comprehensions -/
def wipe2 (τ : St2) : List Nat → St2
  | [] => τ
  | v :: vs => (wipe2 τ vs).set v none
theorem wipe2_length (τ : St2) : ∀ vs : List Nat, (wipe2 τ vs).length = τ.length
  | [] => rfl
  | v :: vs => by unfold wipe2; rw [List.length_set, wipe2_length τ vs]
theorem wipe_out {σ : L2.St} {i : Nat} : ∀ {vs : List Nat}, i ∉ vs → (wipe σ vs)[i]? = σ[i]?
  | [], _ => rfl
  | v :: vs, h => by
    unfold wipe
    rw [List.getElem?_set_ne (fun e => h (by simp [e]))]
    exact wipe_out fun z => h (List.mem_cons_of_mem _ z)
theorem wipe_in {σ : L2.St} {i : Nat} : ∀ {vs : List Nat}, i ∈ vs → i < σ.length → (wipe σ vs)[i]? = some none
  | v :: vs, h, hl => by
    unfold wipe
    by_cases e : v = i
    · subst e; exact List.getElem?_set_self (by rw [wipe_length]; exact hl)
    · rw [List.getElem?_set_ne e]
      exact wipe_in (by rcases List.mem_cons.mp h with z | z; exact absurd z.symm e; exact z) hl
theorem wipe2_some {τ : St2} {i : Nat} {x : D} : ∀ {vs : List Nat}, (wipe2 τ vs)[i]? = some (some x) → τ[i]? = some (some x) ∧ i ∉ vs
  | [], h => ⟨h, by simp⟩
  | v :: vs, h => by
    unfold wipe2 at h
    by_cases hi : v = i
    · subst hi
      by_cases hv : v < (wipe2 τ vs).length
      · rw [List.getElem?_set_self hv] at h; cases h
      · rw [List.getElem?_eq_none (by simpa using hv)] at h; cases h
    · rw [List.getElem?_set_ne hi] at h
      obtain ⟨h1, h2⟩ := wipe2_some h
      exact ⟨h1, by simp only [List.mem_cons, not_or]; exact ⟨fun e => hi e.symm, h2⟩⟩
theorem Rl.wipe {K : PySem.W.Frag} {H : Hp} {τ : St2} {σ : L2.St} (h : Rl K H τ σ) (vs : List Nat) : Rl K H (wipe2 τ vs) (L2.wipe σ vs) := by
  refine ⟨by rw [wipe2_length, wipe_length, h.len], fun i d e => ?_⟩
  obtain ⟨e1, ni⟩ := wipe2_some e
  obtain ⟨v, e2, r⟩ := h.at_ i d e1
  exact ⟨v, (wipe_out ni).trans e2, r⟩
theorem wipe_beside {tch vs : List Nat} {σ σ2 : L2.St} (hs : ∀ i ∈ tch, i ∈ vs) (b : Beside tch (wipe σ vs) σ2) : wipe σ2 vs = wipe σ vs := by
  apply List.ext_getElem?
  intro i
  have hl : σ2.length = σ.length := b.1.trans (wipe_length σ vs)
  by_cases hi : i ∈ vs
  · by_cases hlt : i < σ.length
    · rw [wipe_in hi (by omega), wipe_in hi hlt]
    · rw [List.getElem?_eq_none (by rw [wipe_length]; omega), List.getElem?_eq_none (by rw [wipe_length]; omega)]
  · rw [wipe_out hi, b.2 i fun z => hi (hs i z)]
def uYes : TT2 := fun _ S Q => Q true S
/-- what a list made item by item asks -/
def LcP (stay : Sto → Prop) (g : TG2) (tt : TT2) (te : TE2) (vs : List Nat) (ds : List D) (τ : St2) (S1 : Sto) (Q : VK2) : Prop := ∀ A, S1 A = none → ∃ W : Nat → List D → Sto → Prop, W 0 [] (ups S1 A (.lst [])) ∧
  (∀ i acc S, i ≤ ds.length → W i acc S → stay S ∧ S A = some (.lst acc)) ∧
  (∀ (i : Nat) (x : D) (acc : List D) (S : Sto), ds[i]? = some x → W i acc S → g x (wipe2 τ vs) S fun τ2 S2 => tt τ2 S2 fun b S3 => Cnd b (te τ2 S3 fun y S4 => S4 A = some (.lst acc) ∧ acc.length < sizeLine ∧ W (i + 1) (acc ++ [y]) (ups S4 A (.lst (acc ++ [y])))) (W (i + 1) acc S3)) ∧
  ∀ acc S, W ds.length acc S → ∃ S0, Sub S0 S ∧ Q (.ref A) S0
def uLc (ti : TI2) (g : TG2) (tt : TT2) (te : TE2) (vs : List Nat) : TE2 := fun τ S Q => ti τ S fun ds stay S1 => LcP stay g tt te vs ds τ S1 Q
section
variable {X : Cx} {pos : Pos} {tch : List Nat}
theorem ts_nil {Y : Cx} {K : PySem.W.Frag} : PTs Y [] (dnT K uYes) := ⟨fun pins s σ H Q I ⟨τ, S, Q2, rl, rs, t, k⟩ => pts_nil.run pins s σ H Q I (k _ _ _ (.refl H) rs t)⟩
theorem lc_dn {K : PySem.W.Frag} {ti : TI2} {g : TG2} {tt : TT2} {te : TE2} {vs : List Nat} (hv : ∀ i ∈ tch, i ∈ vs) {σ : L2.St} {H : Hp} {Q : VK} : dn K (uLc ti g tt te vs) σ H Q → tLc (dnI K ti) (dnG K tch g) (dnT K tt) (dn K te) vs σ H Q := by
  rintro ⟨τ, S, Q2, rl, rs, t, k⟩
  refine ⟨τ, S, _, rl, rs, t, fun ds stay S1 H1 J g1 rs1 drv G A nA => ?_⟩
  have nS : S1 A = none := rs1.fresh nA
  obtain ⟨W, w0, hst, step, fin⟩ := G A nS
  have rlw := (rl.keep g1).wipe vs
  refine ⟨fun i m H' => m = ds.length - i ∧ i ≤ ds.length ∧ Good K H1 H' ∧ ∃ acc S', RelS K S' H' ∧ W i acc S', ⟨ds.length, by simp, Nat.zero_le _, good_new nA, [], _, rs1.new (o := .lst []) nA ⟨[], upd_same, .nil⟩, w0⟩, ?_⟩
  rintro i m H2 ⟨rfl, hi, g2, acc, S2, rs2, w2⟩
  obtain ⟨st2, sA⟩ := hst i acc S2 hi w2
  by_cases hlt : i < ds.length
  · obtain ⟨go, yl⟩ := drv.step i _ H2 g2 rs2 st2 hlt
    refine .inr ⟨go, fun H' => Good K H1 H' ∧ ∃ acc S', RelS K S' H' ∧ W (i + 1) acc S', fun H' h => ⟨ds.length - (i + 1), by omega, rfl, hlt, h⟩, fun x H3 y => ?_⟩
    obtain ⟨g3, rs3, d, hd, dv⟩ := yl x H3 y
    refine ⟨d, wipe2 τ vs, S2, _, dv, (rlw.keep (g2.trans g3)), rs3, step i d acc S2 hd w2, fun τ4 S4 σ4 H4 g4 rl4 rs4 b4 t4 => ?_⟩
    refine ⟨wipe_beside hv b4, τ4, S4, _, rl4, rs4, t4, fun b S5 H5 g5 rs5 t5 => ?_⟩
    cases b with
    | true =>
      rw [if_pos rfl]
      refine ⟨τ4, S5, _, rl4.keep g5, rs5, t5, fun z vz S6 H6 g6 rs6 dz t6 => ?_⟩
      obtain ⟨hA, hz, w6⟩ := t6
      obtain ⟨us, e, r⟩ := rs6 A _ hA
      obtain ⟨g8, rs8⟩ := RelS.wl rs6 e (r.append (.cons dz .nil))
      exact ⟨us, e, by rw [← r.length]; exact hz, ((((g2.trans g3).trans g4).trans g5).trans g6).trans g8, _, _, rs8, w6⟩
    | false =>
      rw [if_neg Bool.false_ne_true]
      exact ⟨(((g2.trans g3).trans g4).trans g5), acc, S5, rs5, t5⟩
  · have e : i = ds.length := by omega
    subst e
    obtain ⟨S0, sub, q⟩ := fin acc S2 w2
    exact .inl ⟨drv.stop _ _ H2 g2 rs2 st2 rfl, k _ _ _ _ (g1.trans g2) (rs2.sub sub) (.ref A) q⟩
theorem q_lc (vs : List Nat) {elt tg iter : Expr} {ifs : List Expr} {scope : Scope} {own : List (Str × Nat)} {ti : TI2} {g : TG2} {tt : TT2} {te : TE2} (hc : X.calm = true) (hN : X.N.Nodup) (hi : QI X tg iter ti) (ok : BlkOk X.N X.env.scope scope own) (hvs : own.map (·.2) = vs) (hv : ∀ i ∈ tch, i ∈ vs)
    (hg : ∀ (s : Shared) (H : Hp) (C : Addr) (cl : List (Str × Addr)) (fp : List Addr), PG (X.blk s H scope (compEnvC scope cl C X.env) fp) tg (dnG X.K tch g)) (ht : ∀ (s : Shared) (H : Hp) (C : Addr) (cl : List (Str × Addr)) (fp : List Addr), PTs (X.blk s H scope (compEnvC scope cl C X.env) fp) ifs (dnT X.K tt))
    (he : ∀ (s : Shared) (H : Hp) (C : Addr) (cl : List (Str × Addr)) (fp : List Addr), PE (X.blk s H scope (compEnvC scope cl C X.env) fp) elt (dn X.K te)) (hs : ∀ x, foldedSetIterable iter X.env x = pure x := by intro _; rfl) :
    QE X (.ListComp elt [⟨tg, iter, ifs, 0⟩] scope pos) (uLc ti g tt te vs) := by
  subst hvs
  exact PE.wk (pe_lc hc hN hi ok hg ht he hs) fun σ H Q => lc_dn hv
theorem s_setLc (vs : List Nat) (i : Nat) {y : Str} {py : Pos} {elt tg iter : Expr} {ifs : List Expr} {scope : Scope} {own : List (Str × Nat)} {spos : Pos} {ti : TI2} {g : TG2} {tt : TT2} {te : TE2} (hc : X.calm = true) (hN : X.N.Nodup) (hy : X.N[i]? = some y) (hyl : X.env.scope.names.lookup y = some .local)
    (hsw : swapsWith (.ListComp elt [⟨tg, iter, ifs, 0⟩] scope pos) (some (.Name y py)) spos.line X.env = pure true) (hi : QI X tg iter ti) (ok : BlkOk X.N X.env.scope scope own) (hvs : own.map (·.2) = vs) (hv : ∀ i ∈ tch, i ∈ vs)
    (hg : ∀ (s : Shared) (H : Hp) (C : Addr) (cl : List (Str × Addr)) (fp : List Addr), PG (X.blk s H scope (compEnvC scope cl C X.env) fp) tg (dnG X.K tch g)) (ht : ∀ (s : Shared) (H : Hp) (C : Addr) (cl : List (Str × Addr)) (fp : List Addr), PTs (X.blk s H scope (compEnvC scope cl C X.env) fp) ifs (dnT X.K tt))
    (he : ∀ (s : Shared) (H : Hp) (C : Addr) (cl : List (Str × Addr)) (fp : List Addr), PE (X.blk s H scope (compEnvC scope cl C X.env) fp) elt (dn X.K te)) (hs : ∀ x, foldedSetIterable iter X.env x = pure x := by intro _; rfl) :
    QS X (.Assign [.Name y py] (.ListComp elt [⟨tg, iter, ifs, 0⟩] scope pos) spos) (uSet i (uLc ti g tt te vs)) := by
  subst hvs
  exact PS.wk (ps_setLc hc hN hy hyl hsw hi ok hg ht he hs) fun D σ H ⟨τ, S, D2, rl, rs, t, k⟩ =>
    lc_dn (Q := fun x H1 => D.nx (σ.set i (some x)) H1) hv ⟨τ, S, _, rl, rs, t, fun d v S1 H1 g1 rs1 dv1 t1 => k.nx _ _ _ _ g1 ((rl.keep g1).set i dv1) rs1 t1⟩
end
/-! ### functions -/
abbrev Sp2 := List D → Sto → VK2 → XK2 → Prop
/-- the field of an exception -/
def XFs (H : Hp) : Option Addr → Option (Str × Int) → Prop
  | none, none => True
  | some d, some (n, i) => H d = some (.xd [(n, .int i)])
  | _, _ => False
def dnSp (K : PySem.W.Frag) (sp : Sp2) : Sp := fun vs H Q E => ∃ ds S Q2 E2, Dvs K H ds vs ∧ RelS K S H ∧ sp ds S Q2 E2 ∧ (∀ d v S' H', Good K H H' → RelS K S' H' → Dv K H' d v → Q2 d S' → Q v H') ∧
  ∀ x dd f S' H', Good K H H' → RelS K S' H' → XFs H' dd f → E2 x f S' → E (.ref (cA K x)) dd H'
def uCall (sp : Sp2) (t : TA2) : TE2 := fun τ S Q => t τ S fun ds S1 => sp ds S1 Q fun _ _ _ => False
/-- a def of the module that raises nothing -/
structure Fn (P : Program) (w : World) (K : PySem.W.Frag) (mg : Str → Option Value) (base : Heap) (k : Nat) (x : Str) (sp : Sp2) : Prop where
  ex : ∃ f fd ps, FnOk P w K mg base CX0 k f fd ps (dnSp K sp) ∧ mg x = some (.ref f) ∧ PySem.W.keepIn K (.ref f) = true ∧ Binds K fd ps []
theorem Fn.mono {P : Program} {w : World} {K : PySem.W.Frag} {mg : Str → Option Value} {base : Heap} {j k : Nat} {x : Str} {sp : Sp2} (F : Fn P w K mg base j x sp) (h : j ≤ k) : Fn P w K mg base k x sp := by
  obtain ⟨f, fd, ps, h1, h2⟩ := F.ex
  exact ⟨f, fd, ps, h1.mono h, h2⟩
section
variable {X : Cx} {k : Nat} {x : Str} {sp : Sp2} {p pos : Pos} {e : Expr} {es : List Expr} {t : TA2}
theorem call_dn {K : PySem.W.Frag} {σ : L2.St} {H : Hp} {Q : VK} {E : XK} : dn K (uCall sp t) σ H Q → tCall (dnSp K sp) [] E (dnA K t) σ H Q := fun ⟨τ, S, Q2, rl, rs, t, k⟩ =>
  ⟨τ, S, _, rl, rs, t, fun ds vs S1 H1 g1 rs1 dvs t1 => by
    show dnSp K sp (vs ++ []) H1 Q E
    rw [List.append_nil]
    exact ⟨ds, S1, Q2, _, dvs, rs1, t1, fun d v S' H' g => k d v S' H' (g1.trans g), fun _ _ _ _ _ _ _ _ z => z.elim⟩⟩
theorem q_call (F : Fn X.prog X.w X.K X.mg X.base k x sp) (hr : Room k X.A) (hg : Gl X x) (ha : QA X (e :: es) t) (hdb : (x == ("__debug__" : Str)) = false := by decide) (he : starEach (e :: es) X.env = (false, eval e X.env) :: starEach es X.env := by rfl) (hpl : (backTo pos (starEach es X.env)).any (·.1) = false := by rfl) :
    QE X (.Call (.Name x p) (e :: es) [] pos) (uCall sp t) := by
  obtain ⟨f, fd, ps, F, hm, hk, hb⟩ := F.ex
  exact PE.wk (pe_call F hr hg hm hk hb .nil (pass0 (X := X)) ha hdb he hpl) fun σ H Q => call_dn
end
section
variable {P : Program} {w : World} {K : PySem.W.Frag} {mg : Str → Option Value} {base : Heap}
/-- THE RULE for a def -/
theorem fn_core {x : Str} {st : Stmt} {f : Addr} {fd : FuncData} {N ps : List Str} {k : Nat} {sp : Sp2} (F : Fun K x x st f fd) (S : FnScope N ps (defScope st)) (len : ∀ ds S Q E, sp ds S Q E → ds.length = ps.length)
    (hbody : ∀ (cdv : Value) (A : Around) (outer : List Env) (s : Shared) (H : Hp) (E : XK), Room k (A.deeper (envOfC x (defScope st) s.heap.objs.size f cdv)) →
      ∃ t, QSs (cxOf CX0 P w K mg base N x (defScope st) f cdv A outer s H E).nox (defBody st) t ∧ ∀ ds S Q E, sp ds S Q E → t { nx := fun _ S' => ∃ S0, Sub S0 S' ∧ Q .non S0, rt := fun d S' => ∃ S0, Sub S0 S' ∧ Q d S0 } (start2 N ds) S) : FnOk P w K mg base CX0 (k + 1) f fd ps (dnSp K sp) := by
  refine F.ok S (fun vs H Q E h => ?_) (fun cdv A outer s H vs Q E hr h => ?_)
  · obtain ⟨ds, S, Q2, E2, dvs, _, h, _⟩ := h
    rw [← dvs.length]
    exact len ds S Q2 E2 h
  · obtain ⟨t, ht, rd⟩ := hbody cdv A outer s H E hr
    obtain ⟨ds, S, Q2, E2, dvs, rs, h, k, _⟩ := h
    refine ⟨_, ht, start2 N ds, S, _, Rl.start dvs, rs, rd ds S Q2 E2 h, ?_⟩
    exact ⟨fun τ S' σ' H' g _ rs' ⟨S0, sub, q⟩ => k _ _ _ _ g (rs'.sub sub) .non q, fun d v S' H' g rs' dv ⟨S0, sub, q⟩ => k _ _ _ _ g (rs'.sub sub) dv q, fun _ _ _ _ _ _ _ z => z.elim, fun _ _ _ _ _ _ _ z => z.elim⟩
theorem fn_intro {x : Str} {st : Stmt} {f : Addr} {fd : FuncData} {N ps : List Str} {k : Nat} {sp : Sp2} (F : Fun K x x st f fd) (gm : mg x = some (.ref f)) (bd : Binds K fd ps []) (S : FnScope N ps (defScope st)) (len : ∀ ds S Q E, sp ds S Q E → ds.length = ps.length)
    (hbody : ∀ (cdv : Value) (A : Around) (outer : List Env) (s : Shared) (H : Hp) (E : XK), Room k (A.deeper (envOfC x (defScope st) s.heap.objs.size f cdv)) →
      ∃ t, QSs (cxOf CX0 P w K mg base N x (defScope st) f cdv A outer s H E).nox (defBody st) t ∧ ∀ ds S Q E, sp ds S Q E → t { nx := fun _ S' => ∃ S0, Sub S0 S' ∧ Q .non S0, rt := fun d S' => ∃ S0, Sub S0 S' ∧ Q d S0 } (start2 N ds) S) : Fn P w K mg base (k + 1) x sp :=
  ⟨f, fd, ps, fn_core F S len hbody, gm, F.kp, bd⟩
end
end DL
namespace DL
open PySem PySem.Spec PyProof.Rows L2
/-- code that the proof never comes to -/
def uNever : TS2 := fun _ _ _ => False
section
variable {X : Cx} {st : Stmt} {pos : Pos} {a b c : Expr} {ta tb tc : TE2} {tt : TT2}
theorem s_never : QS X st uNever := PS.wk ps_never fun D σ H ⟨τ, S, D2, rl, rs, t, k⟩ => t.elim
theorem ts_one {Y : Cx} {K : PySem.W.Frag} {e : Expr} (h : PT Y e (dnT K tt)) : PTs Y [e] (dnT K tt) := pts_one h
theorem marks {op op' : CmpOp} {b c : Expr} (h : op' ≠ .In := by decide) (h2 : op' ≠ .NotIn := by decide) : lastMarks [op, op'] [b, c] = false := nobehind c h h2
theorem t_ch {op op' : CmpOp} {r0 r0' : R2} {r r' : R22} (ho : OpR X (compareOp op) r0) (ho' : OpR X (compareOp op') r0') (s : Srv X.K r0 r) (s' : Srv X.K r0' r') (hm : lastMarks [op, op'] [b, c] = false) (ha : QE X a ta) (hb : QE X b tb) (hc : QE X c tc) : QT X (.Compare a [op, op'] [b, c] pos) (uTest (uChain r r' ta tb tc)) :=
  test_dn (T := tTest (tChain r0 r0' (dn X.K ta) (dn X.K tb) (dn X.K tc))) (fun _ _ _ h => chain_dn s s' h) (pt_chain ho ho' ha hb hc hm)
theorem t_ch_lelt (ha : QE X a ta) (hb : QE X b tb) (hc : QE X c tc) : QT X (.Compare a [.LtE, .Lt] [b, c] pos) (uTest (uChain rLe rLt ta tb tc)) := t_ch op_le op_lt srv_cmpI srv_cmpI marks ha hb hc
theorem q_powk {i j : Int} (v : Int) (h : 0 ≤ j ∧ j ≤ 1000000 ∧ i.natAbs < 2 ^ 64) (e : i ^ j.toNat = v) {n1 n2 : Nat} {p1 p2 : Pos} : QE X (.BinOp (.Constant (.int i) n1 p1) .Pow (.Constant (.int j) n2 p2) pos) (uC (.int v)) :=
  PE.wk (q_pow (pos := pos) q_int q_int) fun σ H Q ⟨τ, S, Q2, rl, rs, t, k⟩ => ⟨τ, S, Q2, rl, rs, ⟨h, by rw [e]; exact t⟩, k⟩
end
/-- a def of the module as it stands -/
structure FunAt (K : PySem.W.Frag) (mg : Str → Option Value) (x : Str) (st : Stmt) (ps : List Str) : Prop where
  ex : ∃ f fd, Fun K x x st f fd ∧ mg x = some (.ref f) ∧ Binds K fd ps []
section
variable {P : Program} {w : World} {K : PySem.W.Frag} {mg : Str → Option Value} {base : Heap}
theorem fn_intro2 {x : Str} {st : Stmt} {N ps : List Str} {k : Nat} {sp : Sp2} (FA : FunAt K mg x st ps) (S : FnScope N ps (defScope st)) (len : ∀ ds S Q E, sp ds S Q E → ds.length = ps.length)
    (hbody : ∀ (cdv : Value) (A : Around) (outer : List Env) (s : Shared) (H : Hp) (E : XK) (f : Addr), Room k (A.deeper (envOfC x (defScope st) s.heap.objs.size f cdv)) →
      ∃ t, QSs (cxOf CX0 P w K mg base N x (defScope st) f cdv A outer s H E).nox (defBody st) t ∧ ∀ ds S Q E, sp ds S Q E → t { nx := fun _ S' => ∃ S0, Sub S0 S' ∧ Q .non S0, rt := fun d S' => ∃ S0, Sub S0 S' ∧ Q d S0 } (start2 N ds) S) : Fn P w K mg base (k + 1) x sp := by
  obtain ⟨f, fd, F, gm, bd⟩ := FA.ex
  exact fn_intro F gm bd S len fun cdv A outer s H E hr => hbody cdv A outer s H E f hr
/-! ### the end: what the top has written, and the law's own def -/
theorem fun_at {h : Heap} {x : Str} {st : Stmt} {ps : List Str} {f : Addr} {oc : Value} {od an : Option Addr} {osl : Array (Option Value)} {kV doc pm cdv ct : Value} (X : K.In h) (G : h.Ns mainGlobals mg)
    (a : PySem.W.nsIn K mainGlobals x = some (some (.ref f))) (l : K.lookup f = some ⟨oc, od, .func (PySem.W.fnOf x x (defArgs st) (defBody st) (defScope st) .none kV doc pm an cdv ct), osl⟩) (c : PySem.W.codeIn K cdv x = true) (k : PySem.W.keepIn K (.ref f) = true)
    (hb : ∀ (kV doc pm : Value) (an : Option Addr) (cdv ct : Value) (us : List Value), us.length = ps.length → bindArgs (PySem.W.fnOf x x (defArgs st) (defBody st) (defScope st) .none kV doc pm an cdv ct) ⟨us, []⟩ = pure (ps.zip us)) : FunAt K mg x st ps :=
  ⟨f, _, fun_mk l c k, PySem.W.mg_of X G a, (fun_mk l c k).binds hb⟩
/-- the law's own def -/
theorem law_at {fa : Addr} {k : Nat} {x y : Str} {st : Stmt} {sp : Sp2} (FA : FunAt K mg x st [y]) (hfa : mg x = some (.ref fa)) (hx : ∀ (kV doc pm : Value) (an : Option Addr) (cdv ct : Value) (s : Shared) (v : Value), BindsTo s (PySem.W.fnOf x x (defArgs st) (defBody st) (defScope st) .none kV doc pm an cdv ct) ⟨[v], []⟩ [(y, v)])
    (F : ∀ (base : Heap) (f : Addr) (fd : FuncData), Fun K x x st f fd → FnOk P w K mg base CX0 k f fd [y] (dnSp K sp)) :
    ∃ fd : FuncData, (∀ (s : Shared) (v : Value), BindsTo s fd ⟨[v], []⟩ [(y, v)]) ∧ ∀ base : Heap, K.In base → base.Ns mainGlobals mg → FnOk P w K mg base CX0 k fa fd [y] (dnSp K sp) := by
  obtain ⟨f, fd, F1, gm, _⟩ := FA.ex
  have e := hfa.symm.trans gm
  cases e
  refine ⟨fd, fun s v => ?_, fun base _ _ => F base _ fd F1⟩
  obtain ⟨oc, od, kV, doc, pm, an, cdv, ct, osl, rfl, lk, hcd⟩ := F1.ex
  exact hx kV doc pm an cdv ct s v
/-- a script is a list that nobody writes -/
theorem script_at {H : Hp} {a : Addr} {ns : List Int} {sp : Sp2} (hO : Only H) (hS : SqL K H a (ns.map V.int)) (h : ∀ S, sp [.fl (ns.map D.int)] S (fun d _ => d = .bl true) (fun _ _ _ => False)) : dnSp K sp [.ref a] H (fun v _ => v = .bl true) (fun _ _ _ => False) := by
  have fz : FrzL K H a (ns.map V.int) := by
    rcases hS with (hS | hS) | hS
    · rcases hO a with h0 | ⟨o, xs, h0⟩
      · rw [h0] at hS; cases hS
      · rw [h0] at hS; cases hS
    · exact .inl hS
    · exact .inr hS
  refine ⟨[.fl (ns.map D.int)], fun _ => none, fun d _ => d = .bl true, fun _ _ _ => False, .cons (.fl fz (Dvs.ints ns)) .nil, (by intro _ _ e; cases e), h _, fun d v S' H' g rs dv e => ?_, fun _ _ _ _ _ _ _ _ z => z⟩
  subst e
  cases dv
  rfl
end
/-! ### constants of the module -/
structure ConAt (K : PySem.W.Frag) (mg : Str → Option Value) (x : Str) (d : D) : Prop where
  ex : ∃ v u, mg x = some u ∧ RelV v u ∧ ∀ H, Dv K H d v
section
variable {X : Cx} {x : Str} {d : D} {pos : Pos}
theorem q_con (C : ConAt X.K X.mg x d) (hg : Gl X x) (hdb : (x == ("__debug__" : Str)) = false := by decide) : QE X (.Name x pos) (uC d) := by
  obtain ⟨v, u, hm, r, dv⟩ := C.ex
  exact q_const (pe_glob hg hm r hdb) dv
variable {K : PySem.W.Frag} {mg : Str → Option Value} {h : Heap}
theorem con_pair {a : Addr} {od : Option Addr} {i j : Int} {t1 t2 n : Nat} {osl : Array (Option Value)} (X : K.In h) (G : h.Ns mainGlobals mg) (na : PySem.W.nsIn K mainGlobals x = some (some (.ref a)))
    (l : K.lookup a = some ⟨.type "tuple", od, .seq #[.int i t1, .int j t2] n, osl⟩) : ConAt K mg x (.tup [.int i, .int j]) :=
  ⟨.ref a, .ref a, PySem.W.mg_of X G na, rfl, fun H => .tup (vs := [.int i, .int j]) (.inr ⟨_, _, _, l, rfl, rfl, (show 2 ≤ sizeLine from th_line (by decide)), .cons ⟨t1, rfl⟩ (.cons ⟨t2, rfl⟩ .nil)⟩) (.cons (.int i) (.cons (.int j) .nil))⟩
end
end DL
namespace DL
open PySem PySem.Spec PyProof.Rows L2
/-! ### what the readings are worth, case by case -/
section
variable {S : Sto} {Q : VK2} {i j : Int} {x y : Str} {a b : Addr} {d e : DL.D} {xs ys : List DL.D} {k n : Nat} {p q : Bool} {z : Str}
theorem z_getO {f : List DL.D → Prop} : getO (some (.lst xs)) f = f xs := rfl
theorem z_onS {α : Type} {v : α} {f : α → Prop} : onS (some v) f = f v := rfl
theorem z_addI : rAdd (.int i) (.int j) S Q = Q (.int (i + j)) S := rfl
theorem z_addS : rAdd (.str x) (.str y) S Q = (x.length + y.length ≤ sizeLine ∧ Q (.str (x ++ y)) S) := rfl
theorem z_addL : rAdd (.ref a) (.ref b) S Q = getO (S a) fun xs => getO (S b) fun ys => xs.length + ys.length ≤ sizeLine ∧ ∀ p, S p = none → Q (.ref p) (ups S p (.lst (xs ++ ys))) := rfl
theorem z_addT : rAdd (.tup xs) (.tup ys) S Q = (xs.length + ys.length ≤ sizeLine ∧ Q (.tup (xs ++ ys)) S) := rfl
theorem z_slT {lo hi : Option Int} : slQ (.tup xs) lo hi S Q = Q (.tup (cutD xs lo hi)) S := rfl
theorem z_slS {lo hi : Option Int} : slQ (.str z) lo hi S Q = (z.length ≤ sizeLine ∧ Q (.str (cutS z lo hi)) S) := rfl
theorem z_slR {lo hi : Option Int} : slQ (.ref a) lo hi S Q = onS (listOf S (.ref a)) fun xs => ∀ p, S p = none → Q (.ref p) (ups S p (.lst (cutD xs lo hi))) := rfl
theorem z_slF {lo hi : Option Int} : slQ (.fl xs) lo hi S Q = onS (listOf S (.fl xs)) fun xs => ∀ p, S p = none → Q (.ref p) (ups S p (.lst (cutD xs lo hi))) := rfl
theorem z_sub : rSub (.int i) (.int j) S Q = Q (.int (i - j)) S := rfl
theorem z_mul : rMul (.int i) (.int j) S Q = (MulOk i j ∧ Q (.int (i * j)) S) := rfl
theorem z_mulL : rMul (.ref a) (.int i) S Q = getO (S a) fun xs => (0 ≤ i ∧ i ≤ 1000 ∧ xs.length ≤ 1000) ∧ ∀ p, S p = none → Q (.ref p) (ups S p (.lst (List.replicate i.toNat xs).flatten)) := rfl
theorem z_mod : rMod (.int i) (.int j) S Q = (j ≠ 0 ∧ Q (.int (i.fmod j)) S) := rfl
theorem z_fdiv : rFdiv (.int i) (.int j) S Q = (DivOk j ∧ Q (.int (i.fdiv j)) S) := rfl
theorem z_pow : rPow (.int i) (.int j) S Q = ((0 ≤ j ∧ j ≤ 1000000 ∧ i.natAbs < 2 ^ 64) ∧ Q (.int (i ^ j.toNat)) S) := rfl
theorem z_lt : rLt (.int i) (.int j) S Q = Q (.bl (decide (i < j))) S := rfl
theorem z_le : rLe (.int i) (.int j) S Q = Q (.bl (decide (i ≤ j))) S := rfl
theorem z_gt : rGt (.int i) (.int j) S Q = Q (.bl (decide (j < i))) S := rfl
theorem z_ge : rGe (.int i) (.int j) S Q = Q (.bl (decide (j ≤ i))) S := rfl
theorem z_isN : rIs d .non S Q = Q (.bl (isNon d)) S := by cases d <;> rfl
theorem z_isB : rIs (.bl p) (.bl q) S Q = Q (.bl (decide (p = q))) S := rfl
theorem z_isnN : rIsNot d .non S Q = Q (.bl (!isNon d)) S := by cases d <;> rfl
theorem z_isnB : rIsNot (.bl p) (.bl q) S Q = Q (.bl (!decide (p = q))) S := rfl
theorem z_nonN : isNon .non = true := rfl
theorem z_nonI : isNon (.int i) = false := rfl
theorem z_nonB : isNon (.bl p) = false := rfl
theorem z_nonS : isNon (.str x) = false := rfl
theorem z_nonT : isNon (.tup xs) = false := rfl
theorem z_nonR : isNon (.ref a) = false := rfl
theorem z_nonF : isNon (.fl xs) = false := rfl
theorem z_eqI : rEq (.int i) (.int j) S Q = Q (.bl (decide (i = j))) S := rfl
theorem z_eqB : rEq (.bl p) (.bl q) S Q = Q (.bl (decide (p = q))) S := rfl
theorem z_eqS : rEq (.str x) (.str y) S Q = Q (.bl (decide (x = y))) S := rfl
theorem z_neI : rNe (.int i) (.int j) S Q = Q (.bl (!decide (i = j))) S := rfl
theorem z_neB : rNe (.bl p) (.bl q) S Q = Q (.bl (!decide (p = q))) S := rfl
theorem z_neS : rNe (.str x) (.str y) S Q = Q (.bl (!decide (x = y))) S := rfl
/-- the answer of ==, where it is known -/
theorem rEq_of {c : Bool} (h : EqD S d e c) (q : Q (.bl c) S) : rEq d e S Q := by
  obtain ⟨p, r, h1, h2, s1, s2, rfl⟩ := h
  unfold rEq
  split
  · cases h1; cases h2; simp only [PyData.eqv, Bool.beq_eq_decide_eq] at q; rwa [show decide (_ = _) = (_ == _) from (Bool.beq_eq_decide_eq _ _).symm]
  · cases h1; cases h2; simp only [PyData.eqv, Bool.beq_eq_decide_eq] at q; exact q
  · cases h1; cases h2; simp only [PyData.eqv] at q; rwa [show decide (_ = _) = (_ == _) from (Bool.beq_eq_decide_eq _ _).symm]
  · exact ⟨_, ⟨p, r, h1, h2, s1, s2, rfl⟩, q⟩
theorem z_ixT : ixkQ k (.tup xs) S Q = nthQ xs k fun x => Q x S := rfl
theorem z_ixF : ixkQ k (.fl xs) S Q = nthQ xs k fun x => Q x S := rfl
theorem z_ixR : ixkQ k (.ref a) S Q = getO (S a) fun xs => nthQ xs k fun x => Q x S := rfl
theorem z_ixS : ixkQ k (.str z) S Q = (z.length ≤ sizeLine ∧ onS z.cps.toList[k]? fun c => Q (.str ⟨#[c]⟩) S) := rfl
theorem z_ixg : rIxg d (.int i) S Q = ixgQ i d S Q := by cases d <;> rfl
theorem z_igT : ixgQ i (.tup xs) S Q = onS (atI xs i) fun x => Q x S := rfl
theorem z_igF : ixgQ i (.fl xs) S Q = onS (atI xs i) fun x => Q x S := rfl
theorem z_igR : ixgQ i (.ref a) S Q = getO (S a) fun xs => onS (atI xs i) fun x => Q x S := rfl
theorem z_igS : ixgQ i (.str z) S Q = (z.length ≤ sizeLine ∧ onS (atI z.cps.toList i) fun c => Q (.str ⟨#[c]⟩) S) := rfl
theorem z_lenS : rLen [.str z] S Q = (z.length ≤ sizeLine ∧ Q (.int z.length) S) := rfl
theorem z_lenT : rLen [.tup xs] S Q = Q (.int xs.length) S := rfl
theorem z_lenF : rLen [.fl xs] S Q = Q (.int xs.length) S := rfl
theorem z_lenR : rLen [.ref a] S Q = getO (S a) fun xs => Q (.int xs.length) S := rfl
theorem z_abs : rAbs [.int i] S Q = Q (.int (if i < 0 then -i else i)) S := rfl
theorem z_max : rMax2 [.int i, .int j] S Q = Q (.int (if j > i then j else i)) S := rfl
theorem z_min : rMin2 [.int i, .int j] S Q = Q (.int (if j < i then j else i)) S := rfl
theorem z_intI : rInt1 [.int i] S Q = Q (.int i) S := rfl
theorem z_intB : rInt1 [.bl p] S Q = Q (.int (if p then 1 else 0)) S := rfl
theorem z_listT : rListOf [.tup xs] S Q = ∀ p, S p = none → Q (.ref p) (ups S p (.lst xs)) := rfl
theorem z_listF : rListOf [.fl xs] S Q = ∀ p, S p = none → Q (.ref p) (ups S p (.lst xs)) := rfl
theorem z_listR : rListOf [.ref a] S Q = getO (S a) fun xs => ∀ p, S p = none → Q (.ref p) (ups S p (.lst xs)) := rfl
theorem z_tupT : rTupleOf [.tup xs] S Q = Q (.tup xs) S := rfl
theorem z_tupF : rTupleOf [.fl xs] S Q = Q (.tup xs) S := rfl
theorem z_tupR : rTupleOf [.ref a] S Q = getO (S a) fun xs => Q (.tup xs) S := rfl
theorem z_any : rAny2 [d] S Q = ∃ bs : List Bool, listOf S d = some (bs.map DL.D.bl) ∧ Q (.bl (bs.any fun b => b)) S := rfl
theorem z_all : rAll2 [d] S Q = ∃ bs : List Bool, listOf S d = some (bs.map DL.D.bl) ∧ Q (.bl (bs.all fun b => b)) S := rfl
theorem z_sorted : rSorted2 [d] S Q = ∃ ns : List Int, listOf S d = some (ns.map DL.D.int) ∧ ns.length < 64 ∧ ∀ ms : List Int, ms.Perm ns → ms.Pairwise (· ≤ ·) → ∀ p, S p = none → Q (.ref p) (ups S p (.lst (ms.map DL.D.int))) := rfl
theorem z_tyN : tyOf S .non = some .non := rfl
theorem z_tyB : tyOf S (.bl p) = some .bool := rfl
theorem z_tyI : tyOf S (.int i) = some .int := rfl
theorem z_tyS : tyOf S (.str x) = some .str := rfl
theorem z_tyT : tyOf S (.tup xs) = some .tup := rfl
theorem z_tyF : tyOf S (.fl xs) = some .lst := rfl
theorem z_tyR : tyOf S (.ref a) = tyO (S a) := rfl
theorem z_tyL : tyO (some (.lst xs)) = some .lst := rfl
theorem z_tyD {kvs : List (Key × DL.D)} : tyO (some (.dic kvs)) = some .dic := rfl
theorem z_isiII : isiT .int .int = true := rfl
theorem z_isiBI : isiT .bool .int = true := rfl
theorem z_isiBB : isiT .bool .bool = true := rfl
theorem z_isiIB : isiT .int .bool = false := rfl
theorem z_isiTT : isiT .tup .tup = true := rfl
theorem z_isiLL : isiT .lst .lst = true := rfl
theorem z_isiSS : isiT .str .str = true := rfl
theorem z_isiNI : isiT .non .int = false := rfl
theorem z_isiNB : isiT .non .bool = false := rfl
theorem z_isiNT : isiT .non .tup = false := rfl
theorem z_isiNL : isiT .non .lst = false := rfl
theorem z_cndT {A B : Prop} : Cnd true A B = A := rfl
theorem z_cndF {A B : Prop} : Cnd false A B = B := rfl
theorem z_app : rAppend2 (.ref a) [d] S Q = getO (S a) fun xs => xs.length < sizeLine ∧ Q .non (ups S a (.lst (xs ++ [d]))) := rfl
theorem z_ins : rInsert2 (.ref a) [.int i, d] S Q = getO (S a) fun xs => xs.length < sizeLine ∧ (0 ≤ i ∧ i < 2 ^ 63) ∧ Q .non (ups S a (.lst (xs.take i.toNat ++ [d] ++ xs.drop i.toNat))) := rfl
theorem z_pop0 : rPop0 (.ref a) [] S Q = getO (S a) fun xs => onS xs[xs.length - 1]? fun y => Q y (ups S a (.lst xs.dropLast)) := rfl
theorem z_popAt : rPopAt2 (.ref a) [.int i] S Q = getO (S a) fun xs => (-(2 ^ 63) ≤ i ∧ i < 2 ^ 63) ∧ onS (seqIndex? i xs.length) fun k => onS xs[k]? fun y => Q y (ups S a (.lst (xs.eraseIdx k))) := rfl
theorem z_rev : rReverse2 (.ref a) [] S Q = getO (S a) fun xs => Q .non (ups S a (.lst xs.reverse)) := rfl
theorem z_clear : rClear2 (.ref a) [] S Q = getO (S a) fun xs => Q .non (ups S a (.lst [])) := rfl
theorem z_setQ {R : Sto → Prop} : setQ d (.ref a) (.int i) S R = getO (S a) fun xs => onS (ixN xs.length i) fun j => R (ups S a (.lst (xs.set j d))) := rfl
theorem z_setkQ {R : Sto → Prop} : setkQ k d (.ref a) S R = getO (S a) fun xs => k < xs.length ∧ R (ups S a (.lst (xs.set k d))) := rfl
theorem z_isLR : isL S (.ref a) = ∃ xs, S a = some (.lst xs) := rfl
theorem z_isLF : isL S (.fl xs) = True := rfl
theorem z_listOfF : listOf S (.fl xs) = some xs := rfl
theorem z_itR {R : List DL.D → (Sto → Prop) → Sto → Prop} : itQ (.ref a) S R = getO (S a) fun ds => R ds (stayL a ds) S := rfl
theorem z_itF {R : List DL.D → (Sto → Prop) → Sto → Prop} : itQ (.fl xs) S R = R xs stayT S := rfl
theorem z_itT {R : List DL.D → (Sto → Prop) → Sto → Prop} : itQ (.tup xs) S R = R xs stayT S := rfl
theorem z_rng1 {R : List DL.D → (Sto → Prop) → Sto → Prop} : rngQ1 [.int j] S R = ((-(2 ^ 62) ≤ j ∧ j < 2 ^ 62) ∧ R (rangeD 0 j.toNat) stayT S) := rfl
theorem z_rng2 {R : List DL.D → (Sto → Prop) → Sto → Prop} : rngQ2 [.int i, .int j] S R = ((-(2 ^ 62) ≤ i ∧ i < 2 ^ 62 ∧ -(2 ^ 62) ≤ j ∧ j < 2 ^ 62) ∧ R (rangeD i (j - i).toNat) stayT S) := rfl
theorem z_enum {R : List DL.D → (Sto → Prop) → Sto → Prop} : enumQ [.ref a] S R = getO (S a) fun xs => R (enumD 0 xs) (stayL a xs) S := rfl
theorem z_zip {R : List DL.D → (Sto → Prop) → Sto → Prop} : zipQ [.ref a, .ref b] S R = getO (S a) fun xs => getO (S b) fun ys => R (zipD xs ys) (stay2 (stayL a xs) (stayL b ys)) S := rfl
end
/-! ### walks -/
/-- turn by turn, written out -/
def uLoop (stay : Sto → Prop) (g : TG2) (tb : TS2) : List DL.D → Ends2 → St2 → Sto → Prop
  | [], E, τ, S => stay S ∧ E.nx τ S
  | x :: xs, E, τ, S => stay S ∧ g x τ S fun τ' S' => tb { E with nx := uLoop stay g tb xs E, ct := uLoop stay g tb xs E, bk := E.nx } τ' S'
section
variable {stay : Sto → Prop} {g : TG2} {tb : TS2} {E : Ends2} {τ : St2} {S : Sto}
theorem loop_of {ds : List DL.D} (h : uLoop stay g tb ds E τ S) : LoopP stay g tb ds E τ S := by
  refine ⟨fun i => uLoop stay g tb (ds.drop i) E, h, fun i τ S _ w => ?_, fun i x τ S hx w => ?_, fun τ S w => ?_⟩
  · dsimp only at w
    cases q : ds.drop i with
    | nil => rw [q] at w; exact w.1
    | cons y ys => rw [q] at w; exact w.1
  · dsimp only at w
    have hi := (List.getElem?_eq_some_iff.mp hx)
    obtain ⟨hlt, rfl⟩ := hi
    rw [List.drop_eq_getElem_cons hlt] at w
    exact w.2
  · dsimp only at w
    rw [List.drop_length] at w
    exact w.2
/-- by what is done and what is left -/
theorem loop_inv {α : Type} {e : α → DL.D} {xs : List α} (W : List α → List α → St2 → Sto → Prop) (h0 : W [] xs τ S)
    (hstay : ∀ done rest τ S, done ++ rest = xs → W done rest τ S → stay S)
    (hstep : ∀ done x rest τ S, done ++ x :: rest = xs → W done (x :: rest) τ S → g (e x) τ S fun τ' S' => tb { E with nx := W (done ++ [x]) rest, ct := W (done ++ [x]) rest, bk := E.nx } τ' S')
    (hend : ∀ τ S, W xs [] τ S → E.nx τ S) : LoopP stay g tb (xs.map e) E τ S := by
  refine ⟨fun i => W (xs.take i) (xs.drop i), ?_, fun i τ S _ w => ?_, fun i x τ S hx w => ?_, fun τ S w => ?_⟩
  · simpa using h0
  · exact hstay _ _ τ S (List.take_append_drop i xs) w
  · dsimp only at w ⊢
    rw [List.getElem?_map] at hx
    cases q : xs[i]? with
    | none => rw [q] at hx; cases hx
    | some y =>
      rw [q] at hx
      obtain rfl := Option.some.inj hx
      obtain ⟨hlt, rfl⟩ := List.getElem?_eq_some_iff.mp q
      rw [List.drop_eq_getElem_cons hlt] at w
      have := hstep (xs.take i) (xs[i]) (xs.drop (i + 1)) τ S (by rw [← List.drop_eq_getElem_cons hlt]; exact List.take_append_drop i xs) w
      rwa [show xs.take i ++ [xs[i]] = xs.take (i + 1) by rw [List.take_append_getElem]] at this
  · dsimp only at w
    rw [List.length_map, List.take_length, List.drop_length] at w
    exact hend τ S w
theorem loop_range {lo : Int} {n : Nat} (W : Nat → St2 → Sto → Prop) (h0 : W 0 τ S) (hstay : ∀ i τ S, i ≤ n → W i τ S → stay S)
    (hstep : ∀ i τ S, i < n → W i τ S → g (.int (lo + (i : Int))) τ S fun τ' S' => tb { E with nx := W (i + 1), ct := W (i + 1), bk := E.nx } τ' S')
    (hend : ∀ τ S, W n τ S → E.nx τ S) : LoopP stay g tb (rangeD lo n) E τ S := by
  refine ⟨W, h0, fun i τ S hi w => hstay i τ S (by rwa [rangeD_len] at hi) w, fun i x τ S hx w => ?_, fun τ S w => hend τ S (by rwa [rangeD_len] at w)⟩
  obtain ⟨hi, rfl⟩ := rangeD_at hx
  exact hstep i τ S hi w
/-- by what is done -/
theorem lc_inv {α : Type} {e : α → DL.D} {xs : List α} {tt : TT2} {te : TE2} {vs : List Nat} {Q : VK2}
    (h : ∀ A, S A = none → ∃ W : List α → List DL.D → Sto → Prop, W [] [] (ups S A (.lst [])) ∧ (∀ d r acc S, d ++ r = xs → W d acc S → stay S ∧ S A = some (.lst acc)) ∧
      (∀ d x r acc S, d ++ x :: r = xs → W d acc S → g (e x) (wipe2 τ vs) S fun τ2 S2 => tt τ2 S2 fun b S3 => Cnd b (te τ2 S3 fun y S4 => S4 A = some (.lst acc) ∧ acc.length < sizeLine ∧ W (d ++ [x]) (acc ++ [y]) (ups S4 A (.lst (acc ++ [y])))) (W (d ++ [x]) acc S3)) ∧
      ∀ acc S, W xs acc S → ∃ S0, Sub S0 S ∧ Q (.ref A) S0) : LcP stay g tt te vs (xs.map e) τ S Q := fun A nA => by
  obtain ⟨W, w0, hst, hstep, hend⟩ := h A nA
  refine ⟨fun i => W (xs.take i), w0, fun i acc S _ w => hst _ (xs.drop i) acc S (List.take_append_drop i xs) w, fun i x acc S hx w => ?_, fun acc S w => hend acc S ?_⟩
  · rw [List.getElem?_map] at hx
    cases q : xs[i]? with
    | none => rw [q] at hx; cases hx
    | some y =>
      rw [q] at hx
      obtain rfl := Option.some.inj hx
      obtain ⟨hlt, rfl⟩ := List.getElem?_eq_some_iff.mp q
      have := hstep (xs.take i) (xs[i]) (xs.drop (i + 1)) acc S (by rw [← List.drop_eq_getElem_cons hlt]; exact List.take_append_drop i xs) w
      rwa [show xs.take i ++ [xs[i]] = xs.take (i + 1) by rw [List.take_append_getElem]] at this
  · rwa [List.length_map, List.take_length] at w
/-- a list made item by item, what is old stays -/
theorem lc_map {α : Type} {e : α → DL.D} {xs : List α} {tt : TT2} {te : TE2} {vs : List Nat} {Q : VK2} (f : α → Option DL.D) (hl : xs.length < 1000) (hst : ∀ S', Sub S S' → stay S')
    (hstep : ∀ x ∈ xs, ∀ S', Sub S S' → ∀ (N : Sto → Prop) (Y : DL.D → Sto → Prop), (f x = none → ∀ S2, Sub S' S2 → N S2) → (∀ y, f x = some y → ∀ S2, Sub S' S2 → Y y S2) →
      g (e x) (wipe2 τ vs) S' fun τ2 S2 => tt τ2 S2 fun b S3 => Cnd b (te τ2 S3 fun y S4 => Y y S4) (N S3))
    (hend : ∀ p, S p = none → Q (.ref p) (ups S p (.lst (xs.filterMap f)))) : LcP stay g tt te vs (xs.map e) τ S Q := by
  refine lc_inv fun A nA => ⟨fun d acc S' => acc = d.filterMap f ∧ Sub S S' ∧ S' A = some (.lst acc), ⟨rfl, (Sub.refl S).new nA, ups_same⟩, fun d r acc S' _ ⟨_, sub, hA⟩ => ⟨hst S' sub, hA⟩, ?_, ?_⟩
  · rintro d x r acc S' e ⟨rfl, sub, hA⟩
    have hx : x ∈ xs := by rw [← e]; simp
    have hd : d.length < 1000 := by have := congrArg List.length e; simp only [List.length_append, List.length_cons] at this; omega
    refine hstep x hx S' sub _ _ (fun hn S2 s2 => ⟨?_, sub.trans s2, s2 _ _ hA⟩) (fun y hy S2 s2 => ⟨s2 _ _ hA, small1000 (Nat.le_trans (List.length_filterMap_le _ _) (by omega)), ?_, ?_, ups_same⟩)
    · rw [List.filterMap_append]; simp [hn]
    · rw [List.filterMap_append]; simp [hy]
    · intro b o h
      rw [ups_ne (ne_of_st h nA)]
      exact s2 _ _ (sub _ _ h)
  · rintro acc S' ⟨rfl, sub, hA⟩
    refine ⟨ups S A (.lst (xs.filterMap f)), fun b o h => ?_, hend A nA⟩
    by_cases hb : b = A
    · subst hb; rw [ups_same] at h; cases h; exact hA
    · rw [ups_ne hb] at h; exact sub _ _ h
end
end DL
namespace DL
open PySem PySem.Spec PyProof.Rows L2
def oL : Option O → Option (List D)
  | some (.lst xs) => some xs
  | _ => none
theorem z_oL {xs : List D} : oL (some (.lst xs)) = some xs := rfl
theorem z_listOfR {S : Sto} {a : Addr} : listOf S (.ref a) = oL (S a) := rfl
/-! ### slices by a step -/
def pickV {α : Type} (xs : List α) (k : Int) : List α := (sliceRange (sliceBounds none none (some k) xs.length).1 (sliceBounds none none (some k) xs.length).2.1 (sliceBounds none none (some k) xs.length).2.2).filterMap (xs[·]?)
def uSlK (k : Int) (te : TE2) : TE2 := fun τ S Q => te τ S fun d S1 => onS (listOf S1 d) fun xs => ∀ p, S1 p = none → Q (.ref p) (ups S1 p (.lst (pickV xs k)))
def uRevL (te : TE2) : TE2 := fun τ S Q => te τ S fun d S1 => onS (listOf S1 d) fun xs => ∀ p, S1 p = none → Q (.ref p) (ups S1 p (.lst xs.reverse))
section
variable {X : Cx} {e : Expr} {te ta : TE2} {pos p1 p2 p3 p q : Pos} {j : Nat}
theorem q_rev (he : QE X e te) : QE X (.Subscript e (.Slice none none (some (.UnaryOp .USub (.Constant (.int 1) j p1) p2)) p3) pos) (uRevL te) := PE.wk (pe_revL he) fun σ H Q ⟨τ, S, Q2, rl, rs, t, k⟩ =>
  ⟨τ, S, _, rl, rs, t, fun d v S1 H1 g1 rs1 dv1 t1 => by
    obtain ⟨xs, h, q⟩ := onS_get t1
    obtain ⟨p, vs, rfl, hq, r⟩ := list_sq rs1 dv1 h
    refine ⟨p, vs, rfl, hq, fun p' np => ?_⟩
    exact k _ _ _ _ (g1.trans (good_new np)) (rs1.new (o := .lst xs.reverse) np ⟨_, upd_same, Dvs.new r.reverse np⟩) (.ref p') (q p' (rs1.fresh np))⟩
/-- len(set(a list of unlike ints)) -/
def uLenSetI (ta : TE2) : TE2 := fun τ S Q => ta τ S fun d S1 => ∃ ns : List Int, listOf S1 d = some (ns.map D.int) ∧ ns.Nodup ∧ ns.length ≤ 4000 ∧ Q (.int ns.length) S1
/-- len(set(a list of tuples of ints)) -/
def tLenSetT (K : PySem.W.Frag) (ta : TE) : TE := fun σ H Q => ta σ H fun x H1 => ∃ (l : Addr) (ks : List (Addr × List Int)), x = V.ref l ∧ SqL K H1 l (ks.map fun p => V.ref p.1) ∧ (∀ p ∈ ks, SqT K H1 p.1 (p.2.map V.int)) ∧ ks.length < 64 ∧
  ∀ n : List (List Int), n.Nodup → (∀ k, k ∈ n ↔ k ∈ ks.map (·.2)) → Q (.int n.length) H1
theorem pe_lenSetT {a : Expr} {ta : TE} (hc : X.calm = true) (hu : X.A.units + 64 < cLine) (hg : Gl X "len") (hm : X.mg "len" = none) (hg2 : Gl X "set") (hm2 : X.mg "set" = none) (ha : PE X a ta)
    (na : starEach [a] X.env = (false, eval a X.env) :: starEach [] X.env := by rfl) : PE X (.Call (.Name "len" p) [.Call (.Name "set" p2) [a] [] q] [] pos) (tLenSetT X.K ta) := by
  refine ⟨fun pins s σ H Q I h => ?_⟩
  refine Call_ (ld_blt I hg hm PySem.boot_len ?_)
  refine PyProof.Rows.callWith_builtin1 (PyProof.Rows.args_cons ?_ rfl) rfl rfl
  refine Call_ (ld_blt I hg2 hm2 PyProof.Rows.boot_set ?_)
  refine PyProof.Rows.callWith_type1 (PyProof.Rows.args_cons (thn (ha.run pins s σ H _ I h) fun v s1 ⟨x, H1, I1, r1, q1⟩ => PyProof.Rows.args_nil ?_) na) na rfl
  obtain ⟨l, ks, rfl, hq, hk, h1, q1⟩ := q1
  cases r1
  obtain ⟨its, r, pl, hz⟩ := I1.list hq
  refine call_set_tups (P := X.prog) (w := X.w) ks (I1.ok.hd hc) pl.isList (by simpa using refs_of_vals r) (fun p hp => I1.isT (hk p hp)) h1 (by omega) fun h' tk L es ep t R g k => ?_
  refine PyProof.Rows.args_nil ?_
  have hsz : es.size = L.length := by
    have h := congrArg List.length R.rows
    unfold rowsOf at h
    rwa [Array.length_toList, List.length_map] at h
  obtain ⟨o, ho, hex, hd⟩ := R.ob
  have I2 : Inv X pins σ H1 { s1 with heap := h', toks := tk } := I1.kept fun b o e => k b o e
  have hpl : t.place.size = L.length := by rw [R.tab.sz, List.length_map]
  have hf : t.fits es.size = true := by
    unfold SetTable.fits SetTable.fill
    rw [hsz, hpl, R.tab.dm]
    have := R.room
    simp
    omega
  refine call_len_set ho hex hd hf (by rw [hsz]; have := R.few; omega) ⟨.int (L.map (·.2)).length, H1, I2.tok _, ⟨_, by rw [hsz, List.length_map]⟩, q1 (L.map (·.2)) R.nd fun k => ⟨fun hk => ?_, fun hk => ?_⟩⟩
  · obtain ⟨p, hp, rfl⟩ := List.mem_map.mp hk
    exact List.mem_map.mpr ⟨p, List.mem_of_mem_take (g.sub p hp), rfl⟩
  · obtain ⟨p, hp, rfl⟩ := List.mem_map.mp hk
    exact g.all p (by rw [List.take_length]; exact hp)
def uLenSetT (ta : TE2) : TE2 := fun τ S Q => ta τ S fun d S1 => ∃ ks : List (List Int), listOf S1 d = some (ks.map fun k => D.tup (k.map D.int)) ∧ ks.length < 64 ∧ ∀ n : List (List Int), n.Nodup → (∀ k, k ∈ n ↔ k ∈ ks) → Q (.int n.length) S1
theorem dvs_tups {K : PySem.W.Frag} {H : Hp} : ∀ {ks : List (List Int)} {vs : List V}, Dvs K H (ks.map fun k => D.tup (k.map D.int)) vs → ∃ ps : List (Addr × List Int), vs = ps.map (fun p => V.ref p.1) ∧ (∀ p ∈ ps, SqT K H p.1 (p.2.map V.int)) ∧ ps.map (·.2) = ks
  | [], _, h => by cases h; exact ⟨[], rfl, fun _ h => (by cases h), rfl⟩
  | k :: ks, _, h => by
    cases h with
    | cons h1 h2 =>
      obtain ⟨ps, rfl, hps, e⟩ := dvs_tups h2
      cases h1 with
      | tup h3 h4 =>
        obtain rfl := h4.ints_of
        refine ⟨(_, k) :: ps, rfl, fun p hp => ?_, by rw [List.map_cons, e]⟩
        rcases List.mem_cons.mp hp with rfl | hp
        · exact h3
        · exact hps p hp
theorem q_lenSetT {k : Nat} (hc : X.calm = true) (hr : Room k X.A) (hg : Gl X "len") (hm : X.mg "len" = none) (hg2 : Gl X "set") (hm2 : X.mg "set" = none) (ha : QE X e ta)
    (na : starEach [e] X.env = (false, eval e X.env) :: starEach [] X.env := by rfl) : QE X (.Call (.Name "len" p) [.Call (.Name "set" p2) [e] [] q] [] pos) (uLenSetT ta) := PE.wk (pe_lenSetT hc (by have := Room.u65 hr; omega) hg hm hg2 hm2 ha na) fun σ H Q ⟨τ, S, Q2, rl, rs, t, k⟩ =>
  ⟨τ, S, _, rl, rs, t, fun d v S1 H1 g1 rs1 dv1 ⟨ks, h, hl, t1⟩ => by
    obtain ⟨p, us, rfl, hq, r⟩ := list_sq rs1 dv1 h
    obtain ⟨ps, rfl, hps, rfl⟩ := dvs_tups r
    exact ⟨p, ps, rfl, hq, hps, by rwa [List.length_map] at hl, fun n nd hn => k _ _ _ _ g1 rs1 (.int _) (t1 n nd hn)⟩⟩
end
/-! ### sorted of pairs of small numbers -/
theorem perm_lift {α β : Type} {f : α → β} {ys zs : List β} (h : ys.Perm zs) : ∀ xs : List α, zs = xs.map f → ∃ xs' : List α, xs'.Perm xs ∧ xs'.map f = ys := by
  induction h with
  | nil =>
    intro xs e
    cases xs with
    | nil => exact ⟨[], .nil, rfl⟩
    | cons _ _ => cases e
  | cons x _ ih =>
    intro xs e
    cases xs with
    | nil => cases e
    | cons a r =>
      rw [List.map_cons] at e
      have e1 := (List.cons.inj e).1
      have e2 := (List.cons.inj e).2
      subst e1
      obtain ⟨r', h1, h2⟩ := ih r e2
      exact ⟨a :: r', .cons a h1, by rw [List.map_cons, h2]⟩
  | swap x y l =>
    intro xs e
    cases xs with
    | nil => cases e
    | cons a r =>
      rw [List.map_cons] at e
      have e1 := (List.cons.inj e).1
      have e2 := (List.cons.inj e).2
      subst e1
      cases r with
      | nil => cases e2
      | cons b r =>
        rw [List.map_cons] at e2
        have e3 := (List.cons.inj e2).1
        have e4 := (List.cons.inj e2).2
        subst e3 e4
        exact ⟨b :: a :: r, .swap a b r, rfl⟩
  | trans _ _ ih1 ih2 =>
    intro xs e
    obtain ⟨x1, h1, e1⟩ := ih2 xs e
    obtain ⟨x2, h2, e2⟩ := ih1 x1 e1.symm
    exact ⟨x2, h2.trans h1, e2⟩
@[reducible] def dP (p : Nat × Nat) : D := .tup [.int (p.1 : Int), .int (p.2 : Int)]
def lexP (p q : Nat × Nat) : Prop := p.1 < q.1 ∨ (p.1 = q.1 ∧ p.2 ≤ q.2)
theorem lexP_anti {p q : Nat × Nat} (h : lexP p q) (k : lexP q p) : p = q := by
  unfold lexP at *
  exact Prod.ext (by omega) (by omega)
def rSortedP2 : List D → Sto → VK2 → Prop
  | [d], S, Q => ∃ ps : List (Nat × Nat), listOf S d = some (ps.map dP) ∧ ps.length < 64 ∧ (∀ p ∈ ps, p.1 < 1000 ∧ p.2 < 1000) ∧ ∀ qs : List (Nat × Nat), qs.Perm ps → qs.Pairwise lexP → ∀ a, S a = none → Q (.ref a) (ups S a (.lst (qs.map dP)))
  | _, _, _ => False
theorem z_sortedP {S : Sto} {Q : VK2} {d : D} : rSortedP2 [d] S Q = ∃ ps : List (Nat × Nat), listOf S d = some (ps.map dP) ∧ ps.length < 64 ∧ (∀ p ∈ ps, p.1 < 1000 ∧ p.2 < 1000) ∧ ∀ qs : List (Nat × Nat), qs.Perm ps → qs.Pairwise lexP → ∀ a, S a = none → Q (.ref a) (ups S a (.lst (qs.map dP))) := rfl
theorem dvs_pairs {K : PySem.W.Frag} {H : Hp} : ∀ {ps : List (Nat × Nat)} {vs : List V}, Dvs K H (ps.map dP) vs → ∃ ks : List (Addr × (Nat × Nat)), vs = ks.map (fun k => V.ref k.1) ∧ (∀ k ∈ ks, SqT K H k.1 [V.int (k.2.1 : Int), V.int (k.2.2 : Int)]) ∧ ks.map (·.2) = ps
  | [], _, h => by cases h; exact ⟨[], rfl, fun _ h => (by cases h), rfl⟩
  | p :: ps, _, h => by
    cases h with
    | cons h1 h2 =>
      obtain ⟨ks, rfl, hk, rfl⟩ := dvs_pairs h2
      cases h1 with
      | tup h3 h4 =>
        cases h4 with
        | cons a b =>
          cases a
          cases b with
          | cons c d =>
            cases c; cases d
            refine ⟨(_, p) :: ks, rfl, fun k hm => ?_, rfl⟩
            rcases List.mem_cons.mp hm with rfl | hm
            · exact h3
            · exact hk k hm
theorem pairs_dvs {K : PySem.W.Frag} {H : Hp} : ∀ {ks : List (Addr × (Nat × Nat))}, (∀ k ∈ ks, SqT K H k.1 [V.int (k.2.1 : Int), V.int (k.2.2 : Int)]) → Dvs K H ((ks.map (·.2)).map dP) (ks.map fun k => V.ref k.1)
  | [], _ => .nil
  | k :: ks, h => .cons (.tup (h k (by simp)) (.cons (.int _) (.cons (.int _) .nil))) (pairs_dvs fun x hx => h x (List.mem_cons_of_mem _ hx))
theorem srv_sortedP {K : PySem.W.Frag} : SrvC K (rSortU K 2 1000) rSortedP2 := by
  intro ds vs S H Q Q2 rs dvs t k
  unfold rSortedP2 at t
  split at t
  · obtain ⟨ps, h, hl, hb, q⟩ := t
    cases dvs with
    | cons h1 h2 =>
      cases h2
      obtain ⟨p, us, rfl, hq, r⟩ := list_sq rs h1 h
      obtain ⟨ks, rfl, hk, rfl⟩ := dvs_pairs r
      have bd : ∀ x ∈ ks, TS.Bd 1000 [(x.2.1 : Int), (x.2.2 : Int)] := fun x hx m hm => by
        have := hb x.2 (List.mem_map.mpr ⟨x, hx, rfl⟩)
        simp only [List.mem_cons, List.not_mem_nil, or_false] at hm
        rcases hm with rfl | rfl <;> omega
      refine ⟨p, _, rfl, hq, by rw [List.length_map] at hl ⊢; exact hl, fun x hx => ?_, fun ys a pm pw na => ?_⟩
      · obtain ⟨y, hy, rfl⟩ := List.mem_map.mp hx
        exact ⟨[(y.2.1 : Int), (y.2.2 : Int)], ⟨y.1, rfl, hk y hy⟩, rfl, bd y hy⟩
      · obtain ⟨ks', pm', rfl⟩ := perm_lift pm ks rfl
        have hm : ∀ x ∈ ks', x ∈ ks := fun x hx => pm'.mem_iff.mp hx
        have hk' : ∀ x ∈ ks', SqT K H x.1 [V.int (x.2.1 : Int), V.int (x.2.2 : Int)] := fun x hx => hk x (hm x hx)
        refine k _ _ _ _ (good_new na) (rs.new (o := .lst ((ks'.map (·.2)).map dP)) na ⟨_, upd_same, (pairs_dvs hk').new na⟩) (.ref a) (q _ (pm'.map _) ?_ a (rs.fresh na))
        rw [List.pairwise_map] at pw ⊢
        refine List.Pairwise.imp_of_mem (fun {x y} hx hy h => ?_) pw
        have := h [(x.2.1 : Int), (x.2.2 : Int)] [(y.2.1 : Int), (y.2.2 : Int)] ⟨x.1, rfl, hk' x hx⟩ ⟨y.1, rfl, hk' y hy⟩
        have := code_lex (bd x (hm x hx)) (bd y (hm y hy)) this
        unfold lexP
        omega
  · exact t.elim
section
variable {X : Cx} {p pos : Pos} {e : Expr} {t : TA2}
theorem q_sortedP (hm : X.mg "sorted" = none) (hg : Gl X "sorted") (ha : QA X [e] t) (he : starEach [e] X.env = (false, eval e X.env) :: starEach [] X.env := by rfl) : QE X (.Call (.Name "sorted" p) [e] [] pos) (uCB rSortedP2 t) :=
  q_callB (cr_sortT (by decide)) srv_sortedP hm PyProof.Rows.boot_sorted hg ha (he := he)
end
/-- two sorted lists of the same pairs -/
theorem sortP_eq : ∀ {xs ys : List (Nat × Nat)}, xs.Perm ys → xs.Pairwise lexP → ys.Pairwise lexP → xs = ys
  | [], ys, h, _, _ => by rw [List.nil_perm.mp h]
  | x :: xs, ys, h, p, q => by
    cases ys with
    | nil => exact absurd h (by simp)
    | cons y ys =>
      have e : x = y := by
        obtain ⟨p1, p2⟩ := List.pairwise_cons.mp p
        obtain ⟨q1, q2⟩ := List.pairwise_cons.mp q
        rcases List.mem_cons.mp (h.mem_iff.mp (List.mem_cons_self)) with e | e
        · exact e
        · rcases List.mem_cons.mp (h.mem_iff.mpr (List.mem_cons_self)) with e' | e'
          · exact e'.symm
          · exact lexP_anti (p1 y e') (q1 x e)
      subst e
      rw [sortP_eq (List.Perm.cons_inv h) (List.pairwise_cons.mp p).2 (List.pairwise_cons.mp q).2]
end DL
namespace DL
open PySem PySem.Spec PyProof.Rows L2
/-! ### numbers: a fraction in lowest terms -/
@[reducible] def eQ (q : Rat) : D := .tup [.int q.num, .int (q.den : Int)]
@[reducible] def eN (i : Nat) : D := .int (i : Int)
def Nz (n : Nat) (q : Rat) : Prop := Sz n q.num ∧ Sz n (q.den : Int)
theorem Nz.le {m n : Nat} {q : Rat} (h : Nz m q) (l : m ≤ n) : Nz n q := ⟨h.1.le l, h.2.le l⟩
theorem Sz.mul {m n : Nat} {i j : Int} (h : Sz m i) (k : Sz n j) : Sz (m + n) (i * j) := by
  unfold Sz at *
  rw [Int.natAbs_mul, Nat.pow_add]
  exact Nat.mul_lt_mul'' h k
theorem Sz.add {m n : Nat} {i j : Int} (h : Sz m i) (k : Sz n j) : Sz (m + n) (i + j) := by
  unfold Sz at *
  have h1 : (i + j).natAbs ≤ i.natAbs + j.natAbs := Int.natAbs_add_le i j
  have hp : 1 ≤ 2 ^ m := Nat.one_le_two_pow
  have hq : 1 ≤ 2 ^ n := Nat.one_le_two_pow
  rw [Nat.pow_add]
  obtain ⟨p, ep⟩ : ∃ p, 2 ^ m = p + 1 := ⟨2 ^ m - 1, by omega⟩
  obtain ⟨q, eq⟩ : ∃ q, 2 ^ n = q + 1 := ⟨2 ^ n - 1, by omega⟩
  rw [ep] at h ⊢
  rw [eq] at k ⊢
  have : (p + 1) * (q + 1) = p * q + p + q + 1 := by rw [Nat.add_mul, Nat.mul_add]; omega
  have hpq : 0 ≤ p * q := Nat.zero_le _
  omega
theorem Sz.neg {m : Nat} {i : Int} (h : Sz m i) : Sz m (-i) := by unfold Sz at *; rwa [Int.natAbs_neg]
theorem Sz.sub {m n : Nat} {i j : Int} (h : Sz m i) (k : Sz n j) : Sz (m + n) (i - j) := by
  rw [Int.sub_eq_add_neg]; exact h.add k.neg
theorem Sz.of_le {m : Nat} {i j : Int} (h : Sz m j) (l : i.natAbs ≤ j.natAbs) : Sz m i := Nat.lt_of_le_of_lt l h
theorem Sz.lit {m : Nat} {i : Int} (h : i.natAbs < 2 ^ m) : Sz m i := h
theorem Nz.lit {m : Nat} {i : Int} (h : i.natAbs < 2 ^ (m + 1)) : Nz (m + 1) (i : Rat) := ⟨h, by show (1 : Int).natAbs < 2 ^ (m + 1); exact Nat.one_lt_two_pow (Nat.succ_ne_zero m)⟩
theorem den_pos (q : Rat) : 0 < (q.den : Int) := Int.natCast_pos.mpr (Nat.pos_of_ne_zero q.den_nz)
theorem den_ne (q : Rat) : (q.den : Int) ≠ 0 := Int.ne_of_gt (den_pos q)
theorem quo_eq (t b : Int) : (t : Rat) / (b : Rat) = Rat.divInt t b := (Rat.divInt_eq_div t b).symm
/-- what the division by the greatest common divisor gives -/
theorem low_num {t b : Int} (hb : b ≠ 0) : t.fdiv (if b < 0 then 0 - (Int.gcd t b : Int) else (Int.gcd t b : Int)) = ((t : Rat) / (b : Rat)).num := by
  rw [quo_eq, Rat.num_divInt, Int.gcd_comm b t]
  have hg : (0 : Int) < Int.gcd t b := Int.natCast_pos.mpr (Int.gcd_pos_of_ne_zero_right t hb)
  have hd : (Int.gcd t b : Int) ∣ t := Int.gcd_dvd_left t b
  obtain ⟨c, hc⟩ := hd
  generalize (Int.gcd t b : Int) = g at *
  subst hc
  by_cases h : b < 0
  · rw [if_pos h, Int.sign_eq_neg_one_of_neg h, Int.zero_sub]
    rw [show g * c = (-g) * (-c) by rw [Int.neg_mul_neg], Int.mul_fdiv_cancel_left _ (by omega)]
    rw [show (-1 : Int) * (-g * -c) = g * (-c) by rw [Int.neg_mul, Int.one_mul, Int.neg_mul, Int.neg_neg], Int.mul_ediv_cancel_left _ (by omega)]
  · rw [if_neg h, Int.sign_eq_one_of_pos (by omega), Int.one_mul, Int.mul_fdiv_cancel_left _ (by omega), Int.mul_ediv_cancel_left _ (by omega)]
theorem low_den {t b : Int} (hb : b ≠ 0) : b.fdiv (if b < 0 then 0 - (Int.gcd t b : Int) else (Int.gcd t b : Int)) = (((t : Rat) / (b : Rat)).den : Int) := by
  rw [quo_eq, Rat.den_divInt, Int.gcd_comm b t, if_neg hb, Int.natCast_ediv]
  have hg : (0 : Int) < Int.gcd t b := Int.natCast_pos.mpr (Int.gcd_pos_of_ne_zero_right t hb)
  have hd : (Int.gcd t b : Int) ∣ b := Int.gcd_dvd_right t b
  obtain ⟨c, hc⟩ := hd
  generalize (Int.gcd t b : Int) = g at *
  subst hc
  by_cases h : g * c < 0
  · rw [if_pos h, Int.zero_sub, Int.ofNat_natAbs_of_nonpos (by omega)]
    rw [show g * c = (-g) * (-c) by rw [Int.neg_mul_neg], Int.mul_fdiv_cancel_left _ (by omega)]
    rw [show -(-g * -c) = g * (-c) by rw [Int.neg_mul, Int.neg_neg], Int.mul_ediv_cancel_left _ (by omega)]
  · rw [if_neg h, Int.natAbs_of_nonneg (by omega), Int.mul_fdiv_cancel_left _ (by omega), Int.mul_ediv_cancel_left _ (by omega)]
theorem gcd_stepN (m n : Nat) : Nat.gcd n (m % n) = Nat.gcd m n := by rw [Nat.gcd_comm n, ← Nat.gcd_rec, Nat.gcd_comm]
theorem fmod_nat (m n : Nat) : (m : Int).fmod (n : Int) = ((m % n : Nat) : Int) := by
  rw [Int.fmod_eq_emod_of_nonneg _ (Int.natCast_nonneg n), Int.natCast_emod]
theorem quo_num_le (t b : Int) : ((t : Rat) / (b : Rat)).num.natAbs ≤ t.natAbs := by
  rw [quo_eq, Rat.num_divInt, Int.natAbs_ediv_of_dvd]
  · rw [Int.natAbs_mul]
    refine Nat.le_trans (Nat.div_le_self _ _) ?_
    have : b.sign.natAbs ≤ 1 := by rw [Int.natAbs_sign]; split <;> omega
    exact Nat.le_trans (Nat.mul_le_mul_right _ this) (by omega)
  · exact Int.dvd_mul_of_dvd_right (Int.gcd_dvd_right _ _)
theorem quo_den_le {t b : Int} (hb : b ≠ 0) : ((t : Rat) / (b : Rat)).den ≤ b.natAbs := by
  rw [quo_eq, Rat.den_divInt, if_neg hb]
  exact Nat.div_le_self _ _
theorem q_self (q : Rat) : (q.num : Rat) / ((q.den : Int) : Rat) = q := by rw [quo_eq, Rat.num_divInt_den]
theorem add_quo (a b : Rat) : ((a.num * (b.den : Int) + b.num * (a.den : Int) : Int) : Rat) / ((a.den : Int) * (b.den : Int) : Int) = a + b := by
  rw [quo_eq, Rat.add_def', ← Int.natCast_mul, Rat.divInt_ofNat]
theorem sub_quo (a b : Rat) : ((a.num * (b.den : Int) - b.num * (a.den : Int) : Int) : Rat) / ((a.den : Int) * (b.den : Int) : Int) = a - b := by
  rw [quo_eq, Rat.sub_def', ← Int.natCast_mul, Rat.divInt_ofNat]
theorem mul_quo (a b : Rat) : ((a.num * b.num : Int) : Rat) / ((a.den : Int) * (b.den : Int) : Int) = a * b := by
  rw [quo_eq, Rat.mul_def', ← Int.natCast_mul, Rat.divInt_ofNat]
theorem q_nn (q : Rat) : (q.num : Rat) = q * ((q.den : Int) : Rat) := by
  have h : ((q.den : Int) : Rat) ≠ 0 := by
    have := den_ne q
    exact fun z => this (by exact_mod_cast z)
  have := q_self q
  grind
theorem den_neR (q : Rat) : ((q.den : Int) : Rat) ≠ 0 := fun z => den_ne q (by exact_mod_cast z)
theorem num_neR {q : Rat} (h : q ≠ 0) : (q.num : Rat) ≠ 0 := fun z => h (Rat.num_eq_zero.mp (by exact_mod_cast z))
theorem div_quo (a b : Rat) (hb : b ≠ 0) : ((a.num * (b.den : Int) : Int) : Rat) / ((a.den : Int) * b.num : Int) = a / b := by
  rw [Rat.intCast_mul, Rat.intCast_mul]
  have h1 := q_nn a
  have h2 := q_nn b
  have h3 := den_neR a
  have h4 := den_neR b
  have h5 := num_neR hb
  grind
theorem lt_quo (a b : Rat) : (decide (a.num * (b.den : Int) < b.num * (a.den : Int))) = decide (a < b) := decide_eq_decide.mpr (Rat.lt_iff a b).symm
theorem Nz.quo2 {n : Nat} {t b : Int} (hb : b ≠ 0) (h : Sz n t) (k : Sz n b) : Nz n ((t : Rat) / (b : Rat)) :=
  ⟨Sz.of_le h (quo_num_le t b), Sz.of_le (j := b) k (by rw [Int.natAbs_natCast]; exact quo_den_le hb)⟩
theorem Sz.add1 {n : Nat} {i j : Int} (h : Sz n i) (k : Sz n j) : Sz (n + 1) (i + j) := by
  unfold Sz at *
  rw [Nat.pow_succ]
  have := Int.natAbs_add_le i j
  omega
theorem Nz.add {m n : Nat} {a b : Rat} (h : Nz m a) (k : Nz n b) : Nz (m + n + 1) (a + b) := by
  rw [← add_quo]
  exact Nz.quo2 (Int.mul_ne_zero (den_ne a) (den_ne b)) ((h.1.mul k.2).add1 ((k.1.mul h.2).le (by omega))) ((h.2.mul k.2).le (by omega))
theorem Nz.sub {m n : Nat} {a b : Rat} (h : Nz m a) (k : Nz n b) : Nz (m + n + 1) (a - b) := by
  rw [← sub_quo, Int.sub_eq_add_neg]
  exact Nz.quo2 (Int.mul_ne_zero (den_ne a) (den_ne b)) ((h.1.mul k.2).add1 (((k.1.mul h.2).le (by omega)).neg)) ((h.2.mul k.2).le (by omega))
theorem Nz.mul {m n : Nat} {a b : Rat} (h : Nz m a) (k : Nz n b) : Nz (m + n) (a * b) := by
  rw [← mul_quo]
  exact Nz.quo2 (Int.mul_ne_zero (den_ne a) (den_ne b)) (h.1.mul k.1) (h.2.mul k.2)
theorem Nz.div {m n : Nat} {a b : Rat} (hb : b ≠ 0) (h : Nz m a) (k : Nz n b) : Nz (m + n) (a / b) := by
  rw [← div_quo a b hb]
  have : b.num ≠ 0 := fun z => hb (Rat.num_eq_zero.mp z)
  exact Nz.quo2 (Int.mul_ne_zero (den_ne a) this) (h.1.mul k.2) ((h.2.mul k.1))
theorem Nz.neg {m : Nat} {a : Rat} (h : Nz m a) : Nz m (-a) := ⟨by show Sz m (-a.num); exact h.1.neg, h.2⟩
/-! ### comparing what is encoded -/
theorem shaped_of {p : PyData} (h : p.canLay0 = true) (d : p.depth ≤ 64) : SeqAt.shaped p = true := by
  show (p.canLay0 && decide (p.depth ≤ 64)) = true
  rw [h, decide_eq_true d]; rfl
class Enc (α : Type) [DecidableEq α] where
  enc : α → D
  py : α → PyData
  isPy : ∀ S a, Py S (enc a) (py a)
  eqv : ∀ a b, PyData.eqv (py a) (py b) = decide (a = b)
  lay : ∀ a, (py a).canLay0 = true
  dep : Nat
  dep_le : ∀ a, (py a).depth ≤ dep
theorem beq_dec {α : Type} [BEq α] [LawfulBEq α] [DecidableEq α] (a b : α) : (a == b) = decide (a = b) := by
  rw [Bool.eq_iff_iff, beq_iff_eq, decide_eq_true_eq]
instance : Enc Int where
  enc := .int
  py := .int
  isPy _ a := .int a
  eqv a b := by simp only [PyData.eqv]; exact beq_dec a b
  lay a := by simp [PyData.canLay0]
  dep := 0
  dep_le _ := Nat.le_refl _
instance : Enc Bool where
  enc := .bl
  py := .bool
  isPy _ a := .bl a
  eqv a b := by simp only [PyData.eqv]; exact beq_dec a b
  lay a := by simp [PyData.canLay0]
  dep := 0
  dep_le _ := Nat.le_refl _
instance : Enc Rat where
  enc := eQ
  py q := .tuple [.int q.num, .int (q.den : Int)]
  isPy _ a := .tup (.cons (.int _) (.cons (.int _) .nil))
  eqv a b := by
    simp only [PyData.eqv, PyData.eqvAll]
    rw [Bool.and_true, beq_dec, beq_dec, ← Bool.decide_and]
    refine decide_eq_decide.mpr ⟨fun h => Rat.ext h.1 (by exact_mod_cast h.2), fun h => by rw [h]; exact ⟨rfl, rfl⟩⟩
  lay a := by simp [PyData.canLay0, PyData.canLayAll0]
  dep := 1
  dep_le a := by simp [PyData.depth, PyData.depthAll]
section
variable {α β : Type} [DecidableEq α] [Enc α] [DecidableEq β] [Enc β]
@[reducible] def eP (p : α × β) : D := .tup [Enc.enc p.1, Enc.enc p.2]
instance : Enc (α × β) where
  enc := eP
  py p := .tuple [Enc.py p.1, Enc.py p.2]
  isPy S p := .tup (.cons (Enc.isPy S p.1) (.cons (Enc.isPy S p.2) .nil))
  eqv a b := by
    simp only [PyData.eqv, PyData.eqvAll]
    rw [Bool.and_true, Enc.eqv, Enc.eqv, ← Bool.decide_and]
    exact decide_eq_decide.mpr ⟨fun h => Prod.ext h.1 h.2, fun h => by rw [h]; exact ⟨rfl, rfl⟩⟩
  lay p := by simp [PyData.canLay0, PyData.canLayAll0, Enc.lay]
  dep := max (Enc.dep α) (Enc.dep β) + 1
  dep_le p := by
    simp only [PyData.depth, PyData.depthAll]
    have h1 := Enc.dep_le p.1
    have h2 := Enc.dep_le p.2
    omega
theorem eqD {S : Sto} (a b : α) (h : Enc.dep α ≤ 64 := by decide) : EqD S (Enc.enc a) (Enc.enc b) (decide (a = b)) :=
  ⟨_, _, Enc.isPy S a, Enc.isPy S b, shaped_of (Enc.lay a) (Nat.le_trans (Enc.dep_le a) h), shaped_of (Enc.lay b) (Nat.le_trans (Enc.dep_le b) h), (Enc.eqv a b).symm⟩
theorem pys_enc {S : Sto} : ∀ (xs : List α), Pys S (xs.map Enc.enc) (xs.map Enc.py)
  | [] => .nil
  | x :: xs => .cons (Enc.isPy S x) (pys_enc xs)
theorem eqvAll_enc : ∀ xs ys : List α, PyData.eqvAll (xs.map Enc.py) (ys.map Enc.py) = decide (xs = ys)
  | [], [] => by simp [PyData.eqvAll]
  | [], _ :: _ => by simp [PyData.eqvAll]
  | _ :: _, [] => by simp [PyData.eqvAll]
  | x :: xs, y :: ys => by
    simp only [List.map_cons, PyData.eqvAll]
    rw [Enc.eqv x y, eqvAll_enc xs ys, ← Bool.decide_and]
    exact decide_eq_decide.mpr (by rw [List.cons.injEq])
theorem lay_enc : ∀ xs : List α, PyData.canLayAll0 (xs.map Enc.py) = true
  | [] => by simp [PyData.canLayAll0]
  | x :: xs => by simp [PyData.canLayAll0, Enc.lay x, lay_enc xs]
theorem depth_enc : ∀ xs : List α, PyData.depthAll (xs.map Enc.py) ≤ Enc.dep α
  | [] => by simp [PyData.depthAll]
  | x :: xs => by
    have h1 := depth_enc xs
    have h2 := Enc.dep_le x
    simp only [List.map_cons, PyData.depthAll]
    omega
theorem shaped_list (xs : List α) (h : Enc.dep α + 1 ≤ 64) : SeqAt.shaped (.list (xs.map Enc.py)) = true :=
  shaped_of (by simp only [PyData.canLay0]; exact lay_enc xs) (by simp only [PyData.depth]; have := depth_enc xs; omega)
theorem py_list {S : Sto} {d : D} {xs : List α} (h : listOf S d = some (xs.map Enc.enc)) : Py S d (.list (xs.map Enc.py)) := by
  cases d with
  | ref a => exact .lst (ref_list h) (pys_enc xs)
  | fl ds => obtain rfl := Option.some.inj h; exact .fl (pys_enc xs)
  | _ => cases h
/-- two lists of alike things -/
theorem eqL {S : Sto} {d e : D} (xs ys : List α) (h1 : listOf S d = some (xs.map Enc.enc)) (h2 : listOf S e = some (ys.map Enc.enc)) (h : Enc.dep α + 1 ≤ 64 := by decide) : EqD S d e (decide (xs = ys)) :=
  ⟨_, _, py_list h1, py_list h2, shaped_list xs h, shaped_list ys h, by simp only [PyData.eqv]; exact (eqvAll_enc xs ys).symm⟩
theorem any_enc (x : α) : ∀ xs : List α, (xs.map Enc.py).any (fun z => PyData.eqv z (Enc.py x)) = decide (x ∈ xs)
  | [] => by simp
  | y :: ys => by
    rw [List.map_cons, List.any_cons, any_enc x ys, Enc.eqv, ← Bool.decide_or]
    exact decide_eq_decide.mpr (by rw [List.mem_cons]; exact or_congr ⟨Eq.symm, Eq.symm⟩ Iff.rfl)
theorem inL {S : Sto} {e : D} (x : α) (xs : List α) (h1 : listOf S e = some (xs.map Enc.enc)) (h : Enc.dep α + 1 ≤ 64 := by decide) : InD S (Enc.enc x) e (decide (x ∈ xs)) :=
  ⟨_, _, Enc.isPy S x, py_list h1, shaped_of (Enc.lay x) (Nat.le_trans (Enc.dep_le x) (by omega)), shaped_list xs h, (any_enc x xs).symm⟩
end
/-! ### shared by the claims -/
theorem abs_nat (i : Int) : (if i < 0 then -i else i) = (i.natAbs : Int) := by split <;> omega
theorem gcd_div_ok {t b : Int} (hb : b ≠ 0) (hs : Sz 9000 b) : DivOk (Int.gcd t b : Int) := by
  refine ⟨Int.ne_of_gt (Int.natCast_pos.mpr (Int.gcd_pos_of_ne_zero_right t hb)), Sz.of_le hs ?_⟩
  rw [Int.natAbs_natCast]
  exact Nat.le_of_dvd (by omega) (Nat.gcd_dvd_right _ _)
theorem gcd_div_neg {t b : Int} (hb : b ≠ 0) (hs : Sz 9000 b) : DivOk (0 - (Int.gcd t b : Int)) := by
  obtain ⟨h1, h2⟩ := gcd_div_ok (t := t) hb hs
  exact ⟨by omega, by rw [Int.zero_sub]; exact h2.neg⟩
theorem divOk_lit {j : Int} (h : j ≠ 0) (k : j.natAbs < 2 ^ 64) : DivOk j := ⟨h, (Sz.lit (m := 64) k).le (by decide)⟩
theorem Nz.mulOk {m n : Nat} {i j : Int} (h : Sz m i) (k : Sz n j) (l : m + n < 900000 := by decide) : MulOk i j := .inl ⟨m, n, h, k, l⟩
theorem Nz.prod {m n : Nat} {i j : Int} (h : Sz m i) (k : Sz n j) (l : m + n ≤ 9000 := by decide) : Sz 9000 (i * j) := (h.mul k).le l
theorem fmod_lt {a m : Int} (h : 0 < m) : 0 ≤ a.fmod m ∧ a.fmod m < m := ⟨Int.fmod_nonneg_of_pos _ h, Int.fmod_lt_of_pos _ h⟩
theorem Sz.fmod {n : Nat} {a m : Int} (h : 0 < m) (s : Sz n m) : Sz n (a.fmod m) := Sz.of_le s (by have := fmod_lt (a := a) h; omega)
/-- a line: start and slope -/
@[reducible] def eL (l : Rat × Rat) : D := .tup [eQ l.1, eQ l.2]
def Lz (n : Nat) (l : Rat × Rat) : Prop := Nz n l.1 ∧ Nz n l.2
theorem Lz.le {m n : Nat} {l : Rat × Rat} (h : Lz m l) (k : m ≤ n) : Lz n l := ⟨h.1.le k, h.2.le k⟩
/-- where it is then -/
def at_ (l : Rat × Rat) (t : Rat) : Rat := l.1 + l.2 * t
theorem spot_quo (a b t : Rat) : ((a.num * (b.den : Int) * (t.den : Int) + b.num * t.num * (a.den : Int) : Int) : Rat) / ((a.den : Int) * (b.den : Int) * (t.den : Int) : Int) = a + b * t := by
  rw [Rat.intCast_add, Rat.intCast_mul, Rat.intCast_mul, Rat.intCast_mul, Rat.intCast_mul, Rat.intCast_mul, Rat.intCast_mul]
  have h1 := q_nn a
  have h2 := q_nn b
  have h3 := q_nn t
  have h4 := den_neR a
  have h5 := den_neR b
  have h6 := den_neR t
  grind
/-- the pen -/
@[reducible] def penO (sc : List Int) (x y : Int) : O := .lst [.fl (sc.map D.int), .int x, .int y]
def PenA (S : Sto) (a : Addr) (sc : List Int) : Prop := ∃ x y, S a = some (penO sc x y)
theorem pen_again {S : Sto} {a : Addr} {sc : List Int} {x y : Int} : PenA (ups S a (penO sc x y)) a sc := ⟨x, y, ups_same⟩
theorem PenA.ne {S : Sto} {a p : Addr} {sc : List Int} (h : PenA S a sc) (n : S p = none) : a ≠ p := let ⟨_, _, e⟩ := h; ne_of_st e n
theorem PenA.new {S : Sto} {a p : Addr} {sc : List Int} {o : O} (h : PenA S a sc) (n : S p = none) : PenA (ups S p o) a sc := let ⟨x, y, e⟩ := h; ⟨x, y, by rw [ups_ne (ne_of_st e n)]; exact e⟩
theorem PenA.upd {S : Sto} {a p : Addr} {sc : List Int} {o : O} (h : PenA S a sc) (n : a ≠ p) : PenA (ups S p o) a sc := let ⟨x, y, e⟩ := h; ⟨x, y, by rw [ups_ne n]; exact e⟩
theorem atI_of {α : Type} {xs : List α} {i : Int} {x : α} (h0 : 0 ≤ i) (h : xs[i.toNat]? = some x) : atI xs i = some x := by
  have := atI_nat h
  rwa [show ((i.toNat : Nat) : Int) = i by omega] at this
theorem atI_map {α β : Type} {e : α → β} {xs : List α} {i : Int} (h0 : 0 ≤ i) (h1 : i < (xs.length : Int)) : ∃ x, xs[i.toNat]? = some x ∧ x ∈ xs ∧ atI (xs.map e) i = some (e x) := by
  have hl : i.toNat < xs.length := by omega
  refine ⟨xs[i.toNat], List.getElem?_eq_getElem hl, List.getElem_mem hl, atI_of h0 ?_⟩
  rw [List.getElem?_map, List.getElem?_eq_getElem hl]; rfl
theorem atI_ints {sc : List Int} {i : Int} (h0 : 0 ≤ i) (h1 : i < (sc.length : Int)) : ∃ c, atI (sc.map D.int) i = some (D.int c) := by
  obtain ⟨c, _, _, h⟩ := atI_map (e := D.int) h0 h1
  exact ⟨c, h⟩
theorem atI_get2 {a b : D} {w : Int} (h0 : 0 ≤ w) (h1 : w < 2) : atI [a, b] w = some (if w = 0 then a else b) := by
  rcases (show w = 0 ∨ w = 1 by omega) with rfl | rfl <;> rfl
/-- what is new is let go -/
theorem Sub.drop {S : Sto} {p : Addr} {o : O} (n : S p = Option.none) : Sub S (ups S p o) := (Sub.refl S).new n
end DL
namespace DL
open PySem PySem.Spec PyProof.Rows L2
/-! ### answers of == as equations -/
class EncU (α : Type) [DecidableEq α] [Enc α] : Prop where
  uniq : ∀ (S : Sto) (a : α) (p : PyData), Py S (Enc.enc a) p → p = Enc.py a
  ok : Enc.dep α ≤ 60 := by decide
instance : EncU Int where
  uniq S a p h := by cases h; rfl
instance : EncU Bool where
  uniq S a p h := by cases h; rfl
instance : EncU Rat where
  uniq S a p h := by
    cases h with
    | tup h => cases h with
      | cons h1 h2 => cases h1; cases h2 with
        | cons h3 h4 => cases h3; cases h4; rfl
instance : Enc Nat where
  enc n := .int (n : Int)
  py n := .int (n : Int)
  isPy _ a := .int a
  eqv a b := by
    simp only [PyData.eqv]; rw [beq_dec]; exact decide_eq_decide.mpr (by omega)
  lay a := by simp [PyData.canLay0]
  dep := 0
  dep_le _ := Nat.le_refl _
instance : EncU Nat where
  uniq S a p h := by cases h; rfl
section
variable {α β : Type} [DecidableEq α] [Enc α] [EncU α] [DecidableEq β] [Enc β] [EncU β]
theorem prod_uniq (S : Sto) (a : α × β) (p : PyData) (h : Py S (Enc.enc a) p) : p = Enc.py a := by
  cases h with
    | tup h => cases h with
      | cons h1 h2 => cases h2 with
        | cons h3 h4 =>
          cases h4
          rw [EncU.uniq S a.1 _ h1, EncU.uniq S a.2 _ h3]; rfl
theorem eqD_iff {S : Sto} (a b : α) (c : Bool) : EqD S (Enc.enc a) (Enc.enc b) c ↔ c = decide (a = b) := by
  constructor
  · rintro ⟨p, q, h1, h2, _, _, rfl⟩
    rw [EncU.uniq S a p h1, EncU.uniq S b q h2, Enc.eqv]
  · rintro rfl
    exact eqD a b (Nat.le_trans (EncU.ok (α := α)) (by decide))
theorem eqD_ex {S : Sto} {Q : Bool → Prop} (a b : α) : (∃ c, EqD S (Enc.enc a) (Enc.enc b) c ∧ Q c) = Q (decide (a = b)) := by
  apply propext
  constructor
  · rintro ⟨c, h, q⟩; rw [eqD_iff] at h; subst h; exact q
  · intro q; exact ⟨_, (eqD_iff a b _).mpr rfl, q⟩
end
instance : EncU (Rat × Rat) where
  uniq := prod_uniq
section
variable {S : Sto} {Q : VK2}
theorem z_eqQ {a b : Rat} : rEq (.tup [.int a.num, .int (a.den : Int)]) (.tup [.int b.num, .int (b.den : Int)]) S Q = Q (.bl (decide (a = b))) S := eqD_ex (Q := fun c => Q (.bl c) S) a b
theorem z_neQ {a b : Rat} : rNe (.tup [.int a.num, .int (a.den : Int)]) (.tup [.int b.num, .int (b.den : Int)]) S Q = Q (.bl (!decide (a = b))) S := eqD_ex (Q := fun c => Q (.bl (!c)) S) a b
theorem z_eqLL {a b c d : Rat} : rEq (.tup [.tup [.int a.num, .int (a.den : Int)], .tup [.int b.num, .int (b.den : Int)]]) (.tup [.tup [.int c.num, .int (c.den : Int)], .tup [.int d.num, .int (d.den : Int)]]) S Q = Q (.bl (decide ((a, b) = (c, d)))) S := eqD_ex (Q := fun c => Q (.bl c) S) (a, b) (c, d)
theorem z_neLL {a b c d : Rat} : rNe (.tup [.tup [.int a.num, .int (a.den : Int)], .tup [.int b.num, .int (b.den : Int)]]) (.tup [.tup [.int c.num, .int (c.den : Int)], .tup [.int d.num, .int (d.den : Int)]]) S Q = Q (.bl (!decide ((a, b) = (c, d)))) S := eqD_ex (Q := fun c => Q (.bl (!c)) S) (a, b) (c, d)
end
/-! ### None or a number -/
def eO : Option Rat → D
  | none => .non
  | some q => eQ q
theorem eO_none : eO none = .non := rfl
theorem eO_some (q : Rat) : eO (some q) = eQ q := rfl
theorem isNon_eO (o : Option Rat) : isNon (eO o) = o.isNone := by cases o <;> rfl
instance : Enc (Option Rat) where
  enc := eO
  py
    | none => .none
    | some q => Enc.py q
  isPy S a := by cases a with
    | none => exact .non
    | some q => exact Enc.isPy S q
  eqv a b := by
    cases a <;> cases b
    · simp [PyData.eqv]
    · rename_i q; simp [PyData.eqv, Enc.py]
    · rename_i q; simp [PyData.eqv, Enc.py]
    · rename_i p q; simp only [Enc.eqv]; exact decide_eq_decide.mpr (by simp)
  lay a := by cases a with
    | none => simp [PyData.canLay0]
    | some q => exact Enc.lay q
  dep := 1
  dep_le a := by cases a with
    | none => simp [PyData.depth]
    | some q => exact Enc.dep_le q
instance : EncU (Option Rat) where
  uniq S a p h := by
    cases a with
    | none => cases h; rfl
    | some q => exact EncU.uniq S q p h
section
variable {S : Sto} {Q : VK2}
theorem rEq_ne {x y : D} (hx : ∀ i, x ≠ .int i) (hb : ∀ i, x ≠ .bl i) (hs : ∀ i, x ≠ .str i) : rEq x y S Q = ∃ b, EqD S x y b ∧ Q (.bl b) S := by
  cases x <;> first | rfl | exact absurd rfl (hx _) | exact absurd rfl (hb _) | exact absurd rfl (hs _)
theorem rNe_ne {x y : D} (hx : ∀ i, x ≠ .int i) (hb : ∀ i, x ≠ .bl i) (hs : ∀ i, x ≠ .str i) : rNe x y S Q = ∃ b, EqD S x y b ∧ Q (.bl (!b)) S := by
  cases x <;> first | rfl | exact absurd rfl (hx _) | exact absurd rfl (hb _) | exact absurd rfl (hs _)
theorem eO_ni (o : Option Rat) : (∀ i, eO o ≠ .int i) ∧ (∀ i, eO o ≠ .bl i) ∧ (∀ i, eO o ≠ .str i) := by
  cases o <;> (refine ⟨?_, ?_, ?_⟩ <;> intro i h <;> cases h)
theorem z_eqO {a b : Option Rat} : rEq (eO a) (eO b) S Q = Q (.bl (decide (a = b))) S := (rEq_ne (eO_ni a).1 (eO_ni a).2.1 (eO_ni a).2.2).trans (eqD_ex (Q := fun c => Q (.bl c) S) a b)
theorem z_neO {a b : Option Rat} : rNe (eO a) (eO b) S Q = Q (.bl (!decide (a = b))) S := (rNe_ne (eO_ni a).1 (eO_ni a).2.1 (eO_ni a).2.2).trans (eqD_ex (Q := fun c => Q (.bl (!c)) S) a b)
theorem z_eqQN {a : Rat} : rEq (.tup [.int a.num, .int (a.den : Int)]) .non S Q = Q (.bl false) S := z_eqO (a := some a) (b := none)
theorem z_neQN {a : Rat} : rNe (.tup [.int a.num, .int (a.den : Int)]) .non S Q = Q (.bl true) S := z_neO (a := some a) (b := none)
theorem z_eqOQ {a : Option Rat} {q : Rat} : rEq (eO a) (.tup [.int q.num, .int (q.den : Int)]) S Q = Q (.bl (decide (a = some q))) S := z_eqO (a := a) (b := some q)
theorem z_neOQ {a : Option Rat} {q : Rat} : rNe (eO a) (.tup [.int q.num, .int (q.den : Int)]) S Q = Q (.bl (!decide (a = some q))) S := z_neO (a := a) (b := some q)
theorem z_eqNN' : rEq .non .non S Q = Q (.bl true) S := z_eqO (a := none) (b := none)
theorem z_neNN' : rNe .non .non S Q = Q (.bl false) S := z_neO (a := none) (b := none)
theorem z_eqNQ {a : Rat} : rEq .non (.tup [.int a.num, .int (a.den : Int)]) S Q = Q (.bl false) S := z_eqO (a := none) (b := some a)
theorem z_neNQ {a : Rat} : rNe .non (.tup [.int a.num, .int (a.den : Int)]) S Q = Q (.bl true) S := z_neO (a := none) (b := some a)
theorem z_eqNO {a : Option Rat} : rEq .non (eO a) S Q = Q (.bl (decide (none = a))) S := z_eqO (a := none) (b := a)
theorem z_neNO {a : Option Rat} : rNe .non (eO a) S Q = Q (.bl (!decide (none = a))) S := z_neO (a := none) (b := a)
theorem z_eqQO {a : Option Rat} {q : Rat} : rEq (.tup [.int q.num, .int (q.den : Int)]) (eO a) S Q = Q (.bl (decide (some q = a))) S := z_eqO (a := some q) (b := a)
theorem z_neQO {a : Option Rat} {q : Rat} : rNe (.tup [.int q.num, .int (q.den : Int)]) (eO a) S Q = Q (.bl (!decide (some q = a))) S := z_neO (a := some q) (b := a)
theorem z_eqON {a : Option Rat} : rEq (eO a) .non S Q = Q (.bl (decide (a = none))) S := z_eqO (a := a) (b := none)
theorem z_neON {a : Option Rat} : rNe (eO a) .non S Q = Q (.bl (!decide (a = none))) S := z_neO (a := a) (b := none)
end
/-! ### lines by their numbers -/
abbrev Ln := Rat × Rat
def LOk (L : List Ln) : Prop := ∀ l ∈ L, Lz 300 l
def ln (L : List Ln) (i : Nat) : Ln := L.getD i (0, 0)
structure LA (S : Sto) (a : Addr) (L : List Ln) : Prop where
  st : S a = some (.lst (L.map eL))
  ok : LOk L
  sz : L.length ≤ 20
section
variable {S S' : Sto} {a p : Addr} {L : List Ln} {o : O} {i : Nat}
theorem LA.new (h : LA S a L) (n : S p = none) : LA (ups S p o) a L := ⟨by rw [ups_ne (ne_of_st h.st n)]; exact h.st, h.ok, h.sz⟩
theorem LA.upd (h : LA S a L) (n : a ≠ p) : LA (ups S p o) a L := ⟨by rw [ups_ne n]; exact h.st, h.ok, h.sz⟩
theorem LA.sub (h : LA S a L) (s : Sub S S') : LA S' a L := ⟨s _ _ h.st, h.ok, h.sz⟩
theorem LA.ne (h : LA S a L) (n : S p = none) : a ≠ p := ne_of_st h.st n
theorem LA.pen {b : Addr} {sc : List Int} (h : LA S a L) (hp : PenA S b sc) : a ≠ b := by
  rintro rfl
  obtain ⟨x, y, e⟩ := hp
  have := h.st.symm.trans e
  cases L with
  | nil => cases this
  | cons l L => cases L with
    | nil => cases this
    | cons m L => injection this with h1; injection h1 with h2; injection h2 with h3 h4; cases h3
theorem ln_mem (h : i < L.length) : ln L i ∈ L := by
  unfold ln; rw [List.getD_eq_getElem?_getD, List.getElem?_eq_getElem h]; exact List.getElem_mem h
theorem ln_get (h : i < L.length) : L[i]? = some (ln L i) := by
  unfold ln; rw [List.getD_eq_getElem?_getD, List.getElem?_eq_getElem h]; rfl
theorem LOk.at (h : LOk L) (k : i < L.length) : Lz 300 (ln L i) := h _ (ln_mem k)
theorem LA.at (h : LA S a L) (k : i < L.length) : Lz 300 (ln L i) := h.ok.at k
theorem atL (h : i < L.length) : atI (L.map eL) (i : Int) = some (eL (ln L i)) := atI_nat (by rw [List.getElem?_map, ln_get h]; rfl)
theorem LOk.snoc {l : Ln} (h : LOk L) (k : Lz 300 l) : LOk (L ++ [l]) := fun x hx => by
  rcases List.mem_append.mp hx with h' | h'
  · exact h x h'
  · rw [List.mem_singleton.mp h']; exact k
theorem LOk.nil : LOk [] := fun _ h => by cases h
theorem map_snoc {α β : Type} {f : α → β} {xs : List α} {x : α} : xs.map f ++ [f x] = (xs ++ [x]).map f := by rw [List.map_append]; rfl
end
/-- where nothing else than at a is written -/
def Fr (S S' : Sto) (a : Addr) : Prop := ∀ b o, b ≠ a → S b = some o → S' b = some o
theorem Fr.refl (S : Sto) (a : Addr) : Fr S S a := fun _ _ _ h => h
theorem Fr.trans {S S1 S2 : Sto} {a : Addr} (h : Fr S S1 a) (k : Fr S1 S2 a) : Fr S S2 a := fun b o n e => k b o n (h b o n e)
theorem Fr.wr {S S1 : Sto} {a : Addr} {o : O} (h : Fr S S1 a) : Fr S (DL.ups S1 a o) a := fun b u n e => by rw [ups_ne n]; exact h b u n e
theorem Fr.new {S S1 : Sto} {a p : Addr} {o : O} (h : Fr S S1 a) (n : S1 p = none) : Fr S (DL.ups S1 p o) a := fun b u nb e => by
  have := h b u nb e
  rw [ups_ne (ne_of_st this n)]; exact this
theorem Fr.own {S S1 : Sto} {a p : Addr} {o : O} (h : Fr S S1 a) (n : S p = none) : Fr S (DL.ups S1 p o) a := fun b u nb e => by
  rw [ups_ne (ne_of_st e n)]; exact h b u nb e
theorem Fr.sub {S S1 S2 : Sto} {a : Addr} (h : Fr S S1 a) (k : Sub S1 S2) : Fr S S2 a := fun b o n e => k b o (h b o n e)
theorem LA.fr {S S' : Sto} {a p : Addr} {L : List Ln} (h : LA S a L) (k : Fr S S' p) (n : a ≠ p) : LA S' a L := ⟨k _ _ n h.st, h.ok, h.sz⟩
/-! ### walks over ranges -/
section
variable {stay : Sto → Prop} {g : TG2} {tb : TS2} {E : Ends2} {τ : St2} {S : Sto}
theorem loop_r0 {n : Nat} (W : Nat → St2 → Sto → Prop) (h0 : W 0 τ S)
    (hstep : ∀ i τ S, i < n → W i τ S → g (.int (i : Int)) τ S fun τ' S' => tb { E with nx := W (i + 1), ct := W (i + 1), bk := E.nx } τ' S')
    (hend : ∀ τ S, W n τ S → E.nx τ S) : LoopP stayT g tb (rangeD 0 n) E τ S :=
  loop_range W h0 (fun _ _ _ _ _ => trivial) (fun i τ S hi w => by rw [Int.zero_add]; exact hstep i τ S hi w) hend
theorem loop_r1 {n : Nat} (W : Nat → St2 → Sto → Prop) (h0 : W 1 τ S)
    (hstep : ∀ i τ S, 0 < i → i < n + 1 → W i τ S → g (.int (i : Int)) τ S fun τ' S' => tb { E with nx := W (i + 1), ct := W (i + 1), bk := E.nx } τ' S')
    (hend : ∀ τ S, W (n + 1) τ S → E.nx τ S) : LoopP stayT g tb (rangeD 1 n) E τ S :=
  loop_range (fun i => W (i + 1)) h0 (fun _ _ _ _ _ => trivial) (fun i τ S hi w => by
    have := hstep (i + 1) τ S (Nat.succ_pos i) (by omega) w
    rwa [show ((i + 1 : Nat) : Int) = 1 + (i : Int) by omega] at this) hend
end
/-! ### meeting, ahead -/
def met (l m : Ln) : Rat := (m.1 - l.1) / (l.2 - m.2)
theorem sub_ne {a b : Rat} (h : a ≠ b) : a - b ≠ 0 := by intro e; apply h; grind
theorem Lz.met {l m : Ln} (h : Lz 300 l) (k : Lz 300 m) (n : l.2 ≠ m.2) : Nz 1210 (met l m) :=
  (Nz.div (sub_ne n) (k.1.sub h.1) (h.2.sub k.2)).le (by decide)
theorem at_met {l m : Ln} (n : l.2 ≠ m.2) : at_ l (met l m) = at_ m (met l m) := by
  have h := sub_ne n
  unfold at_ met
  grind
theorem met_comm {l m : Ln} (n : l.2 ≠ m.2) : met l m = met m l := by
  have h := sub_ne n
  have h' := sub_ne (Ne.symm n)
  unfold met
  grind
theorem Lz.at {l : Ln} {t : Rat} {n : Nat} (h : Lz 300 l) (k : Nz n t) : Nz (n + 601) (at_ l t) := ((h.1.add (h.2.mul k)).le (by omega))
abbrev Mt := Option (Option Rat)
/-- none: always; some none: never -/
def eMt : Mt → D
  | none => .tup [.str "always"]
  | some none => .tup [.str "never"]
  | some (some t) => .tup [.str "at", eQ t]
def meet (l m : Ln) : Mt := if l.2 ≠ m.2 then some (some (met l m)) else if l.1 ≠ m.1 then some none else none
instance : Enc Mt where
  enc := eMt
  py
    | none => .tuple [.str "always"]
    | some none => .tuple [.str "never"]
    | some (some t) => .tuple [.str "at", Enc.py t]
  isPy S a := by cases a with
    | none => exact .tup (.cons (.str _) .nil)
    | some q => cases q with
      | none => exact .tup (.cons (.str _) .nil)
      | some q => exact .tup (.cons (.str _) (.cons (Enc.isPy S q) .nil))
  eqv a b := by
    have h1 : (("always" : Str) == ("never" : Str)) = false := by decide +kernel
    have h2 : (("never" : Str) == ("always" : Str)) = false := by decide +kernel
    rcases a with _ | _ | a <;> rcases b with _ | _ | b <;> simp [PyData.eqv, PyData.eqvAll, h1, h2, Enc.eqv]
  lay a := by
    have h1 : PyData.strOk (Str.ofString "always") = true := by decide +kernel
    have h2 : PyData.strOk (Str.ofString "never") = true := by decide +kernel
    have h3 : PyData.strOk (Str.ofString "at") = true := by decide +kernel
    rcases a with _ | _ | a <;> simp [PyData.canLay0, PyData.canLayAll0, Enc.lay, h1, h2, h3]
  dep := 3
  dep_le a := by
    rcases a with _ | _ | a
    · simp [PyData.depth, PyData.depthAll]
    · simp [PyData.depth, PyData.depthAll]
    · have := Enc.dep_le a
      simp only [PyData.depth, PyData.depthAll]
      have e : Enc.dep Rat = 1 := rfl
      omega
instance : EncU Mt where
  uniq S a p h := by
    rcases a with _ | _ | t
    · cases h with
      | tup h => cases h with
        | cons h1 h2 => cases h1; cases h2; rfl
    · cases h with
      | tup h => cases h with
        | cons h1 h2 => cases h1; cases h2; rfl
    · cases h with
      | tup h => cases h with
        | cons h1 h2 => cases h1; cases h2 with
          | cons h3 h4 => cases h4; rw [EncU.uniq S t _ h3]; rfl
theorem eMt_ni (o : Mt) : (∀ i, eMt o ≠ .int i) ∧ (∀ i, eMt o ≠ .bl i) ∧ (∀ i, eMt o ≠ .str i) := by
  rcases o with _ | _ | t <;> (refine ⟨?_, ?_, ?_⟩ <;> intro i h <;> cases h)
theorem z_neMt {S : Sto} {Q : VK2} {a b : Mt} : rNe (eMt a) (eMt b) S Q = Q (.bl (!decide (a = b))) S := (rNe_ne (eMt_ni a).1 (eMt_ni a).2.1 (eMt_ni a).2.2).trans (eqD_ex (Q := fun c => Q (.bl (!c)) S) a b)
theorem ups_no {S : Sto} {a p : Addr} {o : O} (h : ups S a o p = none) : p ≠ a ∧ S p = none := by
  by_cases e : p = a
  · subst e; rw [ups_same] at h; cases h
  · rw [ups_ne e] at h; exact ⟨e, h⟩
def Ahd (L : List Ln) (i j : Nat) (t : Rat) : Prop :=
  at_ (ln L j) t < at_ (ln L i) t ∨ (at_ (ln L i) t = at_ (ln L j) t ∧ ((ln L j).2 < (ln L i).2 ∨ ((ln L i).2 = (ln L j).2 ∧ i < j)))
instance (L : List Ln) (i j : Nat) (t : Rat) : Decidable (Ahd L i j t) := by unfold Ahd; infer_instance
end DL
namespace DL
open PySem PySem.Spec PyProof.Rows L2
theorem zs_never : ((Str.ofString "never" : Str) = Str.ofString "at") = False := eq_false (by decide +kernel)
theorem zs_always : ((Str.ofString "always" : Str) = Str.ofString "at") = False := eq_false (by decide +kernel)
theorem zs_at : ((Str.ofString "at" : Str) = Str.ofString "at") = True := eq_true rfl
theorem meet_ne {l m : Ln} (e : l.2 ≠ m.2) : meet l m = some (some (met l m)) := by unfold meet; rw [if_pos e]
theorem meet_eq {l m : Ln} (e : l.2 = m.2) : meet l m = none ∨ meet l m = some none := by
  unfold meet; rw [if_neg (by simpa using e)]; split
  · exact .inr rfl
  · exact .inl rfl
def metO (l m : Ln) : Option Rat := if l.2 = m.2 then none else some (met l m)
def nxt (L : List Ln) (i j : Nat) (t : Rat) : Option Rat := if (ln L i).2 ≠ (ln L j).2 ∧ t < met (ln L i) (ln L j) then some (met (ln L i) (ln L j)) else none
theorem nxt_comm {L : List Ln} {i j : Nat} {t : Rat} : nxt L j i t = nxt L i j t := by
  unfold nxt
  by_cases e : (ln L i).2 = (ln L j).2
  · rw [if_neg (by simp [e]), if_neg (by simp [e])]
  · rw [met_comm (Ne.symm e)]
    simp only [ne_eq, e, Ne.symm e, not_false_eq_true, true_and]
/-! ### who is ahead, by the meeting -/
theorem at_gap (l m : Ln) (e : l.2 ≠ m.2) (t : Rat) : at_ l t - at_ m t = (l.2 - m.2) * (t - met l m) := by
  have h := sub_ne e
  unfold at_ met
  grind
section
variable {L : List Ln} {i j k : Nat} {t u : Rat}
theorem mul_pos_r {a b : Rat} (ha : 0 < a) (hb : 0 < b) : 0 < a * b := Rat.mul_pos ha hb
theorem ahd_eq (e : (ln L i).2 = (ln L j).2) : Ahd L i j t ↔ ((ln L j).1 < (ln L i).1 ∨ ((ln L i).1 = (ln L j).1 ∧ i < j)) := by
  unfold Ahd at_
  rw [e]
  constructor
  · rintro (h | ⟨h, h2⟩)
    · left; grind
    · right
      refine ⟨by grind, ?_⟩
      rcases h2 with h2 | ⟨_, h2⟩
      · grind
      · exact h2
  · rintro (h | ⟨h, h2⟩)
    · left; grind
    · right; exact ⟨by grind, .inr ⟨rfl, h2⟩⟩
theorem ahd_lt (e : (ln L i).2 ≠ (ln L j).2) (h : t < met (ln L i) (ln L j)) : Ahd L i j t ↔ (ln L i).2 < (ln L j).2 := by
  have g := at_gap _ _ e t
  unfold Ahd
  generalize at_ (ln L i) t = x at *
  generalize at_ (ln L j) t = y at *
  generalize (ln L i).2 = a at *
  generalize (ln L j).2 = b at *
  have h' : 0 < met (ln L i) (ln L j) - t := by grind
  generalize met (ln L i) (ln L j) = m at *
  constructor
  · rintro (h1 | ⟨h1, h2⟩)
    · by_cases c : a < b
      · exact c
      · have : 0 < (a - b) * (m - t) := mul_pos_r (by grind) h'
        grind
    · by_cases c : a < b
      · exact c
      · have : 0 < (a - b) * (m - t) := mul_pos_r (by grind) h'
        grind
  · intro c
    have : 0 < (b - a) * (m - t) := mul_pos_r (by grind) h'
    left; grind
theorem ahd_ge (e : (ln L i).2 ≠ (ln L j).2) (h : ¬ t < met (ln L i) (ln L j)) : Ahd L i j t ↔ (ln L j).2 < (ln L i).2 := by
  have g := at_gap _ _ e t
  unfold Ahd
  generalize at_ (ln L i) t = x at *
  generalize at_ (ln L j) t = y at *
  generalize (ln L i).2 = a at *
  generalize (ln L j).2 = b at *
  generalize met (ln L i) (ln L j) = m at *
  by_cases z : t = m
  · subst z
    have : x = y := by grind
    subst this
    constructor
    · rintro (h1 | ⟨h1, h2⟩)
      · grind
      · rcases h2 with h2 | ⟨h2, _⟩
        · exact h2
        · exact absurd h2 e
    · intro c
      exact .inr ⟨rfl, .inl c⟩
  · have h' : 0 < t - m := by grind
    constructor
    · rintro (h1 | ⟨h1, h2⟩)
      · by_cases c : b < a
        · exact c
        · have : 0 < (b - a) * (t - m) := mul_pos_r (by grind) h'
          grind
      · by_cases c : b < a
        · exact c
        · have : 0 < (b - a) * (t - m) := mul_pos_r (by grind) h'
          grind
    · intro c
      have : 0 < (a - b) * (t - m) := mul_pos_r (by grind) h'
      left; grind
theorem ahd_trans (h : Ahd L i j t) (h2 : Ahd L j k t) : Ahd L i k t := by unfold Ahd at *; grind
theorem ahd_irr (h : Ahd L i i t) : False := by unfold Ahd at h; grind
theorem ahd_total (h : i ≠ j) : Ahd L i j t ∨ Ahd L j i t := by
  unfold Ahd
  rcases Nat.lt_or_gt_of_ne h with h | h <;> grind
theorem ahd_asymm (h : Ahd L i j t) (h2 : Ahd L j i t) : False := ahd_irr (ahd_trans h h2)
/-- no change of the two within -/
theorem ahd_stay (htu : t ≤ u) (h : (ln L i).2 ≠ (ln L j).2 → ¬ (t < met (ln L i) (ln L j) ∧ met (ln L i) (ln L j) ≤ u)) : Ahd L i j t ↔ Ahd L i j u := by
  by_cases e : (ln L i).2 = (ln L j).2
  · rw [ahd_eq e, ahd_eq e]
  · have h := h e
    by_cases c : t < met (ln L i) (ln L j)
    · rw [ahd_lt e c, ahd_lt e (by grind)]
    · rw [ahd_ge e c, ahd_ge e (by grind)]
end
/-! ### rising lists of times -/
def Inc (M : List Rat) : Prop := M.Pairwise (· < ·)
theorem ins_at : ∀ {M : List Rat} (h : Inc M) (t : Rat) (ht : t ∉ M), Inc (M.take (M.filter fun x => decide (x < t)).length ++ [t] ++ M.drop (M.filter fun x => decide (x < t)).length) ∧
    ∀ x, x ∈ M.take (M.filter fun x => decide (x < t)).length ++ [t] ++ M.drop (M.filter fun x => decide (x < t)).length ↔ x = t ∨ x ∈ M
  | [], _, t, _ => by simp [Inc]
  | m :: M, h, t, ht => by
    obtain ⟨h1, h2⟩ := List.pairwise_cons.mp h
    by_cases c : m < t
    · rw [List.filter_cons_of_pos (by simpa using c), List.length_cons, List.take_succ_cons, List.drop_succ_cons]
      obtain ⟨i1, i2⟩ := ins_at h2 t (fun z => ht (List.mem_cons_of_mem _ z))
      refine ⟨?_, fun x => ?_⟩
      · rw [List.cons_append, List.cons_append]
        refine List.pairwise_cons.mpr ⟨fun x hx => ?_, i1⟩
        rcases (i2 x).mp hx with rfl | hx
        · exact c
        · exact h1 x hx
      · rw [List.cons_append, List.cons_append, List.mem_cons, i2, List.mem_cons]
        grind
    · have hm : t < m := by
        have : t ≠ m := fun z => ht (by simp [z])
        grind
      have hf : (m :: M).filter (fun x => decide (x < t)) = [] := by
        rw [List.filter_eq_nil_iff]
        intro x hx
        rcases List.mem_cons.mp hx with rfl | hx
        · simpa using c
        · have := h1 x hx
          simp only [decide_eq_true_eq]
          grind
      rw [hf]
      refine ⟨?_, fun x => by simp⟩
      show Inc (t :: m :: M)
      refine List.pairwise_cons.mpr ⟨fun x hx => ?_, h⟩
      rcases List.mem_cons.mp hx with rfl | hx
      · exact hm
      · have := h1 x hx
        grind
theorem filterMap_if {α β : Type} {f : α → β} {p : α → Bool} : ∀ xs : List α, (xs.filterMap fun x => if p x = true then some (f x) else none) = (xs.filter p).map f
  | [] => rfl
  | x :: xs => by
    rw [List.filterMap_cons]
    cases h : p x with
    | true => simp only [if_true]; rw [List.filter_cons_of_pos h, List.map_cons, filterMap_if xs]
    | false => simp only [Bool.false_eq_true, if_false]; rw [List.filter_cons_of_neg (by simp [h]), filterMap_if xs]
/-- the meetings of the pairs gone through -/
structure MI (L : List Ln) (i j : Nat) (M : List Rat) : Prop where
  inc : Inc M
  mem : ∀ t, t ∈ M ↔ ∃ a b, (a < i ∨ (a = i ∧ b < j)) ∧ b < a ∧ a < L.length ∧ (ln L a).2 ≠ (ln L b).2 ∧ t = met (ln L a) (ln L b)
  len : M.length ≤ 20 * i + j
structure IsMeet (L : List Ln) (M : List Rat) : Prop where
  inc : Inc M
  mem : ∀ t, t ∈ M ↔ ∃ a b, a < L.length ∧ b < L.length ∧ (ln L a).2 ≠ (ln L b).2 ∧ t = met (ln L a) (ln L b)
  len : M.length ≤ 400
section
variable {L : List Ln} {i j : Nat} {M : List Rat} {t : Rat}
theorem MI.start : MI L 0 0 [] := ⟨.nil, fun t => ⟨fun h => (nomatch h), fun ⟨a, b, h, h2, _⟩ => by omega⟩, by simp⟩
theorem MI.skip (h : MI L i j M) (e : (ln L i).2 = (ln L j).2) : MI L i (j + 1) M := by
  refine ⟨h.inc, fun t => ?_, by have := h.len; omega⟩
  rw [h.mem]
  constructor
  · rintro ⟨a, b, h1, h2⟩; exact ⟨a, b, by omega, h2⟩
  · rintro ⟨a, b, h1, h2, h3, h4, h5⟩
    refine ⟨a, b, ?_, h2, h3, h4, h5⟩
    rcases h1 with h1 | ⟨rfl, h1⟩
    · exact .inl h1
    · refine .inr ⟨rfl, ?_⟩
      by_cases hb : b = j
      · subst hb; exact absurd e h4
      · omega
theorem MI.had (h : MI L i j M) (k : met (ln L i) (ln L j) ∈ M) : MI L i (j + 1) M := by
  refine ⟨h.inc, fun t => ?_, by have := h.len; omega⟩
  constructor
  · intro ht
    obtain ⟨a, b, h1, h2⟩ := (h.mem t).mp ht
    exact ⟨a, b, by omega, h2⟩
  · rintro ⟨a, b, h1, h2, h3, h4, h5⟩
    by_cases hb : a = i ∧ b = j
    · obtain ⟨rfl, rfl⟩ := hb; rw [h5]; exact k
    · exact (h.mem t).mpr ⟨a, b, by omega, h2, h3, h4, h5⟩
theorem MI.put (h : MI L i j M) (hj : j < i) (hi : i < L.length) (e : (ln L i).2 ≠ (ln L j).2) (k : met (ln L i) (ln L j) ∉ M) : MI L i (j + 1) (M.take (M.filter fun x => decide (x < met (ln L i) (ln L j))).length ++ [met (ln L i) (ln L j)] ++ M.drop (M.filter fun x => decide (x < met (ln L i) (ln L j))).length) := by
  obtain ⟨h1, h2⟩ := ins_at h.inc _ k
  refine ⟨h1, fun t => ?_, ?_⟩
  · rw [h2]
    constructor
    · rintro (rfl | ht)
      · exact ⟨i, j, by omega, hj, hi, e, rfl⟩
      · obtain ⟨a, b, h1, h2⟩ := (h.mem t).mp ht
        exact ⟨a, b, by omega, h2⟩
    · rintro ⟨a, b, h1, h2, h3, h4, h5⟩
      by_cases hb : a = i ∧ b = j
      · obtain ⟨rfl, rfl⟩ := hb; exact .inl h5
      · exact .inr ((h.mem t).mpr ⟨a, b, by omega, h2, h3, h4, h5⟩)
  · have := h.len
    simp only [List.length_append, List.length_take, List.length_drop, List.length_cons, List.length_nil]
    omega
theorem MI.next (h : MI L i i M) (hi : i ≤ 20) : MI L (i + 1) 0 M := by
  refine ⟨h.inc, fun t => ?_, by have := h.len; omega⟩
  rw [h.mem]
  constructor
  · rintro ⟨a, b, h1, h2⟩; exact ⟨a, b, by omega, h2⟩
  · rintro ⟨a, b, h1, h2, h3⟩; exact ⟨a, b, by omega, h2, h3⟩
theorem MI.fin (h : MI L L.length 0 M) (hl : L.length ≤ 20) : IsMeet L M := by
  refine ⟨h.inc, fun t => ?_, by have := h.len; omega⟩
  rw [h.mem]
  constructor
  · rintro ⟨a, b, h1, h2, h3, h4, h5⟩; exact ⟨a, b, h3, by omega, h4, h5⟩
  · rintro ⟨a, b, h1, h2, h4, h5⟩
    rcases Nat.lt_trichotomy a b with c | rfl | c
    · exact ⟨b, a, by omega, c, h2, Ne.symm h4, by rw [h5, met_comm h4]⟩
    · exact absurd rfl h4
    · exact ⟨a, b, by omega, c, h1, h4, h5⟩
theorem IsMeet.nz (h : IsMeet L M) (k : LOk L) (ht : t ∈ M) : Nz 1210 t := by
  obtain ⟨a, b, h1, h2, h3, rfl⟩ := (h.mem t).mp ht
  exact (k.at h1).met (k.at h2) h3
theorem MI.nz (h : MI L i j M) (k : LOk L) (ht : t ∈ M) : Nz 1210 t := by
  obtain ⟨a, b, h1, h2, h3, h4, rfl⟩ := (h.mem t).mp ht
  exact (k.at h3).met (k.at (by omega)) h4
end
/-- rising lists of the same times -/
theorem inc_ext : ∀ {M N : List Rat}, Inc M → Inc N → (∀ t, t ∈ M ↔ t ∈ N) → M = N
  | [], [], _, _, _ => rfl
  | [], n :: N, _, _, h => by have := (h n).mpr (by simp); cases this
  | m :: M, [], _, _, h => by have := (h m).mp (by simp); cases this
  | m :: M, n :: N, hm, hn, h => by
    obtain ⟨m1, m2⟩ := List.pairwise_cons.mp hm
    obtain ⟨n1, n2⟩ := List.pairwise_cons.mp hn
    have e : m = n := by
      rcases List.mem_cons.mp ((h m).mp (by simp)) with e | e
      · exact e
      · rcases List.mem_cons.mp ((h n).mpr (by simp)) with e' | e'
        · exact e'.symm
        · have := m1 n e'; have := n1 m e; grind
    subst e
    rw [inc_ext m2 n2 fun t => ?_]
    constructor
    · intro ht
      rcases List.mem_cons.mp ((h t).mp (List.mem_cons_of_mem _ ht)) with e | e
      · subst e; have := m1 t ht; grind
      · exact e
    · intro ht
      rcases List.mem_cons.mp ((h t).mpr (List.mem_cons_of_mem _ ht)) with e | e
      · subst e; have := n1 t ht; grind
      · exact e
/-! ### probes -/
def mi (M : List Rat) (i : Nat) : Rat := M.getD i 0
section
variable {M : List Rat} {i : Nat} {t : Rat}
theorem mi_get (h : i < M.length) : M[i]? = some (mi M i) := by
  unfold mi; rw [List.getD_eq_getElem?_getD, List.getElem?_eq_getElem h]; rfl
theorem mi_mem (h : i < M.length) : mi M i ∈ M := List.mem_of_getElem? (mi_get h)
theorem atQ (h : i < M.length) : atI (M.map eQ) (i : Int) = some (eQ (mi M i)) := atI_nat (by rw [List.getElem?_map, mi_get h]; rfl)
theorem one_nz : Nz 3 (1 : Rat) := ⟨by unfold Sz; decide +kernel, by unfold Sz; decide +kernel⟩
theorem zero_nz : Nz 3 (0 : Rat) := ⟨by unfold Sz; decide +kernel, by unfold Sz; decide +kernel⟩
end
theorem nthQ_of {α : Type} : ∀ {xs : List α} {n : Nat} {x : α} {Q : α → Prop}, xs[n]? = some x → Q x → nthQ xs n Q
  | [], _, _, _, h, _ => by simp at h
  | y :: _, 0, x, _, h, q => by
    obtain rfl : y = x := by simpa using h
    exact q
  | _ :: xs, n + 1, _, _, h, q => nthQ_of (xs := xs) (n := n) (by simpa using h) q
theorem z_succ (k : Nat) : ((k : Int) + 1) = ((k + 1 : Nat) : Int) := rfl
theorem Sub.own {S S' : Sto} {p : Addr} {o : O} (h : Sub S S') (n : S p = Option.none) : Sub S (ups S' p o) := fun b u e => by
  rw [ups_ne (ne_of_st e n)]; exact h b u e
theorem Sub.miss {S S' : Sto} {p : Addr} (h : Sub S S') (n : S' p = Option.none) : S p = Option.none := h.none n
/-! ### lists compared -/
section
variable {α : Type} [DecidableEq α] [Enc α] {S : Sto} {Q : VK2} {a b : Addr} {xs ys : List α}
theorem eq_refs (h1 : S a = some (.lst (xs.map Enc.enc))) (h2 : S b = some (.lst (ys.map Enc.enc))) (q : Q (.bl (decide (xs = ys))) S) (h : Enc.dep α + 1 ≤ 64 := by decide) : rEq (.ref a) (.ref b) S Q := ⟨_, eqL xs ys (list_ref h1) (list_ref h2) h, q⟩
theorem ne_refs (h1 : S a = some (.lst (xs.map Enc.enc))) (h2 : S b = some (.lst (ys.map Enc.enc))) (q : Q (.bl (!decide (xs = ys))) S) (h : Enc.dep α + 1 ≤ 64 := by decide) : rNe (.ref a) (.ref b) S Q := ⟨_, eqL xs ys (list_ref h1) (list_ref h2) h, q⟩
theorem in_ref {x : α} (h1 : S a = some (.lst (xs.map Enc.enc))) (q : Q (.bl (decide (x ∈ xs))) S) (h : Enc.dep α + 1 ≤ 64 := by decide) : rIn (Enc.enc x) (.ref a) S Q := ⟨_, inL x xs (list_ref h1) h, q⟩
end
theorem PenA.sub {S S' : Sto} {a : Addr} {sc : List Int} (h : PenA S a sc) (s : Sub S S') : PenA S' a sc := let ⟨x, y, e⟩ := h; ⟨x, y, s _ _ e⟩
theorem map_ins {α β : Type} {f : α → β} {xs : List α} {x : α} {k : Nat} : (xs.map f).take k ++ [f x] ++ (xs.map f).drop k = (xs.take k ++ [x] ++ xs.drop k).map f := by
  simp only [List.map_append, List.map_take, List.map_drop, List.map_cons, List.map_nil]
end DL
namespace DL
open PySem PySem.Spec PyProof.Rows L2
/-! ### who is ahead of all -/
def IsTop (L : List Ln) (t : Rat) (r : Nat) : Prop := r < L.length ∧ ∀ j, j < L.length → j ≠ r → Ahd L r j t
theorem IsTop.uniq {L : List Ln} {t : Rat} {r r' : Nat} (h : IsTop L t r) (k : IsTop L t r') : r = r' := by
  by_cases e : r = r'
  · exact e
  · exact (ahd_asymm (h.2 r' k.1 (Ne.symm e)) (k.2 r h.1 e)).elim
/-- ahead ahead of all meetings -/
def Ear (L : List Ln) (i j : Nat) : Prop := (ln L i).2 < (ln L j).2 ∨ ((ln L i).2 = (ln L j).2 ∧ ((ln L j).1 < (ln L i).1 ∨ ((ln L i).1 = (ln L j).1 ∧ i < j)))
instance (L : List Ln) (i j : Nat) : Decidable (Ear L i j) := by unfold Ear; infer_instance
theorem ear_trans {L : List Ln} {i j k : Nat} (h : Ear L i j) (h2 : Ear L j k) : Ear L i k := by unfold Ear at *; grind
theorem ear_ahd {L : List Ln} {i j : Nat} {t : Rat} (h : (ln L i).2 ≠ (ln L j).2 → t < met (ln L i) (ln L j)) : Ahd L i j t ↔ Ear L i j := by
  unfold Ear
  by_cases e : (ln L i).2 = (ln L j).2
  · rw [ahd_eq e]
    constructor
    · intro h; exact .inr ⟨e, h⟩
    · rintro (h | ⟨_, h⟩)
      · grind
      · exact h
  · rw [ahd_lt e (h e)]
    constructor
    · intro h; exact .inl h
    · rintro (h | ⟨h, _⟩)
      · exact h
      · exact absurd h e
def IsEar (L : List Ln) (r : Nat) : Prop := r < L.length ∧ ∀ j, j < L.length → j ≠ r → Ear L r j
theorem ahd_steep {L : List Ln} {i j : Nat} {t u : Rat} (h : t < u) (a : Ahd L i j t) (b : Ahd L j i u) : (ln L i).2 < (ln L j).2 := by
  by_cases e : (ln L i).2 = (ln L j).2
  · rw [ahd_eq e] at a
    rw [ahd_eq e.symm] at b
    grind
  · by_cases c : t < met (ln L i) (ln L j)
    · exact (ahd_lt e c).mp a
    · have a' := (ahd_ge e c).mp a
      have b' := (ahd_ge (Ne.symm e) (by rw [met_comm (Ne.symm e)]; grind)).mp b
      exact b'
/-! ### rows -/
abbrev Rw := List (Nat × Option Rat)
@[reducible] def eR (x : Nat × Option Rat) : D := .tup [.int (x.1 : Int), eO x.2]
def Ge (s : Option Rat) (t : Rat) : Prop := ∀ v, s = some v → v ≤ t
def Gt (s : Option Rat) (t : Rat) : Prop := ∀ v, s = some v → v < t
def Seg (P : Rat → Nat → Prop) (s : Option Rat) (r : Nat) : Rw → Prop
  | [] => ∀ t, Ge s t → P t r
  | (r', some u) :: rest => Gt s u ∧ (∀ t, Ge s t → t < u → P t r) ∧ r ≠ r' ∧ Seg P (some u) r' rest
  | (_, none) :: _ => False
def RowOf (P : Rat → Nat → Prop) (rows : Rw) : Prop := ∃ r rest, rows = (r, none) :: rest ∧ Seg P none r rest
def Pre (P : Rat → Nat → Prop) (rows : Rw) (r : Nat) (s : Option Rat) : Prop := ∀ rest, Seg P s r rest → RowOf P (rows ++ rest)
section
variable {P : Rat → Nat → Prop} {rows : Rw} {r r' : Nat} {s : Option Rat} {u : Rat}
theorem Pre.start : Pre P [(r, none)] r none := fun rest h => ⟨r, rest, rfl, h⟩
theorem Pre.step (h : Pre P rows r s) (h1 : Gt s u) (h2 : ∀ t, Ge s t → t < u → P t r) (h3 : r ≠ r') : Pre P (rows ++ [(r', some u)]) r' (some u) := fun rest k => by
  rw [List.append_assoc]
  exact h _ ⟨h1, h2, h3, k⟩
theorem Pre.fin (h : Pre P rows r s) (k : ∀ t, Ge s t → P t r) : RowOf P rows := by
  have := h [] k
  rwa [List.append_nil] at this
theorem ge_exists (s : Option Rat) : ∃ t, Ge s t := by
  cases s with
  | none => exact ⟨0, fun v h => by cases h⟩
  | some v => exact ⟨v, fun w h => by cases h; exact Rat.le_refl⟩
theorem gt_between {s : Option Rat} {u : Rat} (h : Gt s u) : ∃ t, Ge s t ∧ t < u := by
  cases s with
  | none => exact ⟨u - 1, fun v h => (by cases h), by grind⟩
  | some v => exact ⟨v, fun w h => (by cases h; exact Rat.le_refl), h v rfl⟩
theorem ge_refl (u : Rat) : Ge (some u) u := fun v h => by cases h; exact Rat.le_refl
theorem Seg.head (h : ∀ {t r r'}, P t r → P t r' → r = r') : ∀ {rest rest' : Rw}, Seg P s r rest → Seg P s r' rest' → r = r'
  | [], [], a, b => by
    obtain ⟨t, ht⟩ := ge_exists s
    exact h (a t ht) (b t ht)
  | [], (_, some u) :: _, a, b => by
    obtain ⟨t, ht, hu⟩ := gt_between b.1
    exact h (a t ht) (b.2.1 t ht hu)
  | (_, some u) :: _, [], a, b => by
    obtain ⟨t, ht, hu⟩ := gt_between a.1
    exact h (a.2.1 t ht hu) (b t ht)
  | (_, some u) :: _, (_, some w) :: _, a, b => by
    have : Gt s (min u w) := fun v hv => by have := a.1 v hv; have := b.1 v hv; grind
    obtain ⟨t, ht, hu⟩ := gt_between this
    exact h (a.2.1 t ht (by grind)) (b.2.1 t ht (by grind))
  | (_, none) :: _, _, a, _ => a.elim
  | _, (_, none) :: _, _, b => b.elim
theorem Seg.at0 (h : Seg P (some u) r rows) : P u r := by
  cases rows with
  | nil => exact h u (ge_refl u)
  | cons x xs => cases x with
    | mk a b => cases b with
      | none => exact h.elim
      | some w => exact h.2.1 u (ge_refl u) (h.1 u rfl)
theorem Seg.uniq (h : ∀ {t r r'}, P t r → P t r' → r = r') : ∀ {rest rest' : Rw} {s : Option Rat} {r : Nat}, Seg P s r rest → Seg P s r rest' → rest = rest'
  | [], [], _, _, _, _ => rfl
  | [], (r', some u) :: _, s, r, a, b => by
    exact absurd (h (a u (fun v hv => by have := b.1 v hv; grind)) (Seg.at0 b.2.2.2)) b.2.2.1
  | (r', some u) :: _, [], s, r, a, b => by
    exact absurd (h (b u (fun v hv => by have := a.1 v hv; grind)) (Seg.at0 a.2.2.2)) a.2.2.1
  | (r1, some u) :: rest, (r2, some w) :: rest', s, r, a, b => by
    have e : u = w := by
      by_cases c : u < w
      · exact absurd (h (b.2.1 u (fun v hv => by have := a.1 v hv; grind) c) (Seg.at0 a.2.2.2)) a.2.2.1
      · by_cases c : w < u
        · exact absurd (h (a.2.1 w (fun v hv => by have := b.1 v hv; grind) c) (Seg.at0 b.2.2.2)) b.2.2.1
        · grind
    subst e
    have e : r1 = r2 := h (Seg.at0 a.2.2.2) (Seg.at0 b.2.2.2)
    subst e
    rw [Seg.uniq h a.2.2.2 b.2.2.2]
  | (_, none) :: _, _, _, _, a, _ => a.elim
  | [], (_, none) :: _, _, _, _, b => b.elim
  | (_, some _) :: _, (_, none) :: _, _, _, _, b => b.elim
theorem RowOf.uniq {a b : Rw} (h : ∀ {t r r'}, P t r → P t r' → r = r') (x : RowOf P a) (y : RowOf P b) : a = b := by
  obtain ⟨r, rest, rfl, x⟩ := x
  obtain ⟨r', rest', rfl, y⟩ := y
  obtain rfl := Seg.head (P := P) h x y
  rw [Seg.uniq (P := P) h x y]
end
def IsRow (L : List Ln) (rows : Rw) : Prop := (L = [] ∧ rows = []) ∨ (L ≠ [] ∧ RowOf (IsTop L) rows)
theorem IsRow.uniq {L : List Ln} {a b : Rw} (x : IsRow L a) (y : IsRow L b) : a = b := by
  rcases x with ⟨e, rfl⟩ | ⟨n, x⟩ <;> rcases y with ⟨e', rfl⟩ | ⟨n', y⟩
  · rfl
  · exact absurd e n'
  · exact absurd e' n
  · exact x.uniq (fun h k => h.uniq k) y
theorem Seg.rise {L : List Ln} : ∀ {rest : Rw} {s : Option Rat} {r : Nat}, Seg (IsTop L) s r rest → List.Pairwise (fun (a b : Nat × Option Rat) => (ln L a.1).2 < (ln L b.1).2) ((r, s) :: rest) ∧ ∀ x ∈ (r, s) :: rest, x.1 < L.length
  | [], s, r, h => by
    obtain ⟨t, ht⟩ := ge_exists s
    refine ⟨List.pairwise_singleton _ _, fun x hx => ?_⟩
    rw [List.mem_singleton.mp hx]
    exact (h t ht).1
  | (r', some u) :: rest, s, r, h => by
    obtain ⟨i1, i2⟩ := Seg.rise h.2.2.2
    obtain ⟨t, ht, hu⟩ := gt_between h.1
    have a := h.2.1 t ht hu
    have b := Seg.at0 h.2.2.2
    have st := ahd_steep hu (a.2 r' b.1 (Ne.symm h.2.2.1)) (b.2 r a.1 h.2.2.1)
    refine ⟨List.pairwise_cons.mpr ⟨fun x hx => ?_, i1⟩, fun x hx => ?_⟩
    · rcases List.mem_cons.mp hx with rfl | hx
      · exact st
      · have := (List.pairwise_cons.mp i1).1 x hx
        show (ln L r).2 < (ln L x.1).2
        grind
    · rcases List.mem_cons.mp hx with rfl | hx
      · exact a.1
      · exact i2 x hx
  | (_, none) :: _, _, _, h => h.elim
theorem IsRow.rise {L : List Ln} {rows : Rw} (h : IsRow L rows) : List.Pairwise (fun (a b : Nat × Option Rat) => (ln L a.1).2 < (ln L b.1).2) rows ∧ ∀ x ∈ rows, x.1 < L.length := by
  rcases h with ⟨_, rfl⟩ | ⟨_, r, rest, rfl, h⟩
  · exact ⟨.nil, fun _ h => by cases h⟩
  · exact h.rise
/-- unlike numbers below n are at most n -/
theorem nodup_le : ∀ (n : Nat) (xs : List Nat), xs.Nodup → (∀ x ∈ xs, x < n) → xs.length ≤ n
  | 0, [], _, _ => Nat.le_refl _
  | 0, x :: _, _, h => absurd (h x (by simp)) (by omega)
  | n + 1, xs, nd, h => by
    have := nodup_le n (xs.filter (· != n)) (nd.filter _) (fun x hx => by
      obtain ⟨h1, h2⟩ := List.mem_filter.mp hx
      have := h x h1
      have : x ≠ n := by simpa using h2
      omega)
    have e : xs.length ≤ (xs.filter (· != n)).length + 1 := by
      clear this h
      induction xs with
      | nil => simp
      | cons y ys ih =>
        obtain ⟨n1, n2⟩ := List.nodup_cons.mp nd
        by_cases c : y = n
        · subst c
          have : ys.filter (· != y) = ys := List.filter_eq_self.mpr fun z hz => by
            have : z ≠ y := fun e => n1 (e ▸ hz)
            simpa using this
          rw [List.filter_cons_of_neg (by simp), this, List.length_cons]
          exact Nat.le_refl _
        · rw [List.filter_cons_of_pos (by simpa using c), List.length_cons, List.length_cons]
          have := ih n2
          omega
    omega
theorem IsRow.nd {L : List Ln} {rows : Rw} (h : IsRow L rows) : (rows.map (·.1)).Nodup := by
  unfold List.Nodup
  rw [List.pairwise_map]
  exact h.rise.1.imp fun {a b} h e => by rw [e] at h; exact absurd h (by grind)
theorem IsRow.len {L : List Ln} {rows : Rw} (h : IsRow L rows) : rows.length ≤ L.length := by
  have := nodup_le L.length (rows.map (·.1)) h.nd (fun x hx => by
    obtain ⟨y, hy, rfl⟩ := List.mem_map.mp hx
    exact h.rise.2 y hy)
  rwa [List.length_map] at this
/-- how many are steeper -/
def stp (L : List Ln) (q : Rat) : Nat := (L.filter fun l => decide (q < l.2)).length
theorem filter_lt {α : Type} {p q : α → Bool} : ∀ {xs : List α} {x : α}, (∀ y ∈ xs, p y = true → q y = true) → x ∈ xs → q x = true → p x = false → (xs.filter p).length < (xs.filter q).length
  | y :: ys, x, h, hx, h1, h2 => by
    have le : ∀ zs : List α, (∀ y ∈ zs, p y = true → q y = true) → (zs.filter p).length ≤ (zs.filter q).length := by
      intro zs
      induction zs with
      | nil => intro _; simp
      | cons z zs ih =>
        intro h
        have := ih fun y hy => h y (List.mem_cons_of_mem _ hy)
        by_cases c : p z = true
        · rw [List.filter_cons_of_pos c, List.filter_cons_of_pos (h z (by simp) c)]; simpa using this
        · rw [List.filter_cons_of_neg c]
          by_cases d : q z = true
          · rw [List.filter_cons_of_pos d, List.length_cons]; omega
          · rw [List.filter_cons_of_neg d]; exact this
    rcases List.mem_cons.mp hx with rfl | hx
    · rw [List.filter_cons_of_neg (by simp [h2]), List.filter_cons_of_pos h1, List.length_cons]
      have := le ys fun y hy => h y (List.mem_cons_of_mem _ hy)
      omega
    · have := filter_lt (fun y hy => h y (List.mem_cons_of_mem _ hy)) hx h1 h2
      by_cases c : p y = true
      · rw [List.filter_cons_of_pos c, List.filter_cons_of_pos (h y (by simp) c)]; simpa using this
      · rw [List.filter_cons_of_neg c]
        by_cases d : q y = true
        · rw [List.filter_cons_of_pos d, List.length_cons]; omega
        · rw [List.filter_cons_of_neg d]; exact this
theorem stp_lt {L : List Ln} {i j : Nat} (hj : j < L.length) (h : (ln L i).2 < (ln L j).2) : stp L (ln L j).2 < stp L (ln L i).2 := by
  unfold stp
  refine filter_lt (x := ln L j) (fun y _ hy => ?_) (ln_mem hj) (by simpa using h) (by simp)
  simp only [decide_eq_true_eq] at *
  grind
theorem stp_le (L : List Ln) (q : Rat) : stp L q ≤ L.length := List.length_filter_le _ _
/-- the times at which a steeper one passes -/
def Passes (L : List Ln) (r : Nat) (s : Option Rat) (t : Rat) : Prop := ∃ j, j < L.length ∧ (ln L r).2 < (ln L j).2 ∧ t = met (ln L r) (ln L j) ∧ Gt s t
section
variable {L : List Ln} {r r' : Nat} {s : Option Rat} {t u : Rat}
theorem stay_top {t0 : Rat} (h : IsTop L t0 r) (hs : s = some t0) (hge : Ge s t) (hn : ∀ v, Passes L r s v → t < v) : IsTop L t r := by
  subst hs
  have hle := hge t0 rfl
  refine ⟨h.1, fun j hj hne => ?_⟩
  have a := h.2 j hj hne
  by_cases e : (ln L r).2 = (ln L j).2
  · rw [ahd_eq e] at a ⊢; exact a
  · by_cases c : (ln L r).2 < (ln L j).2
    · have c0 : t0 < met (ln L r) (ln L j) := by
        by_cases z : t0 < met (ln L r) (ln L j)
        · exact z
        · have := (ahd_ge e z).mp a; grind
      have := hn _ ⟨j, hj, c, rfl, fun v hv => by cases hv; exact c0⟩
      exact (ahd_lt e this).mpr c
    · have c0 : ¬ t0 < met (ln L r) (ln L j) := fun z => c ((ahd_lt e z).mp a)
      exact (ahd_ge e (by grind)).mpr (by grind)
theorem ear_top (h : IsEar L r) (hn : ∀ v, Passes L r none v → t < v) : IsTop L t r := by
  refine ⟨h.1, fun j hj hne => ?_⟩
  have a := h.2 j hj hne
  refine (ear_ahd fun e => ?_).mpr a
  unfold Ear at a
  rcases a with a | ⟨a, _⟩
  · exact hn _ ⟨j, hj, a, rfl, fun v hv => by cases hv⟩
  · exact absurd a e
/-- at the first passing another one is ahead of all -/
theorem top_steep (c : t < u) (a : IsTop L t r) (b : IsTop L u r') (hne : r ≠ r') : (ln L r).2 < (ln L r').2 := ahd_steep c (a.2 r' b.1 (Ne.symm hne)) (b.2 r a.1 hne)
theorem pass_other (hp : Passes L r s u) (h : IsTop L u r') : r ≠ r' := by
  obtain ⟨j, hj, hs, rfl, _⟩ := hp
  have e : (ln L r).2 ≠ (ln L j).2 := by grind
  have hjr : Ahd L j r (met (ln L r) (ln L j)) := (ahd_ge (Ne.symm e) (by rw [met_comm e]; grind)).mpr hs
  rintro rfl
  have hjn : j ≠ r := by rintro rfl; exact e rfl
  exact ahd_asymm hjr (h.2 j hj hjn)
end
instance : EncU (Nat × Option Rat) where
  uniq := prod_uniq
theorem atI_lastmap {α β : Type} {e : α → β} {xs : List α} {x : α} : atI ((xs ++ [x]).map e) (-1) = some (e x) := by rw [List.map_append]; exact L2.atI_last _ _
theorem zipD_map {α β : Type} {e : α → D} {g : β → D} (xs : List α) (ys : List β) : zipD (xs.map e) (ys.map g) = (xs.zip ys).map fun p => D.tup [e p.1, g p.2] := by
  unfold zipD
  rw [List.zip_map, List.map_map]; rfl
theorem pw_zip {α : Type} {R : α → α → Prop} : ∀ {xs : List α}, xs.Pairwise R → ∀ p ∈ xs.zip (xs.drop 1), R p.1 p.2
  | [], _, p, h => by simp at h
  | [x], _, p, h => by simp at h
  | x :: y :: ys, hp, p, h => by
    obtain ⟨h1, h2⟩ := List.pairwise_cons.mp hp
    rw [List.drop_succ_cons, List.drop_zero, List.zip_cons_cons] at h
    rcases List.mem_cons.mp h with rfl | h
    · exact h1 y (by simp)
    · exact pw_zip h2 p (by rw [List.drop_succ_cons, List.drop_zero]; exact h)
theorem mem_ln {L : List Ln} {l : Ln} : l ∈ L ↔ ∃ j, j < L.length ∧ ln L j = l := by
  constructor
  · intro h
    obtain ⟨j, hj, e⟩ := List.getElem_of_mem h
    refine ⟨j, hj, ?_⟩
    have := ln_get hj
    rw [List.getElem?_eq_getElem hj] at this
    rw [← Option.some.inj this]; exact e
  · rintro ⟨j, hj, rfl⟩; exact ln_mem hj
theorem inc_mid {d r : List Rat} {x : Rat} (h : Inc (d ++ x :: r)) : (∀ m ∈ d, m < x) ∧ ∀ m ∈ r, x < m := by
  obtain ⟨_, h2, h3⟩ := List.pairwise_append.mp h
  exact ⟨fun m hm => h3 m hm x (by simp), (List.pairwise_cons.mp h2).1⟩
end DL
namespace DL
open PySem PySem.Spec PyProof.Rows L2
/-! ### rows read, the front -/
def rd (r : Nat) (rest : Rw) (t : Rat) : Nat := rest.foldl (fun acc x => match x.2 with
  | some u => if t < u then acc else x.1
  | none => acc) r
theorem seg_sn {P : Rat → Nat → Prop} : ∀ {rest : Rw} {s : Option Rat} {r : Nat}, Seg P s r rest → ∀ x ∈ rest, ∃ u, x.2 = some u
  | [], _, _, _, _, h => by cases h
  | (x, some u) :: rest, _, _, h, y, hy => by
    rcases List.mem_cons.mp hy with rfl | hy
    · exact ⟨u, rfl⟩
    · exact seg_sn h.2.2.2 y hy
  | (_, none) :: _, _, _, h, _, _ => h.elim
/-- at a since two are level: the one till then and the one from then on -/
theorem seg_level {L : List Ln} : ∀ {rest : Rw} {s : Option Rat} {r : Nat}, Seg (IsTop L) s r rest → ∀ x ∈ rest, ∀ u, x.2 = some u → ∃ a b, a < L.length ∧ b < L.length ∧ (ln L a).2 < (ln L b).2 ∧ u = met (ln L a) (ln L b) ∧ IsTop L u b
  | [], _, _, _, _, h => by cases h
  | (x, some u) :: rest, s, r, h, y, hy => by
    rcases List.mem_cons.mp hy with rfl | hy
    · intro w hw
      obtain rfl : u = w := Option.some.inj hw
      have tx := Seg.at0 h.2.2.2
      obtain ⟨t, ht, hu⟩ := gt_between h.1
      have tr := h.2.1 t ht hu
      have st := top_steep hu tr tx h.2.2.1
      refine ⟨r, x, tr.1, tx.1, st, ?_, tx⟩
      have ne : (ln L r).2 ≠ (ln L x).2 := by grind
      by_cases c : met (ln L r) (ln L x) < u
      · -- x is ahead of r from the meeting on
        have hge : Ge s (max t (met (ln L r) (ln L x))) := fun v hv => by have := ht v hv; grind
        have tr2 := h.2.1 _ hge (by grind)
        have a := tr2.2 x tx.1 (Ne.symm h.2.2.1)
        have := (ahd_ge ne (by grind)).mp a
        grind
      · by_cases c2 : u < met (ln L r) (ln L x)
        · have a := tx.2 r tr.1 h.2.2.1
          have := (ahd_lt (Ne.symm ne) (by rw [met_comm (Ne.symm ne)]; exact c2)).mp a
          grind
        · grind
    · exact seg_level h.2.2.2 y hy
  | (_, none) :: _, _, _, h, _, _ => h.elim
/-- those whose place none is greater than -/
def fr (L : List Ln) (t : Rat) (i : Nat) : Bool := !(L.any fun l => decide (at_ (ln L i) t < at_ l t))
end DL
namespace DL
open PySem PySem.Spec PyProof.Rows L2
/-! ### rows of any numbers -/
instance : EncU (Int × Option Rat) where
  uniq := prod_uniq
/-- a slice -/
def cutG {α : Type} (xs : List α) (lo hi : Option Int) : List α := (xs.drop (HT.sIx xs.length 0 lo)).take (HT.sIx xs.length xs.length hi - HT.sIx xs.length 0 lo)
theorem cutD_map {α : Type} {e : α → D} {xs : List α} {lo hi : Option Int} : cutD (xs.map e) lo hi = (cutG xs lo hi).map e := by
  unfold cutD cutG; rw [List.length_map, List.map_take, List.map_drop]
theorem cutG_1 {α : Type} {xs : List α} : cutG xs (some 1) none = xs.drop 1 := by
  show (xs.drop (HT.sIx xs.length 0 (some ((1 : Nat) : Int)))).take (HT.sIx xs.length xs.length none - HT.sIx xs.length 0 (some ((1 : Nat) : Int))) = _
  rw [HT.sIx_nat, HT.sIx_none]
  by_cases h : 1 ≤ xs.length
  · rw [Nat.min_eq_left h, List.take_of_length_le (by rw [List.length_drop]; omega)]
  · rw [Nat.min_eq_right (by omega), List.drop_eq_nil_of_le (by omega), List.drop_eq_nil_of_le (by omega)]; simp
end DL
namespace DL
open PySem PySem.Spec PyProof.Rows L2
/-! ### covers -/
def Cov (L : List Ln) (r a b : Nat) : Prop := ∀ t, Ahd L a r t ∨ Ahd L b r t
theorem Cov.symm {L : List Ln} {r a b : Nat} (h : Cov L r a b) : Cov L r b a := fun t => (h t).symm
theorem ahd_const {L : List Ln} {i j : Nat} {t : Rat} (e : (ln L i).2 = (ln L j).2) (h : Ahd L i j t) (u : Rat) : Ahd L i j u := by
  rw [ahd_eq e] at h ⊢; exact h
/-- which two, along the row -/
def cvp (L : List Ln) (q : Rat) : List Nat → Nat × Nat
  | [] => (0, 0)
  | [a] => (a, a)
  | a :: b :: rest => if q < (ln L b).2 then (a, b) else cvp L q (b :: rest)
theorem seg_cov {L : List Ln} {r : Nat} (hr : r < L.length) : ∀ {rest : Rw} {s : Option Rat} {r0 : Nat}, Seg (IsTop L) s r0 rest → r ≠ r0 → r ∉ rest.map (·.1) → (ln L r0).2 ≤ (ln L r).2 →
    Cov L r (cvp L (ln L r).2 (r0 :: rest.map (·.1))).1 (cvp L (ln L r).2 (r0 :: rest.map (·.1))).2 ∧ (cvp L (ln L r).2 (r0 :: rest.map (·.1))).1 ∈ r0 :: rest.map (·.1) ∧ (cvp L (ln L r).2 (r0 :: rest.map (·.1))).2 ∈ r0 :: rest.map (·.1)
  | [], s, r0, h, hne, _, hle => by
    refine ⟨fun t => .inl ?_, by simp [cvp], by simp [cvp]⟩
    show Ahd L r0 r t
    by_cases e : (ln L r0).2 = (ln L r).2
    · obtain ⟨t0, ht0⟩ := ge_exists s
      exact ahd_const e ((h t0 ht0).2 r hr hne) t
    · obtain ⟨t0, ht0⟩ := ge_exists s
      have hge : Ge s (max t0 (met (ln L r0) (ln L r))) := fun v hv => by have := ht0 v hv; grind
      have a := (h _ hge).2 r hr hne
      have := (ahd_ge e (by grind)).mp a
      grind
  | (r1, none) :: _, _, _, h, _, _, _ => h.elim
  | (r1, some u) :: rest, s, r0, h, hne, hni, hle => by
    have hne1 : r ≠ r1 := fun z => hni (by simp [z])
    have hni1 : r ∉ rest.map (·.1) := fun z => hni (List.mem_cons_of_mem _ z)
    have top1 := Seg.at0 h.2.2.2
    by_cases c : (ln L r).2 < (ln L r1).2
    · have e : cvp L (ln L r).2 (r0 :: ((r1, some u) :: rest).map (·.1)) = (r0, r1) := by
        show (if (ln L r).2 < (ln L r1).2 then (r0, r1) else _) = _
        rw [if_pos c]
      rw [e]
      refine ⟨fun t => ?_, by simp, by simp⟩
      by_cases ct : t < u
      · left
        show Ahd L r0 r t
        obtain ⟨t0, ht0, hlt⟩ := gt_between h.1
        by_cases e : (ln L r0).2 = (ln L r).2
        · exact ahd_const e ((h.2.1 t0 ht0 hlt).2 r hr hne) t
        · have hge : Ge s (max t0 t) := fun v hv => by have := ht0 v hv; grind
          have a := (h.2.1 _ hge (by grind)).2 r hr hne
          have hlt2 : max t0 t < met (ln L r0) (ln L r) := by
            by_cases z : max t0 t < met (ln L r0) (ln L r)
            · exact z
            · have := (ahd_ge e z).mp a; grind
          exact (ahd_lt e (by grind)).mpr (by grind)
      · right
        show Ahd L r1 r t
        have a := top1.2 r hr hne1
        have ne : (ln L r1).2 ≠ (ln L r).2 := by grind
        have : ¬ u < met (ln L r1) (ln L r) := fun z => by have := (ahd_lt ne z).mp a; grind
        exact (ahd_ge ne (by grind)).mpr c
    · have e : cvp L (ln L r).2 (r0 :: ((r1, some u) :: rest).map (·.1)) = cvp L (ln L r).2 (r1 :: rest.map (·.1)) := by
        show (if (ln L r).2 < (ln L r1).2 then (r0, r1) else _) = _
        rw [if_neg c]
      rw [e]
      obtain ⟨i1, i2, i3⟩ := seg_cov hr h.2.2.2 hne1 hni1 (by grind)
      exact ⟨i1, List.mem_cons_of_mem _ i2, List.mem_cons_of_mem _ i3⟩
def cvr (L : List Ln) (rows : Rw) (r : Nat) : Option (Nat × Nat) := if r ∈ rows.map (·.1) then none else some (cvp L (ln L r).2 (rows.map (·.1)))
def eCv : Option (Nat × Nat) → D
  | none => .non
  | some p => .tup [.int (p.1 : Int), .int (p.2 : Int)]
/-- the first of the row has the least slope -/
theorem first_least {L : List Ln} {r0 : Nat} {rest : Rw} (h : Seg (IsTop L) none r0 rest) {r : Nat} (hr : r < L.length) : (ln L r0).2 ≤ (ln L r).2 := by
  by_cases hne : r = r0
  · subst hne; exact Rat.le_refl
  by_cases e : (ln L r0).2 = (ln L r).2
  · grind
  have key : ∃ t, IsTop L t r0 ∧ t < met (ln L r0) (ln L r) := by
    cases rest with
    | nil => exact ⟨met (ln L r0) (ln L r) - 1, h _ (fun v hv => by cases hv), by grind⟩
    | cons x xs =>
      obtain ⟨x1, x2⟩ := x
      cases x2 with
      | none => exact h.elim
      | some u => exact ⟨min u (met (ln L r0) (ln L r)) - 1, h.2.1 _ (fun v hv => by cases hv) (by grind), by grind⟩
  obtain ⟨t, ht, hlt⟩ := key
  have := (ahd_lt e hlt).mp (ht.2 r hr hne)
  grind
theorem cvr_ok {L : List Ln} {rows : Rw} (h : IsRow L rows) {r : Nat} (hr : r < L.length) (hn : r ∉ rows.map (·.1)) :
    Cov L r (cvp L (ln L r).2 (rows.map (·.1))).1 (cvp L (ln L r).2 (rows.map (·.1))).2 ∧ (cvp L (ln L r).2 (rows.map (·.1))).1 ∈ rows.map (·.1) ∧ (cvp L (ln L r).2 (rows.map (·.1))).2 ∈ rows.map (·.1) := by
  rcases h with ⟨rfl, _⟩ | ⟨_, r0, rest, rfl, h⟩
  · simp at hr
  · exact seg_cov hr h (fun z => hn (by simp [z])) (fun z => hn (List.mem_cons_of_mem _ z)) (first_least h hr)
/-- who is in the row leads at some time -/
theorem seg_leads {P : Rat → Nat → Prop} : ∀ {rest : Rw} {s : Option Rat} {r : Nat}, Seg P s r rest → ∀ x ∈ r :: rest.map (·.1), ∃ t, P t x
  | [], s, r, h, x, hx => by
    obtain ⟨t, ht⟩ := ge_exists s
    rw [List.mem_singleton.mp hx]
    exact ⟨t, h t ht⟩
  | (r1, some u) :: rest, s, r, h, x, hx => by
    rcases List.mem_cons.mp hx with rfl | hx
    · obtain ⟨t, ht, hlt⟩ := gt_between h.1
      exact ⟨t, h.2.1 t ht hlt⟩
    · exact seg_leads h.2.2.2 x hx
  | (_, none) :: _, _, _, h, _, _ => h.elim
theorem row_leads {L : List Ln} {rows : Rw} (h : IsRow L rows) {x : Nat} (hx : x ∈ rows.map (·.1)) : ∃ t, IsTop L t x := by
  rcases h with ⟨_, rfl⟩ | ⟨_, r0, rest, rfl, h⟩
  · cases hx
  · exact seg_leads h x hx
/-! ### probes hit each stretch -/
theorem ahd_same {L : List Ln} {i j : Nat} {t u : Rat} (h : (ln L i).2 ≠ (ln L j).2 → (met (ln L i) (ln L j) ≤ t ↔ met (ln L i) (ln L j) ≤ u)) : Ahd L i j t ↔ Ahd L i j u := by
  by_cases e : (ln L i).2 = (ln L j).2
  · rw [ahd_eq e, ahd_eq e]
  · have := h e
    by_cases c : t < met (ln L i) (ln L j)
    · rw [ahd_lt e c, ahd_lt e (by grind)]
    · rw [ahd_ge e c, ahd_ge e (by grind)]
/-! ### covers looked at -/
def Alw (L : List Ln) (a r : Nat) : Prop := (ln L a).2 = (ln L r).2 ∧ Ahd L a r 0
def Jnt (L : List Ln) (r a b : Nat) : Prop := (ln L a).2 < (ln L r).2 ∧ (ln L r).2 < (ln L b).2 ∧ ¬ met (ln L a) (ln L r) < met (ln L b) (ln L r)
instance (L : List Ln) (a r : Nat) : Decidable (Alw L a r) := by unfold Alw; infer_instance
instance (L : List Ln) (r a b : Nat) : Decidable (Jnt L r a b) := by unfold Jnt; infer_instance
theorem jnt_cov {L : List Ln} {r a b : Nat} (h : Jnt L r a b) : Cov L r a b := fun t => by
  obtain ⟨h1, h2, h3⟩ := h
  by_cases c : t < met (ln L a) (ln L r)
  · exact .inl ((ahd_lt (by grind) c).mpr h1)
  · exact .inr ((ahd_ge (by grind) (by grind)).mpr h2)
theorem cov_iff {L : List Ln} {r a b : Nat} : Cov L r a b ↔ Alw L a r ∨ Alw L b r ∨ Jnt L r a b ∨ Jnt L r b a := by
  constructor
  · intro h
    by_cases ha : Alw L a r
    · exact .inl ha
    by_cases hb : Alw L b r
    · exact .inr (.inl hb)
    have na : (ln L a).2 = (ln L r).2 → ∀ t, ¬ Ahd L a r t := fun e t z => ha ⟨e, ahd_const e z 0⟩
    have nb : (ln L b).2 = (ln L r).2 → ∀ t, ¬ Ahd L b r t := fun e t z => hb ⟨e, ahd_const e z 0⟩
    -- early and late
    have early := h (min (met (ln L a) (ln L r)) (met (ln L b) (ln L r)) - 1)
    have late := h (max (met (ln L a) (ln L r)) (met (ln L b) (ln L r)))
    by_cases ea : (ln L a).2 = (ln L r).2
    · have e1 := early.resolve_left (na ea _)
      have l1 := late.resolve_left (na ea _)
      by_cases eb : (ln L b).2 = (ln L r).2
      · exact absurd e1 (nb eb _)
      · have := (ahd_lt eb (by grind)).mp e1
        have := (ahd_ge eb (by grind)).mp l1
        grind
    · by_cases eb : (ln L b).2 = (ln L r).2
      · have e1 := early.resolve_right (nb eb _)
        have l1 := late.resolve_right (nb eb _)
        have := (ahd_lt ea (by grind)).mp e1
        have := (ahd_ge ea (by grind)).mp l1
        grind
      · rw [ahd_lt ea (by grind), ahd_lt eb (by grind)] at early
        rw [ahd_ge ea (by grind), ahd_ge eb (by grind)] at late
        right; right
        by_cases c : (ln L a).2 < (ln L r).2
        · left
          have c2 : (ln L r).2 < (ln L b).2 := by grind
          refine ⟨c, c2, fun z => ?_⟩
          rcases h (met (ln L a) (ln L r)) with k | k
          · have := (ahd_ge ea (by grind)).mp k; grind
          · have := (ahd_lt eb z).mp k; grind
        · right
          have c1 : (ln L r).2 < (ln L a).2 := by grind
          have c2 : (ln L b).2 < (ln L r).2 := by grind
          refine ⟨c2, c1, fun z => ?_⟩
          rcases h (met (ln L b) (ln L r)) with k | k
          · have := (ahd_lt ea z).mp k; grind
          · have := (ahd_ge eb (by grind)).mp k; grind
  · rintro (h | h | h | h)
    · exact fun t => .inl (ahd_const h.1 h.2 t)
    · exact fun t => .inr (ahd_const h.1 h.2 t)
    · exact jnt_cov h
    · exact (jnt_cov h).symm
/-- a number of a runner -/
def Rn (L : List Ln) (r : Nat) (i : Int) : Prop := i ≠ (r : Int) ∧ 0 ≤ i ∧ i < (L.length : Int)
instance (L : List Ln) (r : Nat) (i : Int) : Decidable (Rn L r i) := by unfold Rn; infer_instance
def IsCov (L : List Ln) (r : Nat) (i j : Int) : Prop := Rn L r i ∧ Rn L r j ∧ Cov L r i.toNat j.toNat
theorem isNon_eCv (c : Option (Nat × Nat)) : isNon (eCv c) = c.isNone := by cases c <;> rfl
instance : EncU (Nat × Nat) where
  uniq := prod_uniq
instance : Enc (Option (Nat × Nat)) where
  enc := eCv
  py
    | none => .none
    | some q => Enc.py q
  isPy S a := by cases a with
    | none => exact .non
    | some q => exact Enc.isPy S q
  eqv a b := by
    cases a <;> cases b
    · simp [PyData.eqv]
    · rename_i q; simp [PyData.eqv, Enc.py]
    · rename_i q; simp [PyData.eqv, Enc.py]
    · rename_i p q; simp only [Enc.eqv]; exact decide_eq_decide.mpr (by simp)
  lay a := by cases a with
    | none => simp [PyData.canLay0]
    | some q => exact Enc.lay q
  dep := 1
  dep_le a := by cases a with
    | none => simp [PyData.depth]
    | some q => exact Enc.dep_le q
instance : EncU (Option (Nat × Nat)) where
  uniq S a p h := by
    cases a with
    | none => cases h; rfl
    | some q => exact EncU.uniq S q p h
theorem eCv_ni (o : Option (Nat × Nat)) : (∀ i, eCv o ≠ .int i) ∧ (∀ i, eCv o ≠ .bl i) ∧ (∀ i, eCv o ≠ .str i) := by
  cases o <;> (refine ⟨?_, ?_, ?_⟩ <;> intro i h <;> cases h)
theorem z_neCv {S : Sto} {Q : VK2} {a b : Option (Nat × Nat)} : rNe (eCv a) (eCv b) S Q = Q (.bl (!decide (a = b))) S := (rNe_ne (eCv_ni a).1 (eCv_ni a).2.1 (eCv_ni a).2.2).trans (eqD_ex (Q := fun c => Q (.bl (!c)) S) a b)
end DL
namespace DL
open PySem PySem.Spec PyProof.Rows L2
theorem nodup_sub {α : Type} [DecidableEq α] : ∀ {xs ys : List α}, xs.Nodup → (∀ x ∈ xs, x ∈ ys) → xs.length ≤ ys.length
  | [], _, _, _ => Nat.zero_le _
  | x :: xs, ys, h, s => by
    obtain ⟨h1, h2⟩ := List.nodup_cons.mp h
    have hx : x ∈ ys := s x (by simp)
    have := nodup_sub (ys := ys.erase x) h2 fun z hz => (List.mem_erase_of_ne (fun e : z = x => h1 (by rw [← e]; exact hz))).mpr (s z (List.mem_cons_of_mem _ hz))
    rw [List.length_erase_of_mem hx] at this
    have hp := List.length_pos_of_mem hx
    rw [List.length_cons]
    omega
end DL
namespace DL
open PySem PySem.Spec PyProof.Rows L2
/-! ### another pen -/
@[reducible] def penP (sc : List Int) (x y : Int) : O := .lst [.int x, .int y, .fl (sc.map D.int)]
def PenB (S : Sto) (a : Addr) (sc : List Int) : Prop := ∃ x y, S a = some (penP sc x y)
section
variable {S S' : Sto} {a p : Addr} {sc : List Int} {o : O} {x y : Int} {L : List Ln}
theorem penB_again : PenB (ups S a (penP sc x y)) a sc := ⟨x, y, ups_same⟩
theorem PenB.ne (h : PenB S a sc) (n : S p = none) : a ≠ p := let ⟨_, _, e⟩ := h; ne_of_st e n
theorem PenB.new (h : PenB S a sc) (n : S p = none) : PenB (ups S p o) a sc := let ⟨x, y, e⟩ := h; ⟨x, y, by rw [ups_ne (ne_of_st e n)]; exact e⟩
theorem PenB.upd (h : PenB S a sc) (n : a ≠ p) : PenB (ups S p o) a sc := let ⟨x, y, e⟩ := h; ⟨x, y, by rw [ups_ne n]; exact e⟩
theorem PenB.sub (h : PenB S a sc) (s : Sub S S') : PenB S' a sc := let ⟨x, y, e⟩ := h; ⟨x, y, s _ _ e⟩
theorem LA.penB (h : LA S p L) (hp : PenB S a sc) : p ≠ a := by
  rintro rfl
  obtain ⟨x, y, e⟩ := hp
  have := h.st.symm.trans e
  cases L with
  | nil => cases this
  | cons l L => injection this with h1; injection h1 with h1; injection h1 with h2 h3; cases h2
end
/-! ### orders -/
structure IsOrd (L : List Ln) (t : Rat) (n : Nat) (O : List Nat) : Prop where
  pw : O.Pairwise fun i j => Ahd L i j t
  mem : ∀ i, i ∈ O ↔ i < n
theorem pw_ext {α : Type} {R : α → α → Prop} (as : ∀ a b, R a b → R b a → False) : ∀ {xs ys : List α}, xs.Pairwise R → ys.Pairwise R → (∀ z, z ∈ xs ↔ z ∈ ys) → xs = ys
  | [], [], _, _, _ => rfl
  | [], y :: ys, _, _, h => by have := (h y).mpr (by simp); cases this
  | x :: xs, [], _, _, h => by have := (h x).mp (by simp); cases this
  | x :: xs, y :: ys, hx, hy, h => by
    obtain ⟨x1, x2⟩ := List.pairwise_cons.mp hx
    obtain ⟨y1, y2⟩ := List.pairwise_cons.mp hy
    have e : x = y := by
      rcases List.mem_cons.mp ((h x).mp (by simp)) with e | e
      · exact e
      · rcases List.mem_cons.mp ((h y).mpr (by simp)) with e' | e'
        · exact e'.symm
        · exact (as _ _ (x1 y e') (y1 x e)).elim
    subst e
    rw [pw_ext as x2 y2 fun z => ?_]
    constructor
    · intro hz
      rcases List.mem_cons.mp ((h z).mp (List.mem_cons_of_mem _ hz)) with e | e
      · subst e; exact (as _ _ (x1 z hz) (x1 z hz)).elim
      · exact e
    · intro hz
      rcases List.mem_cons.mp ((h z).mpr (List.mem_cons_of_mem _ hz)) with e | e
      · subst e; exact (as _ _ (y1 z hz) (y1 z hz)).elim
      · exact e
theorem IsOrd.uniq {L : List Ln} {t : Rat} {n : Nat} {O O' : List Nat} (h : IsOrd L t n O) (k : IsOrd L t n O') : O = O' := pw_ext (fun _ _ a b => ahd_asymm a b) h.pw k.pw fun z => by rw [h.mem, k.mem]
theorem IsOrd.nil {L : List Ln} {t : Rat} : IsOrd L t 0 [] := ⟨.nil, fun i => ⟨fun h => (by cases h), fun h => (by omega)⟩⟩
theorem IsOrd.nd {L : List Ln} {t : Rat} {n : Nat} {O : List Nat} (h : IsOrd L t n O) : O.Nodup := h.pw.imp fun {a b} x e => by subst e; exact ahd_irr x
theorem IsOrd.len {L : List Ln} {t : Rat} {n : Nat} {O : List Nat} (h : IsOrd L t n O) : O.length = n := by
  have h1 := nodup_le n O h.nd fun x hx => (h.mem x).mp hx
  have h2 := nodup_sub (xs := List.range n) (ys := O) List.nodup_range fun x hx => (h.mem x).mpr (List.mem_range.mp hx)
  rw [List.length_range] at h2
  omega
/-- one more, put where those behind begin -/
theorem IsOrd.ins {L : List Ln} {t : Rat} {n k : Nat} {O : List Nat} (h : IsOrd L t n O) (h1 : ∀ i ∈ O.take k, Ahd L i n t) (h2 : ∀ i ∈ O.drop k, Ahd L n i t) : IsOrd L t (n + 1) (O.take k ++ [n] ++ O.drop k) := by
  have hp := h.pw
  rw [← List.take_append_drop k O] at hp
  obtain ⟨p1, p2, p3⟩ := List.pairwise_append.mp hp
  constructor
  · rw [List.append_assoc]
    refine List.pairwise_append.mpr ⟨p1, List.pairwise_cons.mpr ⟨h2, p2⟩, fun a ha b hb => ?_⟩
    rcases List.mem_cons.mp hb with rfl | hb
    · exact h1 a ha
    · exact p3 a ha b hb
  · intro i
    have : i ∈ O ↔ i ∈ O.take k ∨ i ∈ O.drop k := by rw [← List.mem_append, List.take_append_drop]
    have hm := h.mem i
    simp only [List.mem_append, List.mem_singleton]
    constructor
    · rintro ((a | a) | a)
      · have := hm.mp (this.mpr (.inl a)); omega
      · omega
      · have := hm.mp (this.mpr (.inr a)); omega
    · intro a
      by_cases e : i = n
      · exact .inl (.inr e)
      · rcases this.mp (hm.mpr (by omega)) with b | b
        · exact .inl (.inl b)
        · exact .inr b
/-- in a list in order those ahead of n stand ahead -/
theorem ord_split {L : List Ln} {t : Rat} {n k : Nat} {O : List Nat} (h : IsOrd L t n O) (hk : k ≤ O.length) (h2 : ∀ i ∈ O.drop k, Ahd L n i t) (h1 : k = 0 ∨ ∃ j, O[k - 1]? = some j ∧ Ahd L j n t) : IsOrd L t (n + 1) (O.take k ++ [n] ++ O.drop k) := by
  refine h.ins (fun i hi => ?_) h2
  rcases h1 with rfl | ⟨j, hj, a⟩
  · simp at hi
  · obtain ⟨m, hm, rfl⟩ := List.getElem_of_mem hi
    rw [List.length_take] at hm
    rw [List.getElem_take]
    by_cases e : m = k - 1
    · subst e
      rw [List.getElem?_eq_getElem (by omega)] at hj
      rw [Option.some.inj hj]; exact a
    · have hk1 : k - 1 < O.length := (List.getElem?_eq_some_iff.mp hj).1
      have := List.pairwise_iff_getElem.mp h.pw m (k - 1) (by omega) hk1 (by omega)
      rw [List.getElem?_eq_getElem hk1] at hj
      rw [Option.some.inj hj] at this
      exact ahd_trans this a
/-- the law's way: those not behind, the new one, those behind -/
theorem ord_filter {L : List Ln} {t : Rat} {n : Nat} {O : List Nat} (h : IsOrd L t n O) : IsOrd L t (n + 1) (O.filter (fun o => !decide (Ahd L n o t)) ++ [n] ++ O.filter fun o => decide (Ahd L n o t)) := by
  constructor
  · rw [List.append_assoc]
    refine List.pairwise_append.mpr ⟨h.pw.filter _, List.pairwise_cons.mpr ⟨fun b hb => by simpa using (List.mem_filter.mp hb).2, h.pw.filter _⟩, fun a ha b hb => ?_⟩
    obtain ⟨a1, a2⟩ := List.mem_filter.mp ha
    have a2 : ¬ Ahd L n a t := by simpa using a2
    have ha' : Ahd L a n t := (ahd_total (L := L) (t := t) (i := a) (j := n) (by have := (h.mem a).mp a1; omega)).resolve_right a2
    rcases List.mem_cons.mp hb with rfl | hb
    · exact ha'
    · exact ahd_trans ha' (by simpa using (List.mem_filter.mp hb).2)
  · intro i
    have hm := h.mem i
    simp only [List.mem_append, List.mem_singleton, List.mem_filter]
    constructor
    · rintro ((a | a) | a)
      · have := hm.mp a.1; omega
      · omega
      · have := hm.mp a.1; omega
    · intro a
      by_cases e : i = n
      · exact .inl (.inr e)
      · have := hm.mpr (by omega)
        by_cases c : Ahd L n i t
        · exact .inr ⟨this, by simpa using c⟩
        · exact .inl (.inl ⟨this, by simpa using c⟩)
theorem through_quo (p m t : Rat) : ((p.num * (m.den : Int) * (t.den : Int) - m.num * t.num * (p.den : Int) : Int) : Rat) / ((p.den : Int) * (m.den : Int) * (t.den : Int) : Int) = p - m * t := by
  rw [Rat.intCast_sub, Rat.intCast_mul, Rat.intCast_mul, Rat.intCast_mul, Rat.intCast_mul, Rat.intCast_mul, Rat.intCast_mul]
  have h1 := q_nn p
  have h2 := q_nn m
  have h3 := q_nn t
  have h4 := den_neR p
  have h5 := den_neR m
  have h6 := den_neR t
  grind
theorem met_quo (l m : Ln) (h : l.2 ≠ m.2) : (((m.1.num * (l.1.den : Int) - l.1.num * (m.1.den : Int)) * (l.2.den : Int) * (m.2.den : Int) : Int) : Rat) / (((l.2.num * (m.2.den : Int) - m.2.num * (l.2.den : Int)) * (l.1.den : Int) * (m.1.den : Int) : Int) : Rat) = met l m := by
  unfold met
  rw [Rat.intCast_mul, Rat.intCast_mul, Rat.intCast_sub, Rat.intCast_mul, Rat.intCast_mul, Rat.intCast_mul, Rat.intCast_mul, Rat.intCast_sub, Rat.intCast_mul, Rat.intCast_mul]
  have h1 := q_nn l.1
  have h2 := q_nn l.2
  have h3 := q_nn m.1
  have h4 := q_nn m.2
  have h5 := den_neR l.1
  have h6 := den_neR l.2
  have h7 := den_neR m.1
  have h8 := den_neR m.2
  have h9 := sub_ne h
  rw [h1, h2, h3, h4]
  generalize ((l.1.den : Int) : Rat) = a at *
  generalize ((l.2.den : Int) : Rat) = b at *
  generalize ((m.1.den : Int) : Rat) = c at *
  generalize ((m.2.den : Int) : Rat) = d at *
  have k0 : a * b * (c * d) ≠ 0 := by
    have k1 : a * b ≠ 0 := by grind
    have k2 : c * d ≠ 0 := by grind
    grind
  have e1 : (m.1 * c * a - l.1 * a * c) * b * d = (m.1 - l.1) * (a * b * (c * d)) := by grind
  have e2 : (l.2 * b * d - m.2 * d * b) * a * c = (l.2 - m.2) * (a * b * (c * d)) := by grind
  rw [e1, e2]
  generalize a * b * (c * d) = k at *
  generalize m.1 - l.1 = x at *
  generalize l.2 - m.2 = y at *
  clear e1 e2 h1 h2 h3 h4 h
  have hyk : y * k ≠ 0 := by grind
  grind
end DL
namespace DL
open PySem PySem.Spec PyProof.Rows L2
/-! ### nested data, as == reads it -/
class PyV (α : Type) [DecidableEq α] where
  py : α → PyData
  eqv : ∀ a b, PyData.eqv (py a) (py b) = decide (a = b)
  lay : ∀ a, (py a).canLay0 = true
  dep : Nat
  dep_le : ∀ a, (py a).depth ≤ dep
/-- no None -/
class PyN (α : Type) [DecidableEq α] [PyV α] : Prop where
  nn : ∀ a : α, PyData.eqv .none (PyV.py a) = false ∧ PyData.eqv (PyV.py a) .none = false
structure Tri (α β γ : Type) where
  a : α
  b : β
  c : γ
deriving DecidableEq
instance (priority := 2000) pyvEnc {α : Type} [DecidableEq α] [Enc α] : PyV α where
  py := Enc.py
  eqv := Enc.eqv
  lay := Enc.lay
  dep := Enc.dep α
  dep_le := Enc.dep_le
section
variable {α β γ : Type} [DecidableEq α] [DecidableEq β] [DecidableEq γ]
section
variable [PyV α] [PyV β] [PyV γ]
theorem pyv_all : ∀ xs ys : List α, PyData.eqvAll (xs.map PyV.py) (ys.map PyV.py) = decide (xs = ys)
  | [], [] => by simp [PyData.eqvAll]
  | [], _ :: _ => by simp [PyData.eqvAll]
  | _ :: _, [] => by simp [PyData.eqvAll]
  | x :: xs, y :: ys => by
    simp only [List.map_cons, PyData.eqvAll]
    rw [PyV.eqv x y, pyv_all xs ys, ← Bool.decide_and]
    exact decide_eq_decide.mpr (by rw [List.cons.injEq])
theorem pyv_lay : ∀ xs : List α, PyData.canLayAll0 (xs.map PyV.py) = true
  | [] => by simp [PyData.canLayAll0]
  | x :: xs => by simp [PyData.canLayAll0, PyV.lay x, pyv_lay xs]
theorem pyv_dep : ∀ xs : List α, PyData.depthAll (xs.map PyV.py) ≤ PyV.dep α
  | [] => by simp [PyData.depthAll]
  | x :: xs => by
    have h1 := pyv_dep xs
    have h2 := PyV.dep_le x
    simp only [List.map_cons, PyData.depthAll]
    omega
instance : PyV (List α) where
  py xs := .list (xs.map PyV.py)
  eqv a b := by simp only [PyData.eqv]; exact pyv_all a b
  lay a := by simp only [PyData.canLay0]; exact pyv_lay a
  dep := PyV.dep α + 1
  dep_le a := by simp only [PyData.depth]; have := pyv_dep a; omega
instance : PyV (α × β) where
  py p := .tuple [PyV.py p.1, PyV.py p.2]
  eqv a b := by
    simp only [PyData.eqv, PyData.eqvAll]
    rw [Bool.and_true, PyV.eqv, PyV.eqv, ← Bool.decide_and]
    exact decide_eq_decide.mpr ⟨fun h => Prod.ext h.1 h.2, fun h => by rw [h]; exact ⟨rfl, rfl⟩⟩
  lay p := by simp [PyData.canLay0, PyData.canLayAll0, PyV.lay]
  dep := max (PyV.dep α) (PyV.dep β) + 1
  dep_le p := by
    simp only [PyData.depth, PyData.depthAll]
    have h1 := PyV.dep_le p.1
    have h2 := PyV.dep_le p.2
    omega
instance : PyV (Tri α β γ) where
  py p := .tuple [PyV.py p.a, PyV.py p.b, PyV.py p.c]
  eqv x y := by
    simp only [PyData.eqv, PyData.eqvAll]
    rw [Bool.and_true, PyV.eqv, PyV.eqv, PyV.eqv, ← Bool.decide_and, ← Bool.decide_and]
    exact decide_eq_decide.mpr (by cases x; cases y; simp)
  lay p := by simp [PyData.canLay0, PyData.canLayAll0, PyV.lay]
  dep := max (PyV.dep α) (max (PyV.dep β) (PyV.dep γ)) + 1
  dep_le p := by
    simp only [PyData.depth, PyData.depthAll]
    have h1 := PyV.dep_le p.a
    have h2 := PyV.dep_le p.b
    have h3 := PyV.dep_le p.c
    omega
instance : PyN (List α) where
  nn a := by constructor <;> simp only [PyV.py, PyData.eqv]
instance : PyN (α × β) where
  nn a := by constructor <;> simp only [PyV.py, PyData.eqv]
instance : PyN (Tri α β γ) where
  nn a := by constructor <;> simp only [PyV.py, PyData.eqv]
instance (priority := low) [PyN α] : PyV (Option α) where
  py
    | none => .none
    | some a => PyV.py a
  eqv a b := by
    cases a <;> cases b
    · simp [PyData.eqv]
    · simp only [(PyN.nn _).1]; simp
    · simp only [(PyN.nn _).2]; simp
    · simp only [PyV.eqv]; exact decide_eq_decide.mpr (by simp)
  lay a := by cases a with
    | none => simp [PyData.canLay0]
    | some q => exact PyV.lay q
  dep := PyV.dep α
  dep_le a := by cases a with
    | none => simp [PyData.depth]
    | some q => exact PyV.dep_le q
end
/-- d stands for a -/
abbrev Rep [PyV α] (S : Sto) (d : D) (a : α) : Prop := Py S d (PyV.py a)
section
variable {S : Sto} {Q : VK2} {d e : D}
theorem eq_rep [PyV α] {a b : α} (h1 : Rep S d a) (h2 : Rep S e b) (q : Q (.bl (decide (a = b))) S) (h : PyV.dep α ≤ 64 := by decide) : rEq d e S Q :=
  rEq_of ⟨_, _, h1, h2, shaped_of (PyV.lay a) (Nat.le_trans (PyV.dep_le a) h), shaped_of (PyV.lay b) (Nat.le_trans (PyV.dep_le b) h), (PyV.eqv a b).symm⟩ q
theorem rNe_of {c : Bool} (h : EqD S d e c) (q : Q (.bl (!c)) S) : rNe d e S Q := by
  obtain ⟨p, r, h1, h2, s1, s2, rfl⟩ := h
  unfold rNe
  split
  · cases h1; cases h2; simp only [PyData.eqv] at q; rwa [show decide (_ = _) = (_ == _) from (Bool.beq_eq_decide_eq _ _).symm]
  · cases h1; cases h2; simp only [PyData.eqv] at q; rwa [show decide (_ = _) = (_ == _) from (Bool.beq_eq_decide_eq _ _).symm]
  · cases h1; cases h2; simp only [PyData.eqv] at q; rwa [show decide (_ = _) = (_ == _) from (Bool.beq_eq_decide_eq _ _).symm]
  · exact ⟨_, ⟨p, r, h1, h2, s1, s2, rfl⟩, q⟩
theorem ne_rep [PyV α] {a b : α} (h1 : Rep S d a) (h2 : Rep S e b) (q : Q (.bl (!decide (a = b))) S) (h : PyV.dep α ≤ 64 := by decide) : rNe d e S Q :=
  rNe_of ⟨_, _, h1, h2, shaped_of (PyV.lay a) (Nat.le_trans (PyV.dep_le a) h), shaped_of (PyV.lay b) (Nat.le_trans (PyV.dep_le b) h), (PyV.eqv a b).symm⟩ q
theorem rep_enc [Enc α] (a : α) : Rep S (Enc.enc a) a := Enc.isPy S a
theorem rep_pair [PyV α] [PyV β] {a : α} {b : β} (h1 : Rep S d a) (h2 : Rep S e b) : Rep S (.tup [d, e]) (a, b) := .tup (.cons h1 (.cons h2 .nil))
theorem pys_map [PyV α] {δ : Type} {f : δ → D} {g : δ → α} : ∀ {xs : List δ}, (∀ x ∈ xs, Rep S (f x) (g x)) → Pys S (xs.map f) ((xs.map g).map PyV.py)
  | [], _ => .nil
  | x :: xs, h => .cons (h x (by simp)) (pys_map fun y hy => h y (List.mem_cons_of_mem _ hy))
theorem rep_list [PyV α] {δ : Type} {f : δ → D} {g : δ → α} {a : Addr} {xs : List δ} (h : S a = some (.lst (xs.map f))) (k : ∀ x ∈ xs, Rep S (f x) (g x)) : Rep S (.ref a) (xs.map g) := .lst h (pys_map k)
theorem rep_lst [Enc α] {a : Addr} {xs : List α} (h : S a = some (.lst (xs.map Enc.enc))) : Rep S (.ref a) xs := .lst h (pys_enc xs)
end
/-! ### threes -/
section
variable [Enc α] [Enc β] [Enc γ]
@[reducible] def eT (x : Tri α β γ) : D := .tup [Enc.enc x.a, Enc.enc x.b, Enc.enc x.c]
instance : Enc (Tri α β γ) where
  enc := eT
  py p := .tuple [Enc.py p.a, Enc.py p.b, Enc.py p.c]
  isPy S p := .tup (.cons (Enc.isPy S p.a) (.cons (Enc.isPy S p.b) (.cons (Enc.isPy S p.c) .nil)))
  eqv x y := by
    simp only [PyData.eqv, PyData.eqvAll]
    rw [Bool.and_true, Enc.eqv, Enc.eqv, Enc.eqv, ← Bool.decide_and, ← Bool.decide_and]
    exact decide_eq_decide.mpr (by cases x; cases y; simp)
  lay p := by simp [PyData.canLay0, PyData.canLayAll0, Enc.lay]
  dep := max (Enc.dep α) (max (Enc.dep β) (Enc.dep γ)) + 1
  dep_le p := by
    simp only [PyData.depth, PyData.depthAll]
    have h1 := Enc.dep_le p.a
    have h2 := Enc.dep_le p.b
    have h3 := Enc.dep_le p.c
    omega
def eTO : Option (Tri α β γ) → D
  | none => .non
  | some x => eT x
theorem eTO_none : eTO (none : Option (Tri α β γ)) = .non := rfl
theorem eTO_some (x : Tri α β γ) : eTO (some x) = .tup [Enc.enc x.a, Enc.enc x.b, Enc.enc x.c] := rfl
theorem isNon_eTO (o : Option (Tri α β γ)) : isNon (eTO o) = o.isNone := by cases o <;> rfl
instance : Enc (Option (Tri α β γ)) where
  enc := eTO
  py
    | none => .none
    | some q => Enc.py q
  isPy S a := by cases a with
    | none => exact .non
    | some q => exact Enc.isPy S q
  eqv a b := by
    cases a <;> cases b
    · simp [PyData.eqv]
    · rename_i q; simp [PyData.eqv, Enc.py]
    · rename_i q; simp [PyData.eqv, Enc.py]
    · rename_i p q; simp only [Enc.eqv]; exact decide_eq_decide.mpr (by simp)
  lay a := by cases a with
    | none => simp [PyData.canLay0]
    | some q => exact Enc.lay q
  dep := Enc.dep (Tri α β γ)
  dep_le a := by cases a with
    | none => simp [PyData.depth]
    | some q => exact Enc.dep_le q
end
end
/-! ### neighbours -/
def prs (O : List Nat) : List (Nat × Nat) := O.zip (O.drop 1)
theorem zip_prs (O : List Nat) : zipD (O.map eN) ((O.drop 1).map eN) = (prs O).map fun p => D.tup [eN p.1, eN p.2] := zipD_map O (O.drop 1)
theorem prs_mem {O : List Nat} {p : Nat × Nat} (h : p ∈ prs O) : p.1 ∈ O ∧ p.2 ∈ O := by
  have := List.of_mem_zip (a := p.1) (b := p.2) h
  exact ⟨this.1, List.mem_of_mem_drop this.2⟩
def gap (L : List Ln) (t : Rat) (p : Nat × Nat) : Rat := at_ (ln L p.1) t - at_ (ln L p.2) t
def nearF (L : List Ln) (t : Rat) (b : Option (Tri Nat Nat Rat)) (p : Nat × Nat) : Option (Tri Nat Nat Rat) := match b with
  | none => some ⟨p.1, p.2, gap L t p⟩
  | some x => if gap L t p < x.c then some ⟨p.1, p.2, gap L t p⟩ else some x
def nearL (L : List Ln) (t : Rat) (ps : List (Nat × Nat)) : Option (Tri Nat Nat Rat) := ps.foldl (nearF L t) none
theorem nearL_snoc {L : List Ln} {t : Rat} {ps : List (Nat × Nat)} {p : Nat × Nat} : nearL L t (ps ++ [p]) = nearF L t (nearL L t ps) p := by unfold nearL; rw [List.foldl_append]; rfl
theorem nearF_t {L : List Ln} {t : Rat} {x : Tri Nat Nat Rat} {p : Nat × Nat} (h : gap L t p < x.c) : nearF L t (some x) p = some ⟨p.1, p.2, gap L t p⟩ := by unfold nearF; exact if_pos h
theorem nearF_f {L : List Ln} {t : Rat} {x : Tri Nat Nat Rat} {p : Nat × Nat} (h : ¬ gap L t p < x.c) : nearF L t (some x) p = some x := by unfold nearF; exact if_neg h
theorem Nz.gap {L : List Ln} {t : Rat} {p : Nat × Nat} (h : LOk L) (h1 : p.1 < L.length) (h2 : p.2 < L.length) (ht : Nz 3000 t) : Nz 7300 (gap L t p) := (((h.at h1).at ht).sub ((h.at h2).at ht)).le (by decide)
theorem snoc_ind {α : Type} {P : List α → Prop} (h0 : P []) (h1 : ∀ xs x, P xs → P (xs ++ [x])) : ∀ xs, P xs := fun xs => by
  rw [← List.reverse_reverse xs]
  induction xs.reverse with
  | nil => exact h0
  | cons x r ih => rw [List.reverse_cons]; exact h1 _ _ ih
theorem nearL_mem {L : List Ln} {t : Rat} : ∀ (ps : List (Nat × Nat)) (x : Tri Nat Nat Rat), nearL L t ps = some x → (x.a, x.b) ∈ ps ∧ x.c = gap L t (x.a, x.b) := by
  refine snoc_ind (fun x h => by cases h) fun ps p ih => ?_
  · intro x h
    rw [nearL_snoc] at h
    unfold nearF at h
    split at h
    · cases h; simp
    · next y e =>
      split at h
      · cases h; simp
      · cases h
        have := ih x e
        exact ⟨List.mem_append_left _ this.1, this.2⟩
theorem take_snoc {α : Type} {xs : List α} {k : Nat} {x : α} (h : xs[k]? = some x) : xs.take (k + 1) = xs.take k ++ [x] := by
  rw [List.take_succ, h]; rfl
section
variable {S : Sto}
theorem enc_nat (n : Nat) : Enc.enc n = D.int (n : Int) := rfl
theorem enc_int (n : Int) : Enc.enc n = D.int n := rfl
theorem enc_bl (n : Bool) : Enc.enc n = D.bl n := rfl
theorem enc_rat (q : Rat) : Enc.enc q = D.tup [.int q.num, .int (q.den : Int)] := rfl
theorem enc_opt (q : Option Rat) : Enc.enc q = eO q := rfl
theorem cut3_2 {a b c : D} : cutD [a, b, c] none (some 2) = [a, b] := rfl
end
/-! ### papers -/
abbrev Ppr := Tri Nat Nat (Option Rat)
def pprs (L : List Ln) (t : Rat) (O : List Nat) : List Ppr := (prs O).map fun p => ⟨p.1, p.2, nxt L p.1 p.2 t⟩
theorem nxt_nz {L : List Ln} (h : LOk L) {i j : Nat} (hi : i < L.length) (hj : j < L.length) {t u : Rat} (e : nxt L i j t = some u) : Nz 1210 u := by
  unfold nxt at e
  split at e
  · next c => cases e; exact (h.at hi).met (h.at hj) c.1
  · cases e
/-! ### right papers -/
abbrev PprI := Tri Int Int (Option Rat)
@[reducible] def eI3 (x : PprI) : D := .tup [.int x.a, .int x.b, eO x.c]
def okT (t : Rat) : Option Rat → Bool
  | none => true
  | some u => decide (t < u)
/-- change, till -/
def okC : Option Rat → Option Rat → Bool
  | none, _ => true
  | some _, none => false
  | some v, some u => !decide (v < u)
def Rnn (n : Nat) (i j : Int) : Prop := i ≠ j ∧ (0 ≤ i ∧ i < (n : Int)) ∧ (0 ≤ j ∧ j < (n : Int))
instance (n : Nat) (i j : Int) : Decidable (Rnn n i j) := by unfold Rnn; infer_instance
def rtB (L : List Ln) (t : Rat) (x : PprI) : Bool := decide (Rnn L.length x.a x.b) && (okT t x.c && (decide (Ahd L x.a.toNat x.b.toNat t) && okC (nxt L x.a.toNat x.b.toNat t) x.c))
end DL
namespace DL
open PySem PySem.Spec PyProof.Rows L2
/-! ### pairs by times -/
abbrev Pr := Nat × Nat
@[reducible] def eP2 (p : Pr) : D := .tup [.int (p.1 : Int), .int (p.2 : Int)]
def pref (n i j : Nat) : List Pr := ((List.range i).flatMap fun a => (List.range n).map fun b => (a, b)) ++ (List.range j).map fun b => (i, b)
def allP (n : Nat) : List Pr := pref n n 0
theorem pref_succ (n i j : Nat) : pref n i (j + 1) = pref n i j ++ [(i, j)] := by unfold pref; rw [List.range_succ, List.map_append, List.append_assoc]; rfl
theorem pref_row (n i : Nat) : pref n i n = pref n (i + 1) 0 := by
  unfold pref; rw [List.range_succ, List.flatMap_append]; simp
theorem pref_mem {n i j : Nat} {p : Pr} (h : p ∈ pref n i j) (hj : j ≤ n) : (p.1 < i ∧ p.2 < n) ∨ (p.1 = i ∧ p.2 < j) := by
  unfold pref at h
  rcases List.mem_append.mp h with h | h
  · obtain ⟨a, ha, h⟩ := List.mem_flatMap.mp h
    obtain ⟨b, hb, rfl⟩ := List.mem_map.mp h
    exact .inl ⟨List.mem_range.mp ha, List.mem_range.mp hb⟩
  · obtain ⟨b, hb, rfl⟩ := List.mem_map.mp h
    exact .inr ⟨rfl, List.mem_range.mp hb⟩
theorem allP_mem {n : Nat} {p : Pr} : p ∈ allP n ↔ p.1 < n ∧ p.2 < n := by
  constructor
  · intro h
    rcases pref_mem h (Nat.zero_le _) with h | h
    · exact h
    · omega
  · rintro ⟨h1, h2⟩
    unfold allP pref
    refine List.mem_append_left _ (List.mem_flatMap.mpr ⟨p.1, List.mem_range.mpr h1, List.mem_map.mpr ⟨p.2, List.mem_range.mpr h2, rfl⟩⟩)
theorem pref_len (n i j : Nat) : (pref n i j).length = i * n + j := by
  unfold pref
  rw [List.length_append, List.length_map, List.length_range]
  congr 1
  induction i with
  | zero => simp
  | succ i ih => rw [List.range_succ, List.flatMap_append, List.length_append, ih, Nat.succ_mul]; simp
abbrev Grp := List (Rat × List Pr)
structure IsGrp (tm : Pr → Option Rat) (ps : List Pr) (C : Grp) : Prop where
  inc : Inc (C.map (·.1))
  mem : ∀ t, t ∈ C.map (·.1) ↔ ∃ p ∈ ps, tm p = some t
  grp : ∀ x ∈ C, x.2 = ps.filter fun p => decide (tm p = some x.1)
  len : C.length ≤ ps.length
section
variable {tm : Pr → Option Rat} {ps : List Pr} {C C' : Grp} {p : Pr} {t : Rat} {k : Nat}
theorem IsGrp.nil : IsGrp tm [] [] := ⟨.nil, fun t => ⟨fun h => (by cases h), fun ⟨_, h, _⟩ => (by cases h)⟩, fun _ h => (by cases h), Nat.le_refl _⟩
theorem IsGrp.uniq (h : IsGrp tm ps C) (k : IsGrp tm ps C') : C = C' := by
  have e := inc_ext h.inc k.inc fun t => by rw [h.mem, k.mem]
  apply List.ext_getElem?
  intro i
  have e2 := congrArg (·[i]?) e
  simp only [List.getElem?_map] at e2
  cases h1 : C[i]? with
  | none =>
    rw [h1] at e2
    cases h2 : C'[i]? with
    | none => rfl
    | some y => rw [h2] at e2; cases e2
  | some x =>
    rw [h1] at e2
    cases h2 : C'[i]? with
    | none => rw [h2] at e2; cases e2
    | some y =>
      rw [h2] at e2
      have e3 : x.1 = y.1 := Option.some.inj e2
      have g1 := h.grp x (List.mem_of_getElem? h1)
      have g2 := k.grp y (List.mem_of_getElem? h2)
      rw [e3] at g1
      exact congrArg some (Prod.ext e3 (g1.trans g2.symm))
theorem IsGrp.skip (h : IsGrp tm ps C) (e : tm p = none) : IsGrp tm (ps ++ [p]) C where
  inc := h.inc
  mem t := by
    rw [h.mem]
    constructor
    · rintro ⟨q, hq, hq2⟩; exact ⟨q, List.mem_append_left _ hq, hq2⟩
    · rintro ⟨q, hq, hq2⟩
      rcases List.mem_append.mp hq with hq | hq
      · exact ⟨q, hq, hq2⟩
      · rw [List.mem_singleton.mp hq, e] at hq2; cases hq2
  grp x hx := by rw [h.grp x hx, List.filter_append]; simp [e]
  len := by rw [List.length_append]; have := h.len; omega
theorem inc_ins {M : List Rat} (h : Inc M) (h1 : ∀ x ∈ M.take k, x < t) (h2 : ∀ x ∈ M.drop k, t < x) : Inc (M.take k ++ [t] ++ M.drop k) := by
  have h' : Inc (M.take k ++ M.drop k) := by rw [List.take_append_drop]; exact h
  obtain ⟨a1, a2, a3⟩ := List.pairwise_append.mp h'
  refine List.pairwise_append.mpr ⟨List.pairwise_append.mpr ⟨a1, List.pairwise_singleton _ _, fun x hx y hy => ?_⟩, a2, fun x hx y hy => ?_⟩
  · rw [List.mem_singleton.mp hy]; exact h1 x hx
  · rcases List.mem_append.mp hx with hx | hx
    · exact a3 x hx y hy
    · rw [List.mem_singleton.mp hx]; exact h2 y hy
theorem IsGrp.ins (h : IsGrp tm ps C) (e : tm p = some t) (h1 : ∀ x ∈ C.take k, x.1 < t) (h2 : ∀ x ∈ C.drop k, t < x.1) : IsGrp tm (ps ++ [p]) (C.take k ++ [(t, [p])] ++ C.drop k) := by
  have hm : ∀ x, x ∈ C.take k ++ [(t, [p])] ++ C.drop k ↔ x ∈ C ∨ x = (t, [p]) := fun x => by
    rw [List.mem_append, List.mem_append, List.mem_singleton]
    constructor
    · rintro ((h | h) | h)
      · exact .inl (List.mem_of_mem_take h)
      · exact .inr h
      · exact .inl (List.mem_of_mem_drop h)
    · rintro (h | h)
      · rw [← List.take_append_drop k C] at h
        rcases List.mem_append.mp h with h | h
        · exact .inl (.inl h)
        · exact .inr h
      · exact .inl (.inr h)
  have hne : ∀ x ∈ C, x.1 ≠ t := fun x hx => by
    rw [← List.take_append_drop k C] at hx
    rcases List.mem_append.mp hx with hx | hx
    · have := h1 x hx; grind
    · have := h2 x hx; grind
  have hno : ∀ q ∈ ps, tm q ≠ some t := fun q hq z => by
    obtain ⟨x, hx, hx2⟩ := List.mem_map.mp ((h.mem t).mpr ⟨q, hq, z⟩)
    exact hne x hx hx2
  refine ⟨?_, fun u => ?_, fun x hx => ?_, ?_⟩
  · rw [List.map_append, List.map_append, List.map_take, List.map_drop]
    refine inc_ins h.inc (fun x hx => ?_) fun x hx => ?_
    · rw [← List.map_take] at hx; obtain ⟨y, hy, rfl⟩ := List.mem_map.mp hx; exact h1 y hy
    · rw [← List.map_drop] at hx; obtain ⟨y, hy, rfl⟩ := List.mem_map.mp hx; exact h2 y hy
  · constructor
    · intro hu
      obtain ⟨x, hx, rfl⟩ := List.mem_map.mp hu
      rcases (hm x).mp hx with hx | rfl
      · obtain ⟨q, hq, hq2⟩ := (h.mem x.1).mp (List.mem_map.mpr ⟨x, hx, rfl⟩)
        exact ⟨q, List.mem_append_left _ hq, hq2⟩
      · exact ⟨p, by simp, e⟩
    · rintro ⟨q, hq, hq2⟩
      rcases List.mem_append.mp hq with hq | hq
      · obtain ⟨x, hx, rfl⟩ := List.mem_map.mp ((h.mem u).mpr ⟨q, hq, hq2⟩)
        exact List.mem_map.mpr ⟨x, (hm x).mpr (.inl hx), rfl⟩
      · rw [List.mem_singleton.mp hq, e] at hq2
        cases hq2
        exact List.mem_map.mpr ⟨(t, [p]), (hm _).mpr (.inr rfl), rfl⟩
  · rcases (hm x).mp hx with hx | rfl
    · rw [h.grp x hx, List.filter_append]
      have : ¬ tm p = some x.1 := fun z => hne x hx (by rw [e] at z; exact (Option.some.inj z).symm)
      simp [this]
    · rw [List.filter_append, List.filter_eq_nil_iff.mpr fun q hq => by simpa using hno q hq]
      simp [e]
  · have hl := h.len
    simp only [List.length_append, List.length_take, List.length_drop, List.length_cons, List.length_nil]
    omega
theorem IsGrp.app (h : IsGrp tm ps C) (e : tm p = some t) (hk : k < C.length) (ht : C[k].1 = t) : IsGrp tm (ps ++ [p]) (C.set k (t, C[k].2 ++ [p])) := by
  have ef : (C.set k (t, C[k].2 ++ [p])).map (·.1) = C.map (·.1) := by
    rw [List.map_set]
    have : (t : Rat) = (C.map (·.1))[k]'(by rw [List.length_map]; exact hk) := by rw [List.getElem_map]; exact ht.symm
    show (C.map (·.1)).set k t = _
    rw [this, List.set_getElem_self]
  refine ⟨by rw [ef]; exact h.inc, fun u => ?_, fun x hx => ?_, ?_⟩
  · rw [ef, h.mem]
    constructor
    · rintro ⟨q, hq, hq2⟩; exact ⟨q, List.mem_append_left _ hq, hq2⟩
    · rintro ⟨q, hq, hq2⟩
      rcases List.mem_append.mp hq with hq | hq
      · exact ⟨q, hq, hq2⟩
      · rw [List.mem_singleton.mp hq, e] at hq2
        cases hq2
        rw [← h.mem, ← ht]
        exact List.mem_map.mpr ⟨C[k], List.getElem_mem hk, rfl⟩
  · obtain ⟨i, hi, rfl⟩ := List.getElem_of_mem hx
    rw [List.length_set] at hi
    rw [List.getElem_set]
    split
    · next ek =>
      subst ek
      rw [List.filter_append, h.grp _ (List.getElem_mem hk), ht]
      simp [e]
    · next ek =>
      rw [h.grp _ (List.getElem_mem hi), List.filter_append]
      have : ¬ tm p = some (C[i].1) := fun z => by
        rw [e] at z
        have z : t = C[i].1 := Option.some.inj z
        have inc := h.inc
        have pw := List.pairwise_iff_getElem.mp inc
        have l1 : (C.map (·.1)).length = C.length := List.length_map ..
        rcases Nat.lt_or_gt_of_ne ek with hlt | hlt
        · have := pw k i (by omega) (by omega) hlt
          rw [List.getElem_map, List.getElem_map] at this
          grind
        · have := pw i k (by omega) (by omega) hlt
          rw [List.getElem_map, List.getElem_map] at this
          grind
      simp [this]
  · rw [List.length_set, List.length_append]; have := h.len; omega
end
/-! ### such lists in the store -/
structure GI where
  t : Rat
  a : Addr
  ps : List Pr
@[reducible] def eG (x : GI) : D := .tup [eQ x.t, .ref x.a]
def toC (E : List GI) : Grp := E.map fun x => (x.t, x.ps)
structure GrpM (S : Sto) (f : Addr) (E : List GI) : Prop where
  st : S f = some (.lst (E.map eG))
  at_ : ∀ x ∈ E, S x.a = some (.lst (x.ps.map eP2))
structure GrpF (S : Sto) (f : Addr) (E : List GI) : Prop where
  nd : (f :: E.map (·.a)).Nodup
  fr : ∀ b ∈ f :: E.map (·.a), S b = none
section
variable {S S' S0 : Sto} {f a p : Addr} {E : List GI} {o : O}
theorem GrpM.sub (h : GrpM S f E) (s : Sub S S') : GrpM S' f E := ⟨s _ _ h.st, fun x hx => s _ _ (h.at_ x hx)⟩
theorem GrpM.rep (h : GrpM S f E) : Rep S (.ref f) (toC E) := rep_list h.st fun x hx => rep_pair (rep_enc x.t) (rep_lst (h.at_ x hx))
theorem toC_len : (toC E).length = E.length := List.length_map ..
theorem toC_take {k : Nat} : (toC E).take k = toC (E.take k) := by unfold toC; rw [List.map_take]
theorem toC_drop {k : Nat} : (toC E).drop k = toC (E.drop k) := by unfold toC; rw [List.map_drop]
end
/-- when the one passes the other -/
def pst (l m : Ln) : Option Rat := if l.2 < m.2 then some (met l m) else none
def tmA (L : List Ln) (p : Pr) : Option Rat := pst (ln L p.1) (ln L p.2)
def tmW (L : List Ln) (lo hi : Rat) (p : Pr) : Option Rat := if (ln L p.1).2 < (ln L p.2).2 ∧ lo < met (ln L p.1) (ln L p.2) ∧ ¬ hi < met (ln L p.1) (ln L p.2) then some (met (ln L p.1) (ln L p.2)) else none
def Put (C : Grp) (t : Rat) (p : Pr) (C' : Grp) : Prop :=
  (∃ k, C' = C.take k ++ [(t, [p])] ++ C.drop k ∧ (∀ x ∈ C.take k, x.1 < t) ∧ ∀ x ∈ C.drop k, t < x.1) ∨ ∃ (k : Nat) (hk : k < C.length), C[k].1 = t ∧ C' = C.set k (t, C[k].2 ++ [p])
theorem IsGrp.put {tm : Pr → Option Rat} {ps : List Pr} {C C' : Grp} {p : Pr} {t : Rat} (h : IsGrp tm ps C) (e : tm p = some t) (k : Put C t p C') : IsGrp tm (ps ++ [p]) C' := by
  rcases k with ⟨k, rfl, h1, h2⟩ | ⟨k, hk, h1, rfl⟩
  · exact h.ins e h1 h2
  · exact h.app e hk h1
section
variable {S S' S0 : Sto} {f a b : Addr} {E : List GI} {o : O} {t : Rat} {p : Pr} {k : Nat}
theorem GrpF.ins (h : GrpF S0 f E) (nb : S0 b = none) (hb : b ∉ f :: E.map (·.a)) {ps : List Pr} : GrpF S0 f (E.take k ++ [(⟨t, b, ps⟩ : GI)] ++ E.drop k) := by
  have hp : (f :: (E.take k ++ [(⟨t, b, ps⟩ : GI)] ++ E.drop k).map (·.a)).Perm (b :: f :: E.map (·.a)) := by
    rw [List.map_append, List.map_append, List.append_assoc, List.map_cons, List.map_nil]
    have e : f :: (List.map (·.a) (E.take k) ++ ([b] ++ List.map (·.a) (E.drop k))) = (f :: List.map (·.a) (E.take k)) ++ b :: List.map (·.a) (E.drop k) := rfl
    have e2 : b :: f :: E.map (·.a) = b :: ((f :: List.map (·.a) (E.take k)) ++ List.map (·.a) (E.drop k)) := by
      rw [List.cons_append, ← List.map_append, List.take_append_drop]
    rw [e, e2]
    exact List.perm_middle
  refine ⟨hp.nodup_iff.mpr (List.nodup_cons.mpr ⟨hb, h.nd⟩), fun c hc => ?_⟩
  rcases List.mem_cons.mp (hp.mem_iff.mp hc) with rfl | hc
  · exact nb
  · exact h.fr c hc
theorem GrpM.ins (h : GrpM S f E) (nb : S b = none) (hf : ∀ x ∈ E, x.a ≠ f) {ps : List Pr} : GrpM (ups (ups (ups S b (.lst [])) f (.lst ((E.take k ++ [(⟨t, b, ps⟩ : GI)] ++ E.drop k).map eG))) b (.lst (ps.map eP2))) f (E.take k ++ [(⟨t, b, ps⟩ : GI)] ++ E.drop k) := by
  have hfb : f ≠ b := ne_of_st h.st nb
  refine ⟨by rw [ups_ne hfb, ups_same], fun x hx => ?_⟩
  have : x ∈ E ∨ x = (⟨t, b, ps⟩ : GI) := by
    rcases List.mem_append.mp hx with hx | hx
    · rcases List.mem_append.mp hx with hx | hx
      · exact .inl (List.mem_of_mem_take hx)
      · exact .inr (List.mem_singleton.mp hx)
    · exact .inl (List.mem_of_mem_drop hx)
  rcases this with hx | rfl
  · have e1 := ne_of_st (h.at_ x hx) nb
    rw [ups_ne e1, ups_ne (hf x hx), ups_ne e1]
    exact h.at_ x hx
  · exact ups_same
theorem GrpF.ne (h : GrpF S0 f E) : ∀ x ∈ E, x.a ≠ f := fun x hx e => (List.nodup_cons.mp h.nd).1 (e ▸ List.mem_map.mpr ⟨x, hx, rfl⟩)
theorem GrpF.app (h : GrpF S0 f E) (hk : k < E.length) {ps : List Pr} : GrpF S0 f (E.set k ⟨t, E[k].a, ps⟩) := by
  have e : (E.set k ⟨t, E[k].a, ps⟩).map (·.a) = E.map (·.a) := by
    rw [List.map_set]
    have : (E[k].a : Addr) = (E.map (·.a))[k]'(by rw [List.length_map]; exact hk) := by rw [List.getElem_map]
    show (E.map (·.a)).set k E[k].a = _
    rw [this, List.set_getElem_self]
  exact ⟨by rw [e]; exact h.nd, by rw [e]; exact h.fr⟩
theorem GrpM.app (h : GrpM S f E) (hF : GrpF S0 f E) (hk : k < E.length) {ps : List Pr} : GrpM (ups S E[k].a (.lst (ps.map eP2))) f (E.set k ⟨E[k].t, E[k].a, ps⟩) := by
  have hne := hF.ne E[k] (List.getElem_mem hk)
  refine ⟨?_, fun x hx => ?_⟩
  · rw [ups_ne hne.symm, List.map_set]
    have : eG ⟨E[k].t, E[k].a, ps⟩ = (E.map eG)[k]'(by rw [List.length_map]; exact hk) := by rw [List.getElem_map]
    rw [this, List.set_getElem_self]
    exact h.st
  · obtain ⟨i, hi, rfl⟩ := List.getElem_of_mem hx
    rw [List.length_set] at hi
    rw [List.getElem_set]
    split
    · exact ups_same
    · next ek =>
      have hn : E[i].a ≠ E[k].a := fun z => by
        have nd := (List.nodup_cons.mp hF.nd).2
        have l1 : (E.map (·.a)).length = E.length := List.length_map ..
        have pw := List.pairwise_iff_getElem.mp nd
        rcases Nat.lt_or_gt_of_ne ek with hlt | hlt
        · exact pw k i (by omega) (by omega) hlt (by rw [List.getElem_map, List.getElem_map]; exact z.symm)
        · exact pw i k (by omega) (by omega) hlt (by rw [List.getElem_map, List.getElem_map]; exact z)
      rw [ups_ne hn]
      exact h.at_ _ (List.getElem_mem hi)
theorem toC_ins {ps : List Pr} : toC (E.take k ++ [(⟨t, b, ps⟩ : GI)] ++ E.drop k) = (toC E).take k ++ [(t, ps)] ++ (toC E).drop k := by unfold toC; rw [List.map_append, List.map_append, List.map_take, List.map_drop]; rfl
theorem toC_set {ps : List Pr} {a : Addr} : toC (E.set k ⟨t, a, ps⟩) = (toC E).set k (t, ps) := by unfold toC; rw [List.map_set]
theorem toC_get (hk : k < E.length) : (toC E)[k]'(by rw [toC_len]; exact hk) = (E[k].t, E[k].ps) := by unfold toC; rw [List.getElem_map]
theorem toC_inc (h : Inc ((toC E).map (·.1))) : Inc (E.map (·.t)) := by unfold toC at h; rwa [List.map_map] at h
theorem inc_after {M : List Rat} (h : Inc M) {k : Nat} (hk : k < M.length) {t : Rat} (ht : t < M[k]) : ∀ x ∈ M.drop k, t < x := fun x hx => by
  rw [List.drop_eq_getElem_cons hk] at hx
  rcases List.mem_cons.mp hx with rfl | hx
  · exact ht
  · have : M.Pairwise (· < ·) := h
    rw [← List.take_append_drop k M, List.drop_eq_getElem_cons hk] at this
    have := (List.pairwise_cons.mp (List.pairwise_append.mp this).2.1).1 x hx
    grind
end
theorem tmW_nz {L : List Ln} (h : LOk L) {lo hi t : Rat} {p : Pr} (h1 : p.1 < L.length) (h2 : p.2 < L.length) (e : tmW L lo hi p = some t) : Nz 1210 t := by
  unfold tmW at e
  split at e
  · next c => cases e; exact (h.at h1).met (h.at h2) (fun z => by have := c.1; grind)
  · cases e
theorem tmA_nz {L : List Ln} (h : LOk L) {t : Rat} {p : Pr} (h1 : p.1 < L.length) (h2 : p.2 < L.length) (e : tmA L p = some t) : Nz 1210 t := by
  unfold tmA pst at e
  split at e
  · next c => cases e; exact (h.at h1).met (h.at h2) (fun z => by grind)
  · cases e
theorem IsGrp.nz {tm : Pr → Option Rat} {n : Nat} {ps : List Pr} {E : List GI} (h : IsGrp tm ps (toC E)) (hp : ∀ p ∈ ps, p.1 < n ∧ p.2 < n) (k : ∀ p t, p.1 < n → p.2 < n → tm p = some t → Nz 1210 t) : ∀ x ∈ E, Nz 1210 x.t := fun x hx => by
  obtain ⟨p, hp2, e⟩ := (h.mem x.t).mp (List.mem_map.mpr ⟨(x.t, x.ps), List.mem_map.mpr ⟨x, hx, rfl⟩, rfl⟩)
  exact k p _ (hp p hp2).1 (hp p hp2).2 e
theorem IsGrp.psl {tm : Pr → Option Rat} {ps : List Pr} {E : List GI} (h : IsGrp tm ps (toC E)) : ∀ x ∈ E, x.ps.length ≤ ps.length := fun x hx => by
  have := h.grp (x.t, x.ps) (List.mem_map.mpr ⟨x, hx, rfl⟩)
  show (x.t, x.ps).2.length ≤ _
  rw [this]
  exact List.length_filter_le _ _
theorem grp_mk {tm : Pr → Option Rat} {ps : List Pr} {C : Grp} (inc : Inc (C.map (·.1))) (mem : ∀ t, t ∈ C.map (·.1) ↔ ∃ p ∈ ps, tm p = some t) (grp : ∀ x ∈ C, x.2 = ps.filter fun p => decide (tm p = some x.1)) : IsGrp tm ps C := by
  refine ⟨inc, mem, grp, ?_⟩
  have nd : (C.map (·.1)).Nodup := inc.imp fun {a b} h e => by subst e; grind
  have := nodup_sub (ys := ps.filterMap tm) nd fun t ht => by
    obtain ⟨p, hp, e⟩ := (mem t).mp ht
    exact List.mem_filterMap.mpr ⟨p, hp, e⟩
  have l2 := List.length_filterMap_le tm ps
  rw [List.length_map] at this
  omega
theorem GrpM.snoc {S : Sto} {f b : Addr} {E : List GI} {t : Rat} {ps : List Pr} (h : GrpM S f E) (hF : ∀ x ∈ E, x.a ≠ f) (hb : S b = some (.lst (ps.map eP2))) (hbf : b ≠ f) : GrpM (ups S f (.lst ((E ++ [(⟨t, b, ps⟩ : GI)]).map eG))) f (E ++ [(⟨t, b, ps⟩ : GI)]) := by
  refine ⟨ups_same, fun x hx => ?_⟩
  rcases List.mem_append.mp hx with hx | hx
  · rw [ups_ne (hF x hx)]; exact h.at_ x hx
  · rw [List.mem_singleton.mp hx, ups_ne hbf]; exact hb
end DL
namespace DL
open PySem PySem.Spec PyProof.Rows L2
theorem IsMeet.uniq {L : List Ln} {M N : List Rat} (h : IsMeet L M) (k : IsMeet L N) : M = N := inc_ext h.inc k.inc fun t => by rw [h.mem, k.mem]
theorem grp_meet {L : List Ln} {C : Grp} (h : IsGrp (tmA L) (allP L.length) C) (hl : L.length ≤ 20) : IsMeet L (C.map (·.1)) := by
  refine ⟨h.inc, fun t => ?_, ?_⟩
  · rw [h.mem]
    constructor
    · rintro ⟨⟨a, b⟩, hp, e⟩
      obtain ⟨h1, h2⟩ := allP_mem.mp hp
      unfold tmA pst at e
      split at e
      · next c => cases e; exact ⟨a, b, h1, h2, fun z => by simp only at c; grind, rfl⟩
      · cases e
    · rintro ⟨a, b, h1, h2, e, rfl⟩
      by_cases c : (ln L a).2 < (ln L b).2
      · exact ⟨(a, b), allP_mem.mpr ⟨h1, h2⟩, if_pos c⟩
      · have c' : (ln L b).2 < (ln L a).2 := by grind
        exact ⟨(b, a), allP_mem.mpr ⟨h2, h1⟩, by show pst _ _ = _; unfold pst; rw [if_pos c', met_comm (Ne.symm e)]⟩
  · have := h.len
    rw [List.length_map]
    unfold allP at this
    rw [pref_len] at this
    have h2 : L.length * L.length ≤ 20 * 20 := Nat.mul_le_mul hl hl
    omega
/-! ### the order at a time -/
def ordN (L : List Ln) (t : Rat) : Nat → List Nat
  | 0 => []
  | n + 1 => (ordN L t n).filter (fun o => !decide (Ahd L n o t)) ++ [n] ++ (ordN L t n).filter fun o => decide (Ahd L n o t)
theorem ordN_ok (L : List Ln) (t : Rat) : ∀ n, IsOrd L t n (ordN L t n)
  | 0 => .nil
  | n + 1 => ord_filter (ordN_ok L t n)
def ordL (L : List Ln) (t : Rat) : List Nat := ordN L t L.length
theorem ordL_ok (L : List Ln) (t : Rat) : IsOrd L t L.length (ordL L t) := ordN_ok L t _
theorem IsOrd.eq {L : List Ln} {t : Rat} {O : List Nat} (h : IsOrd L t L.length O) : O = ordL L t := h.uniq (ordL_ok L t)
theorem ordL_len (L : List Ln) (t : Rat) : (ordL L t).length = L.length := (ordL_ok L t).len
def rk (L : List Ln) (t : Rat) (k : Nat) : Nat := (ordL L t).getD k 0
section
variable {L : List Ln} {t : Rat} {k : Nat} {O : List Nat} {n : Nat}
theorem rk_get (h : k < L.length) : (ordL L t)[k]? = some (rk L t k) := by
  unfold rk
  rw [List.getD_eq_getElem?_getD, List.getElem?_eq_getElem (by rw [ordL_len]; exact h)]; rfl
end
/-! ### rows of a rank -/
def bef : List Rat → Rat
  | [] => 0
  | t :: _ => t - 1
theorem bef_lt {M : List Rat} (h : Inc M) : ∀ m ∈ M, bef M < m := fun m hm => by
  cases M with
  | nil => cases hm
  | cons t r =>
    have : t ≤ m := by
      rcases List.mem_cons.mp hm with rfl | hm
      · exact Rat.le_refl
      · have := (List.pairwise_cons.mp h).1 m hm; grind
    show t - 1 < m
    grind
def lastR (row : Rw) : Nat := (row.getLast?.map (·.1)).getD 0
theorem lastR_snoc (row : Rw) (x : Nat × Option Rat) : lastR (row ++ [x]) = x.1 := by unfold lastR; simp
def rkS (L : List Ln) (k : Nat) (row : Rw) (t : Rat) : Rw := if rk L t k ≠ lastR row then row ++ [(rk L t k, some t)] else row
def rkF (L : List Ln) (k : Nat) (r0 : Nat) (M : List Rat) : Rw := M.foldl (rkS L k) [(r0, none)]
theorem rkF_snoc {L : List Ln} {k r0 : Nat} {M : List Rat} {t : Rat} : rkF L k r0 (M ++ [t]) = rkS L k (rkF L k r0 M) t := by unfold rkF; rw [List.foldl_append]; rfl
theorem rkF_end {L : List Ln} {k r0 : Nat} (M : List Rat) : (∃ pre x, rkF L k r0 M = pre ++ [x]) ∧ (rkF L k r0 M).length ≤ M.length + 1 := by
  refine snoc_ind (P := fun M => (∃ pre x, rkF L k r0 M = pre ++ [x]) ∧ (rkF L k r0 M).length ≤ M.length + 1) ⟨⟨[], _, rfl⟩, Nat.le_refl _⟩ (fun M t ih => ?_) M
  rw [rkF_snoc, List.length_append]
  unfold rkS
  split
  · exact ⟨⟨_, _, rfl⟩, by rw [List.length_append]; simp only [List.length_cons, List.length_nil]; omega⟩
  · exact ⟨ih.1, by have := ih.2; simp only [List.length_cons, List.length_nil]; omega⟩
def rkRow (L : List Ln) (k : Nat) (M : List Rat) : Rw := if L.length ≤ k then [] else rkF L k (rk L (bef M) k) M
def IsRk (L : List Ln) (k : Nat) (rows : Rw) : Prop := ∃ M, IsMeet L M ∧ rows = rkRow L k M
theorem IsRk.uniq {L : List Ln} {k : Nat} {a b : Rw} (h : IsRk L k a) (g : IsRk L k b) : a = b := by
  obtain ⟨M, hM, rfl⟩ := h
  obtain ⟨N, hN, rfl⟩ := g
  rw [hM.uniq hN]
theorem rkRow_len {L : List Ln} {k : Nat} {M : List Rat} (h : IsMeet L M) : (rkRow L k M).length ≤ 401 := by
  unfold rkRow
  split
  · simp
  · have := (rkF_end (L := L) (k := k) (r0 := rk L (bef M) k) M).2
    have := h.len
    omega
theorem mi_ex {L : List Ln} {i : Nat} (hi : i < L.length) (h : ∃ M, MI L i 0 M) : ∀ j, j ≤ i → ∃ M, MI L i j M
  | 0, _ => h
  | j + 1, hj => by
    obtain ⟨M, hM⟩ := mi_ex hi h j (by omega)
    by_cases e : (ln L i).2 = (ln L j).2
    · exact ⟨M, hM.skip e⟩
    · by_cases k : met (ln L i) (ln L j) ∈ M
      · exact ⟨M, hM.had k⟩
      · exact ⟨_, hM.put (by omega) hi e k⟩
theorem meet_ex {L : List Ln} (hl : L.length ≤ 20) : ∃ M, IsMeet L M := by
  have : ∀ i, i ≤ L.length → ∃ M, MI L i 0 M := fun i => by
    induction i with
    | zero => intro _; exact ⟨[], .start⟩
    | succ i ih =>
      intro hi
      obtain ⟨M, hM⟩ := mi_ex (by omega) (ih (by omega)) i (Nat.le_refl _)
      exact ⟨M, hM.next (by omega)⟩
  obtain ⟨M, hM⟩ := this _ (Nat.le_refl _)
  exact ⟨M, hM.fin hl⟩
theorem bef_nz {L : List Ln} {M : List Rat} (h : IsMeet L M) (k : LOk L) : Nz 1300 (bef M) := by
  cases M with
  | nil => exact (zero_nz).le (by decide)
  | cons t r => exact ((h.nz k (by simp)).sub one_nz).le (by decide)
theorem rk_at {L : List Ln} {t : Rat} {k : Nat} (h : k < L.length) : atI ((ordL L t).map eN) (k : Int) = some (eN (rk L t k)) := atI_nat (by rw [List.getElem?_map, rk_get h]; rfl)
theorem isRk_nil {L : List Ln} {k : Nat} (hl : L.length ≤ 20) (h : L.length ≤ k) : IsRk L k [] := by
  obtain ⟨M, hM⟩ := meet_ex hl
  exact ⟨M, hM, by unfold rkRow; rw [if_pos h]⟩
theorem isRk_of {L : List Ln} {k : Nat} {M : List Rat} (hM : IsMeet L M) (h : k < L.length) : IsRk L k (rkF L k (rk L (bef M) k) M) := ⟨M, hM, by unfold rkRow; rw [if_neg (by omega)]⟩
end DL
namespace DL
open PySem PySem.Spec PyProof.Rows L2
theorem prs_ahd {L : List Ln} {t : Rat} {n : Nat} {O : List Nat} (h : IsOrd L t n O) : ∀ p ∈ prs O, Ahd L p.1 p.2 t := pw_zip h.pw
theorem pw_adj {α : Type} {R : α → α → Prop} (tr : ∀ a b c, R a b → R b c → R a c) : ∀ {xs : List α}, (∀ p ∈ xs.zip (xs.drop 1), R p.1 p.2) → xs.Pairwise R
  | [], _ => .nil
  | [x], _ => List.pairwise_singleton _ _
  | x :: y :: r, h => by
    have ih : (y :: r).Pairwise R := pw_adj tr fun p hp => h p (by
      simp only [List.drop_succ_cons, List.drop_zero, List.zip_cons_cons, List.mem_cons] at hp ⊢
      exact .inr hp)
    have h1 : R x y := h (x, y) (by simp)
    refine List.pairwise_cons.mpr ⟨fun z hz => ?_, ih⟩
    rcases List.mem_cons.mp hz with rfl | hz
    · exact h1
    · exact tr _ _ _ h1 ((List.pairwise_cons.mp ih).1 z hz)
section
variable {L : List Ln} {t u : Rat} {O : List Nat}
theorem ord_keep (h : IsOrd L t L.length O) (htu : t ≤ u) (hk : ∀ p ∈ prs O, ∀ m, nxt L p.1 p.2 t = some m → u < m) : IsOrd L u L.length O := by
  refine ⟨pw_adj (R := fun i j => Ahd L i j u) (fun a b c => ahd_trans) fun p hp => ?_, h.mem⟩
  refine (ahd_stay htu fun hne z => ?_).mp (prs_ahd h p hp)
  have := hk p hp _ (if_pos ⟨hne, z.1⟩)
  grind
theorem ordL_keep (htu : t ≤ u) (hk : ∀ p ∈ prs (ordL L t), ∀ m, nxt L p.1 p.2 t = some m → u < m) : ordL L u = ordL L t := ((ord_keep (ordL_ok L t) htu hk).eq).symm
end
end DL
namespace DL
open PySem PySem.Spec PyProof.Rows L2
/-- a right paper of two, till the next change or sooner -/
structure Soon (L : List Ln) (t : Rat) (i j : Nat) (c : Option Rat) : Prop where
  nz : ∀ u, c = some u → Nz 3000 u
  ok : okT t c = true
  ch : okC (nxt L i j t) c = true
theorem Soon.own {L : List Ln} {t : Rat} {i j : Nat} (h : LOk L) (hi : i < L.length) (hj : j < L.length) : Soon L t i j (nxt L i j t) := by
  refine ⟨fun u hu => (nxt_nz h hi hj hu).le (by decide), ?_, ?_⟩
  · cases e : nxt L i j t with
    | none => rfl
    | some v =>
      unfold nxt at e
      split at e
      · next c => cases e; exact decide_eq_true c.2
      · cases e
  · cases e : nxt L i j t with
    | none => rfl
    | some v => have h2 : ¬ v < v := fun z => by grind
                simp [okC, h2]
/-- papers that are all right -/
def AllR (L : List Ln) (t : Rat) (X : List PprI) : Prop := ∀ x ∈ X, rtB L t x = true ∧ ∀ u, x.c = some u → Nz 3000 u
theorem AllR.ins {L : List Ln} {t : Rat} {X : List PprI} {x : PprI} {k : Nat} (h : AllR L t X) (hx : rtB L t x = true ∧ ∀ u, x.c = some u → Nz 3000 u) : AllR L t (X.take k ++ [x] ++ X.drop k) := fun y hy => by
  rcases List.mem_append.mp hy with hy | hy
  · rcases List.mem_append.mp hy with hy | hy
    · exact h y (List.mem_of_mem_take hy)
    · rw [List.mem_singleton.mp hy]; exact hx
  · exact h y (List.mem_of_mem_drop hy)
/-- lists of papers that lie about -/
def PL (S : Sto) (a : Addr) (d : D) : Prop := ∃ (b : Addr) (ys : List PprI), d = .ref b ∧ S b = some (.lst (ys.map eI3)) ∧ ys.length ≤ 2 ∧ b ≠ a ∧ ∀ x ∈ ys, ∀ u, x.c = some u → Nz 3000 u
structure Bn (S : Sto) (a f : Addr) (sc : List Int) (X : List PprI) (S' : Sto) (ls : List D) : Prop where
  fr : Fr S S' a
  pen : PenB S' a sc
  hf : S' f = some (.lst (X.map eI3))
  fa : f ≠ a
  all : ∀ d ∈ ls, PL S' a d
section
variable {S S' S2 : Sto} {a f p : Addr} {sc : List Int} {X : List PprI} {ls : List D} {o : O}
theorem PL.sub {d : D} (h : PL S' a d) (s : Sub S' S2) : PL S2 a d := by
  obtain ⟨b, ys, e, h1, h2⟩ := h
  exact ⟨b, ys, e, s _ _ h1, h2⟩
theorem Bn.new (h : Bn S a f sc X S' ls) (n : S' p = none) : Bn S a f sc X (ups S' p o) ls :=
  ⟨h.fr.new n, h.pen.new n, by rw [ups_ne (ne_of_st h.hf n)]; exact h.hf, h.fa, fun d hd => (h.all d hd).sub (Sub.drop n)⟩
theorem Bn.add (h : Bn S a f sc X S' ls) (n : S' p = none) (ys : List PprI) (h1 : ys.length ≤ 2) (h2 : ∀ x ∈ ys, ∀ u, x.c = some u → Nz 3000 u) : Bn S a f sc X (ups S' p (.lst (ys.map eI3))) (.ref p :: ls) :=
  ⟨h.fr.new n, h.pen.new n, by rw [ups_ne (ne_of_st h.hf n)]; exact h.hf, h.fa, fun d hd => by
    rcases List.mem_cons.mp hd with rfl | hd
    · exact ⟨p, ys, rfl, ups_same, h1, fun z => PenB.ne h.pen n z.symm, h2⟩
    · exact (h.all d hd).sub (Sub.drop n)⟩
theorem Bn.wr {x y : Int} (h : Bn S a f sc X S' ls) : Bn S a f sc X (ups S' a (penP sc x y)) ls :=
  ⟨h.fr.wr, penB_again, by rw [ups_ne h.fa]; exact h.hf, h.fa, fun d hd => by
    obtain ⟨b, ys, e, h1, h2, h3, h4⟩ := h.all d hd
    exact ⟨b, ys, e, by rw [ups_ne h3]; exact h1, h2, h3, h4⟩⟩
end
section
variable {S S' : Sto} {a f p : Addr} {sc : List Int} {X : List PprI} {ls : List D} {o : O}
theorem Bn.upd (h : Bn S a f sc X S' ls) (n : ∀ d ∈ ls, d ≠ .ref p) (pf : f ≠ p) (pa : p ≠ a) (p0 : S p = none) : Bn S a f sc X (ups S' p o) ls :=
  ⟨h.fr.own p0, h.pen.upd pa.symm, by rw [ups_ne pf]; exact h.hf, h.fa, fun d hd => by
    obtain ⟨b, ys, e, h1, h2⟩ := h.all d hd
    refine ⟨b, ys, e, ?_, h2⟩
    rw [ups_ne fun z => n d hd (by rw [e, z])]; exact h1⟩
end
end DL
namespace DL
open PySem PySem.Spec PyProof.Rows L2
/-! ### rows of ranks read -/
section
variable {L : List Ln} {t u : Rat} {k r0 : Nat} {M : List Rat}
theorem ord_const (hM : IsMeet L M) (htu : t ≤ u) (h : ∀ m ∈ M, m ≤ u → m ≤ t) : ordL L u = ordL L t := by
  refine ordL_keep htu fun p hp m hm => ?_
  have mm := prs_mem hp
  have o := ordL_ok L t
  unfold nxt at hm
  split at hm
  · next c =>
    cases hm
    have hin := (hM.mem _).mpr ⟨p.1, p.2, (o.mem _).mp mm.1, (o.mem _).mp mm.2, c.1, rfl⟩
    have := h _ hin
    have := c.2
    grind
  · cases hm
end
/-! ### all pairs of an order -/
theorem nodup_flat {α β : Type} {f : α → List β} : ∀ {xs : List α}, xs.Nodup → (∀ x ∈ xs, (f x).Nodup) → (∀ x ∈ xs, ∀ y ∈ xs, x ≠ y → ∀ z, z ∈ f x → z ∈ f y → False) → (xs.flatMap f).Nodup
  | [], _, _, _ => .nil
  | x :: xs, h, h1, h2 => by
    obtain ⟨a, b⟩ := List.nodup_cons.mp h
    rw [List.flatMap_cons]
    refine List.nodup_append.mpr ⟨h1 x (by simp), nodup_flat b (fun y hy => h1 y (List.mem_cons_of_mem _ hy)) (fun y hy z hz => h2 y (List.mem_cons_of_mem _ hy) z (List.mem_cons_of_mem _ hz)), fun z hz w hw e => ?_⟩
    subst e
    obtain ⟨y, hy, hyz⟩ := List.mem_flatMap.mp hw
    exact h2 x (by simp) y (List.mem_cons_of_mem _ hy) (fun e => a (e ▸ hy)) z hz hyz
theorem nodup_map {α β : Type} {f : α → β} : ∀ {xs : List α}, xs.Nodup → (∀ x ∈ xs, ∀ y ∈ xs, f x = f y → x = y) → (xs.map f).Nodup
  | [], _, _ => .nil
  | x :: xs, h, k => by
    obtain ⟨a, b⟩ := List.nodup_cons.mp h
    rw [List.map_cons]
    refine List.nodup_cons.mpr ⟨fun z => ?_, nodup_map b fun y hy z hz => k y (List.mem_cons_of_mem _ hy) z (List.mem_cons_of_mem _ hz)⟩
    obtain ⟨y, hy, e⟩ := List.mem_map.mp z
    exact a ((k y (List.mem_cons_of_mem _ hy) x (by simp) e) ▸ hy)
theorem perm_of {α : Type} [DecidableEq α] : ∀ {xs ys : List α}, xs.Nodup → ys.Nodup → (∀ z, z ∈ xs ↔ z ∈ ys) → xs.Perm ys
  | [], [], _, _, _ => .nil
  | [], y :: ys, _, _, h => by have := (h y).mpr (by simp); cases this
  | x :: xs, ys, hx, hy, h => by
    obtain ⟨a, b⟩ := List.nodup_cons.mp hx
    have hm : x ∈ ys := (h x).mp (by simp)
    refine ((perm_of b (hy.erase x) fun z => ?_).cons x).trans (List.perm_cons_erase hm).symm
    constructor
    · intro hz
      exact (List.mem_erase_of_ne fun e => a (by rw [← e]; exact hz)).mpr ((h z).mp (List.mem_cons_of_mem _ hz))
    · intro hz
      have hne : z ≠ x := fun e => by
        subst e
        exact absurd hz (List.Nodup.not_mem_erase hy)
      rcases List.mem_cons.mp ((h z).mpr ((List.mem_erase_of_ne hne).mp hz)) with e | e
      · exact absurd e hne
      · exact e
/-! ### all that changes -/
section
variable {L : List Ln} {lo hi : Rat} {C : Grp}
theorem allP_nd (n : Nat) : (allP n).Nodup := by
  unfold allP pref
  rw [List.range_zero, List.map_nil, List.append_nil]
  refine nodup_flat List.nodup_range (fun i _ => nodup_map List.nodup_range fun a _ b _ e => (Prod.mk.inj e).2) fun i _ j _ hne z hz hz' => ?_
  obtain ⟨a, _, rfl⟩ := List.mem_map.mp hz
  obtain ⟨b, _, e⟩ := List.mem_map.mp hz'
  exact hne (Prod.mk.inj e).1.symm
end
end DL
namespace DL
open PySem PySem.Spec PyProof.Rows L2
/-! ### turned about -/
def fl (n : Nat) (i : Nat) : Nat := n - 1 - i
section
variable {L : List Ln} {i j k : Nat} {t u : Rat} {M : List Rat}
/-! changes -/
theorem allP_sorted (n : Nat) : (allP n).Pairwise lexP := by
  unfold allP pref
  rw [List.range_zero, List.map_nil, List.append_nil]
  have : ∀ m, ((List.range m).flatMap fun a => (List.range n).map fun b => (a, b)).Pairwise lexP := fun m => by
    induction m with
    | zero => exact .nil
    | succ m ih =>
      rw [List.range_succ, List.flatMap_append]
      refine List.pairwise_append.mpr ⟨ih, ?_, fun x hx y hy => ?_⟩
      · simp only [List.flatMap_cons, List.flatMap_nil, List.append_nil]
        rw [List.pairwise_map]
        exact List.pairwise_lt_range.imp fun {a b} h => .inr ⟨rfl, by omega⟩
      · obtain ⟨a, ha, hx⟩ := List.mem_flatMap.mp hx
        obtain ⟨b, _, rfl⟩ := List.mem_map.mp hx
        simp only [List.flatMap_cons, List.flatMap_nil, List.append_nil] at hy
        obtain ⟨c, _, rfl⟩ := List.mem_map.mp hy
        exact .inl (List.mem_range.mp ha)
  exact this n
end
end DL
namespace DL
open PySem PySem.Spec PyProof.Rows L2
/-! ### dicts as tables -/
section
variable {κ : Type} [DecidableEq κ]
def dget (kvs : List (κ × D)) (k : κ) : Option D := (kvs.find? fun kv => decide (kv.1 = k)).map (·.2)
def dput (kvs : List (κ × D)) (k : κ) (v : D) : List (κ × D) :=
  if (kvs.any fun kv => decide (kv.1 = k)) = true then kvs.map (fun kv => if kv.1 = k then (kv.1, v) else kv) else kvs ++ [(k, v)]
def ddrop (kvs : List (κ × D)) (k : κ) : List (κ × D) := kvs.filter fun kv => decide (kv.1 ≠ k)
theorem dget_pos {p : κ × D} {r : List (κ × D)} {k : κ} (e : p.1 = k) : dget (p :: r) k = some p.2 := by simp [dget, List.find?_cons, e]
theorem dget_neg {p : κ × D} {r : List (κ × D)} {k : κ} (e : ¬ p.1 = k) : dget (p :: r) k = dget r k := by simp [dget, List.find?_cons, e]
variable {K : PySem.W.Frag} {H : Hp}
theorem KVs.get {ds : List (κ × D)} {vs : List (κ × V)} (h : KVs K H ds vs) {k : κ} {d : D} (e : dget ds k = some d) : ∃ v, valV vs k = some v ∧ Dv K H d v := by
  induction h with
  | nil => cases e
  | @cons f d1 v1 ds vs h1 h2 ih =>
    by_cases hk : f = k
    · rw [dget_pos (p := (f, d1)) hk] at e
      obtain rfl := Option.some.inj e
      exact ⟨v1, valV_pos (p := (f, v1)) hk, h1⟩
    · rw [dget_neg (p := (f, d1)) hk] at e
      obtain ⟨v, q, r⟩ := ih e
      exact ⟨v, by rw [valV_neg (p := (f, v1)) hk]; exact q, r⟩
theorem KVs.getN {ds : List (κ × D)} {vs : List (κ × V)} (h : KVs K H ds vs) {k : κ} (e : dget ds k = none) : valV vs k = none := by
  induction h with
  | nil => rfl
  | @cons f d1 v1 ds vs h1 h2 ih =>
    by_cases hk : f = k
    · rw [dget_pos (p := (f, d1)) hk] at e; cases e
    · rw [dget_neg (p := (f, d1)) hk] at e
      rw [valV_neg (p := (f, v1)) hk]; exact ih e
theorem KVs.any {ds : List (κ × D)} {vs : List (κ × V)} (h : KVs K H ds vs) (k : κ) : (ds.any fun kv => decide (kv.1 = k)) = vs.any fun kv => decide (kv.1 = k) := by
  induction h with
  | nil => rfl
  | cons h1 h2 ih => rw [List.any_cons, List.any_cons, ih]
theorem KVs.length {ds : List (κ × D)} {vs : List (κ × V)} (h : KVs K H ds vs) : ds.length = vs.length := by
  induction h with
  | nil => rfl
  | cons h1 h2 ih => rw [List.length_cons, List.length_cons, ih]
theorem KVs.keys {ds : List (κ × D)} {vs : List (κ × V)} (h : KVs K H ds vs) : ds.map (·.1) = vs.map (·.1) := by
  induction h with
  | nil => rfl
  | cons h1 h2 ih => rw [List.map_cons, List.map_cons, ih]
theorem KVs.snoc {ds : List (κ × D)} {vs : List (κ × V)} (h : KVs K H ds vs) {k : κ} {d : D} {v : V} (r : Dv K H d v) : KVs K H (ds ++ [(k, d)]) (vs ++ [(k, v)]) := by
  induction h with
  | nil => exact .cons r .nil
  | cons h1 h2 ih => exact .cons h1 ih
theorem KVs.repl {ds : List (κ × D)} {vs : List (κ × V)} (h : KVs K H ds vs) {k : κ} {d : D} {v : V} (r : Dv K H d v) : KVs K H (ds.map fun kv => if kv.1 = k then (kv.1, d) else kv) (vs.map fun kv => if kv.1 = k then (kv.1, v) else kv) := by
  induction h with
  | nil => exact .nil
  | @cons f d1 v1 ds vs h1 h2 ih =>
    rw [List.map_cons, List.map_cons]
    by_cases hk : f = k
    · rw [if_pos hk, if_pos hk]; exact .cons r ih
    · rw [if_neg hk, if_neg hk]; exact .cons h1 ih
theorem KVs.put {ds : List (κ × D)} {vs : List (κ × V)} (h : KVs K H ds vs) {k : κ} {d : D} {v : V} (r : Dv K H d v) : KVs K H (dput ds k d) (putK vs k v) := by
  unfold dput putK
  rw [h.any k]
  split
  · exact h.repl r
  · exact h.snoc r
theorem KVs.drop {ds : List (κ × D)} {vs : List (κ × V)} (h : KVs K H ds vs) (k : κ) : KVs K H (ddrop ds k) (dropK vs k) := by
  unfold ddrop dropK
  induction h with
  | nil => exact .nil
  | @cons f d1 v1 ds vs h1 h2 ih =>
    rw [List.filter_cons, List.filter_cons]
    by_cases hk : f = k
    · simp only [hk, ne_eq, not_true, decide_false, Bool.false_eq_true, if_false]; exact ih
    · simp only [ne_eq, hk, not_false_eq_true, decide_true, if_true]; exact .cons h1 ih
theorem KVs.at_ {ds : List (κ × D)} {vs : List (κ × V)} (h : KVs K H ds vs) : ∀ {i : Nat} {k : κ} {v : V}, vs[i]? = some (k, v) → ∃ d, ds[i]? = some (k, d) ∧ Dv K H d v := by
  induction h with
  | nil => intro i k v e; simp at e
  | @cons f d1 v1 ds vs h1 h2 ih =>
    intro i k v e
    cases i with
    | zero => simp at e; obtain ⟨rfl, rfl⟩ := e; exact ⟨d1, rfl, h1⟩
    | succ i => exact ih (i := i) (by simpa using e)
end
/-- of a dict that stands, locked or not -/
def dOf : Option O → Option (List (Key × D))
  | some (.dic k) => some k
  | some (.fdc _ k) => some k
  | _ => none
def tOf : Option O → Option (List (List Key × D))
  | some (.dct k) => some k
  | some (.fdt _ k) => some k
  | _ => none
/-- of one that may be written -/
def wOf : Option O → Option (List (Key × D))
  | some (.dic k) => some k
  | _ => none
def keyD : D → Option Key
  | .int i => some (.inl i)
  | .str x => some (.inr x)
  | _ => none
def keysD : List (Key × D) → List D := fun kvs => kvs.map fun kv => match kv.1 with
  | .inl i => .int i
  | .inr x => .str x
/-! ### readings -/
def uDNew : TE2 := fun _ S Q => ∀ p, S p = none → Q (.ref p) (ups S p (.dic []))
def rDIx : D → D → Sto → VK2 → Prop
  | .ref a, y, S, Q => onS (dOf (S a)) fun kvs => onS (keyD y) fun k => onS (dget kvs k) fun x => Q x S
  | _, _, _, _ => False
def isDc (S : Sto) (a : Addr) : Prop := ∃ kvs, dOf (S a) = some kvs
def uDGet1 (td ty : TE2) : TE2 := fun τ S Q => td τ S fun x S1 => match x with
  | .ref a => isDc S1 a ∧ ty τ S1 fun y S2 => onS (dOf (S2 a)) fun kvs => onS (keyD y) fun k => Q ((dget kvs k).getD .non) S2
  | _ => False
def uDPop1 (td ty : TE2) : TE2 := fun τ S Q => td τ S fun x S1 => match x with
  | .ref a => isDc S1 a ∧ ty τ S1 fun y S2 => onS (wOf (S2 a)) fun kvs => onS (keyD y) fun k => onS (dget kvs k) fun v => Q v (ups S2 a (.dic (ddrop kvs k)))
  | _ => False
def rSortedDI2 : List D → Sto → VK2 → Prop
  | [.ref a], S, Q => onS (dOf (S a)) fun kvs => ∃ ks : List Int, kvs.map (·.1) = ks.map Sum.inl ∧ ks.length < 64 ∧ ∀ ys : List Int, ys.Perm ks → ys.Pairwise (· ≤ ·) → ∀ p, S p = none → Q (.ref p) (ups S p (.lst (ys.map D.int)))
  | _, _, _ => False
def rDictOf2 : List D → Sto → VK2 → Prop
  | [.ref a], S, Q => onS (dOf (S a)) fun kvs => ∀ p, S p = none → Q (.ref p) (ups S p (.dic kvs))
  | _, _, _ => False
/-- d != e, e empty -/
def rNeE2 : D → D → Sto → VK2 → Prop
  | .ref a, .ref b, S, Q => onS (dOf (S a)) fun kvs => dOf (S b) = some [] ∧ Q (.bl (!kvs.isEmpty)) S
  | _, _, _, _ => False
def setDQ (d : D) : D → D → Sto → (Sto → Prop) → Prop
  | .ref a, y, S, Q => onS (wOf (S a)) fun kvs => onS (keyD y) fun k => kvs.length < 1000 ∧ Q (ups S a (.dic (dput kvs k d)))
  | _, _, _, _ => False
def vDSub (to ti : TE2) : TG2 := fun d τ S Q => to τ S fun o S1 => ti τ S1 fun i S2 => setDQ d o i S2 fun S3 => Q τ S3
/-! ### a walk over a dict, locked -/
def itD : D → Sto → (List D → (Sto → Prop) → Sto → Prop) → Prop
  | .ref a, S, R => match S a with
    | some (.fdc o kvs) => R (keysD kvs) (fun S' => S' a = some (.fdc o kvs)) S
    | _ => False
  | _, _, _ => False
def uItD (tl : TE2) : TI2 := fun τ S R => tl τ S fun d S1 => itD d S1 R
/-! ### locked while a for goes over it -/
def uLockQ (a : Addr) (E : Ends2) (o : Obj) (kvs : List (Key × D)) : Ends2 :=
  ⟨fun τ' S' => S' a = some (.fdc o kvs) ∧ E.nx τ' (ups S' a (.dic kvs)), fun v S' => S' a = some (.fdc o kvs) ∧ E.rt v (ups S' a (.dic kvs)),
   fun τ' S' => S' a = some (.fdc o kvs) ∧ E.bk τ' (ups S' a (.dic kvs)), fun τ' S' => S' a = some (.fdc o kvs) ∧ E.ct τ' (ups S' a (.dic kvs))⟩
def uLockS (i : Nat) (t : TS2) : TS2 := fun E τ S => match τ[i]? with
  | some (some (.ref a)) => match S a with
    | some (.dic kvs) => ∀ o, t (uLockQ a E o kvs) τ (ups S a (.fdc o kvs))
    | _ => False
  | _ => False
end DL
namespace DL
open PySem PySem.Spec PyProof.Rows L2
/-! ### list(range(n)) -/
def uListRg (ta : TE2) : TE2 := fun τ S Q => ta τ S fun x S1 => match x with
  | .int n => (0 ≤ n ∧ n ≤ 1000) ∧ ∀ p, S1 p = none → Q (.ref p) (ups S1 p (.lst (rangeD 0 n.toNat)))
  | _ => False
/-! ### words for the reading -/
section
variable {a b p : Addr} {S : Sto} {Q : VK2} {y : D} {kvs : List (Key × D)} {o : Obj} {i : Int} {x : Str}
theorem z_dOf1 : dOf (some (.dic kvs)) = some kvs := rfl
theorem z_dOf2 : dOf (some (.fdc o kvs)) = some kvs := rfl
theorem z_wOf : wOf (some (.dic kvs)) = some kvs := rfl
theorem z_keyI : keyD (.int i) = some (.inl i) := rfl
theorem z_dix : rDIx (.ref a) y S Q = onS (dOf (S a)) fun kvs => onS (keyD y) fun k => onS (dget kvs k) fun x => Q x S := rfl
theorem z_sortedDI : rSortedDI2 [.ref a] S Q = onS (dOf (S a)) fun kvs => ∃ ks : List Int, kvs.map (·.1) = ks.map Sum.inl ∧ ks.length < 64 ∧ ∀ ys : List Int, ys.Perm ks → ys.Pairwise (· ≤ ·) → ∀ p, S p = none → Q (.ref p) (ups S p (.lst (ys.map D.int))) := rfl
theorem z_dictOf : rDictOf2 [.ref a] S Q = onS (dOf (S a)) fun kvs => ∀ p, S p = none → Q (.ref p) (ups S p (.dic kvs)) := rfl
theorem z_neE : rNeE2 (.ref a) (.ref b) S Q = onS (dOf (S a)) fun kvs => dOf (S b) = some [] ∧ Q (.bl (!kvs.isEmpty)) S := rfl
theorem z_setD {d : D} {R : Sto → Prop} : setDQ d (.ref a) y S R = onS (wOf (S a)) fun kvs => onS (keyD y) fun k => kvs.length < 1000 ∧ R (ups S a (.dic (dput kvs k d))) := rfl
theorem z_isDc : isDc S a = ∃ kvs, dOf (S a) = some kvs := rfl
theorem z_exs {α : Type} {x : α} : (∃ k, some x = some k) = True := eq_true ⟨x, rfl⟩
end
theorem zs_jj : ((Str.ofString "join" : Str) = Str.ofString "join") = True := eq_true rfl
theorem zs_lj : ((Str.ofString "leave" : Str) = Str.ofString "join") = False := eq_false (by decide +kernel)
theorem zs_tj : ((Str.ofString "turn" : Str) = Str.ofString "join") = False := eq_false (by decide +kernel)
theorem zs_ll : ((Str.ofString "leave" : Str) = Str.ofString "leave") = True := eq_true rfl
theorem zs_tl : ((Str.ofString "turn" : Str) = Str.ofString "leave") = False := eq_false (by decide +kernel)
/-! ### lines by number -/
abbrev Mp := List (Nat × Ln)
def eM (M : Mp) : List (Key × D) := M.map fun x => ((.inl (x.1 : Int) : Key), eL x.2)
def mget (M : Mp) (r : Nat) : Option Ln := (M.find? fun x => decide (x.1 = r)).map (·.2)
def mset (M : Mp) (r : Nat) (l : Ln) : Mp := M.map fun x => if x.1 = r then (x.1, l) else x
def mdrop (M : Mp) (r : Nat) : Mp := M.filter fun x => decide (x.1 ≠ r)
def keysM (M : Mp) : List Nat := M.map (·.1)
theorem inl_iff {a b : Nat} : ((Sum.inl (a : Int) : Key) = Sum.inl (b : Int)) ↔ a = b := ⟨fun e => Int.ofNat_inj.mp (Sum.inl.inj e), fun e => by rw [e]⟩
theorem dget_eM (r : Nat) : ∀ M : Mp, dget (eM M) (.inl (r : Int)) = (mget M r).map eL
  | [] => rfl
  | x :: M => by
    unfold eM mget
    rw [List.map_cons, List.find?_cons]
    by_cases h : x.1 = r
    · rw [dget_pos (inl_iff.mpr h)]; simp [h]
    · rw [dget_neg (fun e => h (inl_iff.mp e))]; simp only [h, decide_false]; exact dget_eM r M
theorem ddrop_eM (r : Nat) (M : Mp) : ddrop (eM M) (.inl (r : Int)) = eM (mdrop M r) := by
  unfold ddrop eM mdrop
  rw [List.filter_map]
  congr 1
  refine List.filter_congr fun x _ => ?_
  show decide ((Sum.inl (x.1 : Int) : Key) ≠ Sum.inl (r : Int)) = decide (x.1 ≠ r)
  exact decide_eq_decide.mpr (not_congr inl_iff)
theorem keys_eM (M : Mp) : (eM M).map (·.1) = ((keysM M).map fun k : Nat => (k : Int)).map Sum.inl := by unfold eM keysM; rw [List.map_map, List.map_map, List.map_map]; rfl
theorem mget_mem {M : Mp} {r : Nat} {l : Ln} (h : mget M r = some l) : (r, l) ∈ M := by
  unfold mget at h
  cases q : M.find? fun x => decide (x.1 = r) with
  | none => rw [q] at h; cases h
  | some x =>
    rw [q] at h
    have e := List.find?_some q
    simp only [decide_eq_true_eq] at e
    have m := List.mem_of_find?_eq_some q
    simp only [Option.map_some, Option.some.injEq] at h
    rw [← e, ← h]; exact m
theorem mget_some {M : Mp} {r : Nat} (h : r ∈ keysM M) : ∃ l, mget M r = some l := by
  unfold mget
  cases q : M.find? fun x => decide (x.1 = r) with
  | some x => exact ⟨_, rfl⟩
  | none =>
    obtain ⟨x, hx, e⟩ := List.mem_map.mp h
    have := List.find?_eq_none.mp q x hx
    simp only [decide_eq_true_eq] at this
    exact absurd e this
/-! ### deeds -/
inductive Dd where
  | join (t p m : Rat) | leave (t : Rat) (r : Nat) | turn (t : Rat) (r : Nat) (m : Rat)
def Dd.t : Dd → Rat
  | .join t _ _ => t
  | .leave t _ => t
  | .turn t _ _ => t
def eDd : Dd → D
  | .join t p m => .tup [.str "join", eQ t, eQ p, eQ m]
  | .leave t r => .tup [.str "leave", eQ t, .int (r : Int)]
  | .turn t r m => .tup [.str "turn", eQ t, .int (r : Int), eQ m]
def stepM (s : Mp × Nat) : Dd → Mp × Nat
  | .join t p m => (s.1 ++ [(s.2, (p - m * t, m))], s.2 + 1)
  | .leave t r => (mdrop s.1 r, s.2)
  | .turn t r m => (mset s.1 r (at_ ((mget s.1 r).getD (0, 0)) t - m * t, m), s.2)
def runM (D : List Dd) : Mp × Nat := D.foldl stepM ([], 0)
theorem runM_snoc (D : List Dd) (d : Dd) : runM (D ++ [d]) = stepM (runM D) d := by unfold runM; rw [List.foldl_append]; rfl
/-- a small number -/
def Sm (q : Rat) : Prop := q.num.natAbs < 2 ^ 40 ∧ q.den ≤ 12
def SmD : Dd → Prop
  | .join t p m => Sm t ∧ Sm p ∧ Sm m
  | .leave t _ => Sm t
  | .turn t _ m => Sm t ∧ Sm m
def HasD (M : Mp) : Dd → Prop
  | .join _ _ _ => True
  | .leave _ r => r ∈ keysM M
  | .turn _ r _ => r ∈ keysM M
structure DOk (D : List Dd) : Prop where
  ok : ∀ a d b, D = a ++ d :: b → SmD d ∧ HasD (runM a).1 d ∧ (∀ x ∈ a, x.t ≤ d.t) ∧ (runM (a ++ [d])).1.length ≤ 20
  len : D.length ≤ 40
theorem DOk.nil : DOk [] := ⟨fun a d b e => by simp at e, by decide⟩
theorem DOk.pre {a b : List Dd} (h : DOk (a ++ b)) : DOk a := ⟨fun x d y e => h.ok x d (y ++ b) (by rw [e]; simp), by have := h.len; rw [List.length_append] at this; omega⟩
theorem DOk.snoc {D : List Dd} {d : Dd} (h : DOk D) (h1 : SmD d) (h2 : HasD (runM D).1 d) (h3 : ∀ x ∈ D, x.t ≤ d.t) (h4 : (runM (D ++ [d])).1.length ≤ 20) (h5 : D.length < 40) : DOk (D ++ [d]) := by
  refine ⟨fun a x b e => ?_, by rw [List.length_append, List.length_singleton]; omega⟩
  rcases List.eq_nil_or_concat b with rfl | ⟨b', y, rfl⟩
  · obtain ⟨rfl, e2⟩ := List.append_inj' e rfl
    cases e2
    exact ⟨h1, h2, h3, h4⟩
  · rw [List.concat_eq_append, ← List.cons_append, ← List.append_assoc] at e
    obtain ⟨e1, _⟩ := List.append_inj' e rfl
    exact h.ok a x b' e1
/-- the keys stand in order, below the next number -/
def KeyOk (s : Mp × Nat) : Prop := (keysM s.1).Pairwise (· < ·) ∧ ∀ k ∈ keysM s.1, k < s.2
theorem keys_mset (M : Mp) (r : Nat) (l : Ln) : keysM (mset M r l) = keysM M := by
  unfold keysM mset
  rw [List.map_map]
  refine List.map_congr_left fun x _ => ?_
  show (if x.1 = r then (x.1, l) else x).1 = x.1
  split <;> rfl
theorem keys_mdrop (M : Mp) (r : Nat) : keysM (mdrop M r) = (keysM M).filter fun k => decide (k ≠ r) := by
  unfold keysM mdrop
  rw [List.filter_map]; rfl
theorem KeyOk.step {s : Mp × Nat} {d : Dd} (h : KeyOk s) : KeyOk (stepM s d) := by
  cases d with
  | join t p m =>
    have e : keysM (stepM s (.join t p m)).1 = keysM s.1 ++ [s.2] := by unfold stepM keysM; rw [List.map_append]; rfl
    unfold KeyOk
    rw [e]
    refine ⟨List.pairwise_append.mpr ⟨h.1, by simp, fun a ha b hb => ?_⟩, fun k hk => ?_⟩
    · rw [List.mem_singleton.mp hb]; exact h.2 a ha
    · show k < s.2 + 1
      rcases List.mem_append.mp hk with z | z
      · have := h.2 k z; omega
      · rw [List.mem_singleton.mp z]; omega
  | leave t r =>
    unfold KeyOk stepM
    rw [keys_mdrop]
    exact ⟨h.1.filter _, fun k hk => h.2 k (List.mem_filter.mp hk).1⟩
  | turn t r m =>
    unfold KeyOk stepM
    rw [keys_mset]
    exact h
theorem keyOk_run : ∀ D : List Dd, KeyOk (runM D) := snoc_ind ⟨.nil, fun _ h => by cases h⟩ fun D d h => by rw [runM_snoc]; exact h.step
theorem KeyOk.new {s : Mp × Nat} (h : KeyOk s) : s.2 ∉ keysM s.1 := fun z => Nat.lt_irrefl _ (h.2 _ z)
theorem int_pw {ks : List Nat} (h : ks.Pairwise (· < ·)) : (ks.map fun k : Nat => (k : Int)).Pairwise (· ≤ ·) := List.pairwise_map.mpr (h.imp fun h => by omega)
/-- what is sorted stays -/
theorem sorted_eq {xs ys : List Int} (h : ys.Perm xs) (h1 : ys.Pairwise (· ≤ ·)) (h2 : xs.Pairwise (· ≤ ·)) : ys = xs := h.eq_of_pairwise (fun a b _ _ h1 h2 => Int.le_antisymm h1 h2) h1 h2
/-! ### sizes -/
def W2 : Nat := 27720 * 27720
def MSz (n : Nat) (M : Mp) : Prop := ∀ x ∈ M, Sm x.2.2 ∧ ∃ z : Int, x.2.1 = (z : Rat) / (W2 : Rat) ∧ z.natAbs ≤ n * 2 ^ 112
theorem Sm.nz {q : Rat} (h : Sm q) : Nz 60 q := ⟨Nat.lt_of_lt_of_le h.1 (by decide), by
  show (q.den : Int).natAbs < 2 ^ 60
  rw [Int.natAbs_natCast]
  exact Nat.lt_of_le_of_lt h.2 (by decide)⟩
theorem den12 : ∀ d : Nat, d ≤ 12 → d ≠ 0 → ∃ k, k * d = 27720 ∧ k ≤ 27720 := by
  intro d h0 h1
  have : d = 1 ∨ d = 2 ∨ d = 3 ∨ d = 4 ∨ d = 5 ∨ d = 6 ∨ d = 7 ∨ d = 8 ∨ d = 9 ∨ d = 10 ∨ d = 11 ∨ d = 12 := by omega
  rcases this with rfl | rfl | rfl | rfl | rfl | rfl | rfl | rfl | rfl | rfl | rfl | rfl
  all_goals first | exact ⟨27720, by decide, by decide⟩ | exact ⟨13860, by decide, by decide⟩ | exact ⟨9240, by decide, by decide⟩ | exact ⟨6930, by decide, by decide⟩ | exact ⟨5544, by decide, by decide⟩ | exact ⟨4620, by decide, by decide⟩ | exact ⟨3960, by decide, by decide⟩ | exact ⟨3465, by decide, by decide⟩ | exact ⟨3080, by decide, by decide⟩ | exact ⟨2772, by decide, by decide⟩ | exact ⟨2520, by decide, by decide⟩ | exact ⟨2310, by decide, by decide⟩
theorem Sm.z {q : Rat} (h : Sm q) : ∃ a : Int, q = (a : Rat) / (27720 : Rat) ∧ a.natAbs ≤ 2 ^ 55 := by
  obtain ⟨k, e, hk⟩ := den12 q.den h.2 q.den_nz
  refine ⟨q.num * (k : Int), ?_, ?_⟩
  · have h1 := q_self q
    have h2 : ((q.den : Int) : Rat) ≠ 0 := den_neR q
    have h3 : ((k : Int) : Rat) * ((q.den : Int) : Rat) = 27720 := by rw [← Rat.intCast_mul]; exact congrArg (fun x : Int => (x : Rat)) (by exact_mod_cast e)
    rw [Rat.intCast_mul]
    have h4 : (27720 : Rat) ≠ 0 := by decide
    grind
  · rw [Int.natAbs_mul, Int.natAbs_natCast]
    have : q.num.natAbs * k ≤ 2 ^ 40 * 27720 := Nat.mul_le_mul (Nat.le_of_lt h.1) hk
    have h2 : 2 ^ 40 * 27720 ≤ 2 ^ 55 := by decide
    omega
theorem Sm.int {t : Int} (ht : t.natAbs < 2 ^ 40) : Sm (t : Rat) := ⟨ht, by show (1 : Nat) ≤ 12; decide⟩
theorem prod_z {m t : Rat} (hm : Sm m) (ht : Sm t) : ∃ z : Int, m * t = (z : Rat) / (W2 : Rat) ∧ z.natAbs ≤ 2 ^ 110 := by
  obtain ⟨a, ea, ha⟩ := hm.z
  obtain ⟨b, eb, hb⟩ := ht.z
  refine ⟨a * b, ?_, ?_⟩
  · rw [ea, eb, Rat.intCast_mul]
    have : (W2 : Rat) = 27720 * 27720 := by unfold W2; norm_cast
    rw [this]
    grind
  · rw [Int.natAbs_mul]
    exact Nat.le_trans (Nat.mul_le_mul ha hb) (by decide)
theorem one_z {p : Rat} (hp : Sm p) : ∃ z : Int, p = (z : Rat) / (W2 : Rat) ∧ z.natAbs ≤ 2 ^ 110 := by
  obtain ⟨z, e, h⟩ := prod_z hp (Sm.int (t := 1) (by decide))
  exact ⟨z, by rw [← e]; simp, h⟩
theorem MSz.step {s : Mp × Nat} {d : Dd} {n : Nat} (h : MSz n s.1) (h1 : SmD d) (h2 : HasD s.1 d) : MSz (n + 1) (stepM s d).1 := by
  have up : ∀ x ∈ s.1, Sm x.2.2 ∧ ∃ z : Int, x.2.1 = (z : Rat) / (W2 : Rat) ∧ z.natAbs ≤ (n + 1) * 2 ^ 112 := fun x hx => by
    obtain ⟨a, z, e, hz⟩ := h x hx
    exact ⟨a, z, e, Nat.le_trans hz (Nat.mul_le_mul_right _ (Nat.le_succ n))⟩
  cases d with
  | join t p m =>
    intro x hx
    rcases List.mem_append.mp (show x ∈ s.1 ++ [_] from hx) with a | a
    · exact up x a
    · rw [List.mem_singleton.mp a]
      refine ⟨h1.2.2, ?_⟩
      obtain ⟨z, e, hz⟩ := one_z h1.2.1
      obtain ⟨y, e2, hy⟩ := prod_z h1.2.2 h1.1
      refine ⟨z - y, ?_, by omega⟩
      show p - m * t = _
      rw [e, e2, Rat.intCast_sub]
      grind
  | leave t r => exact fun x hx => up x (List.mem_filter.mp hx).1
  | turn t r m =>
    intro x hx
    obtain ⟨y, hy, rfl⟩ := List.mem_map.mp (show x ∈ s.1.map _ from hx)
    split
    · next e =>
      refine ⟨h1.2, ?_⟩
      obtain ⟨l, el⟩ := mget_some h2
      obtain ⟨hs, z, ez, hz⟩ := h _ (mget_mem el)
      obtain ⟨u, eu, hu⟩ := prod_z hs h1.1
      obtain ⟨w, ew, hw⟩ := prod_z h1.2 h1.1
      refine ⟨z + u - w, ?_, by omega⟩
      show at_ ((mget s.1 r).getD (0, 0)) t - m * t = _
      rw [el, Option.getD_some]
      unfold at_
      simp only at ez eu
      rw [ez, eu, ew, Rat.intCast_sub, Rat.intCast_add]
      grind
    · exact up y hy
theorem msz_run : ∀ D : List Dd, DOk D → MSz D.length (runM D).1 := snoc_ind (fun _ x h => by cases h) fun D d ih h => by
  rw [runM_snoc, List.length_append]
  obtain ⟨a, b, _⟩ := h.ok D d [] rfl
  exact (ih h.pre).step a b
theorem DOk.lz {D : List Dd} (h : DOk D) : ∀ x ∈ (runM D).1, Lz 300 x.2 := fun x hx => by
  obtain ⟨a, z, e, hz⟩ := msz_run D h x hx
  refine ⟨?_, a.nz.le (by decide)⟩
  rw [e]
  have : ((W2 : Nat) : Rat) = ((W2 : Int) : Rat) := rfl
  rw [this]
  refine (Nz.quo2 (n := 200) (by decide) ?_ (Sz.lit (by decide))).le (by decide)
  refine Nat.lt_of_le_of_lt hz ?_
  have := h.len
  exact Nat.lt_of_le_of_lt (Nat.mul_le_mul_right _ this) (by decide)
theorem DOk.room {D : List Dd} (h : DOk D) : (runM D).1.length ≤ 20 := by
  rcases List.eq_nil_or_concat D with rfl | ⟨a, d, rfl⟩
  · exact Nat.zero_le _
  · rw [List.concat_eq_append] at h ⊢; exact (h.ok a d [] rfl).2.2.2
/-! ### the deeds till a time -/
def thenD (D : List Dd) (t : Rat) : List Dd := D.takeWhile fun d => !decide (t < d.t)
theorem thenD_pre (D : List Dd) (t : Rat) : ∃ b, D = thenD D t ++ b := ⟨_, (List.takeWhile_append_dropWhile).symm⟩
theorem DOk.then {D : List Dd} (h : DOk D) (t : Rat) : DOk (thenD D t) := by
  obtain ⟨b, e⟩ := thenD_pre D t
  rw [e] at h
  exact h.pre
theorem DOk.pw {D : List Dd} (h : DOk D) : D.Pairwise fun a b => a.t ≤ b.t := by
  have : ∀ D : List Dd, DOk D → D.Pairwise fun a b => a.t ≤ b.t := snoc_ind (fun _ => .nil) fun D d ih h => List.pairwise_append.mpr ⟨ih h.pre, by simp, fun a ha b hb => by
    rw [List.mem_singleton.mp hb]; exact (h.ok D d [] rfl).2.2.1 a ha⟩
  exact this D h
end DL
namespace DL
open PySem PySem.Spec PyProof.Rows L2
/-! ### a pen of three numbers, the last one counts -/
def penC (a b c : Int) : O := .lst [.int a, .int b, .int c]
def PenC (S : Sto) (p : Addr) (n : Nat) : Prop := ∃ a b c, S p = some (penC a b c) ∧ 0 ≤ c ∧ c ≤ n
section
variable {S : Sto} {a p : Addr} {n : Nat} {x y z : Int} {o : O}
theorem penC_again (h0 : 0 ≤ z) (h1 : z ≤ n) : PenC (ups S a (penC x y z)) a n := ⟨x, y, z, ups_same, h0, h1⟩
theorem PenC.ne (h : PenC S a n) (k : S p = none) : a ≠ p := let ⟨_, _, _, e, _⟩ := h; ne_of_st e k
theorem PenC.new (h : PenC S a n) (k : S p = none) : PenC (ups S p o) a n := let ⟨x, y, z, e, r⟩ := h; ⟨x, y, z, by rw [ups_ne (ne_of_st e k)]; exact e, r⟩
theorem PenC.upd (h : PenC S a n) (k : a ≠ p) : PenC (ups S p o) a n := let ⟨x, y, z, e, r⟩ := h; ⟨x, y, z, by rw [ups_ne k]; exact e, r⟩
theorem PenC.le {m : Nat} (h : PenC S a n) (k : n ≤ m) : PenC S a m := let ⟨x, y, z, e, r1, r2⟩ := h; ⟨x, y, z, e, r1, by omega⟩
end
end DL
namespace DL
open PySem PySem.Spec PyProof.Rows L2
/-! ### runners by their place among those who run -/
def lnM (M : Mp) : List Ln := M.map (·.2)
def kN (M : Mp) (a : Nat) : Int := ((keysM M).getD a 0 : Nat)
def KM (M : Mp) : List Int := (keysM M).map fun k : Nat => (k : Int)
def OM (M : Mp) (t : Rat) : List Int := (ordL (lnM M) t).map (kN M)
theorem lnM_len (M : Mp) : (lnM M).length = M.length := by unfold lnM; simp
theorem keysM_len (M : Mp) : (keysM M).length = M.length := by unfold keysM; simp
theorem KM_range (M : Mp) : KM M = (List.range M.length).map (kN M) := by
  unfold KM kN
  refine List.ext_getElem (by simp [keysM_len]) fun i h1 h2 => ?_
  have : i < (keysM M).length := by simpa using h1
  simp only [List.getElem_map, List.getElem_range, List.getD_eq_getElem?_getD, List.getElem?_eq_getElem this, Option.getD_some]
theorem kN_get {M : Mp} {a : Nat} (h : a < M.length) : ∃ (k : Nat) (l : Ln), M[a]? = some (k, l) ∧ kN M a = (k : Int) ∧ ln (lnM M) a = l := by
  refine ⟨M[a].1, M[a].2, List.getElem?_eq_getElem h, ?_, ?_⟩
  · unfold kN keysM
    rw [List.getD_eq_getElem?_getD, List.getElem?_map, List.getElem?_eq_getElem h]; rfl
  · unfold ln lnM
    rw [List.getD_eq_getElem?_getD, List.getElem?_map, List.getElem?_eq_getElem h]; rfl
theorem mget_at : ∀ {M : Mp} {a k : Nat} {l : Ln}, (keysM M).Pairwise (· < ·) → M[a]? = some (k, l) → mget M k = some l
  | [], _, _, _, _, e => by simp at e
  | x :: M, 0, k, l, _, e => by
    obtain rfl : x = (k, l) := by simpa using e
    unfold mget; simp
  | x :: M, a + 1, k, l, h, e => by
    have h' : (keysM M).Pairwise (· < ·) := (List.pairwise_cons.mp h).2
    have hm : (k, l) ∈ M := List.mem_of_getElem? (show M[a]? = some (k, l) by simpa using e)
    have hlt : x.1 < k := (List.pairwise_cons.mp h).1 k (List.mem_map.mpr ⟨_, hm, rfl⟩)
    have ih := mget_at (a := a) h' (by simpa using e)
    unfold mget at *
    rw [List.find?_cons]
    have : decide (x.1 = k) = false := decide_eq_false (by omega)
    rw [this]
    exact ih
theorem kN_lt {M : Mp} {a b : Nat} (hk : (keysM M).Pairwise (· < ·)) (ha : a < M.length) (hb : b < M.length) : kN M a < kN M b ↔ a < b := by
  have ha' : a < (keysM M).length := by rw [keysM_len]; exact ha
  have hb' : b < (keysM M).length := by rw [keysM_len]; exact hb
  have key : ∀ {a b : Nat} (ha : a < (keysM M).length) (hb : b < (keysM M).length), a < b → kN M a < kN M b := fun {a b} ha hb h => by
    unfold kN
    rw [List.getD_eq_getElem?_getD, List.getD_eq_getElem?_getD, List.getElem?_eq_getElem ha, List.getElem?_eq_getElem hb]
    have := List.pairwise_iff_getElem.mp hk a b ha hb h
    simp only [Option.getD_some]
    omega
  constructor
  · intro h
    rcases Nat.lt_trichotomy a b with c | c | c
    · exact c
    · subst c; omega
    · have := key hb' ha' c; omega
  · exact key ha' hb'
structure LD (S : Sto) (f : Addr) (M : Mp) : Prop where
  st : dOf (S f) = some (eM M)
  ky : (keysM M).Pairwise (· < ·)
  ok : LOk (lnM M)
  sz : M.length ≤ 20
theorem LD.of {S : Sto} {f : Addr} {D : List Dd} (hD : DOk D) (h : S f = some (.dic (eM (runM D).1))) : LD S f (runM D).1 := ⟨by rw [h]; rfl, (keyOk_run D).1, fun l hl => by
  obtain ⟨x, hx, rfl⟩ := List.mem_map.mp hl
  exact hD.lz x hx, hD.room⟩
theorem dOf_sub {S S' : Sto} {f : Addr} {kvs : List (Key × D)} (s : Sub S S') (h : dOf (S f) = some kvs) : dOf (S' f) = some kvs := by
  cases q : S f with
  | none => rw [q] at h; cases h
  | some o => rw [s _ _ q, ← q]; exact h
theorem LD.sub {S S' : Sto} {f : Addr} {M : Mp} (h : LD S f M) (s : Sub S S') : LD S' f M := ⟨dOf_sub s h.st, h.ky, h.ok, h.sz⟩
theorem LD.ne {S : Sto} {f p : Addr} {M : Mp} (h : LD S f M) (n : S p = none) : f ≠ p := by
  rintro rfl
  have := h.st
  rw [n] at this; cases this
theorem LD.new {S : Sto} {f p : Addr} {M : Mp} {o : O} (h : LD S f M) (n : S p = none) : LD (ups S p o) f M := ⟨by rw [ups_ne (h.ne n)]; exact h.st, h.ky, h.ok, h.sz⟩
theorem LD.keys {S : Sto} {f : Addr} {M : Mp} (h : LD S f M) {Q : VK2} (q : ∀ p, S p = none → Q (.ref p) (ups S p (.lst ((KM M).map D.int)))) : rSortedDI2 [.ref f] S Q := by
  rw [z_sortedDI, h.st]
  refine ⟨KM M, keys_eM M, ?_, fun ys h1 h2 p np => ?_⟩
  · unfold KM; rw [List.length_map, keysM_len]; exact Nat.lt_of_le_of_lt h.sz (by decide)
  · rw [sorted_eq h1 h2 (int_pw h.ky)]; exact q p np
end DL
namespace DL
end DL
namespace DL
open PySem PySem.Spec PyProof.Rows L2
/-- two lists of one's own beside a pen -/
structure Lg (S S' : Sto) (a f r : Addr) (n : Nat) (X R : O) : Prop where
  fr : Fr S S' a
  pen : PenC S' a n
  hf : S' f = some X
  hr : S' r = some R
  nf : S f = none
  nr : S r = none
  fa : f ≠ a
  ra : r ≠ a
  ne : f ≠ r
section
variable {S S' : Sto} {a f r p : Addr} {n m : Nat} {X R o : O} {x y z : Int}
theorem Lg.new (h : Lg S S' a f r n X R) (k : S' p = none) : Lg S (ups S' p o) a f r n X R :=
  ⟨h.fr.new k, h.pen.new k, by rw [ups_ne (ne_of_st h.hf k)]; exact h.hf, by rw [ups_ne (ne_of_st h.hr k)]; exact h.hr, h.nf, h.nr, h.fa, h.ra, h.ne⟩
theorem Lg.wr (h : Lg S S' a f r n X R) (h0 : 0 ≤ z) (h1 : z ≤ m) : Lg S (ups S' a (penC x y z)) a f r m X R :=
  ⟨h.fr.wr, penC_again h0 h1, by rw [ups_ne h.fa]; exact h.hf, by rw [ups_ne h.ra]; exact h.hr, h.nf, h.nr, h.fa, h.ra, h.ne⟩
theorem Lg.le (h : Lg S S' a f r n X R) (k : n ≤ m) : Lg S S' a f r m X R := { h with pen := h.pen.le k }
end
/-! ### a thing beside itself -/
def SelfP (S : Sto) (n : Nat) (x : DL.D) : Prop := ∃ p, Py S x p ∧ p.canLay0 = true ∧ p.depth ≤ n ∧ PyData.eqv p p = true
section
variable {S : Sto} {Q : VK2} {a b : Addr} {n : Nat} {xs : List DL.D}
theorem SelfP.le {m : Nat} {x : DL.D} (h : SelfP S n x) (k : n ≤ m) : SelfP S m x := let ⟨p, h1, h2, h3, h4⟩ := h; ⟨p, h1, h2, Nat.le_trans h3 k, h4⟩
end
theorem eDd_1 {d : Dd} {S : Sto} {Q : VK2} : ixkQ 1 (eDd d) S Q = Q (eQ d.t) S := by cases d <;> rfl
theorem smd_t {d : Dd} (h : SmD d) : Sm d.t := by
  cases d with
  | join t p m => exact h.1
  | leave t r => exact h
  | turn t r m => exact h.1
/-- two whole numbers side by side -/
def e2 (x : Int × Int) : DL.D := .tup [.int x.1, .int x.2]
def Gd (x : Int × Int) : Prop := 0 < x.2 ∧ Sz 200 x.1 ∧ Sz 200 x.2
theorem Gd.q {q : Rat} (h : Nz 200 q) : Gd (q.num, (q.den : Int)) := ⟨den_pos q, h.1, h.2⟩
end DL
namespace DL
open PySem PySem.Spec PyProof.Rows L2
/-- the next meeting of two lines behind a time -/
def chgL (L : List Ln) (i j : Nat) (t : Rat) : Option Rat := if (ln L i).2 = (ln L j).2 then none else if t < met (ln L i) (ln L j) then some (met (ln L i) (ln L j)) else none
/-- small to the law -/
def Sml (q : Rat) : Prop := q.num.natAbs < 10 ^ 9 ∧ q.den < 13
instance (q : Rat) : Decidable (Sml q) := by unfold Sml; infer_instance
theorem Sml.sm {q : Rat} (h : Sml q) : Sm q := ⟨Nat.lt_of_lt_of_le h.1 (by decide), Nat.lt_succ_iff.mp h.2⟩
theorem LD.pen {S : Sto} {f a : Addr} {M : Mp} {sc : List Int} (h : LD S f M) (k : PenA S a sc) : f ≠ a := by
  rintro rfl
  obtain ⟨x, y, e⟩ := k
  have := h.st
  rw [e] at this
  cases this
theorem LD.fr {S S' : Sto} {f a : Addr} {M : Mp} (h : LD S f M) (k : Fr S S' a) (n : f ≠ a) : LD S' f M := by
  refine ⟨?_, h.ky, h.ok, h.sz⟩
  have e := h.st
  cases q : S f with
  | none => rw [q] at e; cases e
  | some o => rw [k f o n q, ← q]; exact e
theorem LD.wr {S : Sto} {f a : Addr} {M : Mp} {o : O} (h : LD S f M) (n : f ≠ a) : LD (ups S a o) f M := ⟨by rw [ups_ne n]; exact h.st, h.ky, h.ok, h.sz⟩
theorem PenA.fa {S : Sto} {f a : Addr} {sc : List Int} (h : PenA S a sc) (n : S f = none) : f ≠ a := fun z => h.ne n z.symm
theorem Fr.miss {S S' : Sto} {a g : Addr} (h : Fr S S' a) (n : g ≠ a) (k : S' g = none) : S g = none := by
  cases q : S g with
  | none => rfl
  | some o => rw [h g o n q] at k; cases k
theorem PenA.sub' {S S' : Sto} {a : Addr} {sc : List Int} (h : PenA S a sc) (s : Sub S S') : PenA S' a sc := let ⟨x, y, e⟩ := h; ⟨x, y, s _ _ e⟩
/-- a change of two lines within a stretch -/
def Pc (L : List Ln) (t : Rat) (b : Option Rat) (i j : Nat) (x : Rat) : Prop := i < j ∧ chgL L i j t = some x ∧ ∀ v, b = some v → x < v
structure CI (L : List Ln) (t : Rat) (b : Option Rat) (i j : Nat) (C : List Rat) : Prop where
  inc : Inc C
  len : C.length ≤ i * L.length + j
  mem : ∀ x, x ∈ C ↔ (∃ i' j', i' < i ∧ j' < L.length ∧ Pc L t b i' j' x) ∨ ∃ j', j' < j ∧ Pc L t b i j' x
section
variable {L : List Ln} {t : Rat} {b : Option Rat} {i j : Nat} {C : List Rat}
theorem CI.start : CI L t b 0 0 [] := ⟨.nil, Nat.zero_le _, fun x => ⟨fun h => (by cases h), fun h => h.elim (fun ⟨_, _, h, _⟩ => absurd h (Nat.not_lt_zero _)) (fun ⟨_, h, _⟩ => absurd h (Nat.not_lt_zero _))⟩⟩
theorem CI.skip (h : CI L t b i j C) (k : ∀ x, Pc L t b i j x → x ∈ C) : CI L t b i (j + 1) C := by
  refine ⟨h.inc, Nat.le_succ_of_le h.len, fun x => ⟨fun hx => ?_, fun hx => ?_⟩⟩
  · rcases (h.mem x).mp hx with a | ⟨j', h1, h2⟩
    · exact .inl a
    · exact .inr ⟨j', Nat.lt_succ_of_lt h1, h2⟩
  · rcases hx with a | ⟨j', h1, h2⟩
    · exact (h.mem x).mpr (.inl a)
    · rcases Nat.lt_succ_iff_lt_or_eq.mp h1 with c | rfl
      · exact (h.mem x).mpr (.inr ⟨j', c, h2⟩)
      · exact k x h2
theorem CI.put {u : Rat} (h : CI L t b i j C) (p : Pc L t b i j u) (hu : u ∉ C) : CI L t b i (j + 1) (C.take (C.filter fun x => decide (x < u)).length ++ [u] ++ C.drop (C.filter fun x => decide (x < u)).length) := by
  obtain ⟨h1, h2⟩ := ins_at h.inc u hu
  have hl := List.length_filter_le (fun x => decide (x < u)) C
  refine ⟨h1, ?_, fun x => ?_⟩
  · have := h.len
    simp only [List.length_append, List.length_take, List.length_drop, List.length_singleton]
    omega
  · rw [h2]
    constructor
    · rintro (rfl | hx)
      · exact .inr ⟨j, Nat.lt_succ_self _, p⟩
      · rcases (h.mem x).mp hx with a | ⟨j', h1, h2⟩
        · exact .inl a
        · exact .inr ⟨j', Nat.lt_succ_of_lt h1, h2⟩
    · rintro (a | ⟨j', h1, h2⟩)
      · exact .inr ((h.mem x).mpr (.inl a))
      · rcases Nat.lt_succ_iff_lt_or_eq.mp h1 with c | rfl
        · exact .inr ((h.mem x).mpr (.inr ⟨j', c, h2⟩))
        · have := p.2.1.symm.trans h2.2.1
          exact .inl (Option.some.inj this).symm
theorem CI.row (h : CI L t b i L.length C) : CI L t b (i + 1) 0 C := by
  refine ⟨h.inc, by have := h.len; rw [Nat.succ_mul]; omega, fun x => ⟨fun hx => ?_, fun hx => ?_⟩⟩
  · rcases (h.mem x).mp hx with ⟨i', j', h1, h2, h3⟩ | ⟨j', h1, h2⟩
    · exact .inl ⟨i', j', Nat.lt_succ_of_lt h1, h2, h3⟩
    · exact .inl ⟨i, j', Nat.lt_succ_self _, h1, h2⟩
  · rcases hx with ⟨i', j', h1, h2, h3⟩ | ⟨j', h1, _⟩
    · rcases Nat.lt_succ_iff_lt_or_eq.mp h1 with c | rfl
      · exact (h.mem x).mpr (.inl ⟨i', j', c, h2, h3⟩)
      · exact (h.mem x).mpr (.inr ⟨j', h2, h3⟩)
    · exact absurd h1 (Nat.not_lt_zero _)
theorem chg_nz {u : Rat} (h : LOk L) (hi : i < L.length) (hj : j < L.length) (e : chgL L i j t = some u) : Nz 1210 u := by
  unfold chgL at e
  split at e
  · cases e
  · next n =>
    split at e
    · cases e; exact Lz.met (h.at hi) (h.at hj) n
    · cases e
end
/-! ### times of deeds; rows of fronts -/
structure IsT (D : List Dd) (T : List Rat) : Prop where
  inc : Inc T
  mem : ∀ x, x ∈ T ↔ ∃ d ∈ D, d.t = x
  len : T.length ≤ D.length
theorem IsT.nil : IsT [] [] := ⟨.nil, fun x => ⟨fun h => (by cases h), fun ⟨_, h, _⟩ => (by cases h)⟩, Nat.le_refl _⟩
theorem IsT.new {D : List Dd} {T : List Rat} {d : Dd} (h : IsT D T) (k : d.t ∉ T) (le : ∀ x ∈ D, x.t ≤ d.t) : IsT (D ++ [d]) (T ++ [d.t]) := by
  refine ⟨?_, fun x => ⟨fun hx => ?_, fun hx => ?_⟩, by rw [List.length_append, List.length_append]; have := h.len; simp only [List.length_singleton]; omega⟩
  · refine List.pairwise_append.mpr ⟨h.inc, by simp, fun a ha b hb => ?_⟩
    rw [List.mem_singleton.mp hb]
    obtain ⟨e, he, r⟩ := (h.mem a).mp ha
    have := le e he
    rw [r] at this
    have ne : a ≠ d.t := fun z => k (z ▸ ha)
    grind
  · rcases List.mem_append.mp hx with z | z
    · obtain ⟨e, he, r⟩ := (h.mem x).mp z
      exact ⟨e, List.mem_append_left _ he, r⟩
    · rw [List.mem_singleton.mp z]; exact ⟨d, by simp, rfl⟩
  · obtain ⟨e, he, rfl⟩ := hx
    rcases List.mem_append.mp he with z | z
    · exact List.mem_append_left _ ((h.mem _).mpr ⟨e, z, rfl⟩)
    · rw [List.mem_singleton.mp z]; simp
theorem IsT.uniq {D : List Dd} {T U : List Rat} (h : IsT D T) (k : IsT D U) : T = U := inc_ext h.inc k.inc fun x => by rw [h.mem, k.mem]
abbrev Fo := List (Option Int × Option Rat)
@[reducible] def eOi (x : Option Int) : DL.D := match x with
  | none => .non
  | some i => .int i
def eF (x : Option Int × Option Rat) : DL.D := .tup [eOi x.1, eO x.2]
/-- put behind the last one, if it is another one -/
def putR (row : Fo) (r : Option Int) (t : Rat) : Fo := if (row.getLastD (none, none)).1 = r then row else row ++ [(r, some t)]
theorem putR_ne {R : Fo} {r : Option Int} {t : Rat} (h : R ≠ []) : putR R r t ≠ [] := by
  unfold putR
  split
  · exact h
  · simp
theorem putR_len {R : Fo} {r : Option Int} {t : Rat} : (putR R r t).length ≤ R.length + 1 := by
  unfold putR
  split
  · exact Nat.le_succ _
  · rw [List.length_append]; exact Nat.le_refl _
instance : PyN Int where
  nn a := by constructor <;> simp only [PyV.py, Enc.py, PyData.eqv]
/-- the times of deeds and of changes, stretch by stretch -/
inductive AllP (D : List Dd) (T : List Rat) : Nat → List Rat → Prop
  | zero : AllP D T 0 []
  | succ {k : Nat} {B C : List Rat} {t : Rat} : AllP D T k B → T[k]? = some t → CI (lnM (runM (thenD D t)).1) t T[k + 1]? (runM (thenD D t)).1.length 0 C → AllP D T (k + 1) (B ++ [t] ++ C)
theorem IsT.nz {D : List Dd} {T : List Rat} (h : IsT D T) (hD : DOk D) : ∀ x ∈ T, Nz 60 x := fun x hx => by
  obtain ⟨d, hd, rfl⟩ := (h.mem x).mp hx
  obtain ⟨a, b, e⟩ := List.append_of_mem hd
  exact (smd_t (hD.ok a d b e).1).nz
theorem CI.nz {L : List Ln} {t : Rat} {b : Option Rat} {n : Nat} {C : List Rat} (h : CI L t b n 0 C) (ok : LOk L) (hn : n ≤ L.length) : ∀ x ∈ C, Nz 1210 x := fun x hx => by
  rcases (h.mem x).mp hx with ⟨i', j', h1, h2, h3⟩ | ⟨j', h1, _⟩
  · exact chg_nz ok (by omega) h2 h3.2.1
  · exact absurd h1 (Nat.not_lt_zero _)
theorem lnM_ok {D : List Dd} (h : DOk D) : LOk (lnM (runM D).1) := fun l hl => by
  obtain ⟨x, hx, rfl⟩ := List.mem_map.mp hl
  exact h.lz x hx
theorem AllP.nz {D : List Dd} {T : List Rat} {k : Nat} {B : List Rat} (h : AllP D T k B) (hT : IsT D T) (hD : DOk D) : ∀ x ∈ B, Nz 1210 x := by
  induction h with
  | zero => intro x hx; cases hx
  | succ h1 h2 h3 ih =>
    intro x hx
    rcases List.mem_append.mp hx with hx | hx
    · rcases List.mem_append.mp hx with hx | hx
      · exact ih x hx
      · rw [List.mem_singleton.mp hx]
        exact (hT.nz hD _ (List.mem_of_getElem? h2)).le (by decide)
    · exact h3.nz (lnM_ok (hD.then _)) (by rw [lnM_len]; exact Nat.le_refl _) x hx
theorem AllP.len {D : List Dd} {T : List Rat} {k : Nat} {B : List Rat} (h : AllP D T k B) (hD : DOk D) : B.length ≤ 401 * k := by
  induction h with
  | zero => exact Nat.zero_le _
  | @succ k B C t h1 h2 h3 ih =>
    have hM := (hD.then t).room
    have h4 := h3.len
    rw [lnM_len] at h4
    have h5 : (runM (thenD D t)).1.length * (runM (thenD D t)).1.length ≤ 20 * 20 := Nat.mul_le_mul hM hM
    simp only [List.length_append, List.length_singleton]
    omega
/-- what a stretch puts behind the row -/
def stepS (M : Mp) (t : Rat) (b : Option Rat) (row : Fo) (x : Nat × Option Rat) : Fo := match x.2 with
  | some s => if t < s ∧ (∀ v, b = some v → s < v) then putR row (some (kN M x.1)) s else row
  | none => row
def StrR (D : List Dd) (t : Rat) (b : Option Rat) (R R' : Fo) : Prop :=
  ((runM (thenD D t)).1 = [] ∧ R' = putR R none t) ∨
    ∃ r0 rest, IsRow (lnM (runM (thenD D t)).1) ((r0, none) :: rest) ∧ R' = rest.foldl (stepS (runM (thenD D t)).1 t b) (putR R (some (kN (runM (thenD D t)).1 (rd r0 rest t))) t)
inductive LdR (D : List Dd) (T : List Rat) : Nat → Fo → Prop
  | zero : LdR D T 0 [(none, none)]
  | succ {k : Nat} {R R' : Fo} {t : Rat} : LdR D T k R → T[k]? = some t → StrR D t T[k + 1]? R R' → LdR D T (k + 1) R'
theorem stepS_ne {M : Mp} {t : Rat} {b : Option Rat} {row : Fo} {x : Nat × Option Rat} (h : row ≠ []) : stepS M t b row x ≠ [] ∧ (stepS M t b row x).length ≤ row.length + 1 := by
  unfold stepS
  split
  · split
    · exact ⟨putR_ne h, putR_len⟩
    · exact ⟨h, Nat.le_succ _⟩
  · exact ⟨h, Nat.le_succ _⟩
theorem foldS_ne {M : Mp} {t : Rat} {b : Option Rat} : ∀ {xs : Rw} {row : Fo}, row ≠ [] → xs.foldl (stepS M t b) row ≠ [] ∧ (xs.foldl (stepS M t b) row).length ≤ row.length + xs.length
  | [], row, h => ⟨h, Nat.le_refl _⟩
  | x :: xs, row, h => by
    obtain ⟨h1, h2⟩ := stepS_ne (M := M) (t := t) (b := b) (x := x) h
    obtain ⟨i1, i2⟩ := foldS_ne (M := M) (t := t) (b := b) (xs := xs) h1
    exact ⟨i1, Nat.le_trans i2 (by rw [List.length_cons]; omega)⟩
theorem LdR.ne {D : List Dd} {T : List Rat} {k : Nat} {R : Fo} (h : LdR D T k R) (hD : DOk D) : R ≠ [] ∧ R.length ≤ 1 + 30 * k := by
  induction h with
  | zero => exact ⟨by simp, Nat.le_refl _⟩
  | @succ k R R' t h1 h2 h3 ih =>
    obtain ⟨i1, i2⟩ := ih
    rcases h3 with ⟨_, rfl⟩ | ⟨r0, rest, hr, rfl⟩
    · refine ⟨putR_ne i1, ?_⟩
      have := putR_len (R := R) (r := none) (t := t)
      omega
    · obtain ⟨j1, j2⟩ := foldS_ne (M := (runM (thenD D t)).1) (t := t) (b := T[k + 1]?) (xs := rest) (putR_ne (r := some (kN (runM (thenD D t)).1 (rd r0 rest t))) (t := t) i1)
      refine ⟨j1, ?_⟩
      have h5 := hr.len
      rw [lnM_len, List.length_cons] at h5
      have h6 := (hD.then t).room
      have h7 := putR_len (R := R) (r := some (kN (runM (thenD D t)).1 (rd r0 rest t))) (t := t)
      omega
end DL
namespace DL
open PySem PySem.Spec PyProof.Rows L2
end DL
/-! Exceptions over the data layer: raise, calls that may raise, a try whose clause keeps the exception in a name, isinstance and a field of it. -/
namespace DL
open PySem PySem.Spec PyProof.Rows L2
/-! ### what a frame's entry keeps -/
/-! ### defs that may raise -/
def uCallX (sp : Sp2) (W2 : St2 → XK2) (t : TA2) : TE2 := fun τ S Q => t τ S fun ds S1 => sp ds S1 Q (W2 τ)
/-! ### raise -/
def uRaise (x : Str) (W2 : St2 → XK2) (t : TA2) : TS2 := fun _ τ S => t τ S fun ds S1 => ds.length ≤ 100 ∧ W2 τ x none S1
/-! ### what a caught exception is -/
def isE (R ys : List Str) (Q : VK2) (S : Sto) : D → Prop
  | .non => Q (.bl false) S
  | .exc x _ => x ∈ R ∧ Q (.bl (ys.any (isub x))) S
  | _ => False
def uIsE (R ys : List Str) (ta : TE2) : TE2 := fun τ S Q => ta τ S fun d S1 => isE R ys Q S1 d
section
variable {X : Cx} {R Ys : List Str} {p p2 pos pp : Pos} {e : Expr} {es : List Expr} {ta : TE2} {y : Str}
/-! ### its field -/
def fldE (x n : Str) (Q : VK2) (S : Sto) : D → Prop
  | .exc y (some (m, i)) => y = x ∧ m = n ∧ Q (.int i) S
  | _ => False
def uFldE (x n : Str) (ta : TE2) : TE2 := fun τ S Q => ta τ S fun d S1 => fldE x n Q S1 d
end
/-! ### statements of a def's own body, held against its entry -/
/-! ### the exception is kept -/
theorem good_xd {K : PySem.W.Frag} {H : Hp} {a : Addr} {o : HO} (hn : H a = none ∨ ∃ fs, H a = some (.xd fs)) : Good K H (upd H a o) := by
  have nT : ∀ {b u}, H b = some u → (∀ fs, u ≠ .xd fs) → b ≠ a := fun {b u} e ne z => by
    subst z
    rcases hn with hn | ⟨fs, hn⟩
    · rw [hn] at e; cases e
    · rw [hn] at e; cases e; exact ne fs rfl
  have fd : ∀ b ob w, H b = some (.frz ob w) → upd H a o b = some (.frz ob w) := fun b ob w q => by rw [upd_ne (nT q fun fs z => by cases z)]; exact q
  refine ⟨⟨fun b xs h => ?_, fun b xs h => ?_, fun b x f => ExcAt.by fd⟩, fd⟩
  · rcases h with (h | ⟨ob, h⟩) | h
    · exact .inl (.inl (by rw [upd_ne (nT h fun fs z => by cases z)]; exact h))
    · exact .inl (.inr ⟨ob, fd _ _ _ h⟩)
    · exact .inr h
  · rcases h with ⟨ob, h⟩ | h
    · exact .inl ⟨ob, fd _ _ _ h⟩
    · exact .inr h
theorem RelS.xd {K : PySem.W.Frag} {S : Sto} {H : Hp} {a : Addr} {o : HO} (rs : RelS K S H) (hn : H a = none ∨ ∃ fs, H a = some (.xd fs)) : RelS K S (upd H a o) :=
  rs.keep (good_xd hn) fun b hb => upd_ne fun z => by
    subst z
    cases q : S b with
    | none => exact hb q
    | some u =>
      have r := rs b u q
      rcases hn with hn | ⟨fs, hn⟩
      · exact r.some hn
      · cases u with
        | lst ds => obtain ⟨_, e, _⟩ := r; rw [hn] at e; cases e
        | ins C fs => obtain ⟨_, _, e, _⟩ := r; rw [hn] at e; cases e
        | dic kvs => obtain ⟨_, e, _⟩ := r; rw [hn] at e; cases e
        | fdc ob kvs => obtain ⟨_, e, _⟩ := r; rw [hn] at e; cases e
        | dct kvs => obtain ⟨_, e, _⟩ := r; rw [hn] at e; cases e
        | fdt ob kvs => obtain ⟨_, e, _⟩ := r; rw [hn] at e; cases e
        | ndc ks => obtain ⟨_, _, e, _⟩ := r; rw [hn] at e; cases e
theorem Rl.put {K : PySem.W.Frag} {H : Hp} {τ : St2} {σ : L2.St} {d : D} {v v' : V} {i j : Nat} (h : Rl K H τ σ) (r : Dv K H d v) : Rl K H ((τ.set j (some d)).set i none) (((σ.set i (some v')).set j (some v)).set i none) := by
  refine ⟨by simp [h.len], fun k e q => ?_⟩
  by_cases hi : i = k
  · subst hi
    by_cases hl : i < (τ.set j (some d)).length
    · rw [List.getElem?_set_self hl] at q; cases q
    · rw [List.getElem?_eq_none (by simpa using hl)] at q; cases q
  · rw [List.getElem?_set_ne hi] at q
    rw [List.getElem?_set_ne hi]
    obtain ⟨w, hw, rw_⟩ := (h.set j r).at_ k e q
    refine ⟨w, ?_, rw_⟩
    by_cases hj : j = k
    · subst hj
      by_cases hl : j < σ.length
      · rw [List.getElem?_set_self hl] at hw
        rw [List.getElem?_set_self (by simpa using hl)]
        exact hw
      · rw [List.getElem?_eq_none (by simpa using hl)] at hw; cases hw
    · rw [List.getElem?_set_ne hj] at hw ⊢
      rw [List.getElem?_set_ne hi]
      exact hw
/-! ### defs -/
/-! ### the facts of the classes, by a look -/
end DL
/-! Numbers among things. -/
namespace DL
open PySem PySem.Spec PyProof.Rows L2
/-- what is a number -/
def isNumD : D → Bool
  | .tup [.int t, .int b] => decide (0 < b) && decide (Int.gcd t b = 1)
  | _ => false
/-- a thing that is told from numbers -/
def Th (S : Sto) (d : D) : Prop := (∃ T, tyOf S d = some T) ∧ ∀ x y, d = .tup [x, y] → (∃ T, tyOf S x = some T) ∧ ∃ T, tyOf S y = some T
theorem isE_non {R ys : List Str} {Q : VK2} {S : Sto} : isE R ys Q S .non = Q (.bl false) S := rfl
theorem isE_exc {R ys : List Str} {Q : VK2} {S : Sto} {x : Str} {f : Option (Str × Int)} : isE R ys Q S (.exc x f) = (x ∈ R ∧ Q (.bl (ys.any (isub x))) S) := rfl
theorem fldE_exc {x n y m : Str} {i : Int} {Q : VK2} {S : Sto} : fldE x n Q S (.exc y (some (m, i))) = (y = x ∧ m = n ∧ Q (.int i) S) := rfl
theorem isNon_exc {x : Str} {f : Option (Str × Int)} : isNon (.exc x f) = false := rfl
theorem Th.sub {S S' : Sto} (s : Sub S S') {d : D} (h : Th S d) : Th S' d := by
  have key : ∀ {d T}, tyOf S d = some T → tyOf S' d = some T := fun {d T} h => by
    cases d with
    | ref a =>
      have h : tyO (S a) = some T := h
      show tyO (S' a) = some T
      cases q : S a with
      | none => rw [q] at h; cases h
      | some o => rw [s a o q]; rw [q] at h; exact h
    | _ => exact h
  exact ⟨let ⟨T, e⟩ := h.1; ⟨T, key e⟩, fun x y e => let ⟨⟨T, a⟩, ⟨U, b⟩⟩ := h.2 x y e; ⟨⟨T, key a⟩, ⟨U, key b⟩⟩⟩
end DL
/-! Texts over the data layer: str, int of a text, join, split, partition, a sign in a text, a text sign by sign; isinstance of several built-in types; defs that call themselves. -/
namespace DL
open PySem PySem.Spec PyProof.Rows L2
def rStr1 : List D → Sto → VK2 → Prop
  | [.int i], S, Q => i.natAbs.log2 < 1920 ∧ Q (.str (Str.ofString (toString i))) S
  | _, _, _ => False
def rIntS : List D → Sto → VK2 → Prop
  | [.str a], S, Q => ∃ n, PySem.intText? a = some n ∧ a.length ≤ 640 ∧ Q (.int n) S
  | _, _, _ => False
/-- a text's method of one argument -/
def uM1 (r : R22) (to te : TE2) : TE2 := fun τ S Q => to τ S fun x S1 => isS S1 x ∧ te τ S1 fun y S2 => r x y S2 Q
def rJoin : R22 := fun x y S Q => match x with
  | .str a => ∃ ys : List Str, itemsOf S y = some (ys.map D.str) ∧ (ys.map (·.length)).sum + ys.length * a.length ≤ 16777216 ∧ Q (.str (Txt.join a ys)) S
  | _ => False
def rSplit : R22 := fun x y S Q => match x, y with
  | .str a, .str b => (b.length == 0) = false ∧ a.length + 2 ≤ sizeLine ∧ ∀ p, S p = none → Q (.ref p) (ups S p (.lst ((Txt.split a b).map D.str)))
  | _, _ => False
def rPart : R22 := fun x y S Q => match x, y with
  | .str a, .str b => (b.length == 0) = false ∧ a.length ≤ sizeLine ∧ Q (.tup [.str (Txt.partition a b).1, .str (Txt.partition a b).2.1, .str (Txt.partition a b).2.2]) S
  | _, _ => False
/-! ### a sign in a text -/
def rInC : R22 := fun x y S Q => match x, y with
  | .str a, .str z => ∃ c, a = ⟨#[c]⟩ ∧ Q (.bl (decide (c ∈ z.cps.toList))) S
  | _, _ => False
def rNotInC : R22 := fun x y S Q => match x, y with
  | .str a, .str z => ∃ c, a = ⟨#[c]⟩ ∧ Q (.bl (!decide (c ∈ z.cps.toList))) S
  | _, _ => False
/-! ### a thing among a tuple's -/
/-! ### a text, sign by sign -/
def sgD (x : Str) : List D := x.cps.toList.map fun c => .str ⟨#[c]⟩
def itS : D → Sto → (List D → (Sto → Prop) → Sto → Prop) → Prop
  | .str x, S, R => R (sgD x) stayT S
  | _, _, _ => False
def uItS (tl : TE2) : TI2 := fun τ S R => tl τ S fun d S1 => itS d S1 R
/-! ### isinstance of several built-in types -/
def uIsiS (ns : List Ty) (ta : TE2) : TE2 := fun τ S Q => ta τ S fun d S1 => onS (tyOf S1 d) fun T => Q (.bl (ns.any (isiT T))) S1
/-! ### a def that calls itself -/
section
variable {S : Sto} {Q : VK2} {a b z : Str} {i : Int} {y : D} {R : List D → (Sto → Prop) → Sto → Prop}
theorem z_str1 : rStr1 [.int i] S Q = (i.natAbs.log2 < 1920 ∧ Q (.str (Str.ofString (toString i))) S) := rfl
theorem z_intS : rIntS [.str a] S Q = ∃ n, PySem.intText? a = some n ∧ a.length ≤ 640 ∧ Q (.int n) S := rfl
theorem z_join : rJoin (.str a) y S Q = ∃ ys : List Str, itemsOf S y = some (ys.map D.str) ∧ (ys.map (·.length)).sum + ys.length * a.length ≤ 16777216 ∧ Q (.str (Txt.join a ys)) S := rfl
theorem z_split : rSplit (.str a) (.str b) S Q = ((b.length == 0) = false ∧ a.length + 2 ≤ sizeLine ∧ ∀ p, S p = none → Q (.ref p) (ups S p (.lst ((Txt.split a b).map D.str)))) := rfl
theorem z_part : rPart (.str a) (.str b) S Q = ((b.length == 0) = false ∧ a.length ≤ sizeLine ∧ Q (.tup [.str (Txt.partition a b).1, .str (Txt.partition a b).2.1, .str (Txt.partition a b).2.2]) S) := rfl
theorem z_inC : rInC (.str a) (.str z) S Q = ∃ c, a = ⟨#[c]⟩ ∧ Q (.bl (decide (c ∈ z.cps.toList))) S := rfl
theorem z_notinC : rNotInC (.str a) (.str z) S Q = ∃ c, a = ⟨#[c]⟩ ∧ Q (.bl (!decide (c ∈ z.cps.toList))) S := rfl
theorem z_itS : itS (.str a) S R = R (sgD a) stayT S := rfl
theorem z_isSs : isS S (.str a) = True := rfl
end
end DL
/-! Numbers as texts, and back. -/
namespace DL
open PySem PySem.Spec PyProof.Rows L2 TL
/-- the text of these signs -/
abbrev tS (l : List Nat) : Str := ⟨l.toArray⟩
theorem tS_len (l : List Nat) : (tS l).length = l.length := by simp [Str.length]
/-- the signs of a whole number -/
def numI (i : Int) : List Nat := if i < 0 then 45 :: numL i.natAbs else numL i.natAbs
theorem str_int (i : Int) : Str.ofString (toString i) = tS (numI i) := by
  refine ext_tl ?_
  rw [show tl (tS (numI i)) = numI i from rfl]
  unfold numI
  by_cases h : i < 0
  · rw [if_pos h]
    obtain ⟨n, rfl⟩ : ∃ n : Nat, i = -((n + 1 : Nat) : Int) := ⟨(-i - 1).toNat, by omega⟩
    have e : toString (-((n + 1 : Nat) : Int)) = "-" ++ toString ((n + 1 : Nat) : Int) := by
      show toString (Int.negSucc n) = _
      rfl
    rw [e, tl_ofString, String.toList_append, List.map_append, ← tl_ofString (toString _), tl_num]
    have : (-((n + 1 : Nat) : Int)).natAbs = n + 1 := by omega
    rw [this]
    rfl
  · rw [if_neg h]
    have e : i = ((i.natAbs : Nat) : Int) := by omega
    conv => lhs; rw [e]
    rw [tl_num]
/-- the signs of a number -/
def showL (q : Rat) : List Nat := if q.den = 1 then numI q.num else numI q.num ++ 47 :: numL q.den
def isDig (c : Nat) : Bool := decide (48 ≤ c) && decide (c ≤ 57)
/-- the whole number that signs write -/
def wholeL (l : List Nat) : Option Nat :=
  if l = [] ∨ 60 < l.length ∨ (l[0]? = some 48 ∧ l ≠ [48]) then none else if l.all isDig then some (NumText.digitsVal l) else none
/-- head, whether there is a mark, tail -/
def partL (l : List Nat) : List Nat × List Nat × List Nat := match par [47] [] l with
  | some (p, q) => (p, [47], q)
  | none => (l, [], [])
def below (l : List Nat) : Bool := decide (l.take 1 = [45])
/-- what stands behind a sign for below 0 -/
def restL (l : List Nat) : List Nat := if below l = true then l.drop 1 else l
/-- the number that signs write -/
def numberL (l : List Nat) : Option Rat :=
  match wholeL (restL (partL l).1), (if (partL l).2.1 = [47] then wholeL (partL l).2.2 else some 1) with
  | some t, some b => if ((partL l).2.1 = [47] ∧ b < 2) ∨ (below (partL l).1 = true ∧ t = 0) ∨ Nat.gcd t b ≠ 1 then none
      else some ((((if below (partL l).1 = true then -(t : Int) else (t : Int)) : Int) : Rat) / ((b : Nat) : Rat))
  | _, _ => none
/-- a number of few figures -/
def Few (q : Rat) : Prop := q.num.natAbs < 10 ^ 60 ∧ q.den < 10 ^ 60
def oW : Option Nat → D
  | none => .non
  | some n => .int (n : Int)
def oQ : Option Rat → D
  | none => .non
  | some q => eQ q
theorem numI_len {i : Int} (h : i.natAbs < 10 ^ 60) : (numI i).length ≤ 61 := by
  have := numL_len (k := 60) (by decide) h
  unfold numI
  split
  · rw [List.length_cons]; omega
  · omega
theorem log_lt {n : Nat} (h : n < 10 ^ 60) : n.log2 < 1920 := Nat.lt_of_le_of_lt (show n.log2 ≤ 200 from by
  have : n < 2 ^ 201 := Nat.lt_of_lt_of_le h (by decide)
  by_cases z : n = 0
  · subst z; decide
  · have := (Nat.log2_lt z).mpr this; omega) (by decide)
end DL
/-! Rows as texts, and back. -/
namespace DL
open PySem PySem.Spec PyProof.Rows L2 TL
abbrev dS (l : List Nat) : D := .str (tS l)
/-- a part of a row -/
inductive Pt where
  | q (r : Rat) | n (i : Nat)
def pL : Pt → List Nat
  | .q r => showL r
  | .n i => numL i
def PtOk : Pt → Prop
  | .q r => Few r
  | .n i => i < 10 ^ 60
structure RwT where
  word : List Nat
  parts : List Pt
def wordsR (r : RwT) : List (List Nat) := r.word :: r.parts.map pL
def rowL (r : RwT) : List Nat := joinL [32] (wordsR r)
structure RwOk (r : RwT) : Prop where
  wl : r.word.length ≤ 10
  wb : 32 ∉ r.word
  wf : 10 ∉ r.word
  wc : r.word.all (· < 1114112) = true
  pl : r.parts.length ≤ 4
  po : ∀ p ∈ r.parts, PtOk p
/-- the text of rows -/
def textL (rs : List RwT) : List Nat := joinL [10] (rs.map rowL)
/-- lists of words that stand -/
def WL (S : Sto) (as : List Addr) (wss : List (List (List Nat))) : Prop := as.length = wss.length ∧ ∀ (i : Nat) (a : Addr) (ws : List (List Nat)), as[i]? = some a → wss[i]? = some ws → S a = some (.lst (ws.map dS))
theorem WL.sub {S S' : Sto} {as : List Addr} {wss : List (List (List Nat))} (h : WL S as wss) (s : Sub S S') : WL S' as wss := ⟨h.1, fun i a ws h1 h2 => s _ _ (h.2 i a ws h1 h2)⟩
theorem WL.snoc {S : Sto} {as : List Addr} {wss : List (List (List Nat))} {a : Addr} {ws : List (List Nat)} (h : WL S as wss) (ha : S a = some (.lst (ws.map dS))) : WL S (as ++ [a]) (wss ++ [ws]) := by
  refine ⟨by simp [h.1], fun i b vs h1 h2 => ?_⟩
  by_cases hi : i < as.length
  · rw [List.getElem?_append_left hi] at h1
    rw [List.getElem?_append_left (by rw [← h.1]; exact hi)] at h2
    exact h.2 i b vs h1 h2
  · have hi : i = as.length := by
      have := (List.getElem?_eq_some_iff.mp h1).1
      simp at this
      omega
    rw [hi, List.getElem?_append_right (Nat.le_refl _)] at h1
    rw [hi, h.1, List.getElem?_append_right (Nat.le_refl _)] at h2
    simp at h1 h2
    subst h1 h2
    exact ha
/-- the words of the kinds of rows -/
abbrev deedL : List Nat := [100, 101, 101, 100]
abbrev psL : List Nat := [112, 97, 115, 115]
/-- a row of a book -/
inductive BR where
  | deed (k : Nat) | pass (t : Rat) (k : Nat)
def rwB : BR → RwT
  | .deed k => ⟨deedL, [.n k]⟩
  | .pass t k => ⟨psL, [.q t, .n k]⟩
def BROk : BR → Prop
  | .deed k => k < 10 ^ 60
  | .pass t k => Few t ∧ k < 10 ^ 60
theorem rwB_ok {b : BR} (h : BROk b) : RwOk (rwB b) ∧ (rwB b).word ≠ [] := by
  cases b with
  | deed k => exact ⟨⟨(by decide : deedL.length ≤ 10), (by decide : 32 ∉ deedL), (by decide : 10 ∉ deedL), rfl, by simp [rwB], fun p hp => by simp [rwB] at hp; subst hp; exact h⟩, by simp [rwB]⟩
  | pass t k =>
    refine ⟨⟨(by decide : psL.length ≤ 10), (by decide : 32 ∉ psL), (by decide : 10 ∉ psL), rfl, by simp [rwB], fun p hp => ?_⟩, by simp [rwB]⟩
    simp [rwB] at hp
    rcases hp with rfl | rfl
    · exact h.1
    · exact h.2
/-- alike, to some depth -/
def Al (S : Sto) : Nat → D → D → Prop
  | 0, d, e => d = e ∧ ((∃ i, e = .int i) ∨ ∃ x, e = .str x)
  | n + 1, d, e => (d = e ∧ ((∃ i, e = .int i) ∨ ∃ x, e = .str x)) ∨
    (∃ xs ys, d = .tup xs ∧ e = .tup ys ∧ xs.length = ys.length ∧ ys.length ≤ 900 ∧ ∀ (i : Nat) x y, xs[i]? = some x → ys[i]? = some y → Al S n x y) ∨
    ∃ p q xs ys, d = .ref p ∧ e = .ref q ∧ S p = some (.lst xs) ∧ S q = some (.lst ys) ∧ xs.length = ys.length ∧ ys.length ≤ 900 ∧ ∀ (i : Nat) x y, xs[i]? = some x → ys[i]? = some y → Al S n x y
theorem Sub.put {S S' : Sto} {p : Addr} {o : O} (h : Sub S S') (n : S p = Option.none) : Sub S (ups S' p o) := h.new n
theorem Al.sub {S S' : Sto} (s : Sub S S') : ∀ {n : Nat} {d e : D}, Al S n d e → Al S' n d e
  | 0, _, _, h => h
  | n + 1, _, _, h => by
    rcases h with h | ⟨xs, ys, h1, h2, h3, h4, h5⟩ | ⟨p, q, xs, ys, h1, h2, h3, h4, h5, h6, h7⟩
    · exact .inl h
    · exact .inr (.inl ⟨xs, ys, h1, h2, h3, h4, fun i x y a b => (h5 i x y a b).sub s⟩)
    · exact .inr (.inr ⟨p, q, xs, ys, h1, h2, s _ _ h3, s _ _ h4, h5, h6, fun i x y a b => (h7 i x y a b).sub s⟩)
end DL
/-! A dict of the module with text keys: get. -/
namespace DL
open PySem PySem.Spec PyProof.Rows L2
def uKGet (kvs : List (Str × D)) (te : TE2) : TE2 := fun τ S Q => te τ S fun x S1 => match x with
  | .str z => Q ((kvs.lookup z).getD .non) S1
  | _ => False
def kg2 (kvs : List (Str × D)) (y : D) (Q : VK2) (S : Sto) : D → Prop
  | .str z => Q ((kvs.lookup z).getD y) S
  | _ => False
def uKGet2 (kvs : List (Str × D)) (te tf : TE2) : TE2 := fun τ S Q => te τ S fun x S1 => tf τ S1 fun y S2 => kg2 kvs y Q S2 x
/-! ### xs.remove(k), whole numbers -/
def rRemove2 : RM
  | .ref a, [.int k], S, Q => ∃ ns : List Int, S a = some (.lst (ns.map D.int)) ∧ k ∈ ns ∧ Q .non (ups S a (.lst ((ns.erase k).map D.int)))
  | _, _, _, _ => False
section
variable {S : Sto} {Q : VK2} {a : Addr} {k : Int} {z : Str} {y : D} {kvs : List (Str × D)}
theorem z_remove : rRemove2 (.ref a) [.int k] S Q = ∃ ns : List Int, S a = some (.lst (ns.map D.int)) ∧ k ∈ ns ∧ Q .non (ups S a (.lst ((ns.erase k).map D.int))) := rfl
theorem z_kg2 : kg2 kvs y Q S (.str z) = Q ((kvs.lookup z).getD y) S := rfl
end
end DL
/-! Logs that the program takes. -/
namespace DL
open PySem PySem.Spec PyProof.Rows L2
/-- a number of few figures, as the program asks -/
def SmX (q : Rat) : Prop := q.num.natAbs < 10 ^ 9 ∧ q.den ≤ 12
theorem SmX.sm {q : Rat} (h : SmX q) : Sm q := ⟨Nat.lt_trans h.1 (by decide), h.2⟩
theorem SmX.few {q : Rat} (h : SmX q) : Few q := ⟨Nat.lt_trans h.1 (by decide), Nat.lt_of_le_of_lt h.2 (by decide)⟩
theorem SmX.int {t : Int} (ht : t.natAbs < 10 ^ 9) : SmX (t : Rat) := ⟨ht, by show (1 : Nat) ≤ 12; decide⟩
def SmXD : Dd → Prop
  | .join t p m => SmX t ∧ SmX p ∧ SmX m
  | .leave t _ => SmX t
  | .turn t _ m => SmX t ∧ SmX m
theorem SmXD.sm {d : Dd} (h : SmXD d) : SmD d := by
  cases d with
  | join t p m => exact ⟨h.1.sm, h.2.1.sm, h.2.2.sm⟩
  | leave t r => exact SmX.sm h
  | turn t r m => exact ⟨h.1.sm, h.2.sm⟩
theorem SmXD.t {d : Dd} (h : SmXD d) : SmX d.t := by
  cases d with
  | join t p m => exact h.1
  | leave t r => exact h
  | turn t r m => exact h.1
def isJoin : Dd → Prop
  | .join _ _ _ => True
  | _ => False
/-- a log as the program takes it -/
structure LogX (D : List Dd) : Prop where
  ok : ∀ a d b, D = a ++ d :: b → SmXD d ∧ HasD (runM a).1 d ∧ (∀ x ∈ a, x.t ≤ d.t) ∧ (isJoin d → (runM a).1.length < 8)
  len : D.length ≤ 40
theorem LogX.nil : LogX [] := ⟨fun a d b e => by simp at e, by decide⟩
theorem LogX.snoc {D : List Dd} {d : Dd} (h : LogX D) (h1 : SmXD d) (h2 : HasD (runM D).1 d) (h3 : ∀ x ∈ D, x.t ≤ d.t) (h4 : isJoin d → (runM D).1.length < 8) (h5 : D.length < 40) : LogX (D ++ [d]) := by
  refine ⟨fun a x b e => ?_, by rw [List.length_append, List.length_singleton]; omega⟩
  rcases List.eq_nil_or_concat b with rfl | ⟨b', y, rfl⟩
  · obtain ⟨rfl, e2⟩ := List.append_inj' e rfl
    cases e2
    exact ⟨h1, h2, h3, h4⟩
  · rw [List.concat_eq_append, ← List.cons_append, ← List.append_assoc] at e
    obtain ⟨e1, e2⟩ := List.append_inj' e rfl
    exact h.ok a x b' e1
theorem LogX.pre {a b : List Dd} (h : LogX (a ++ b)) : LogX a := ⟨fun x d y e => h.ok x d (y ++ b) (by rw [e]; simp), by have := h.len; rw [List.length_append] at this; omega⟩
theorem step_lenX (s : Mp × Nat) (d : Dd) : (stepM s d).1.length ≤ s.1.length + 1 ∧ (¬ isJoin d → (stepM s d).1.length ≤ s.1.length) := by
  cases d with
  | join t p m => exact ⟨by simp [stepM], fun h => absurd trivial h⟩
  | leave t r =>
    have : (mdrop s.1 r).length ≤ s.1.length := List.length_filter_le _ _
    exact ⟨by show (mdrop s.1 r).length ≤ _; omega, fun _ => this⟩
  | turn t r m =>
    have : (mset s.1 r (at_ ((mget s.1 r).getD (0, 0)) t - m * t, m)).length = s.1.length := by unfold mset; simp
    exact ⟨by show (mset s.1 r _).length ≤ _; omega, fun _ => by show (mset s.1 r _).length ≤ _; omega⟩
theorem LogX.room {D : List Dd} (h : LogX D) : (runM D).1.length ≤ 8 := by
  have key : ∀ n, ∀ D : List Dd, D.length = n → LogX D → (runM D).1.length ≤ 8 := by
    intro n
    induction n with
    | zero => intro D e _; rw [List.length_eq_zero_iff.mp e]; exact Nat.zero_le _
    | succ n ih =>
      intro D e h
      rcases List.eq_nil_or_concat D with rfl | ⟨a, d, rfl⟩
      · exact Nat.zero_le _
      · rw [List.concat_eq_append] at h e ⊢
        have h1 := ih a (by simpa using e) h.pre
        have h2 := h.ok a d [] rfl
        rw [runM_snoc]
        have h3 := step_lenX (runM a) d
        by_cases j : isJoin d
        · have := h2.2.2.2 j
          omega
        · have := h3.2 j
          omega
  exact key _ D rfl h
theorem LogX.dok {D : List Dd} (h : LogX D) : DOk D := ⟨fun a d b e => by
  obtain ⟨h1, h2, h3, h4⟩ := h.ok a d b e
  have hl : LogX (a ++ [d]) := by
    have e' : D = (a ++ [d]) ++ b := by rw [e]; simp
    rw [e'] at h
    exact h.pre
  exact ⟨h1.sm, h2, h3, Nat.le_trans hl.room (by decide)⟩, h.len⟩
/-- a deed as a row -/
abbrev joinL' : List Nat := [106, 111, 105, 110]
abbrev leaveL : List Nat := [108, 101, 97, 118, 101]
abbrev turnL : List Nat := [116, 117, 114, 110]
def rwD : Dd → RwT
  | .join t p m => ⟨joinL', [.q t, .q p, .q m]⟩
  | .leave t r => ⟨leaveL, [.q t, .n r]⟩
  | .turn t r m => ⟨turnL, [.q t, .n r, .q m]⟩
def fewD : Dd → Prop
  | .join t p m => Few t ∧ Few p ∧ Few m
  | .leave t r => Few t ∧ r < 10 ^ 60
  | .turn t r m => Few t ∧ r < 10 ^ 60 ∧ Few m
theorem rwD_ok {d : Dd} (h : fewD d) : RwOk (rwD d) ∧ (rwD d).word ≠ [] := by
  cases d with
  | join t p m => exact ⟨⟨(by decide : joinL'.length ≤ 10), (by decide : 32 ∉ joinL'), (by decide : 10 ∉ joinL'), rfl, by simp [rwD], fun p hp => by simp [rwD] at hp; rcases hp with rfl | rfl | rfl <;> first | exact h.1 | exact h.2.1 | exact h.2.2⟩, by simp [rwD]⟩
  | leave t r => exact ⟨⟨(by decide : leaveL.length ≤ 10), (by decide : 32 ∉ leaveL), (by decide : 10 ∉ leaveL), rfl, by simp [rwD], fun p hp => by simp [rwD] at hp; rcases hp with rfl | rfl <;> first | exact h.1 | exact h.2⟩, by simp [rwD]⟩
  | turn t r m => exact ⟨⟨(by decide : turnL.length ≤ 10), (by decide : 32 ∉ turnL), (by decide : 10 ∉ turnL), rfl, by simp [rwD], fun p hp => by simp [rwD] at hp; rcases hp with rfl | rfl | rfl <;> first | exact h.1 | exact h.2.1 | exact h.2.2⟩, by simp [rwD]⟩
end DL
/-! Counted walks. -/
namespace DL
open PySem PySem.Spec PyProof.Rows L2
theorem LogX.mem {D : List Dd} (h : LogX D) {x : Dd} (hx : x ∈ D) : SmXD x := by
  obtain ⟨a, b, rfl⟩ := List.append_of_mem hx
  exact (h.ok a x b rfl).1
/-! ### deeds by their words -/
open TL
/-! ### a log under the pen -/
structure LgB (S S' : Sto) (a f r : Addr) (sc : List Int) (X R : O) : Prop where
  fr : Fr S S' a
  pen : PenB S' a sc
  hf : S' f = some X
  hr : S' r = some R
  nf : S f = none
  nr : S r = none
  fa : f ≠ a
  ra : r ≠ a
  ne : f ≠ r
section
variable {S S' S2 : Sto} {a f r p : Addr} {sc : List Int} {X R o : O} {x y : Int}
theorem LgB.new (h : LgB S S' a f r sc X R) (k : S' p = none) : LgB S (ups S' p o) a f r sc X R :=
  ⟨h.fr.new k, h.pen.new k, by rw [ups_ne (ne_of_st h.hf k)]; exact h.hf, by rw [ups_ne (ne_of_st h.hr k)]; exact h.hr, h.nf, h.nr, h.fa, h.ra, h.ne⟩
theorem LgB.go (h : LgB S S' a f r sc X R) (k : Fr S' S2 a) (k2 : PenB S2 a sc) : LgB S S2 a f r sc X R :=
  ⟨h.fr.trans k, k2, k _ _ h.fa h.hf, k _ _ h.ra h.hr, h.nf, h.nr, h.fa, h.ra, h.ne⟩
theorem LgB.wr (h : LgB S S' a f r sc X R) : LgB S (ups S' a (penP sc x y)) a f r sc X R := h.go (Fr.refl _ _).wr penB_again
end
theorem LogX.few {D : List Dd} (h : LogX D) : ∀ d ∈ D, fewD d := by
  intro d hd
  obtain ⟨a, b, rfl⟩ := List.append_of_mem hd
  obtain ⟨h1, h2, _⟩ := h.ok a d b rfl
  have hl := h.len
  have k2 : ∀ D : List Dd, (runM D).2 ≤ D.length := snoc_ind (Nat.le_refl _) fun D d ih => by
    rw [runM_snoc, List.length_append, List.length_singleton]
    cases d with
    | join t p m => show (runM D).2 + 1 ≤ _; omega
    | leave t r => show (runM D).2 ≤ _; omega
    | turn t r m => show (runM D).2 ≤ _; omega
  have hk : ∀ r ∈ keysM (runM a).1, r < 10 ^ 60 := fun r hr => by
    have e1 := (keyOk_run a).2 r hr
    have e2 := k2 a
    rw [List.length_append] at hl
    have e3 : r < 40 := by omega
    exact Nat.lt_of_lt_of_le e3 (by decide)
  cases d with
  | join t p m => exact ⟨h1.1.few, h1.2.1.few, h1.2.2.few⟩
  | leave t r => exact ⟨SmX.few h1, hk r h2⟩
  | turn t r m => exact ⟨h1.1.few, hk r h2, h1.2.few⟩
end DL
/-! Things told to their depth. -/
namespace DL
open PySem PySem.Spec PyProof.Rows L2
/-- what is held against itself -/
def NiceP (n : Nat) (p : PyData) : Prop := p.canLay0 = true ∧ p.depth ≤ n ∧ PyData.eqv p p = true
theorem NiceP.le {n m : Nat} {q : PyData} (h : NiceP n q) (k : n ≤ m) : NiceP m q := ⟨h.1, Nat.le_trans h.2.1 k, h.2.2⟩
mutual
theorem Py.sub {S S' : Sto} (s : Sub S S') : ∀ (p : PyData) (d : D), Py S d p → Py S' d p
  | .none, _, h => by cases h; exact .non
  | .bool b, _, h => by cases h; exact .bl b
  | .int b, _, h => by cases h; exact .int b
  | .str b, _, h => by cases h; exact .str b
  | .tuple ps, _, h => by cases h with
    | tup hs => exact .tup (Pys.sub s ps _ hs)
  | .list ps, _, h => by cases h with
    | fl hs => exact .fl (Pys.sub s ps _ hs)
    | lst e hs => exact .lst (s _ _ e) (Pys.sub s ps _ hs)
  | .dict _, _, h => by cases h
theorem Pys.sub {S S' : Sto} (s : Sub S S') : ∀ (ps : List PyData) (ds : List D), Pys S ds ps → Pys S' ds ps
  | [], _, h => by cases h; exact .nil
  | p :: ps, _, h => by cases h with
    | cons h1 h2 => exact .cons (Py.sub s p _ h1) (Pys.sub s ps _ h2)
end
theorem Pys.snoc {S : Sto} {ds : List D} {ps : List PyData} {d : D} {p : PyData} (h : Pys S ds ps) (k : Py S d p) : Pys S (ds ++ [d]) (ps ++ [p]) := by
  induction ps generalizing ds with
  | nil => cases h; exact .cons k .nil
  | cons x ps ih => cases h with
    | cons h1 h2 => exact .cons h1 (ih h2)
theorem Pys.length {S : Sto} : ∀ {ds : List D} {ps : List PyData}, Pys S ds ps → ds.length = ps.length
  | _, [], h => by cases h; rfl
  | _, p :: ps, h => by cases h with
    | cons h1 h2 => rw [List.length_cons, List.length_cons, Pys.length h2]
theorem Pys.get {S : Sto} : ∀ {ds : List D} {ps : List PyData} (i : Nat) {d : D}, Pys S ds ps → ds[i]? = some d → ∃ p, ps[i]? = some p ∧ Py S d p
  | [], _, i, d, h, e => by simp at e
  | x :: ds, _, 0, d, h, e => by
    obtain rfl := Option.some.inj e
    cases h with
    | cons h1 h2 => exact ⟨_, rfl, h1⟩
  | x :: ds, _, i + 1, d, h, e => by
    have e : ds[i]? = some d := e
    cases h with
    | cons h1 h2 => exact Pys.get i h2 e
/-! ### the things of a log -/
def pyQ (q : Rat) : PyData := .tuple [.int q.num, .int (q.den : Int)]
theorem py_eQ {S : Sto} (q : Rat) : Py S (eQ q) (pyQ q) := .tup (.cons (.int _) (.cons (.int _) .nil))
/-! ### a full log -/
theorem SmX.neg {q : Rat} (h : SmX q) : SmX (-q) := ⟨by show (-q.num).natAbs < _; rw [Int.natAbs_neg]; exact h.1, h.2⟩
/-! ### what is kept -/
structure KK (S1 S : Sto) (kp : Addr) (X : O) : Prop where
  fr : Fr S1 S kp
  at' : S kp = some X
section
variable {S1 S S2 : Sto} {kp p q a : Addr} {X o u : O}
theorem KK.new (h : KK S1 S kp X) (k : S p = none) : KK S1 (ups S p o) kp X := ⟨h.fr.new k, (ups_ne (ne_of_st h.at' k)).trans h.at'⟩
theorem KK.own (h : KK S1 S kp X) (k : S1 p = none) (n : p ≠ kp) : KK S1 (ups S p o) kp X := ⟨h.fr.own k, (ups_ne (Ne.symm n)).trans h.at'⟩
theorem KK.go (h : KK S1 S kp X) (k : Fr S S2 a) (n : S1 a = none) (d : a ≠ kp) : KK S1 S2 kp X :=
  ⟨fun b o' hb e => k b o' (fun z => by subst z; rw [n] at e; cases e) (h.fr b o' hb e), k _ _ (Ne.symm d) h.at'⟩
theorem KK.sub (h : KK S1 S kp X) (k : Sub S S2) : KK S1 S2 kp X := ⟨h.fr.sub k, k _ _ h.at'⟩
theorem KK.non (h : KK S1 S kp X) (k : S p = Option.none) : S1 p = Option.none := by
  cases e : S1 p with
  | none => rfl
  | some o =>
    by_cases z : p = kp
    · subst z; rw [h.at'] at k; cases k
    · rw [h.fr p o z e] at k; cases k
theorem KK.ne (h : KK S1 S kp X) (k : S p = none) : p ≠ kp := fun z => by subst z; rw [h.at'] at k; cases k
theorem KK.set (h : KK S1 S kp X) : KK S1 (ups S kp o) kp o := ⟨h.fr.wr, ups_same⟩
end
def KeptL (S : Sto) (kp : Addr) (ps : List (Addr × Addr × List Dd)) : Prop := ∀ x ∈ ps, x.1 ≠ kp ∧ x.2.1 ≠ kp ∧ S x.1 = some (.lst (x.2.2.map eDd)) ∧ S x.2.1 = some (.lst (x.2.2.map eDd)) ∧ LogX x.2.2
theorem KeptL.fr {S S' : Sto} {kp : Addr} {ps : List (Addr × Addr × List Dd)} (h : KeptL S kp ps) (f : Fr S S' kp) : KeptL S' kp ps := fun x hx => by
  obtain ⟨a, b, c, d, e⟩ := h x hx
  exact ⟨a, b, f _ _ a c, f _ _ b d, e⟩
theorem KeptL.snoc {S : Sto} {kp : Addr} {ps : List (Addr × Addr × List Dd)} {x : Addr × Addr × List Dd} (h : KeptL S kp ps) (a : x.1 ≠ kp) (b : x.2.1 ≠ kp) (c : S x.1 = some (.lst (x.2.2.map eDd))) (d : S x.2.1 = some (.lst (x.2.2.map eDd))) (e : LogX x.2.2) : KeptL S kp (ps ++ [x]) := fun y hy => by
  rcases List.mem_append.mp hy with hy | hy
  · exact h y hy
  · rw [List.mem_singleton.mp hy]; exact ⟨a, b, c, d, e⟩
end DL
/-! Exceptions whose class has its own __init__. -/
namespace DL
open PySem PySem.Spec PyProof.Rows L2
def uRaiseO (x f : Str) (W2 : St2 → XK2) (t : TA2) : TS2 := fun _ τ S => t τ S fun ds S1 => ∃ i, ds = [.int i] ∧ W2 τ x (some (f, i)) S1
/-! ### the def of such an __init__ -/
end DL
/-! Texts, more: a text times a number, the place of a sign. -/
namespace DL
open PySem PySem.Spec PyProof.Rows L2
open Builtin Builtin.Str StrLaws
/-! ### the first place of a sign -/
/-- the first place of a sign -/
def fstI (c : Nat) : List Nat → Option Nat
  | [] => none
  | d :: l => if d = c then some 0 else (fstI c l).map (· + 1)
def rIndexC : R22 := fun x y S Q => match x, y with
  | .str a, .str b => ∃ c i, b = ⟨#[c]⟩ ∧ fstI c a.cps.toList = some i ∧ Q (.int (i : Nat)) S
  | _, _ => False
/-! ### a text times a number -/
def repS (l : List Nat) : Nat → List Nat
  | 0 => []
  | n + 1 => l ++ repS l n
def rMulS : D → D → Sto → VK2 → Prop
  | .str a, .int k, S, Q => 2 ≤ k ∧ k ≤ 1000 ∧ 1 ≤ a.length ∧ a.length ≤ 1000 ∧ Q (.str ⟨(repS a.cps.toList k.toNat).toArray⟩) S
  | _, _, _, _ => False
section
variable {S : Sto} {Q : VK2} {a b : Str} {i : Int}
theorem z_indexC : rIndexC (.str a) (.str b) S Q = ∃ c i, b = ⟨#[c]⟩ ∧ fstI c a.cps.toList = some i ∧ Q (.int (i : Nat)) S := rfl
theorem z_mulS : rMulS (.str a) (.int i) S Q = (2 ≤ i ∧ i ≤ 1000 ∧ 1 ≤ a.length ∧ a.length ≤ 1000 ∧ Q (.str ⟨(repS a.cps.toList i.toNat).toArray⟩) S) := rfl
end
end DL
/-! Texts of numbers: those of many figures, and a reading sign by sign. -/
namespace DL
open PySem PySem.Spec PyProof.Rows L2 TL
/-! ### where a sign is -/
end DL
/-! Dicts whose keys are tuples of whole numbers and texts. -/
namespace PySem
open Lean PySem.Calls PyProof.Rows PyProof.V PySem.Spec PySem.W
end PySem
namespace DL
open PySem PySem.Spec PyProof.Rows L2
def keysOf : List D → Option (List Key)
  | [] => some []
  | d :: ds => match keyD d, keysOf ds with
    | some k, some ks => some (k :: ks)
    | _, _ => none
def keyI : Key → D
  | .inl i => .int i
  | .inr x => .str x
/-- the keys of a table, each a tuple -/
def keysT (kvs : List (List Key × D)) : List D := kvs.map fun kv => .tup (kv.1.map keyI)
theorem Dvs.keys {K : PySem.W.Frag} {H : Hp} : ∀ ks : List Key, Dvs K H (ks.map keyI) (ks.map kV)
  | [] => .nil
  | .inl i :: ks => .cons (.int i) (Dvs.keys ks)
  | .inr x :: ks => .cons (.str x) (Dvs.keys ks)
def wT : Option O → Option (List (List Key × D))
  | some (.dct k) => some k
  | _ => none
theorem RelS.wt {K : PySem.W.Frag} {S : Sto} {H : Hp} {a : Addr} {us us' : List (List Key × V)} {xs' : List (List Key × D)} (rs : RelS K S H) (e : H a = some (.dT us)) (r : KVs K H xs' us') : Good K H (upd H a (.dT us')) ∧ RelS K (ups S a (.dct xs')) (upd H a (.dT us')) :=
  have g := good_write (K := K) (u' := .dT us') e trivial
  ⟨g, rs.write (o := .dct xs') e trivial ⟨us', upd_same, r.keep g⟩⟩
def uDNewT : TE2 := fun _ S Q => ∀ p, S p = none → Q (.ref p) (ups S p (.dct []))
def ixTQ (d : D) (ds : List D) (S : Sto) (Q : VK2) : Prop := match d with
  | .ref a => ds.length ≤ 1000 ∧ onS (tOf (S a)) fun kvs => onS (keysOf ds) fun k => onS (dget kvs k) fun x => Q x S
  | _ => False
def uDIxT (td : TE2) (t : TA2) : TE2 := fun τ S Q => td τ S fun d S1 => t τ S1 fun ds S2 => ixTQ d ds S2 Q
def setTQ (d : D) (o : D) (ds : List D) (S : Sto) (Q : Sto → Prop) : Prop := match o with
  | .ref a => ds.length ≤ 1000 ∧ onS (wT (S a)) fun kvs => onS (keysOf ds) fun k => kvs.length < 1000 ∧ Q (ups S a (.dct (dput kvs k d)))
  | _ => False
def vDSubT (to : TE2) (t : TA2) : TG2 := fun d τ S Q => to τ S fun o S1 => t τ S1 fun ds S2 => setTQ d o ds S2 fun S3 => Q τ S3
/-! ### a walk over one, locked -/
def itDT : D → Sto → (List D → (Sto → Prop) → Sto → Prop) → Prop
  | .ref a, S, R => match S a with
    | some (.fdt o kvs) => R (keysT kvs) (fun S' => S' a = some (.fdt o kvs)) S
    | _ => False
  | _, _, _ => False
def uItDT (tl : TE2) : TI2 := fun τ S R => tl τ S fun d S1 => itDT d S1 R
def uLockQT (a : Addr) (E : Ends2) (o : Obj) (kvs : List (List Key × D)) : Ends2 :=
  ⟨fun τ' S' => S' a = some (.fdt o kvs) ∧ E.nx τ' (ups S' a (.dct kvs)), fun v S' => S' a = some (.fdt o kvs) ∧ E.rt v (ups S' a (.dct kvs)),
   fun τ' S' => S' a = some (.fdt o kvs) ∧ E.bk τ' (ups S' a (.dct kvs)), fun τ' S' => S' a = some (.fdt o kvs) ∧ E.ct τ' (ups S' a (.dct kvs))⟩
def uLockST (i : Nat) (t : TS2) : TS2 := fun E τ S => match τ[i]? with
  | some (some (.ref a)) => match S a with
    | some (.dct kvs) => ∀ o, t (uLockQT a E o kvs) τ (ups S a (.fdt o kvs))
    | _ => False
  | _ => False
section
variable {S : Sto} {Q : VK2} {R : Sto → Prop} {a b : Addr} {d : D} {ds : List D}
theorem z_dxT : ixTQ (.ref a) ds S Q = (ds.length ≤ 1000 ∧ onS (tOf (S a)) fun kvs => onS (keysOf ds) fun k => onS (dget kvs k) fun x => Q x S) := rfl
theorem z_dstT : setTQ d (.ref a) ds S R = (ds.length ≤ 1000 ∧ onS (wT (S a)) fun kvs => onS (keysOf ds) fun k => kvs.length < 1000 ∧ R (ups S a (.dct (dput kvs k d)))) := rfl
end
end DL
/-! Tables of who is ahead of whom. -/
namespace DL
open PySem PySem.Spec PyProof.Rows L2
end DL
/-! Objects: fields by their places, methods, making; a slice of a list written. -/
namespace DL
open PySem PySem.Spec PyProof.Rows L2
/-- of an object of the class -/
def insQ (k : Kls) : Option O → (List D → Prop) → Prop
  | some (.ins k' ds), F => k' = k ∧ F ds
  | _, _ => False
theorem z_insK {k : Kls} {ds : List D} {F : List D → Prop} : insQ k (some (.ins k ds)) F = F ds := by
  show (k = k ∧ F ds) = F ds
  simp
def putD : List D → Nat → D → List D
  | [], _, v => [v]
  | _ :: ds, 0, v => v :: ds
  | x :: ds, n + 1, v => x :: putD ds n v
section
variable {K : PySem.W.Frag} {H : Hp}
theorem Flds.get {f : Str} {x : D} : ∀ {fs : List Str} {ds : List D} {gs : List (Str × V)} {j : Nat}, Flds K H (fs.zip ds) gs → fs.Nodup → fs[j]? = some f → ds[j]? = some x → ∃ v, gs.lookup f = some v ∧ Dv K H x v
  | [], _, _, _, _, _, h, _ => by simp at h
  | _ :: _, [], _, _, _, _, _, h => by simp at h
  | g :: fs, d :: ds, gs, 0, h, hn, h1, h2 => by
    simp at h1 h2
    subst h1 h2
    cases h with
    | cons r t => exact ⟨_, by simp [List.lookup_cons], r⟩
  | g :: fs, d :: ds, gs, j + 1, h, hn, h1, h2 => by
    have h1 : fs[j]? = some f := by simpa using h1
    have h2 : ds[j]? = some x := by simpa using h2
    cases h with
    | @cons _ _ v _ vs r t =>
      obtain ⟨v', e, rv⟩ := Flds.get t (List.nodup_cons.mp hn).2 h1 h2
      have hne : f ≠ g := fun z => (List.nodup_cons.mp hn).1 (z ▸ List.mem_of_getElem? h1)
      refine ⟨v', ?_, rv⟩
      rw [List.lookup_cons, beq_eq_false_iff_ne.mpr hne]
      exact e
theorem Flds.put {f : Str} {y : D} {v : V} (rv : Dv K H y v) : ∀ {fs : List Str} {ds : List D} {gs : List (Str × V)} {j : Nat}, Flds K H (fs.zip ds) gs → fs.Nodup → fs[j]? = some f → j ≤ ds.length → Flds K H (fs.zip (putD ds j y)) (putF f v gs)
  | [], _, _, _, _, _, h, _ => by simp at h
  | g :: fs, [], gs, 0, h, hn, h1, h2 => by
    simp at h1
    subst h1
    cases h
    exact .cons rv (by simp; exact .nil)
  | g :: fs, [], gs, j + 1, h, hn, h1, h2 => by simp at h2
  | g :: fs, d :: ds, gs, 0, h, hn, h1, h2 => by
    simp at h1
    subst h1
    cases h with
    | cons r t =>
      show Flds K H ((g, y) :: fs.zip ds) (if g = g then (g, v) :: _ else _)
      rw [if_pos rfl]
      exact .cons rv t
  | g :: fs, d :: ds, gs, j + 1, h, hn, h1, h2 => by
    have h1 : fs[j]? = some f := by simpa using h1
    have h2 : j ≤ ds.length := by simpa using h2
    have hne : g ≠ f := fun z => (List.nodup_cons.mp hn).1 (z.symm ▸ List.mem_of_getElem? h1)
    cases h with
    | cons r t =>
      show Flds K H ((g, d) :: fs.zip (putD ds j y)) (if g = f then _ else (g, _) :: putF f v _)
      rw [if_neg hne]
      exact .cons r (Flds.put rv t (List.nodup_cons.mp hn).2 h1 h2)
theorem Flds.miss {m : Str} : ∀ {fs : List Str} {ds : List D} {gs : List (Str × V)}, Flds K H (fs.zip ds) gs → m ∉ fs → gs.lookup m = none
  | [], _, _, h, _ => by cases h; rfl
  | _ :: _, [], _, h, _ => by cases h; rfl
  | g :: fs, d :: ds, gs, h, hm => by
    cases h with
    | cons r t =>
      rw [List.lookup_cons, beq_eq_false_iff_ne.mpr (fun z => hm (by rw [z]; exact List.mem_cons_self ..))]
      exact Flds.miss t fun z => hm (List.mem_cons_of_mem _ z)
theorem Flds.len : ∀ {fs : List Str} {ds : List D} {gs : List (Str × V)}, Flds K H (fs.zip ds) gs → gs.length ≤ fs.length
  | [], _, _, h => by cases h; simp
  | _ :: _, [], _, h => by cases h; simp
  | g :: fs, d :: ds, gs, h => by
    cases h with
    | cons r t =>
      have := Flds.len t
      simp
      omega
end
def fldQ (k : Kls) (j : Nat) (d : D) (S : Sto) (Q : VK2) : Prop := match d with
  | .ref a => insQ k (S a) fun ds => nthQ ds j fun x => Q x S
  | _ => False
def uFld (k : Kls) (j : Nat) (te : TE2) : TE2 := fun τ S Q => te τ S fun d S1 => fldQ k j d S1 Q
def sfQ (k : Kls) (j : Nat) (y : D) (d : D) (S : Sto) (Q : Sto → Prop) : Prop := match d with
  | .ref a => insQ k (S a) fun ds => j ≤ ds.length ∧ Q (ups S a (.ins k (putD ds j y)))
  | _ => False
def uSFld (k : Kls) (j : Nat) (to tv : TE2) : TS2 := fun E τ S => tv τ S fun y S1 => to τ S1 fun d S2 => sfQ k j y d S2 fun S3 => E.nx τ S3
def mthQ (k : Kls) (d : D) (S : Sto) (P : Prop) : Prop := match d with
  | .ref a => insQ k (S a) fun _ => P
  | _ => False
def uMeth (k : Kls) (sp : Sp2) (to : TE2) (t : TA2) : TE2 := fun τ S Q => to τ S fun d S1 => mthQ k d S1 (t τ S1 fun ds S2 => sp (d :: ds) S2 Q fun _ _ _ => False)
def uMake (k : Kls) (sp : Sp2) (t : TA2) : TE2 := fun τ S Q => t τ S fun ds S1 => ∀ x, S1 x = none → sp (.ref x :: ds) (ups S1 x (.ins k [])) (fun v S2 => v = .non ∧ Q (.ref x) S2) fun _ _ _ => False
section
variable {k : Kls} {j : Nat} {S : Sto} {Q : VK2} {R : Sto → Prop} {P : Prop} {a : Addr} {y : D}
theorem z_fld : fldQ k j (.ref a) S Q = insQ k (S a) fun ds => nthQ ds j fun x => Q x S := rfl
theorem z_sf : sfQ k j y (.ref a) S R = insQ k (S a) fun ds => j ≤ ds.length ∧ R (ups S a (.ins k (putD ds j y))) := rfl
theorem z_mth : mthQ k (.ref a) S P = insQ k (S a) fun _ => P := rfl
end
structure FnM (P : Program) (w : World) (K : PySem.W.Frag) (mg : Str → Option Value) (base : Heap) (l : Nat) (k : Kls) (m : Str) (sp : Sp2) : Prop where
  ex : ∃ f fd ps, FnOk P w K mg base CX0 l f fd ps (dnSp K sp) ∧ Meth K (cA K k.name) m f ∧ Binds K fd ps []
theorem FnM.mono {P : Program} {w : World} {K : PySem.W.Frag} {mg : Str → Option Value} {base : Heap} {i l : Nat} {k : Kls} {m : Str} {sp : Sp2} (F : FnM P w K mg base i k m sp) (h : i ≤ l) : FnM P w K mg base l k m sp := by
  obtain ⟨f, fd, ps, h1, h2⟩ := F.ex
  exact ⟨f, fd, ps, h1.mono h, h2⟩
/-! ### a slice of a list, written -/
def slsQ (d : D) (o i j : D) (S : Sto) (Q : Sto → Prop) : Prop := match o, i, j, d with
  | .ref l, .int i, .int j, .ref b => getO (S l) fun xs => getO (S b) fun ys => l ≠ b ∧ 0 ≤ i ∧ i ≤ j ∧ j ≤ xs.length ∧ xs.length ≤ 1000 ∧ ys.length ≤ 1000 ∧ Q (ups S l (.lst (xs.take i.toNat ++ ys ++ xs.drop j.toNat)))
  | _, _, _, _ => False
def vSl (to : TE2) (tl th : TO2) : TG2 := fun d τ S Q => to τ S fun o S1 => tl τ S1 fun lo S2 => th τ S2 fun hi S3 => match lo, hi with
  | some i, some j => slsQ d o (.int i) (.int j) S3 fun S4 => Q τ S4
  | _, _ => False
section
variable {X : Cx} {o : Expr} {lo hi : Option Expr} {pos p2 : Pos} {to : TE2} {tl th : TO2} {K : PySem.W.Frag}
theorem z_vSl {l b : Addr} {i j : Int} {S : Sto} {Q : Sto → Prop} : slsQ (.ref b) (.ref l) (.int i) (.int j) S Q = getO (S l) fun xs => getO (S b) fun ys => l ≠ b ∧ 0 ≤ i ∧ i ≤ j ∧ j ≤ xs.length ∧ xs.length ≤ 1000 ∧ ys.length ≤ 1000 ∧ Q (ups S l (.lst (xs.take i.toNat ++ ys ++ xs.drop j.toNat))) := rfl
end
/-- (a, b, ..) = a list of that length -/
def vTupL (n : Nat) (gs : TGs2) : TG2 := fun d τ S Q => match d with
  | .ref a => getO (S a) fun xs => xs.length = n ∧ gs xs τ S Q
  | _ => False
section
variable {X : Cx} {tch : List Nat} {pos : Pos}
theorem z_tupL {n : Nat} {gs : TGs2} {a : Addr} {τ : St2} {S : Sto} {Q : St2 → Sto → Prop} : vTupL n gs (.ref a) τ S Q = getO (S a) fun xs => xs.length = n ∧ gs xs τ S Q := rfl
end
/-! ### the facts of a class, shown by the text -/
end DL
/-! Books gone through row by row. -/
namespace DL
open PySem PySem.Spec PyProof.Rows L2
/-- the line of a runner, by its number -/
def lnI (M : Mp) (k : Nat) : Ln := (mget M k).getD (0, 0)
def LI (M : Mp) : List Ln := (List.range ((keysM M).sum + 1)).map (lnI M)
theorem le_sum {l : List Nat} {k : Nat} (h : k ∈ l) : k ≤ l.sum := by
  induction l with
  | nil => cases h
  | cons x l ih =>
    rw [List.sum_cons]
    rcases List.mem_cons.mp h with rfl | h
    · omega
    · have := ih h; omega
theorem ln_LI {M : Mp} {k : Nat} (h : k ∈ keysM M) : ln (LI M) k = lnI M k := by
  unfold ln LI
  have := le_sum h
  rw [List.getD_eq_getElem?_getD, List.getElem?_map, List.getElem?_range (by omega)]
  rfl
theorem mget_key {M : Mp} {k : Nat} (h : k ∈ keysM M) : ∃ l, mget M k = some l ∧ (k, l) ∈ M := by
  induction M with
  | nil => cases h
  | cons x M ih =>
    unfold mget at *
    rw [List.find?_cons]
    by_cases e : x.1 = k
    · rw [decide_eq_true e]
      exact ⟨x.2, rfl, by subst e; exact List.mem_cons_self ..⟩
    · rw [decide_eq_false e]
      have h : k ∈ keysM M := by
        rcases List.mem_cons.mp h with h | h
        · exact absurd h.symm e
        · exact h
      obtain ⟨l, h1, h2⟩ := ih h
      exact ⟨l, h1, List.mem_cons_of_mem _ h2⟩
theorem LD.lz {S : Sto} {f : Addr} {M : Mp} (h : LD S f M) {k : Nat} (hk : k ∈ keysM M) : Lz 300 (ln (LI M) k) := by
  obtain ⟨l, e, hm⟩ := mget_key hk
  rw [ln_LI hk]
  unfold lnI
  rw [e]
  exact h.ok l (List.mem_map.mpr ⟨_, hm, rfl⟩)
/-- a row of a book, whatever its place -/
inductive RB where
  | deed (p : Int) | pass (t : Rat) (p : Int)
def eRB : RB → D
  | .deed p => .tup [.str "deed", .int p]
  | .pass t p => .tup [.str "pass", eQ t, .int p]
/-- how far a book has gone -/
structure Gs where
  row : List Nat
  past : Nat
  now : Option Rat
def Gs.M (s : Gs) (D : List Dd) : Mp := (runM (D.take s.past)).1
def Gs.J (s : Gs) (D : List Dd) : Nat := (runM (D.take s.past)).2
def pairsG (l : List Nat) : List (Nat × Nat) := l.zip (l.drop 1)
/-- nothing comes of two neighbours till a time -/
def keepP (M : Mp) (u t : Rat) (cl : Bool) (p : Nat × Nat) : Bool := decide (Ahd (LI M) p.1 p.2 u) && !(match nxt (LI M) p.1 p.2 u with
  | none => false
  | some c => decide (c < t) || (cl && decide (c = t)))
def keepsG (D : List Dd) (s : Gs) (u t : Rat) (cl : Bool) : Bool := (pairsG s.row).all (keepP (s.M D) u t cl)
def timeG (D : List Dd) (s : Gs) : RB → Option Rat
  | .pass t _ => some t
  | .deed _ => (D[s.past]?).map Dd.t
def nthR (l : List Nat) (p : Int) : Nat := l.getD p.toNat 0
def placeG (D : List Dd) (s : Gs) : RB → Bool
  | .pass t p => decide (0 ≤ p) && (decide (p < (s.row.length : Int) - 1) && decide (Ahd (LI (s.M D)) (nthR s.row (p + 1)) (nthR s.row p) t))
  | .deed p => match D[s.past]? with
    | none => false
    | some (.join _ _ _) => decide (0 ≤ p) && decide (p ≤ (s.row.length : Int))
    | some (.leave _ r) => decide (0 ≤ p) && (decide (p < (s.row.length : Int)) && decide (nthR s.row p = r))
    | some (.turn _ r _) => decide (0 ≤ p) && (decide (p < (s.row.length : Int)) && decide (nthR s.row p = r))
def fitsG (D : List Dd) (e : Rat) (s : Gs) (r : RB) : Bool := match timeG D s r with
  | none => false
  | some t => !decide (e < t) && ((match s.now with
    | none => true
    | some u => !decide (t < u) && (decide (t = u) || keepsG D s u t false)) && placeG D s r)
def swapG (l : List Nat) (p : Nat) : List Nat := l.take p ++ [l.getD (p + 1) 0, l.getD p 0] ++ l.drop (p + 2)
def doG (D : List Dd) (s : Gs) : RB → Gs
  | .pass t p => ⟨swapG s.row p.toNat, s.past, some t⟩
  | .deed p => match D[s.past]? with
    | none => s
    | some (.join t _ _) => ⟨s.row.take p.toNat ++ [s.J D] ++ s.row.drop p.toNat, s.past + 1, some t⟩
    | some (.leave t _) => ⟨s.row.eraseIdx p.toNat, s.past + 1, some t⟩
    | some (.turn t _ _) => ⟨s.row, s.past + 1, some t⟩
def faultG (D : List Dd) (e : Rat) : Nat → Gs → List RB → Option Nat
  | n, s, [] => if s.past < D.length then some n else match s.now with
    | none => none
    | some u => if keepsG D s u e true then none else some n
  | n, s, r :: rs => if fitsG D e s r then faultG D e (n + 1) (doG D s r) rs else some n
/-- the list is of those who run -/
structure GsOk (D : List Dd) (s : Gs) : Prop where
  perm : s.row.Perm (keysM (s.M D))
  past : s.past ≤ D.length
  now : ∀ u, s.now = some u → Nz 3000 u
theorem GsOk.start (D : List Dd) : GsOk D ⟨[], 0, none⟩ := ⟨by show ([] : List Nat).Perm (keysM (runM (D.take 0)).1); rw [List.take_zero]; exact .refl _, Nat.zero_le _, fun _ h => by cases h⟩
theorem GsOk.mem {D : List Dd} {s : Gs} (h : GsOk D s) {k : Nat} (hk : k ∈ s.row) : k ∈ keysM (s.M D) := h.perm.mem_iff.mp hk
theorem GsOk.nd {D : List Dd} {s : Gs} (h : GsOk D s) : s.row.Nodup := h.perm.nodup_iff.mpr ((keyOk_run (D.take s.past)).1.imp fun h => by omega)
theorem DOk.take {D : List Dd} (h : DOk D) (n : Nat) : DOk (D.take n) := by
  have := List.take_append_drop n D
  rw [← this] at h
  exact h.pre
theorem GsOk.len {D : List Dd} {s : Gs} (h : GsOk D s) (hD : DOk D) : s.row.length ≤ 20 := by
  rw [h.perm.length_eq, keysM_len]
  exact (hD.take _).room
theorem M_next {D : List Dd} {s : Gs} {d : Dd} (e : D[s.past]? = some d) : runM (D.take (s.past + 1)) = stepM (s.M D, s.J D) d := by
  rw [List.take_add_one, e]
  show runM (D.take s.past ++ [d]) = _
  rw [runM_snoc]
  rfl
theorem DOk.at {D : List Dd} (h : DOk D) {n : Nat} {d : Dd} (e : D[n]? = some d) : SmD d ∧ HasD (runM (D.take n)).1 d := by
  obtain ⟨hn, e'⟩ := List.getElem?_eq_some_iff.mp e
  have := h.ok (D.take n) d (D.drop (n + 1)) (by rw [← e', ← List.drop_eq_getElem_cons hn, List.take_append_drop])
  exact ⟨this.1, this.2.1⟩
theorem nthR_get {l : List Nat} {p : Int} (h0 : 0 ≤ p) (h1 : p < (l.length : Int)) : l[p.toNat]? = some (nthR l p) := by
  unfold nthR
  rw [List.getD_eq_getElem?_getD, List.getElem?_eq_getElem (show p.toNat < l.length by omega)]
  rfl
theorem swap_perm {l : List Nat} {p : Nat} (h : p + 1 < l.length) : (swapG l p).Perm l := by
  unfold swapG
  have e1 : l.getD p 0 = l[p] := by rw [List.getD_eq_getElem?_getD, List.getElem?_eq_getElem (by omega)]; rfl
  have e2 : l.getD (p + 1) 0 = l[p + 1] := by rw [List.getD_eq_getElem?_getD, List.getElem?_eq_getElem h]; rfl
  rw [e1, e2]
  have e : l = l.take p ++ ([l[p], l[p + 1]] ++ l.drop (p + 2)) := by
    conv => lhs; rw [← List.take_append_drop p l, List.drop_eq_getElem_cons (by omega), List.drop_eq_getElem_cons (i := p + 1) (by omega)]
    rfl
  conv => rhs; rw [e]
  rw [List.append_assoc]
  refine List.Perm.append_left _ (List.Perm.append_right _ (List.Perm.swap ..))
theorem keys_stepM (s : Mp × Nat) (d : Dd) : keysM (stepM s d).1 = match d with
    | .join _ _ _ => keysM s.1 ++ [s.2]
    | .leave _ r => (keysM s.1).filter (fun k => decide (k ≠ r))
    | .turn _ _ _ => keysM s.1 := by
  cases d with
  | join t p m => show keysM (s.1 ++ _) = _; unfold keysM; rw [List.map_append]; rfl
  | leave t r =>
    show (mdrop s.1 r).map (·.1) = (s.1.map (·.1)).filter (fun k => decide (k ≠ r))
    rw [List.filter_map]
    rfl
  | turn t r m => exact keys_mset _ _ _
theorem GsOk.step {D : List Dd} {s : Gs} {r : RB} {e : Rat} (h : GsOk D s) (hD : DOk D) (hf : fitsG D e s r = true) (hz : ∀ t p, r = .pass t p → Nz 3000 t) : GsOk D (doG D s r) := by
  unfold fitsG at hf
  cases r with
  | pass t p =>
    simp only [timeG, placeG, Bool.and_eq_true, decide_eq_true_eq] at hf
    obtain ⟨_, _, h0, h1, _⟩ := hf
    exact ⟨(swap_perm (by omega)).trans h.perm, h.past, fun u e => by cases e; exact hz _ _ rfl⟩
  | deed p =>
    simp only [timeG] at hf
    cases ed : D[s.past]? with
    | none => rw [ed] at hf; cases hf
    | some d =>
      have hlt : s.past < D.length := (List.getElem?_eq_some_iff.mp ed).1
      have hn := M_next ed
      have hk := keys_stepM (s.M D, s.J D) d
      have hsm := (hD.at ed).1
      have hM : ∀ row now, (⟨row, s.past + 1, now⟩ : Gs).M D = (stepM (s.M D, s.J D) d).1 := fun row now => by show (runM (D.take (s.past + 1))).1 = _; rw [hn]
      rw [ed] at hf
      simp only [Option.map_some, placeG, ed, Bool.and_eq_true] at hf
      obtain ⟨_, _, hp⟩ := hf
      unfold doG
      simp only [ed]
      cases d with
      | join t q m =>
        simp only [Bool.and_eq_true, decide_eq_true_eq] at hp
        refine ⟨?_, hlt, fun u e => by cases e; exact hsm.1.nz.le (by decide)⟩
        rw [hM, hk]
        refine List.Perm.trans ?_ (List.Perm.append_right _ h.perm)
        have e := List.take_append_drop p.toNat s.row
        conv => rhs; rw [← e]
        rw [List.append_assoc, List.append_assoc]
        exact List.Perm.append_left _ List.perm_append_comm
      | leave t r =>
        simp only [Bool.and_eq_true, decide_eq_true_eq] at hp
        obtain ⟨h0, h1, h2⟩ := hp
        refine ⟨?_, hlt, fun u e => by cases e; exact (show Sm t from hsm).nz.le (by decide)⟩
        rw [hM, hk]
        have hg := nthR_get h0 h1
        rw [h2] at hg
        obtain ⟨hpl, hpe⟩ := List.getElem?_eq_some_iff.mp hg
        have hnd := h.nd
        have e1 : (s.row.eraseIdx p.toNat) = s.row.filter (fun k => decide (k ≠ r)) := by
          rw [← hpe]
          have key : ∀ {l : List Nat} {n : Nat} (hn : n < l.length), l.Nodup → l.eraseIdx n = l.filter fun k => decide (k ≠ l[n]) := by
            intro l
            induction l with
            | nil => intro n hn; cases hn
            | cons x l ih =>
              intro n hn hl
              obtain ⟨a1, a2⟩ := List.nodup_cons.mp hl
              cases n with
              | zero =>
                rw [List.eraseIdx_cons_zero, List.getElem_cons_zero, List.filter_cons, if_neg (by simp)]
                exact (List.filter_eq_self.mpr fun y hy => by
                  have : y ≠ x := fun z => a1 (by rw [← z]; exact hy)
                  simpa using this).symm
              | succ n =>
                have hn' : n < l.length := by simpa using hn
                rw [List.eraseIdx_cons_succ, List.getElem_cons_succ, List.filter_cons, if_pos (by
                  have : x ≠ l[n] := fun z => a1 (by rw [z]; exact List.getElem_mem hn')
                  simpa using this), ih hn' a2]
          exact key hpl hnd
        show (s.row.eraseIdx p.toNat).Perm _
        rw [e1]
        exact h.perm.filter _
      | turn t r m =>
        refine ⟨?_, hlt, fun u e => by cases e; exact hsm.1.nz.le (by decide)⟩
        rw [hM, hk]
        exact h.perm
/-! ### the lines that a Going keeps: those of who left, too -/
def stepK (s : Mp × Nat) : Dd → Mp × Nat
  | .join t p m => (s.1 ++ [(s.2, (p - m * t, m))], s.2 + 1)
  | .leave _ _ => s
  | .turn t r m => (mset s.1 r (at_ ((mget s.1 r).getD (0, 0)) t - m * t, m), s.2)
def runK (D : List Dd) : Mp × Nat := D.foldl stepK ([], 0)
theorem runK_snoc (D : List Dd) (d : Dd) : runK (D ++ [d]) = stepK (runK D) d := by unfold runK; rw [List.foldl_append]; rfl
theorem mget_cons (x : Nat × Ln) (M : Mp) (r : Nat) : mget (x :: M) r = if x.1 = r then some x.2 else mget M r := by
  unfold mget
  rw [List.find?_cons]
  by_cases e : x.1 = r
  · rw [decide_eq_true e, if_pos e]; rfl
  · rw [decide_eq_false e, if_neg e]
theorem mget_app (k : Nat) (l : Ln) (r : Nat) : ∀ M : Mp, mget (M ++ [(k, l)]) r = if r ∈ keysM M then mget M r else if k = r then some l else none
  | [] => by
    rw [List.nil_append, mget_cons]
    simp [keysM, mget]
  | x :: M => by
    rw [List.cons_append, mget_cons, mget_cons, mget_app k l r M]
    have hk : (r ∈ keysM (x :: M)) ↔ (r = x.1 ∨ r ∈ keysM M) := by unfold keysM; rw [List.map_cons, List.mem_cons]
    by_cases e : x.1 = r
    · rw [if_pos e, if_pos (hk.mpr (.inl e.symm)), if_pos e]
    · rw [if_neg e, if_neg e]
      by_cases h : r ∈ keysM M
      · rw [if_pos h, if_pos (hk.mpr (.inr h))]
      · rw [if_neg h, if_neg (fun z => (hk.mp z).elim (fun z => e z.symm) h)]
theorem mget_set (k : Nat) (l : Ln) (r : Nat) : ∀ M : Mp, mget (mset M k l) r = if r = k ∧ r ∈ keysM M then some l else mget M r
  | [] => by simp [mset, mget, keysM]
  | x :: M => by
    have e0 : mset (x :: M) k l = (if x.1 = k then (x.1, l) else x) :: mset M k l := rfl
    have hk : (r ∈ keysM (x :: M)) ↔ (r = x.1 ∨ r ∈ keysM M) := by unfold keysM; rw [List.map_cons, List.mem_cons]
    rw [e0, mget_cons, mget_cons, mget_set k l r M]
    have e1 : (if x.1 = k then (x.1, l) else x).1 = x.1 := by split <;> rfl
    rw [e1]
    by_cases e : x.1 = r
    · rw [if_pos e, if_pos e]
      by_cases h : x.1 = k
      · rw [if_pos h, if_pos ⟨by omega, hk.mpr (.inl e.symm)⟩]
      · rw [if_neg h, if_neg (fun z => h (by omega))]
    · rw [if_neg e, if_neg e]
      by_cases h : r = k ∧ r ∈ keysM M
      · rw [if_pos h, if_pos ⟨h.1, hk.mpr (.inr h.2)⟩]
      · rw [if_neg h, if_neg (fun z => h ⟨z.1, (hk.mp z.2).resolve_left fun z => e z.symm⟩)]
theorem mget_drop (k r : Nat) (h : r ≠ k) : ∀ M : Mp, mget (mdrop M k) r = mget M r
  | [] => rfl
  | x :: M => by
    have ih := mget_drop k r h M
    unfold mdrop at *
    rw [List.filter_cons]
    by_cases e : x.1 = k
    · rw [if_neg (by simpa using e), ih, mget_cons, if_neg (by omega)]
    · rw [if_pos (by simpa using e), mget_cons, mget_cons, ih]
theorem KeyOk.stepK {s : Mp × Nat} {d : Dd} (h : KeyOk s) : KeyOk (stepK s d) := by
  cases d with
  | join t p m => exact h.step (d := .join t p m)
  | leave t r => exact h
  | turn t r m =>
    unfold KeyOk DL.stepK
    rw [keys_mset]
    exact h
structure KOk (D : List Dd) : Prop where
  ky : KeyOk (runK D)
  ln : ∀ r ∈ keysM (runM D).1, mget (runK D).1 r = mget (runM D).1 r
  j : (runK D).2 = (runM D).2
  lz : ∀ x ∈ (runK D).1, Lz 300 x.2
  len : (runK D).1.length ≤ D.length
theorem KOk.key {D : List Dd} (h : KOk D) {r : Nat} (hr : r ∈ keysM (runM D).1) : r ∈ keysM (runK D).1 := by
  obtain ⟨l, e⟩ := mget_some hr
  rw [← h.ln r hr] at e
  exact List.mem_map.mpr ⟨_, mget_mem e, rfl⟩
theorem kOk_nil : KOk [] where
  ky := keyOk_run []
  ln := fun r h => nomatch h
  j := rfl
  lz := fun x h => nomatch h
  len := Nat.le_refl _
theorem kOk_run : ∀ D : List Dd, DOk D → KOk D := snoc_ind (fun _ => kOk_nil) fun D d ih hD => by
  have h := ih hD.pre
  have hz := hD.lz
  have hh := (hD.ok D d [] rfl).2.1
  have hn := (keyOk_run D).new
  rw [runM_snoc] at hz
  have hkn := h.ky.new
  refine ⟨by rw [runK_snoc]; exact h.ky.stepK, fun r hr => ?_, ?_, fun x hx => ?_, ?_⟩
  · rw [runM_snoc] at hr ⊢
    rw [runK_snoc]
    cases d with
    | join t p m =>
      show mget ((runK D).1 ++ [((runK D).2, _)]) r = mget ((runM D).1 ++ [((runM D).2, _)]) r
      rw [mget_app, mget_app, h.j]
      by_cases e : r ∈ keysM (runM D).1
      · rw [if_pos e, if_pos (h.key e), h.ln r e]
      · have e2 : (runM D).2 = r := by
          have : r ∈ keysM ((runM D).1 ++ [((runM D).2, (p - m * t, m))]) := hr
          unfold keysM at this
          rw [List.map_append, List.mem_append] at this
          rcases this with z | z
          · exact absurd z e
          · simp at z; exact z.symm
        rw [h.j] at hkn
        rw [if_neg e, if_neg (by rw [← e2]; exact hkn)]
    | leave t k =>
      have hr2 : r ∈ (keysM (runM D).1).filter fun x => decide (x ≠ k) := by rw [← keys_mdrop]; exact hr
      obtain ⟨h1, h2⟩ := List.mem_filter.mp hr2
      have h2 : r ≠ k := by simpa using h2
      show mget (runK D).1 r = mget (mdrop (runM D).1 k) r
      rw [mget_drop k r h2, h.ln r h1]
    | turn t k m =>
      have hr2 : r ∈ keysM (runM D).1 := by rw [← keys_mset (runM D).1 k (at_ ((mget (runM D).1 k).getD (0, 0)) t - m * t, m)]; exact hr
      have hk : k ∈ keysM (runM D).1 := hh
      show mget (mset (runK D).1 k _) r = mget (mset (runM D).1 k _) r
      rw [mget_set, mget_set, h.ln k hk, h.ln r hr2]
      by_cases e : r = k
      · rw [if_pos ⟨e, h.key hr2⟩, if_pos ⟨e, hr2⟩]
      · rw [if_neg (fun z => e z.1), if_neg (fun z => e z.1)]
  · rw [runM_snoc, runK_snoc]
    cases d with
    | join t p m => show (runK D).2 + 1 = (runM D).2 + 1; rw [h.j]
    | leave t k => exact h.j
    | turn t k m => exact h.j
  · rw [runK_snoc] at hx
    cases d with
    | join t p m =>
      have hx : x ∈ (runK D).1 ++ [((runK D).2, (p - m * t, m))] := hx
      rcases List.mem_append.mp hx with hx | hx
      · exact h.lz x hx
      · rw [List.mem_singleton.mp hx]
        exact hz ((runM D).2, (p - m * t, m)) (by show _ ∈ (runM D).1 ++ [_]; simp)
    | leave t k => exact h.lz x hx
    | turn t k m =>
      have hk : k ∈ keysM (runM D).1 := hh
      have hx : x ∈ (runK D).1.map fun y => if y.1 = k then (y.1, (at_ ((mget (runK D).1 k).getD (0, 0)) t - m * t, m)) else y := hx
      obtain ⟨y, hy, rfl⟩ := List.mem_map.mp hx
      split
      · rw [h.ln k hk]
        obtain ⟨l, hl⟩ := mget_some hk
        have := hz (k, (at_ ((mget (runM D).1 k).getD (0, 0)) t - m * t, m)) (by
          show _ ∈ (runM D).1.map _
          exact List.mem_map.mpr ⟨(k, l), mget_mem hl, by simp⟩)
        exact this
      · exact h.lz y hy
  · rw [runK_snoc, List.length_append, List.length_singleton]
    have := h.len
    cases d with
    | join t p m => show ((runK D).1 ++ [_]).length ≤ _; rw [List.length_append]; simp; omega
    | leave t k => show (runK D).1.length ≤ _; omega
    | turn t k m => show (mset (runK D).1 k _).length ≤ _; unfold mset; rw [List.length_map]; omega
def Gs.K (s : Gs) (D : List Dd) : Mp := (runK (D.take s.past)).1
/-- a Going stands at g: its deeds at l, its list at r, its lines at f -/
structure GoAt (k : Kls) (S : Sto) (g l r f : Addr) (D : List Dd) (s : Gs) : Prop where
  ob : S g = some (.ins k [.ref l, .ref r, .ref f, .int (s.past : Nat), .int (s.J D : Nat), eO s.now])
  hl : S l = some (.lst (D.map eDd))
  hr : S r = some (.lst (s.row.map eN))
  hf : S f = some (.dic (eM (s.K D)))
  lr : l ≠ r
section
variable {k : Kls} {S S' : Sto} {g l r f : Addr} {D : List Dd} {s : Gs}
theorem st_ne {S : Sto} {a b : Addr} {o u : O} (h : S a = some o) (h' : S b = some u) (n : o ≠ u) : a ≠ b := fun z => n (by subst z; rw [h] at h'; exact Option.some.inj h')
theorem GoAt.sub (h : GoAt k S g l r f D s) (u : Sub S S') : GoAt k S' g l r f D s := ⟨u _ _ h.ob, u _ _ h.hl, u _ _ h.hr, u _ _ h.hf, h.lr⟩
theorem GsOk.kmem {D : List Dd} {s : Gs} (h : GsOk D s) (hD : DOk D) {x : Nat} (hx : x ∈ keysM (s.M D)) : x ∈ keysM (s.K D) := (kOk_run _ (hD.take s.past)).key hx
end
theorem pairsG_len (l : List Nat) : (pairsG l).length = l.length - 1 := by
  unfold pairsG
  rw [List.length_zip, List.length_drop]
  omega
theorem pairsG_get {l : List Nat} {i : Nat} (h : i + 1 < l.length) : (pairsG l)[i]? = some (l.getD i 0, l.getD (i + 1) 0) := by
  have e1 : l.getD i 0 = l[i] := by rw [List.getD_eq_getElem?_getD, List.getElem?_eq_getElem (by omega)]; rfl
  have e2 : l.getD (i + 1) 0 = l[i + 1] := by rw [List.getD_eq_getElem?_getD, List.getElem?_eq_getElem h]; rfl
  rw [e1, e2]
  unfold pairsG
  rw [List.getElem?_eq_getElem (by rw [List.length_zip, List.length_drop]; omega), List.getElem_zip, List.getElem_drop]
  congr 2
  congr 1
  omega
theorem row_mem {l : List Nat} {i : Nat} (h : i < l.length) : l.getD i 0 ∈ l := by
  rw [List.getD_eq_getElem?_getD, List.getElem?_eq_getElem h]
  exact List.getElem_mem h
theorem K_j {D : List Dd} (hD : DOk D) (s : Gs) : (runK (D.take s.past)).2 = s.J D := (kOk_run _ (hD.take s.past)).j
theorem K_new {D : List Dd} (hD : DOk D) (s : Gs) : s.J D ∉ keysM (s.K D) := by
  rw [← K_j hD s]
  exact (kOk_run _ (hD.take s.past)).ky.new
end DL
/-! Books written row by row: what ends, and what is let by. -/
namespace DL
open PySem PySem.Spec PyProof.Rows L2
/-! ### runners by their numbers, in place of their places -/
theorem ln_idx {M : Mp} (hk : (keysM M).Pairwise (· < ·)) {a i : Nat} (hi : i < M.length) (e : kN M i = (a : Int)) : ln (lnM M) i = ln (LI M) a := by
  obtain ⟨k, l, h1, h2, h3⟩ := kN_get hi
  have hka : k = a := by rw [h2] at e; omega
  subst hka
  have hm : k ∈ keysM M := List.mem_map.mpr ⟨_, List.mem_of_getElem? h1, rfl⟩
  rw [h3, ln_LI hm]
  unfold lnI
  rw [mget_at hk h1]
  rfl
theorem ahd_idx {M : Mp} (hk : (keysM M).Pairwise (· < ·)) {a b i j : Nat} {t : Rat} (hi : i < M.length) (hj : j < M.length) (ea : kN M i = (a : Int)) (eb : kN M j = (b : Int)) : decide (Ahd (lnM M) i j t) = decide (Ahd (LI M) a b t) := by
  refine decide_eq_decide.mpr ?_
  have := kN_lt hk hi hj
  rw [ea, eb] at this
  unfold Ahd
  rw [ln_idx hk hi ea, ln_idx hk hj eb, ← this]
  have : ((a : Int) < (b : Int)) ↔ a < b := by omega
  rw [this]
/-! ### the places at which two stand the wrong way round -/
def upAt (M : Mp) (row : List Nat) (t : Rat) (i : Nat) : Bool := decide (Ahd (LI M) (row.getD (i + 1) 0) (row.getD i 0) t)
def upsG (M : Mp) (row : List Nat) (t : Rat) : List Nat := (List.range (row.length - 1)).filter (upAt M row t)
theorem ups_mem {M : Mp} {row : List Nat} {t : Rat} {i : Nat} : i ∈ upsG M row t ↔ i + 1 < row.length ∧ Ahd (LI M) (row.getD (i + 1) 0) (row.getD i 0) t := by
  unfold upsG upAt
  rw [List.mem_filter, List.mem_range, decide_eq_true_eq]
  constructor
  · rintro ⟨h1, h2⟩; exact ⟨by omega, h2⟩
  · rintro ⟨h1, h2⟩; exact ⟨by omega, h2⟩
/-- how many pairs stand the wrong way round -/
def invG (M : Mp) (t : Rat) : List Nat → Nat
  | [] => 0
  | x :: xs => xs.countP (fun y => decide (Ahd (LI M) y x t)) + invG M t xs
theorem inv_le (M : Mp) (t : Rat) : ∀ l : List Nat, invG M t l ≤ l.length * l.length
  | [] => Nat.le_refl _
  | x :: xs => by
    have h1 := inv_le M t xs
    have h2 : xs.countP (fun y => decide (Ahd (LI M) y x t)) ≤ xs.length := List.countP_le_length
    show _ + _ ≤ (xs.length + 1) * (xs.length + 1)
    rw [Nat.mul_add, Nat.add_mul]
    omega
theorem inv_swap (M : Mp) (t : Rat) {x y : Nat} (h : Ahd (LI M) y x t) : ∀ a b : List Nat, invG M t (a ++ ([y, x] ++ b)) + 1 = invG M t (a ++ ([x, y] ++ b))
  | [], b => by
    have h1 : decide (Ahd (LI M) y x t) = true := decide_eq_true h
    have h2 : decide (Ahd (LI M) x y t) = false := decide_eq_false fun z => ahd_asymm h z
    show (List.countP _ (x :: b) + (List.countP _ b + invG M t b)) + 1 = List.countP _ (y :: b) + (List.countP _ b + invG M t b)
    rw [List.countP_cons, List.countP_cons, h1, h2]
    simp
    omega
  | z :: a, b => by
    have ih := inv_swap M t h a b
    show (List.countP _ (a ++ ([y, x] ++ b)) + invG M t (a ++ ([y, x] ++ b))) + 1 = List.countP _ (a ++ ([x, y] ++ b)) + invG M t (a ++ ([x, y] ++ b))
    have hp : (a ++ ([y, x] ++ b)).Perm (a ++ ([x, y] ++ b)) := List.Perm.append_left _ (List.Perm.append_right _ (List.Perm.swap ..))
    rw [hp.countP_eq]
    omega
theorem split_two {l : List Nat} {p : Nat} (h : p + 1 < l.length) : l = l.take p ++ ([l.getD p 0, l.getD (p + 1) 0] ++ l.drop (p + 2)) := by
  have e1 : l.getD p 0 = l[p] := by rw [List.getD_eq_getElem?_getD, List.getElem?_eq_getElem (by omega)]; rfl
  have e2 : l.getD (p + 1) 0 = l[p + 1] := by rw [List.getD_eq_getElem?_getD, List.getElem?_eq_getElem h]; rfl
  rw [e1, e2]
  conv => lhs; rw [← List.take_append_drop p l, List.drop_eq_getElem_cons (by omega), List.drop_eq_getElem_cons (i := p + 1) (by omega)]
  rfl
theorem swap_inv {M : Mp} {t : Rat} {l : List Nat} {p : Nat} (h : p ∈ upsG M l t) : invG M t (swapG l p) + 1 = invG M t l := by
  obtain ⟨h1, h2⟩ := ups_mem.mp h
  have e := split_two h1
  conv => rhs; rw [e]
  unfold swapG
  rw [List.append_assoc]
  exact inv_swap M t h2 _ _
theorem swap_len {l : List Nat} {p : Nat} (h : p + 1 < l.length) : (swapG l p).length = l.length := (swap_perm h).length_eq
/-! ### rows that are let by -/
inductive Runs (D : List Dd) (e : Rat) : Gs → List RB → Gs → Prop
  | nil (s : Gs) : Runs D e s [] s
  | cons {s s' : Gs} {r : RB} {rs : List RB} : fitsG D e s r = true → Runs D e (doG D s r) rs s' → Runs D e s (r :: rs) s'
theorem Runs.snoc {D : List Dd} {e : Rat} {s s' : Gs} {B : List RB} {r : RB} (h : Runs D e s B s') (hf : fitsG D e s' r = true) : Runs D e s (B ++ [r]) (doG D s' r) := by
  induction h with
  | nil s => exact .cons hf (.nil _)
  | cons h1 _ ih => exact .cons h1 (ih hf)
/-- the program's time beside the law's -/
def Link (D : List Dd) (s : Gs) (v : Rat) : Prop := s.now = some v ∨ ∃ u, s.now = some u ∧ u < v ∧ keepsG D s u v false = true
theorem link_pass {D : List Dd} {e v : Rat} {s : Gs} {p : Nat} (hl : Link D s v) (he : v ≤ e) (h : p ∈ upsG (s.M D) s.row v) : fitsG D e s (.pass v (p : Int)) = true := by
  obtain ⟨h1, h2⟩ := ups_mem.mp h
  have hp : placeG D s (.pass v (p : Int)) = true := by
    show (decide (0 ≤ (p : Int)) && (decide ((p : Int) < (s.row.length : Int) - 1) && decide (Ahd (LI (s.M D)) (nthR s.row ((p : Int) + 1)) (nthR s.row (p : Int)) v))) = true
    have e1 : nthR s.row ((p : Int) + 1) = s.row.getD (p + 1) 0 := by unfold nthR; rw [show ((p : Int) + 1).toNat = p + 1 by omega]
    have e2 : nthR s.row (p : Int) = s.row.getD p 0 := by unfold nthR; rw [Int.toNat_natCast]
    rw [e1, e2, decide_eq_true h2, decide_eq_true (by omega), decide_eq_true (by omega)]
    rfl
  unfold fitsG
  show (!decide (e < v) && (_ && placeG D s (.pass v (p : Int)))) = true
  rw [hp, decide_eq_false (by grind)]
  rcases hl with hl | ⟨u, hl, h3, h4⟩
  · rw [hl]
    have : decide (v < v) = false := decide_eq_false (by grind)
    simp [this]
  · rw [hl]
    have : decide (v < u) = false := decide_eq_false (by grind)
    simp [this, h4]
theorem do_pass {D : List Dd} {s : Gs} {v : Rat} {p : Nat} : doG D s (.pass v (p : Int)) = ⟨swapG s.row p, s.past, some v⟩ := by
  show (⟨swapG s.row (p : Int).toNat, s.past, some v⟩ : Gs) = _
  rw [Int.toNat_natCast]
theorem nxt_gt {L : List Ln} {a b : Nat} {u c : Rat} (h : nxt L a b u = some c) : u < c ∧ (ln L a).2 ≠ (ln L b).2 ∧ c = met (ln L a) (ln L b) := by
  unfold nxt at h
  split at h
  · next z => cases h; exact ⟨z.2, z.1, rfl⟩
  · cases h
theorem pairsG_mem {l : List Nat} {p : Nat × Nat} (h : p ∈ pairsG l) : ∃ i, i + 1 < l.length ∧ p = (l.getD i 0, l.getD (i + 1) 0) := by
  obtain ⟨i, hi, e⟩ := List.mem_iff_getElem.mp h
  have hl : i + 1 < l.length := by rw [pairsG_len] at hi; omega
  refine ⟨i, hl, ?_⟩
  have := pairsG_get hl
  rw [List.getElem?_eq_getElem hi, e] at this
  exact Option.some.inj this
/-- at the time of a change the two stand the wrong way round -/
theorem change_up {L : List Ln} {a b : Nat} {u c : Rat} (h : nxt L a b u = some c) (ha : Ahd L a b u) : Ahd L b a c := by
  obtain ⟨h1, h2, h3⟩ := nxt_gt h
  have e1 := (ahd_lt h2 (by rw [← h3]; exact h1)).mp ha
  have h2' : (ln L b).2 ≠ (ln L a).2 := fun z => h2 z.symm
  have hm : met (ln L b) (ln L a) = c := by rw [h3]; exact met_comm h2'
  exact (ahd_ge h2' (by rw [hm]; grind)).mpr e1
end DL
/-! Books written by the law. -/
namespace DL
open PySem PySem.Spec PyProof.Rows L2
/-! ### what keeps -/
def chgP (M : Mp) (u t : Rat) (cl : Bool) (p : Nat × Nat) : Bool := match nxt (LI M) p.1 p.2 u with
  | none => false
  | some c => decide (c < t) || (cl && decide (c = t))
theorem keepP_eq (M : Mp) (u t : Rat) (cl : Bool) (p : Nat × Nat) : keepP M u t cl p = (decide (Ahd (LI M) p.1 p.2 u) && !chgP M u t cl p) := rfl
theorem pairsG_ne {l : List Nat} (nd : l.Nodup) {p : Nat × Nat} (h : p ∈ pairsG l) : p.1 ≠ p.2 := by
  obtain ⟨i, hi, rfl⟩ := pairsG_mem h
  have := (List.pairwise_iff_getElem.mp nd) i (i + 1) (by omega) hi (by omega)
  have e1 : l.getD i 0 = l[i] := by rw [List.getD_eq_getElem?_getD, List.getElem?_eq_getElem (by omega)]; rfl
  have e2 : l.getD (i + 1) 0 = l[i + 1] := by rw [List.getD_eq_getElem?_getD, List.getElem?_eq_getElem hi]; rfl
  show l.getD i 0 ≠ l.getD (i + 1) 0
  rw [e1, e2]
  exact this
theorem ups_nil {M : Mp} {row : List Nat} {t : Rat} (nd : row.Nodup) : upsG M row t = [] ↔ ∀ p ∈ pairsG row, Ahd (LI M) p.1 p.2 t := by
  constructor
  · intro h p hp
    have hn := pairsG_ne nd hp
    rcases ahd_total (L := LI M) (t := t) hn with z | z
    · exact z
    · obtain ⟨i, hi, rfl⟩ := pairsG_mem hp
      have : i ∈ upsG M row t := ups_mem.mpr ⟨hi, z⟩
      rw [h] at this
      cases this
  · intro h
    rw [List.eq_nil_iff_forall_not_mem]
    intro i hi
    obtain ⟨h1, h2⟩ := ups_mem.mp hi
    have h3 := h (row.getD i 0, row.getD (i + 1) 0) (List.mem_of_getElem? (pairsG_get h1))
    exact ahd_asymm h2 h3
theorem chg_f {M : Mp} {u t : Rat} {p : Nat × Nat} : chgP M u t false p = false ↔ ∀ c, nxt (LI M) p.1 p.2 u = some c → t ≤ c := by
  unfold chgP
  cases nxt (LI M) p.1 p.2 u with
  | none => exact ⟨fun _ c h => (nomatch h), fun _ => rfl⟩
  | some c =>
    dsimp only
    rw [Bool.false_and, Bool.or_false, decide_eq_false_iff_not]
    exact ⟨fun h d e => by cases e; exact Rat.not_lt.mp h, fun h => Rat.not_lt.mpr (h c rfl)⟩
theorem chg_t {M : Mp} {u t : Rat} {p : Nat × Nat} : chgP M u t true p = false ↔ ∀ c, nxt (LI M) p.1 p.2 u = some c → t < c := by
  unfold chgP
  cases nxt (LI M) p.1 p.2 u with
  | none => exact ⟨fun _ c h => (nomatch h), fun _ => rfl⟩
  | some c =>
    dsimp only
    rw [Bool.true_and, Bool.or_eq_false_iff, decide_eq_false_iff_not, decide_eq_false_iff_not]
    exact ⟨fun h d e => by cases e; exact Rat.lt_of_le_of_ne (Rat.not_lt.mp h.1) (Ne.symm h.2), fun h => ⟨Rat.not_lt.mpr (Rat.le_of_lt (h c rfl)), fun z => Rat.ne_of_lt (h c rfl) z.symm⟩⟩
theorem keeps_iff {D : List Dd} {s : Gs} {u t : Rat} {cl : Bool} : keepsG D s u t cl = true ↔ ∀ p ∈ pairsG s.row, Ahd (LI (s.M D)) p.1 p.2 u ∧ chgP (s.M D) u t cl p = false := by
  unfold keepsG
  rw [List.all_eq_true]
  refine forall_congr' fun p => forall_congr' fun hp => ?_
  rw [keepP_eq, Bool.and_eq_true, decide_eq_true_eq, Bool.not_eq_true']
/-- a change later than a time is the next one seen from there -/
theorem nxt_later {L : List Ln} {a b : Nat} {u v c : Rat} (h : nxt L a b u = some c) (k : v < c) : nxt L a b v = some c := by
  obtain ⟨h1, h2, rfl⟩ := nxt_gt h
  unfold nxt
  rw [if_pos ⟨h2, k⟩]
theorem nxt_back {L : List Ln} {a b : Nat} {u v c : Rat} (h : nxt L a b v = some c) (k : u ≤ v) : nxt L a b u = some c := by
  obtain ⟨h1, h2, rfl⟩ := nxt_gt h
  unfold nxt
  rw [if_pos ⟨h2, by grind⟩]
/-- what keeps strictly ahead of a time at which all stand right -/
theorem kept {D : List Dd} {s : Gs} {u v : Rat} (nd : s.row.Nodup) (h : keepsG D s u v false = true) (h0 : upsG (s.M D) s.row v = []) {p : Nat × Nat} (hp : p ∈ pairsG s.row) {c : Rat} (e : nxt (LI (s.M D)) p.1 p.2 u = some c) : v < c := by
  obtain ⟨h1, h2⟩ := keeps_iff.mp h p hp
  have h3 := chg_f.mp h2 c e
  by_cases z : v = c
  · subst z
    exact (ahd_asymm (change_up e h1) ((ups_nil nd).mp h0 p hp)).elim
  · exact Rat.lt_of_le_of_ne h3 z
/-! ### how many changes are left -/
theorem countP_lt {α : Type} {p q : α → Bool} : ∀ {l : List α}, (∀ x ∈ l, p x = true → q x = true) → (∃ x ∈ l, p x = false ∧ q x = true) → l.countP p < l.countP q
  | [], _, h => by obtain ⟨x, hx, _⟩ := h; cases hx
  | y :: l, h, hx => by
    have hle : l.countP p ≤ l.countP q := List.countP_mono_left fun x hm => h x (List.mem_cons_of_mem _ hm)
    rw [List.countP_cons, List.countP_cons]
    obtain ⟨x, hx, h1, h2⟩ := hx
    rcases List.mem_cons.mp hx with rfl | hx
    · rw [h1, h2]; simp; omega
    · have ih := countP_lt (l := l) (p := p) (q := q) (fun x hm => h x (List.mem_cons_of_mem _ hm)) ⟨x, hx, h1, h2⟩
      have hy := h y (List.mem_cons_self ..)
      cases ep : p y with
      | true => rw [hy ep]; simp; omega
      | false =>
        rw [if_neg Bool.false_ne_true]
        exact Nat.lt_of_lt_of_le (by omega : l.countP p + 0 < l.countP q + 0) (Nat.add_le_add_left (Nat.zero_le _) _)
def prK (ks : List Nat) : List (Nat × Nat) := ks.flatMap fun a => ks.map fun b => (a, b)
theorem prK_mem {ks : List Nat} {a b : Nat} (ha : a ∈ ks) (hb : b ∈ ks) : (a, b) ∈ prK ks := List.mem_flatMap.mpr ⟨a, ha, List.mem_map.mpr ⟨b, hb, rfl⟩⟩
theorem prK_len (ks : List Nat) : (prK ks).length = ks.length * ks.length := by
  have key : ∀ l : List Nat, (l.flatMap fun a => ks.map fun b => (a, b)).length = l.length * ks.length := by
    intro l
    induction l with
    | nil => simp
    | cons x l ih => rw [List.flatMap_cons, List.length_append, ih, List.length_map, List.length_cons, Nat.add_mul]; omega
  exact key ks
def leftC (M : Mp) (v : Rat) : Nat := (prK (keysM M)).countP fun p => (nxt (LI M) p.1 p.2 v).isSome
theorem leftC_le (M : Mp) (v : Rat) : leftC M v ≤ M.length * M.length := by
  unfold leftC
  have := List.countP_le_length (p := fun p => (nxt (LI M) p.1 p.2 v).isSome) (l := prK (keysM M))
  rw [prK_len, keysM_len] at this
  exact this
theorem leftC_lt {M : Mp} {v c : Rat} {a b : Nat} (ha : a ∈ keysM M) (hb : b ∈ keysM M) (e : nxt (LI M) a b v = some c) : leftC M c < leftC M v := by
  have hvc := (nxt_gt e).1
  refine countP_lt (fun p _ h => ?_) ⟨(a, b), prK_mem ha hb, ?_, by rw [e]; rfl⟩
  · cases ep : nxt (LI M) p.1 p.2 c with
    | none => rw [ep] at h; cases h
    | some d => rw [nxt_back ep (by grind)]; rfl
  · have h2 := (nxt_gt e).2.2
    show (nxt (LI M) a b c).isSome = false
    cases ep : nxt (LI M) a b c with
    | none => rfl
    | some d =>
      obtain ⟨z1, _, z2⟩ := nxt_gt ep
      rw [← h2] at z2
      grind
/-- all but two stand -/
def Fr2 (S S' : Sto) (a b : Addr) : Prop := ∀ x o, x ≠ a → x ≠ b → S x = some o → S' x = some o
theorem Fr2.refl (S : Sto) (a b : Addr) : Fr2 S S a b := fun _ _ _ _ h => h
theorem Fr2.trans {S S1 S2 : Sto} {a b : Addr} (h : Fr2 S S1 a b) (k : Fr2 S1 S2 a b) : Fr2 S S2 a b := fun x o n m e => k x o n m (h x o n m e)
theorem Fr2.sub {S S1 S2 : Sto} {a b : Addr} (h : Fr2 S S1 a b) (k : Sub S1 S2) : Fr2 S S2 a b := fun x o n m e => k x o (h x o n m e)
theorem Fr2.own {S S1 : Sto} {a b p : Addr} {o : O} (h : Fr2 S S1 a b) (n : S1 p = none) : Fr2 S (ups S1 p o) a b := h.sub (Sub.drop n)
theorem Runs.trans {D : List Dd} {e : Rat} {s s1 s2 : Gs} {B C : List RB} (h : Runs D e s B s1) (k : Runs D e s1 C s2) : Runs D e s (B ++ C) s2 := by
  induction h with
  | nil s => exact k
  | cons h1 _ ih => exact .cons h1 (ih k)
theorem M_past {D : List Dd} {s s' : Gs} (h : s'.past = s.past) : s'.M D = s.M D := by unfold Gs.M; rw [h]
theorem fits_now {D : List Dd} {s : Gs} {rb : RB} {e t : Rat} (h : timeG D s rb = some t) : fitsG D e s rb = (!decide (e < t) && ((match s.now with
    | none => true
    | some u => !decide (t < u) && (decide (t = u) || keepsG D s u t false)) && placeG D s rb)) := by
  unfold fitsG
  rw [h]
  try rfl
theorem deed_fits {D : List Dd} {s : Gs} {d : Dd} {p : Int} {e : Rat} (ed : D[s.past]? = some d) (hp : placeG D s (.deed p) = true) (he : d.t ≤ e) (hk : s.now = none ∨ Link D s d.t) : fitsG D e s (.deed p) = true := by
  have et : timeG D s (.deed p) = some d.t := by unfold timeG; rw [ed]; rfl
  rw [fits_now et, hp, decide_eq_false (Rat.not_lt.mpr he)]
  rcases hk with hk | hk | ⟨u, hk, h1, h2⟩
  · rw [hk]; rfl
  · rw [hk]
    dsimp only
    rw [decide_eq_false (Rat.lt_irrefl), decide_eq_true rfl]
    rfl
  · rw [hk]
    dsimp only
    rw [decide_eq_false (Rat.not_lt.mpr (Rat.le_of_lt h1)), h2, Bool.or_true]
    rfl
theorem do_deed {D : List Dd} {s : Gs} {d : Dd} {p : Int} (ed : D[s.past]? = some d) : (doG D s (.deed p)).now = some d.t ∧ (doG D s (.deed p)).past = s.past + 1 := by
  unfold doG
  simp only [ed]
  cases d <;> exact ⟨rfl, rfl⟩
theorem Fr.one_new {S S1 S2 : Sto} {a b : Addr} (h : Fr S S1 a) (n : S b = Option.none) (k : Fr S1 S2 b) : Fr S S2 a := fun y o na e => k y o (ne_of_st e n) (h y o na e)
/-- a book under way -/
structure BkAt (S S' : Sto) (a b r f : Addr) (sc : List Int) (D : List Dd) (e : Rat) (s : Gs) (B : List RB) : Prop where
  fr : Fr S S' a
  hp : PenA S' a sc
  hb : S' b = some (.lst (B.map eRB))
  ra : r ≠ a
  rb : r ≠ b
  hr : S' r = some (.lst (s.row.map eN))
  hf : S' f = some (.dic (eM (s.M D)))
  ok : GsOk D s
  run : Runs D e ⟨[], 0, none⟩ B s
  bt : ∀ t p, RB.pass t p ∈ B → Nz 3000 t
theorem BkAt.fa {S S' : Sto} {a b r f : Addr} {sc : List Int} {D : List Dd} {e : Rat} {s : Gs} {B : List RB} (h : BkAt S S' a b r f sc D e s B) : f ≠ a := by
  obtain ⟨x0, y0, e0⟩ := h.hp
  exact st_ne h.hf e0 fun z => nomatch z
theorem BkAt.pen {S S' : Sto} {a b r f : Addr} {sc : List Int} {D : List Dd} {e : Rat} {s : Gs} {B : List RB} {x y : Int} (h : BkAt S S' a b r f sc D e s B) (hab : a ≠ b) : BkAt S (ups S' a (penO sc x y)) a b r f sc D e s B :=
  ⟨h.fr.wr, pen_again, (ups_ne hab.symm).trans h.hb, h.ra, h.rb, (ups_ne h.ra).trans h.hr, (ups_ne h.fa).trans h.hf, h.ok, h.run, h.bt⟩
theorem BkAt.sub {S S' S2 : Sto} {a b r f : Addr} {sc : List Int} {D : List Dd} {e : Rat} {s : Gs} {B : List RB} (h : BkAt S S' a b r f sc D e s B) (k : Sub S' S2) : BkAt S S2 a b r f sc D e s B :=
  ⟨h.fr.sub k, h.hp.sub' k, k _ _ h.hb, h.ra, h.rb, k _ _ h.hr, k _ _ h.hf, h.ok, h.run, h.bt⟩
/-- one row more -/
theorem BkAt.put {S S' S2 : Sto} {a b r f r2 f2 : Addr} {sc : List Int} {D : List Dd} {e : Rat} {s : Gs} {B : List RB} {rb : RB} (h : BkAt S S' a b r f sc D e s B) (hab : a ≠ b) (nb : S b = none) (hD : DOk D) (k : Fr S' S2 b) (hb2 : S2 b = some (.lst ((B ++ [rb]).map eRB))) (ho : r2 = r ∨ S' r2 = none) (hrb : r2 ≠ b) (hr2 : S2 r2 = some (.lst ((doG D s rb).row.map eN))) (hf2 : S2 f2 = some (.dic (eM ((doG D s rb).M D)))) (hfit : fitsG D e s rb = true) (hz : ∀ t p, rb = .pass t p → Nz 3000 t) : BkAt S S2 a b r2 f2 sc D e (doG D s rb) (B ++ [rb]) := by
  refine ⟨h.fr.one_new nb k, ?_, hb2, ?_, hrb, hr2, hf2, h.ok.step hD hfit hz, h.run.snoc hfit, fun t p hm => ?_⟩
  · obtain ⟨x0, y0, e0⟩ := h.hp
    exact ⟨x0, y0, k _ _ hab e0⟩
  · rcases ho with rfl | ho
    · exact h.ra
    · exact h.hp.fa ho
  · rcases List.mem_append.mp hm with hm | hm
    · exact h.bt t p hm
    · exact hz t p (List.mem_singleton.mp hm).symm
end DL
/-! Slices by a step that is reckoned. -/
namespace DL
open PySem PySem.Spec PyProof.Rows L2
def uSlV (te : TE2) (ts : TO2) : TE2 := fun τ S Q => te τ S fun d S1 => ts τ S1 fun o S2 => match o with
  | some i => i ≠ 0 ∧ onS (listOf S2 d) fun xs => ∀ p, S2 p = none → Q (.ref p) (ups S2 p (.lst (pickV xs i)))
  | none => False
end DL
/-! What a book that is let by tells at a time. -/
namespace DL
open PySem PySem.Spec PyProof.Rows L2
/-- the order by the keys -/
def OK (M : Mp) (t : Rat) : List Nat := (ordL (lnM M) t).map fun i => (keysM M).getD i 0
theorem ahd_till {L : List Ln} {a b : Nat} {u t : Rat} (h : Ahd L a b u) (hut : u ≤ t) (hc : ∀ c, nxt L a b u = some c → t < c) : Ahd L a b t := by
  refine (ahd_same (t := u) (u := t) fun e => ?_).mp h
  by_cases m : u < met (ln L a) (ln L b)
  · have := hc _ (show nxt L a b u = some (met (ln L a) (ln L b)) by unfold nxt; rw [if_pos ⟨e, m⟩])
    constructor
    · intro z; grind
    · intro z; grind
  · constructor
    · intro z; grind
    · intro z; grind
/-- the list that a book tells at a time -/
def orderG (D : List Dd) (t : Rat) : Gs → List RB → List Nat
  | s, [] => s.row
  | s, r :: rs => match timeG D s r with
    | none => s.row
    | some v => if t < v then s.row else orderG D t (doG D s r) rs
theorem fits_time {D : List Dd} {e : Rat} {s : Gs} {r : RB} (h : fitsG D e s r = true) : ∃ v, timeG D s r = some v ∧ v ≤ e ∧ (doG D s r).now = some v ∧ (∀ u, s.now = some u → u ≤ v ∧ (v = u ∨ keepsG D s u v false = true)) ∧ ((∃ p, r = .pass v p ∧ (doG D s r).past = s.past) ∨ ∃ d p, r = .deed p ∧ D[s.past]? = some d ∧ d.t = v ∧ (doG D s r).past = s.past + 1) := by
  have h' := h
  unfold fitsG at h
  cases et : timeG D s r with
  | none => rw [et] at h; cases h
  | some v =>
    rw [et] at h
    simp only [Bool.and_eq_true, Bool.not_eq_true', decide_eq_false_iff_not] at h
    obtain ⟨h1, h2, h3⟩ := h
    refine ⟨v, rfl, Rat.not_lt.mp h1, ?_, fun u hu => ?_, ?_⟩
    · cases r with
      | pass t p => cases et; rfl
      | deed p =>
        unfold timeG at et
        cases ed : D[s.past]? with
        | none => rw [ed] at et; cases et
        | some d => rw [ed] at et; cases et; exact (do_deed ed).1
    · rw [hu] at h2
      simp only [Bool.and_eq_true, Bool.not_eq_true', decide_eq_false_iff_not, Bool.or_eq_true, decide_eq_true_eq] at h2
      exact ⟨Rat.not_lt.mp h2.1, h2.2⟩
    · cases r with
      | pass t p => cases et; exact .inl ⟨p, rfl, rfl⟩
      | deed p =>
        unfold timeG at et
        cases ed : D[s.past]? with
        | none => rw [ed] at et; cases et
        | some d => rw [ed] at et; cases et; exact .inr ⟨d, p, rfl, rfl, rfl, (do_deed ed).2⟩
structure SoFar (D : List Dd) (t : Rat) (s : Gs) : Prop where
  ok : GsOk D s
  done : ∀ d ∈ D.take s.past, d.t ≤ t
  at_ : ∀ u, s.now = some u → u ≤ t
  no : s.now = none → s.row = []
theorem SoFar.start (D : List Dd) (t : Rat) : SoFar D t ⟨[], 0, none⟩ := ⟨GsOk.start D, fun d h => absurd (show d ∈ ([] : List Dd) by rw [List.take_zero] at h; exact h) (by simp), fun _ h => (nomatch h), fun _ => rfl⟩
theorem SoFar.step {D : List Dd} {t e : Rat} {s : Gs} {r : RB} (h : SoFar D t s) (hD : DOk D) (hf : fitsG D e s r = true) (hz : ∀ u p, r = .pass u p → Nz 3000 u) (hv : ∀ v, timeG D s r = some v → v ≤ t) : SoFar D t (doG D s r) := by
  obtain ⟨v, et, _, hn, hk, ho⟩ := fits_time hf
  have hvt := hv v et
  refine ⟨h.ok.step hD hf hz, fun d hd => ?_, fun u hu => by rw [hn] at hu; cases hu; exact hvt, fun z => by rw [hn] at z; cases z⟩
  rcases ho with ⟨p, rfl, hp⟩ | ⟨d0, p, rfl, ed, rfl, hp⟩
  · rw [hp] at hd; exact h.done d hd
  · rw [hp, List.take_add_one, ed] at hd
    rcases List.mem_append.mp hd with hd | hd
    · exact h.done d hd
    · have : d = d0 := by simpa using hd
      subst this
      exact hvt
end DL
/-! The book that the program writes. -/
namespace DL
open PySem PySem.Spec PyProof.Rows L2
/-- till when the two from a place on stand right -/
def tillI (M : Mp) (u : Rat) (row : List Nat) (i : Nat) : Option Rat := if Ahd (LI M) (row.getD (i + 1) 0) (row.getD i 0) u then some u else nxt (LI M) (row.getD i 0) (row.getD (i + 1) 0) u
def accT (f : Nat → Option Rat) (acc : Option (Rat × Nat)) (i : Nat) : Option (Rat × Nat) := match f i with
  | none => acc
  | some c => match acc with
    | none => some (c, i)
    | some x => if c < x.1 then some (c, i) else some x
def nextU (M : Mp) (u : Rat) (row : List Nat) : Option (Rat × Nat) := (List.range (row.length - 1)).foldl (accT (tillI M u row)) none
def nextG (D : List Dd) (s : Gs) : Option (Rat × Nat) := match s.now with
  | none => none
  | some u => nextU (s.M D) u s.row
theorem accT_le {f : Nat → Option Rat} {acc : Option (Rat × Nat)} {i : Nat} : (∀ x, acc = some x → ∃ y, accT f acc i = some y ∧ y.1 ≤ x.1) ∧ (∀ d, f i = some d → ∃ y, accT f acc i = some y ∧ y.1 ≤ d) ∧ (∀ y, accT f acc i = some y → acc = some y ∨ (y.2 = i ∧ f i = some y.1)) := by
  unfold accT
  cases e : f i with
  | none => exact ⟨fun d h => ⟨d, h, Rat.le_refl⟩, fun d h => (nomatch h), fun c h => .inl h⟩
  | some c =>
    cases acc with
    | none => exact ⟨fun d h => (nomatch h), fun d h => ⟨(c, i), rfl, by cases h; exact Rat.le_refl⟩, fun y h => by cases h; exact .inr ⟨rfl, rfl⟩⟩
    | some x =>
      dsimp only
      by_cases hc : c < x.1
      · rw [if_pos hc]
        exact ⟨fun z h => ⟨_, rfl, by cases h; exact Rat.le_of_lt hc⟩, fun z h => ⟨_, rfl, by cases h; exact Rat.le_refl⟩, fun y h => by cases h; exact .inr ⟨rfl, rfl⟩⟩
      · rw [if_neg hc]
        exact ⟨fun z h => ⟨_, rfl, by cases h; exact Rat.le_refl⟩, fun z h => ⟨_, rfl, by cases h; exact Rat.not_lt.mp hc⟩, fun y h => .inl h⟩
theorem foldN {f : Nat → Option Rat} : ∀ (is : List Nat) (acc : Option (Rat × Nat)), (∀ x, acc = some x → ∃ y, is.foldl (accT f) acc = some y ∧ y.1 ≤ x.1) ∧ (∀ i ∈ is, ∀ d, f i = some d → ∃ y, is.foldl (accT f) acc = some y ∧ y.1 ≤ d) ∧ (∀ y, is.foldl (accT f) acc = some y → acc = some y ∨ (y.2 ∈ is ∧ f y.2 = some y.1))
  | [], acc => ⟨fun d h => ⟨d, h, Rat.le_refl⟩, fun p hp => (nomatch hp), fun c h => .inl h⟩
  | i :: is, acc => by
    obtain ⟨i1, i2, i3⟩ := foldN is (accT f acc i)
    obtain ⟨a1, a2, a3⟩ := accT_le (f := f) (acc := acc) (i := i)
    rw [List.foldl_cons]
    refine ⟨fun d h => ?_, fun p hp d h => ?_, fun c h => ?_⟩
    · obtain ⟨c, h1, h2⟩ := a1 d h
      obtain ⟨c', h3, h4⟩ := i1 c h1
      exact ⟨c', h3, Rat.le_trans h4 h2⟩
    · rcases List.mem_cons.mp hp with rfl | hp
      · obtain ⟨c, h1, h2⟩ := a2 d h
        obtain ⟨c', h3, h4⟩ := i1 c h1
        exact ⟨c', h3, Rat.le_trans h4 h2⟩
      · exact i2 p hp d h
    · rcases i3 c h with h | ⟨hp, h⟩
      · rcases a3 c h with h | ⟨h1, h2⟩
        · exact .inl h
        · exact .inr ⟨by rw [h1]; exact List.mem_cons_self .., by rw [h1]; exact h2⟩
      · exact .inr ⟨List.mem_cons_of_mem _ hp, h⟩
theorem next_some {M : Mp} {u c : Rat} {row : List Nat} {p : Nat} (h : nextU M u row = some (c, p)) : p + 1 < row.length ∧ tillI M u row p = some c ∧ ∀ i d, i + 1 < row.length → tillI M u row i = some d → c ≤ d := by
  obtain ⟨_, h2, h3⟩ := foldN (f := tillI M u row) (List.range (row.length - 1)) none
  obtain ⟨k1, k2⟩ := (h3 _ h).resolve_left fun z => nomatch z
  have k1 := List.mem_range.mp k1
  refine ⟨by omega, k2, fun i d hi e => ?_⟩
  obtain ⟨y, e1, e2⟩ := h2 i (List.mem_range.mpr (by omega)) d e
  have e1 : nextU M u row = some y := e1
  rw [h] at e1
  cases e1
  exact e2
theorem till_ge {M : Mp} {u c : Rat} {row : List Nat} {i : Nat} (h : tillI M u row i = some c) : u ≤ c := by
  unfold tillI at h
  split at h
  · cases h; exact Rat.le_refl
  · exact Rat.le_of_lt (nxt_gt h).1
/-- no row is due till a time: what keeps -/
theorem keeps_till {D : List Dd} {s : Gs} {u t : Rat} {cl : Bool} (nd : s.row.Nodup) (hut : u < t ∨ (cl = true ∧ u = t)) (h : ∀ i d, i + 1 < s.row.length → tillI (s.M D) u s.row i = some d → ¬ (d < t ∨ (cl = true ∧ d = t))) : keepsG D s u t cl = true := by
  rw [keeps_iff]
  intro p hp
  obtain ⟨i, hi, rfl⟩ := pairsG_mem hp
  have hn := pairsG_ne nd hp
  have ha : Ahd (LI (s.M D)) (s.row.getD i 0) (s.row.getD (i + 1) 0) u := by
    rcases ahd_total (L := LI (s.M D)) (t := u) hn with z | z
    · exact z
    · exact absurd hut (h i u hi (if_pos z))
  have hno : ¬ Ahd (LI (s.M D)) (s.row.getD (i + 1) 0) (s.row.getD i 0) u := fun z => ahd_asymm z ha
  have key : ∀ c, nxt (LI (s.M D)) (s.row.getD i 0) (s.row.getD (i + 1) 0) u = some c → ¬ (c < t ∨ (cl = true ∧ c = t)) := fun c e => h i c hi (by unfold tillI; rw [if_neg hno]; exact e)
  refine ⟨ha, ?_⟩
  cases cl with
  | false =>
    refine chg_f.mpr fun c e => Rat.not_lt.mp fun z => key c e (.inl z)
  | true =>
    refine chg_t.mpr fun c e => ?_
    have := key c e
    refine Rat.lt_of_le_of_ne (Rat.not_lt.mp fun z => this (.inl z)) fun z => this (.inr ⟨rfl, z.symm⟩)
def mu (M : Mp) (u : Rat) (row : List Nat) : Nat := leftC M u * 401 + invG M u row
theorem mu_le {D : List Dd} {s : Gs} (hs : GsOk D s) (hD : DOk D) (u : Rat) : mu (s.M D) u s.row ≤ 160800 := by
  have h1 := leftC_le (s.M D) u
  have h2 : (s.M D).length ≤ 20 := (hD.take s.past).room
  have h3 : (s.M D).length * (s.M D).length ≤ 20 * 20 := Nat.mul_le_mul h2 h2
  have h4 := inv_le (s.M D) u s.row
  have h5 := hs.len hD
  have h6 : s.row.length * s.row.length ≤ 20 * 20 := Nat.mul_le_mul h5 h5
  have h7 : leftC (s.M D) u * 401 ≤ 400 * 401 := Nat.mul_le_mul (by omega) (Nat.le_refl _)
  unfold mu
  omega
theorem next_do {D : List Dd} {s : Gs} {u c e : Rat} {p : Nat} (hs : GsOk D s) (hD : DOk D) (hu : s.now = some u) (h : nextG D s = some (c, p)) (he : c ≤ e) : u ≤ c ∧ fitsG D e s (.pass c (p : Int)) = true ∧ mu (s.M D) c (swapG s.row p) < mu (s.M D) u s.row ∧ Nz 3000 c := by
  unfold nextG at h
  rw [hu] at h
  dsimp only at h
  obtain ⟨hp, ht, hmin⟩ := next_some h
  have huc := till_ge ht
  have hm1 := hs.mem (row_mem (l := s.row) (i := p) (by omega))
  have hm2 := hs.mem (row_mem (l := s.row) (i := p + 1) hp)
  have hne : s.row.getD p 0 ≠ s.row.getD (p + 1) 0 := pairsG_ne hs.nd (List.mem_of_getElem? (pairsG_get hp))
  have hL : ∀ k ∈ keysM (s.M D), Lz 300 (ln (LI (s.M D)) k) := fun k hk => by
    obtain ⟨l, el, hm⟩ := mget_key hk
    rw [ln_LI hk]
    unfold lnI
    rw [el]
    exact (hD.take s.past).lz _ hm
  by_cases hup : Ahd (LI (s.M D)) (s.row.getD (p + 1) 0) (s.row.getD p 0) u
  · have ec : u = c := by
      unfold tillI at ht
      rw [if_pos hup] at ht
      exact Option.some.inj ht
    subst ec
    have hin : p ∈ upsG (s.M D) s.row u := ups_mem.mpr ⟨hp, hup⟩
    refine ⟨huc, link_pass (.inl hu) he hin, ?_, hs.now u hu⟩
    have := swap_inv hin
    unfold mu
    omega
  · have hn : nxt (LI (s.M D)) (s.row.getD p 0) (s.row.getD (p + 1) 0) u = some c := by
      unfold tillI at ht
      rw [if_neg hup] at ht
      exact ht
    have hlt := (nxt_gt hn).1
    have ha : Ahd (LI (s.M D)) (s.row.getD p 0) (s.row.getD (p + 1) 0) u := (ahd_total hne).resolve_right hup
    have hin : p ∈ upsG (s.M D) s.row c := ups_mem.mpr ⟨hp, change_up hn ha⟩
    have hk : keepsG D s u c false = true := keeps_till hs.nd (.inl hlt) fun i d hi ed => by
      have := hmin i d hi ed
      rintro (z | ⟨z, _⟩)
      · exact absurd z (Rat.not_lt.mpr this)
      · cases z
    refine ⟨huc, link_pass (.inr ⟨u, hu, hlt, hk⟩) he hin, ?_, ?_⟩
    · have h1 := leftC_lt hm1 hm2 hn
      have h4 := inv_le (s.M D) c (swapG s.row p)
      rw [swap_len hp] at h4
      have h5 := hs.len hD
      have h6 : s.row.length * s.row.length ≤ 20 * 20 := Nat.mul_le_mul h5 h5
      unfold mu
      omega
    · obtain ⟨_, e1, e2⟩ := nxt_gt hn
      rw [e2]
      exact ((hL _ hm1).met (hL _ hm2) e1).le (by decide)
def goesOn (t : Rat) (cl : Bool) (c : Rat) : Bool := decide (c < t) || (cl && decide (c = t))
theorem goes_iff {t c : Rat} {cl : Bool} : goesOn t cl c = true ↔ (c < t ∨ (cl = true ∧ c = t)) := by
  unfold goesOn
  simp
def passF (D : List Dd) (t : Rat) (cl : Bool) : Nat → Gs → List RB × Gs
  | 0, s => ([], s)
  | n + 1, s => match nextG D s with
    | none => ([], s)
    | some x => if goesOn t cl x.1 then (.pass x.1 (x.2 : Int) :: (passF D t cl n (doG D s (.pass x.1 (x.2 : Int)))).1, (passF D t cl n (doG D s (.pass x.1 (x.2 : Int)))).2) else ([], s)
/-- no pass is due -/
def Stop (D : List Dd) (t : Rat) (cl : Bool) (s : Gs) : Prop := ∀ x, nextG D s = some x → goesOn t cl x.1 = false
theorem pass_stop {D : List Dd} {t : Rat} {cl : Bool} {s : Gs} (h : Stop D t cl s) : ∀ n, passF D t cl n s = ([], s)
  | 0 => rfl
  | n + 1 => by
    unfold passF
    cases e : nextG D s with
    | none => rfl
    | some x =>
      dsimp only
      rw [h x e, if_neg Bool.false_ne_true]
structure Passed (D : List Dd) (e t : Rat) (cl : Bool) (s : Gs) (B : List RB) (s' : Gs) : Prop where
  run : Runs D e s B s'
  ok : GsOk D s'
  past : s'.past = s.past
  stop : Stop D t cl s'
  now : ∀ u, s.now = some u → ∃ u', s'.now = some u' ∧ u' ≤ t
  no : s.now = none → s' = s
  bt : ∀ t p, RB.pass t p ∈ B → Nz 3000 t
  len : B.length ≤ 160800
theorem pass_ok {D : List Dd} {e t : Rat} {cl : Bool} (hD : DOk D) (hte : t ≤ e) : ∀ (n : Nat) (s : Gs) (u : Rat), GsOk D s → s.now = some u → u ≤ t → mu (s.M D) u s.row < n →
    Runs D e s (passF D t cl n s).1 (passF D t cl n s).2 ∧ GsOk D (passF D t cl n s).2 ∧ (passF D t cl n s).2.past = s.past ∧ Stop D t cl (passF D t cl n s).2 ∧ (∃ u', (passF D t cl n s).2.now = some u' ∧ u' ≤ t) ∧ (∀ t' p, RB.pass t' p ∈ (passF D t cl n s).1 → Nz 3000 t') ∧ (passF D t cl n s).1.length ≤ mu (s.M D) u s.row
  | 0, s, u, hs, hu, hut, hm => by omega
  | n + 1, s, u, hs, hu, hut, hm => by
    unfold passF
    cases ex : nextG D s with
    | none =>
      exact ⟨.nil _, hs, rfl, (show Stop D t cl s from fun x h => (by rw [ex] at h; cases h)), ⟨u, hu, hut⟩, fun _ _ h => (nomatch h), Nat.zero_le _⟩
    | some x =>
      obtain ⟨c, p⟩ := x
      dsimp only
      by_cases hg : goesOn t cl c = true
      · rw [if_pos hg]
        have hct : c ≤ t := by
          rcases goes_iff.mp hg with z | ⟨_, z⟩
          · exact Rat.le_of_lt z
          · rw [z]; exact Rat.le_refl
        obtain ⟨k1, k2, k3, k4⟩ := next_do hs hD hu ex (Rat.le_trans hct hte)
        have hz : ∀ t' p', RB.pass c (p : Int) = .pass t' p' → Nz 3000 t' := fun t' p' z => by cases z; exact k4
        have hs2 := hs.step hD k2 hz
        have hd : doG D s (.pass c (p : Int)) = ⟨swapG s.row p, s.past, some c⟩ := do_pass
        have hM : (doG D s (.pass c (p : Int))).M D = s.M D := M_past (by rw [hd])
        have hmu : mu ((doG D s (.pass c (p : Int))).M D) c (doG D s (.pass c (p : Int))).row < mu (s.M D) u s.row := by rw [hM, hd]; exact k3
        obtain ⟨r1, r2, r3, r4, r5, r6, r7⟩ := pass_ok (cl := cl) hD hte n (doG D s (.pass c (p : Int))) c hs2 (by rw [hd]) hct (by omega)
        refine ⟨.cons k2 r1, r2, r3.trans (by rw [hd]), r4, r5, fun t' p' h => ?_, by rw [List.length_cons]; omega⟩
        rcases List.mem_cons.mp h with h | h
        · exact hz _ _ h.symm
        · exact r6 _ _ h
      · rw [if_neg hg]
        exact ⟨.nil _, hs, rfl, (show Stop D t cl s from fun x h => (by rw [ex] at h; cases h; simpa using hg)), ⟨u, hu, hut⟩, fun _ _ h => (nomatch h), Nat.zero_le _⟩
theorem passed {D : List Dd} {e t : Rat} {cl : Bool} {s : Gs} (hD : DOk D) (hte : t ≤ e) (hs : GsOk D s) (hu : ∀ u, s.now = some u → u ≤ t) : Passed D e t cl s (passF D t cl 200000 s).1 (passF D t cl 200000 s).2 := by
  cases eu : s.now with
  | none =>
    have hst : Stop D t cl s := fun x h => by unfold nextG at h; rw [eu] at h; cases h
    rw [pass_stop hst]
    exact ⟨.nil _, hs, rfl, hst, fun u z => (by rw [eu] at z; cases z), fun _ => rfl, fun _ _ h => (nomatch h), Nat.zero_le _⟩
  | some u =>
    have hb := mu_le hs hD u
    obtain ⟨r1, r2, r3, r4, r5, r6, r7⟩ := pass_ok (cl := cl) hD hte 200000 s u hs eu (hu u eu) (by omega)
    exact ⟨r1, r2, r3, r4, fun _ _ => r5, fun z => (by rw [eu] at z; cases z), r6, by omega⟩
theorem stop_link {D : List Dd} {t u : Rat} {s : Gs} (hs : GsOk D s) (h : Stop D t false s) (hu : s.now = some u) (hut : u ≤ t) : Link D s t := by
  by_cases e : u = t
  · subst e; exact .inl hu
  · refine .inr ⟨u, hu, Rat.lt_of_le_of_ne hut e, keeps_till hs.nd (.inl (Rat.lt_of_le_of_ne hut e)) fun i d hi ed => ?_⟩
    rintro (z | ⟨z, _⟩)
    · have hx : ∃ x, nextG D s = some x ∧ x.1 ≤ d := by
        unfold nextG
        rw [hu]
        exact (foldN (f := tillI (s.M D) u s.row) (List.range (s.row.length - 1)) none).2.1 i (List.mem_range.mpr (by omega)) d ed
      obtain ⟨x, h1, h2⟩ := hx
      have h3 := h x h1
      have : goesOn t false x.1 = true := goes_iff.mpr (.inl (by grind))
      rw [h3] at this
      cases this
    · cases z
/-- where a join goes -/
def placeJ (D : List Dd) (s : Gs) (t : Rat) (l : Ln) : Nat := (s.row.filter fun k => decide (Ahd (LI (s.K D ++ [(s.J D, l)])) k (s.J D) t)).length
def placeP (D : List Dd) (s : Gs) : Dd → Nat
  | .join t p m => placeJ D s t (p - m * t, m)
  | .leave _ r => s.row.idxOf r
  | .turn _ r _ => s.row.idxOf r
theorem place_ok {D : List Dd} {s : Gs} {d : Dd} (hD : DOk D) (hs : GsOk D s) (ed : D[s.past]? = some d) : placeG D s (.deed (placeP D s d : Nat)) = true := by
  have hh := (hD.at ed).2
  unfold placeG
  simp only [ed]
  have idx : ∀ k, k ∈ keysM (s.M D) → (decide (0 ≤ ((s.row.idxOf k : Nat) : Int)) && (decide (((s.row.idxOf k : Nat) : Int) < (s.row.length : Int)) && decide (nthR s.row ((s.row.idxOf k : Nat) : Int) = k))) = true := fun k hk => by
    have hm := hs.perm.mem_iff.mpr hk
    have hl := List.idxOf_lt_length_of_mem hm
    rw [decide_eq_true (by omega), decide_eq_true (by omega), decide_eq_true]
    · rfl
    · unfold nthR
      rw [Int.toNat_natCast, List.getD_eq_getElem?_getD, List.getElem?_eq_getElem hl, List.getElem_idxOf hl]
      rfl
  cases d with
  | join t p m =>
    have : placeP D s (.join t p m) ≤ s.row.length := List.length_filter_le _ _
    show (decide _ && decide _) = true
    rw [decide_eq_true (by omega), decide_eq_true (by omega)]
    rfl
  | leave t k => exact idx k hh
  | turn t k m => exact idx k hh
/-- the deeds, each with the passes ahead of it -/
def deedF (D : List Dd) (x : List RB × Gs) (d : Dd) : List RB × Gs :=
  (x.1 ++ (passF D d.t false 200000 x.2).1 ++ [.deed (placeP D (passF D d.t false 200000 x.2).2 d : Nat)], doG D (passF D d.t false 200000 x.2).2 (.deed (placeP D (passF D d.t false 200000 x.2).2 d : Nat)))
def deedsF (D done : List Dd) : List RB × Gs := done.foldl (deedF D) ([], ⟨[], 0, none⟩)
def bookF (D : List Dd) (e : Rat) : List RB := (deedsF D D).1 ++ (passF D e true 200000 (deedsF D D).2).1
structure Deeds (D : List Dd) (e : Rat) (done : List Dd) (B : List RB) (s : Gs) : Prop where
  run : Runs D e ⟨[], 0, none⟩ B s
  ok : GsOk D s
  past : s.past = done.length
  now : ∀ u, s.now = some u → ∃ d ∈ done, d.t = u
  no : s.now = none → done = [] ∧ s.row = []
  bt : ∀ t p, RB.pass t p ∈ B → Nz 3000 t
  len : B.length ≤ 160801 * done.length
theorem Deeds.start (D : List Dd) (e : Rat) : Deeds D e [] [] ⟨[], 0, none⟩ := ⟨.nil _, GsOk.start D, rfl, fun _ h => (nomatch h), fun _ => ⟨rfl, rfl⟩, fun _ _ h => (nomatch h), Nat.zero_le _⟩
theorem Deeds.step {D done rest : List Dd} {e : Rat} {d : Dd} {B : List RB} {s : Gs} (hD : DOk D) (eD : done ++ d :: rest = D) (he : d.t ≤ e) (h : Deeds D e done B s) : Passed D e d.t false s (passF D d.t false 200000 s).1 (passF D d.t false 200000 s).2 ∧ D[(passF D d.t false 200000 s).2.past]? = some d ∧ fitsG D e (passF D d.t false 200000 s).2 (.deed (placeP D (passF D d.t false 200000 s).2 d : Nat)) = true ∧ Deeds D e (done ++ [d]) (deedF D (B, s) d).1 (deedF D (B, s) d).2 := by
  obtain ⟨hsm, _, hle, _⟩ := hD.ok done d rest eD.symm
  have hp : Passed D e d.t false s (passF D d.t false 200000 s).1 (passF D d.t false 200000 s).2 := passed hD he h.ok fun u hu => by
    obtain ⟨x, hx, rfl⟩ := h.now u hu
    exact hle x hx
  have ed : D[(passF D d.t false 200000 s).2.past]? = some d := by
    rw [hp.past, h.past, ← eD, List.getElem?_append_right (Nat.le_refl _), Nat.sub_self]
    rfl
  have hpl := place_ok hD hp.ok ed
  have hfit : fitsG D e (passF D d.t false 200000 s).2 (.deed (placeP D (passF D d.t false 200000 s).2 d : Nat)) = true := by
    refine deed_fits ed hpl he ?_
    cases eu : s.now with
    | none => rw [hp.no eu]; exact .inl eu
    | some u =>
      obtain ⟨u', h1, h2⟩ := hp.now u eu
      exact .inr (stop_link hp.ok hp.stop h1 h2)
  refine ⟨hp, ed, hfit, ?_⟩
  obtain ⟨n1, n2⟩ := do_deed (p := (placeP D (passF D d.t false 200000 s).2 d : Nat)) ed
  have hok := hp.ok.step hD hfit fun t p z => (nomatch z)
  unfold deedF
  dsimp only
  refine ⟨(h.run.trans hp.run).snoc hfit, hok, by rw [n2, hp.past, h.past, List.length_append]; rfl, fun u hu => ?_, fun z => (by rw [n1] at z; cases z), fun t p hm => ?_, ?_⟩
  · rw [n1] at hu
    cases hu
    exact ⟨d, by simp, rfl⟩
  · rcases List.mem_append.mp hm with hm | hm
    · rcases List.mem_append.mp hm with hm | hm
      · exact h.bt t p hm
      · exact hp.bt t p hm
    · cases List.mem_singleton.mp hm
  · have h1 := h.len
    have h2 := hp.len
    simp only [List.length_append, List.length_cons, List.length_nil]
    omega
theorem till_nz {D : List Dd} {s : Gs} {u c : Rat} {i : Nat} (hs : GsOk D s) (hD : DOk D) (hu : s.now = some u) (hi : i + 1 < s.row.length) (h : tillI (s.M D) u s.row i = some c) : Nz 3000 c := by
  unfold tillI at h
  split at h
  · cases h; exact hs.now u hu
  · have hL : ∀ k ∈ keysM (s.M D), Lz 300 (ln (LI (s.M D)) k) := fun k hk => by
      obtain ⟨l, el, hm⟩ := mget_key hk
      rw [ln_LI hk]
      unfold lnI
      rw [el]
      exact (hD.take s.past).lz _ hm
    obtain ⟨_, e1, e2⟩ := nxt_gt h
    rw [e2]
    exact ((hL _ (hs.mem (row_mem (by omega)))).met (hL _ (hs.mem (row_mem hi))) e1).le (by decide)
end DL
/-! A dict written out: texts for keys, whole numbers for values. -/
namespace DL
open PySem PySem.Spec PyProof.Rows L2
def litD (kv : List (Str × Int)) : List (Key × D) := kv.foldl (fun acc x => dput acc (.inr x.1) (.int x.2)) []
def uDLit (kv : List (Str × Int)) : TE2 := fun _ S Q => ∀ p, S p = none → Q (.ref p) (ups S p (.dic (litD kv)))
end DL
/-! Dicts whose keys are pairs of pairs of whole numbers. -/
namespace DL
open PySem PySem.Spec PyProof.Rows L2
def nkP (k : PK) : NestedKey := .tup [.tup [.num k.1.1, .num k.1.2], .tup [.num k.2.1, .num k.2.2]]
theorem nkP_inj {a b : PK} (h : nkP a = nkP b) : a = b := by
  obtain ⟨⟨a1, a2⟩, ⟨a3, a4⟩⟩ := a
  obtain ⟨⟨b1, b2⟩, ⟨b3, b4⟩⟩ := b
  simp [nkP] at h
  obtain ⟨⟨h1, h2⟩, h3, h4⟩ := h
  rw [h1, h2, h3, h4]
theorem nkP_hash (w : World) (k : PK) : (nkP k).hash w = hP k := by
  simp [nkP, hP, NestedKey.hash, NestedKey.hashes]
theorem nkP_dec (a b : PK) : decide (nkP a = nkP b) = decide (a = b) := decide_eq_decide.mpr ⟨nkP_inj, fun e => by rw [e]⟩
section
variable {X : Cx} {pins : List (Addr × Obj)} {σ : L2.St} {H : Hp} {s : Shared} {a b : Addr} {k : PK} {xs : List (PK × Addr)} {A : Around} {E : Value → Shared → Prop}
theorem pair_in {p : Addr} {i j : Int} (I : Inv X pins σ H s) (h : Dv X.K H (.tup [.int i, .int j]) (.ref p)) : NestedIs s.heap (.tup [.num i, .num j]) (.ref p) := by
  cases h with
  | tup h1 h2 =>
    obtain ⟨its, r, ⟨o, e, c, n, d⟩, _⟩ := I.tuple h1
    cases h2 with
    | cons d1 h2 =>
      cases d1
      cases h2 with
      | cons d2 h2 =>
        cases d2
        cases h2
        cases r with
        | cons r1 r =>
          cases r with
          | cons r2 r =>
            cases r
            obtain ⟨t1, rfl⟩ := r1
            obtain ⟨t2, rfl⟩ := r2
            exact .tup e c d (.cons (.int _ _) (.cons (.int _ _) .nil))
theorem key_in (I : Inv X pins σ H s) (h : Dv X.K H (ePK k) (.ref b)) : (nestedKind X.prog X.w).is s.heap (nkP k) b := by
  refine ⟨?_, by show NestedKey.depth (nkP k) ≤ 8; simp [nkP, NestedKey.depth, NestedKey.depthAll]⟩
  unfold ePK at h
  cases h with
  | tup h1 h2 =>
    obtain ⟨its, r, ⟨o, e, c, n, d⟩, _⟩ := I.tuple h1
    cases h2 with
    | @cons _ v1 _ _ d1 h2 =>
      cases h2 with
      | @cons _ v2 _ _ d2 h2 =>
        cases h2
        cases r with
        | cons r1 r =>
          cases r with
          | cons r2 r =>
            cases r
            cases d1 with
            | tup a1 a2 =>
              cases d2 with
              | tup b1 b2 =>
                cases r1
                cases r2
                exact .tup e c d (.cons (pair_in I (.tup a1 a2)) (.cons (pair_in I (.tup b1 b2)) .nil))
end
def uDNewN : TE2 := fun _ S Q => ∀ p, S p = none → Q (.ref p) (ups S p (.ndc []))
section
variable {X : Cx} {k : Nat} {pos p2 apos cpos p : Pos} {a b o e i : Expr} {ta tb to ti td ty : TE2}
/-! d[k] = True, k new -/
def setNQ (d : D) (o i : D) (S : Sto) (R : Sto → Prop) : Prop := ∃ a ks k, o = .ref a ∧ S a = some (.ndc ks) ∧ i = ePK k ∧ d = .bl true ∧ k ∉ ks ∧ ks.length < 1000 ∧ R (ups S a (.ndc (ks ++ [k])))
def vDSubN (to ti : TE2) : TG2 := fun d τ S Q => to τ S fun o S1 => ti τ S1 fun i S2 => setNQ d o i S2 fun S3 => Q τ S3
/-! d.pop(k), k there -/
def uDPopN (td ty : TE2) : TE2 := fun τ S Q => td τ S fun x S1 => ∃ a ks0, x = .ref a ∧ S1 a = some (.ndc ks0) ∧ ty τ S1 fun y S2 => ∃ ks k, S2 a = some (.ndc ks) ∧ y = ePK k ∧ k ∈ ks ∧ Q (.bl true) (ups S2 a (.ndc (ks.filter fun x => decide (x ≠ k))))
end
/-! t < u of two tuples of whole numbers -/
def rLtT2 : R22 := fun d e S Q => ∃ ns ms : List Int, d = .tup (ns.map D.int) ∧ e = .tup (ms.map D.int) ∧ Q (.bl (HT.lexLt ns ms)) S
theorem z_ltT2 {a b c d : Int} {S : Sto} {Q : VK2} : rLtT2 (.tup [.int a, .int b]) (.tup [.int c, .int d]) S Q = Q (.bl (decide (a < c ∨ (a = c ∧ b < d)))) S := by
  have e : HT.lexLt [a, b] [c, d] = decide (a < c ∨ (a = c ∧ b < d)) := by
    unfold HT.lexLt HT.lexLt HT.lexLt
    by_cases h : a = c
    · subst h
      rw [if_pos rfl]
      by_cases h2 : b = d
      · subst h2
        rw [if_pos rfl]
        simp
      · rw [if_neg h2]
        refine decide_eq_decide.mpr ⟨fun z => .inr ⟨rfl, z⟩, fun z => ?_⟩
        rcases z with z | z
        · omega
        · exact z.2
    · rw [if_neg h]
      refine decide_eq_decide.mpr ⟨fun z => .inl z, fun z => ?_⟩
      rcases z with z | z
      · exact z
      · exact absurd z.1 h
  refine propext ⟨fun h => ?_, fun h => ⟨[a, b], [c, d], rfl, rfl, by rw [e]; exact h⟩⟩
  obtain ⟨ns, ms, h1, h2, h3⟩ := h
  have inj : ∀ {xs ys : List Int}, xs.map D.int = ys.map D.int → xs = ys := fun {xs ys} z => (List.map_inj_right (fun _ _ q => by injection q)).mp z
  have h1 : [a, b].map D.int = ns.map D.int := by injection h1
  have h2 : [c, d].map D.int = ms.map D.int := by injection h2
  rw [← inj h1, ← inj h2, e] at h3
  exact h3
end DL
/-! Pairs that wait: shapes. -/
namespace DL
open PySem PySem.Spec PyProof.Rows L2
/-- a time and a key -/
abbrev Wp := Rat × Int × Int
def eWp (p : Wp) : D := .tup [eQ p.1, .tup [.int p.2.1, .int p.2.2]]
def pkP (p : Wp) : PK := ((p.1.num, (p.1.den : Int)), p.2)
theorem q_ext {a b : Rat} (h1 : a.num = b.num) (h2 : (a.den : Int) = (b.den : Int)) : a = b := Rat.ext h1 (by exact_mod_cast h2)
theorem pkP_inj {a b : Wp} (h : pkP a = pkP b) : a = b := by
  obtain ⟨a1, a2⟩ := a
  obtain ⟨b1, b2⟩ := b
  unfold pkP at h
  obtain ⟨h1, h2⟩ := Prod.mk.inj h
  obtain ⟨h3, h4⟩ := Prod.mk.inj h1
  have h2 : a2 = b2 := h2
  exact Prod.ext (q_ext h3 h4) h2
def prLt (p q : Wp) : Prop := p.1 < q.1 ∨ (p.1 = q.1 ∧ (p.2.1 < q.2.1 ∨ (p.2.1 = q.2.1 ∧ p.2.2 < q.2.2)))
instance (p q : Wp) : Decidable (prLt p q) := by unfold prLt; infer_instance
theorem prLt_irr (p : Wp) : ¬ prLt p p := by unfold prLt; grind
theorem prLt_trans {p q r : Wp} (h : prLt p q) (k : prLt q r) : prLt p r := by unfold prLt at *; grind
theorem prLt_asymm {p q : Wp} (h : prLt p q) (k : prLt q p) : False := prLt_irr p (prLt_trans h k)
theorem prLt_total {p q : Wp} (h : p ≠ q) : prLt p q ∨ prLt q p := by
  obtain ⟨a, b, c⟩ := p
  obtain ⟨d, e, f⟩ := q
  unfold prLt
  dsimp only
  by_cases h1 : a = d
  · by_cases h2 : b = e
    · by_cases h3 : c = f
      · exact absurd (by rw [h1, h2, h3]) h
      · rcases Int.lt_or_gt_of_ne h3 with z | z
        · exact .inl (.inr ⟨h1, .inr ⟨h2, z⟩⟩)
        · exact .inr (.inr ⟨h1.symm, .inr ⟨h2.symm, z⟩⟩)
    · rcases Int.lt_or_gt_of_ne h2 with z | z
      · exact .inl (.inr ⟨h1, .inl z⟩)
      · exact .inr (.inr ⟨h1.symm, .inl z⟩)
  · grind
/-- not later -/
def prLe (p q : Wp) : Prop := ¬ prLt q p
theorem prLe_trans {p q r : Wp} (h : prLe p q) (k : prLe q r) : prLe p r := fun z => by
  by_cases e : p = q
  · subst e; exact k z
  · rcases prLt_total e with h1 | h1
    · by_cases e2 : q = r
      · subst e2; exact h z
      · rcases prLt_total e2 with h2 | h2
        · exact prLt_asymm (prLt_trans h1 h2) z
        · exact k h2
    · exact h h1
theorem prLe_of {p q : Wp} (h : prLt p q) : prLe p q := fun z => prLt_asymm h z
theorem prLe_refl (p : Wp) : prLe p p := prLt_irr p
inductive Sh where
  | nil | node (p : Wp) (l r : Sh)
def eSh : Sh → D
  | .nil => .non
  | .node p l r => .tup [eWp p, eSh l, eSh r]
namespace Sh
def rw : Sh → Nat
  | .nil => 0
  | .node _ _ r => 1 + rw r
def size : Sh → Nat
  | .nil => 0
  | .node _ l r => size l + size r + 1
def toL : Sh → List Wp
  | .nil => []
  | .node p l r => p :: (toL l ++ toL r)
/-- the longer way on the left -/
def Lft : Sh → Prop
  | .nil => True
  | .node _ l r => Lft l ∧ Lft r ∧ rw r ≤ rw l
/-- none beneath is ahead -/
def Hp : Sh → Prop
  | .nil => True
  | .node p l r => Hp l ∧ Hp r ∧ ∀ q ∈ toL l ++ toL r, prLe p q
def laid (p : Wp) (a b : Sh) : Sh := if rw a < rw b then .node p b a else .node p a b
theorem toL_len : ∀ s : Sh, (toL s).length = size s
  | .nil => rfl
  | .node p l r => by unfold toL size; rw [List.length_cons, List.length_append, toL_len l, toL_len r]
theorem laid_perm (p : Wp) (a b : Sh) : (toL (laid p a b)).Perm (p :: (toL a ++ toL b)) := by
  unfold laid
  split
  · exact List.Perm.cons _ List.perm_append_comm
  · exact .refl _
theorem laid_lft {p : Wp} {a b : Sh} (ha : Lft a) (hb : Lft b) : Lft (laid p a b) := by
  unfold laid
  split
  · next h => exact ⟨hb, ha, Nat.le_of_lt h⟩
  · next h => exact ⟨ha, hb, Nat.not_lt.mp h⟩
theorem laid_hp {p : Wp} {a b : Sh} (ha : Hp a) (hb : Hp b) (h : ∀ q ∈ toL a ++ toL b, prLe p q) : Hp (laid p a b) := by
  unfold laid
  split
  · exact ⟨hb, ha, fun q hq => h q (List.perm_append_comm.mem_iff.mp hq)⟩
  · exact ⟨ha, hb, h⟩
def merged : Sh → Sh → Sh
  | .nil, b => b
  | .node p l r, .nil => .node p l r
  | .node p l r, .node q m s => if prLt q p then laid q m (merged s (.node p l r)) else laid p l (merged r (.node q m s))
termination_by a b => size a + size b
decreasing_by all_goals (simp only [size]; omega)
theorem merged_perm : ∀ a b : Sh, (toL (merged a b)).Perm (toL a ++ toL b)
  | .nil, b => by unfold merged; exact .refl _
  | .node p l r, .nil => by unfold merged; rw [show toL .nil = [] from rfl, List.append_nil]
  | .node p l r, .node q m s => by
    unfold merged
    split
    · refine (laid_perm _ _ _).trans ?_
      have ih := merged_perm s (.node p l r)
      have : toL (.node q m s) = q :: (toL m ++ toL s) := rfl
      rw [this]
      refine (List.Perm.cons q (List.Perm.append_left _ ih)).trans ?_
      rw [← List.append_assoc]
      exact (List.perm_append_comm (l₁ := q :: (toL m ++ toL s)) (l₂ := toL (.node p l r)))
    · refine (laid_perm _ _ _).trans ?_
      have ih := merged_perm r (.node q m s)
      have : toL (.node p l r) = p :: (toL l ++ toL r) := rfl
      rw [this]
      refine (List.Perm.cons p (List.Perm.append_left _ ih)).trans ?_
      rw [← List.append_assoc]
      exact .refl _
termination_by a b => size a + size b
decreasing_by all_goals (simp only [size]; omega)
theorem merged_size (a b : Sh) : size (merged a b) = size a + size b := by
  have := (merged_perm a b).length_eq
  rw [toL_len, List.length_append, toL_len, toL_len] at this
  exact this
theorem merged_lft : ∀ a b : Sh, Lft a → Lft b → Lft (merged a b)
  | .nil, b, _, hb => by unfold merged; exact hb
  | .node p l r, .nil, ha, _ => by unfold merged; exact ha
  | .node p l r, .node q m s, ha, hb => by
    unfold merged
    split
    · exact laid_lft hb.1 (merged_lft s _ hb.2.1 ha)
    · exact laid_lft ha.1 (merged_lft r _ ha.2.1 hb)
termination_by a b => size a + size b
decreasing_by all_goals (simp only [size]; omega)
theorem hp_all {p : Wp} {l r : Sh} (h : Hp (.node p l r)) : ∀ q ∈ toL (.node p l r), prLe p q := fun q hq => by
  rcases List.mem_cons.mp hq with rfl | hq
  · exact prLe_refl _
  · exact h.2.2 q hq
theorem merged_hp : ∀ a b : Sh, Hp a → Hp b → Hp (merged a b)
  | .nil, b, _, hb => by unfold merged; exact hb
  | .node p l r, .nil, ha, _ => by unfold merged; exact ha
  | .node p l r, .node q m s, ha, hb => by
    unfold merged
    split
    · next h =>
      refine laid_hp hb.1 (merged_hp s _ hb.2.1 ha) fun x hx => ?_
      rcases List.mem_append.mp hx with hx | hx
      · exact hb.2.2 x (List.mem_append_left _ hx)
      · rcases List.mem_append.mp ((merged_perm _ _).mem_iff.mp hx) with hx | hx
        · exact hb.2.2 x (List.mem_append_right _ hx)
        · exact prLe_trans (prLe_of h) (hp_all ha x hx)
    · next h =>
      refine laid_hp ha.1 (merged_hp r _ ha.2.1 hb) fun x hx => ?_
      rcases List.mem_append.mp hx with hx | hx
      · exact ha.2.2 x (List.mem_append_left _ hx)
      · rcases List.mem_append.mp ((merged_perm _ _).mem_iff.mp hx) with hx | hx
        · exact ha.2.2 x (List.mem_append_right _ hx)
        · exact prLe_trans h (hp_all hb x hx)
termination_by a b => size a + size b
decreasing_by all_goals (simp only [size]; omega)
def without (p : Wp) : Sh → Sh
  | .nil => .nil
  | .node q l r => if prLt p q then .node q l r else if q = p then merged l r else laid q (without p l) (without p r)
theorem without_lft (p : Wp) : ∀ s : Sh, Lft s → Lft (without p s)
  | .nil, _ => trivial
  | .node q l r, h => by
    unfold without
    split
    · exact h
    · split
      · exact merged_lft _ _ h.1 h.2.1
      · exact laid_lft (without_lft p l h.1) (without_lft p r h.2.1)
theorem without_mem (p : Wp) : ∀ s : Sh, ∀ x ∈ toL (without p s), x ∈ toL s
  | .nil, x, h => h
  | .node q l r, x, h => by
    unfold without at h
    split at h
    · exact h
    · split at h
      · exact List.mem_cons_of_mem _ ((merged_perm l r).mem_iff.mp h)
      · rcases List.mem_cons.mp ((laid_perm _ _ _).mem_iff.mp h) with rfl | h
        · exact List.mem_cons_self ..
        · rcases List.mem_append.mp h with h | h
          · exact List.mem_cons_of_mem _ (List.mem_append_left _ (without_mem p l x h))
          · exact List.mem_cons_of_mem _ (List.mem_append_right _ (without_mem p r x h))
theorem without_hp (p : Wp) : ∀ s : Sh, Hp s → Hp (without p s)
  | .nil, _ => trivial
  | .node q l r, h => by
    unfold without
    split
    · exact h
    · split
      · exact merged_hp _ _ h.1 h.2.1
      · refine laid_hp (without_hp p l h.1) (without_hp p r h.2.1) fun x hx => h.2.2 x ?_
        rcases List.mem_append.mp hx with hx | hx
        · exact List.mem_append_left _ (without_mem p l x hx)
        · exact List.mem_append_right _ (without_mem p r x hx)
theorem filter_self {l : List Wp} {p : Wp} (h : p ∉ l) : l.filter (fun x => decide (x ≠ p)) = l := List.filter_eq_self.mpr fun x hx => by
  have : x ≠ p := fun z => h (z ▸ hx)
  simpa using this
/-- without tells all but the one -/
theorem without_perm (p : Wp) : ∀ s : Sh, Hp s → (toL s).Nodup → (toL (without p s)).Perm ((toL s).filter fun x => decide (x ≠ p))
  | .nil, _, _ => .refl _
  | .node q l r, h, nd => by
    have nd' : (q :: (toL l ++ toL r)).Nodup := nd
    obtain ⟨n1, n2⟩ := List.nodup_cons.mp nd'
    obtain ⟨n3, n4, n5⟩ := List.nodup_append.mp n2
    have e : toL (.node q l r) = q :: (toL l ++ toL r) := rfl
    unfold without
    split
    · next hlt =>
      rw [filter_self]
      intro hm
      exact hp_all h p hm hlt
    · split
      · next _ he =>
        subst he
        rw [e, List.filter_cons, if_neg (by simp), filter_self n1]
        exact merged_perm l r
      · next _ he =>
        rw [e, List.filter_cons, if_pos (by simpa using he), List.filter_append]
        exact (laid_perm _ _ _).trans (List.Perm.cons _ ((without_perm p l h.1 n3).append (without_perm p r h.2.1 n4)))
/-- all pairs, the least first -/
def drain : Nat → Sh → List Wp
  | _, .nil => []
  | 0, _ => []
  | n + 1, .node p l r => p :: drain n (merged l r)
theorem drain_sorted : ∀ (n : Nat) (s : Sh), Hp s → (drain n s).Pairwise prLe ∧ ∀ x ∈ drain n s, x ∈ toL s
  | 0, .nil, _ => ⟨.nil, fun _ h => (nomatch h)⟩
  | 0, .node _ _ _, _ => ⟨.nil, fun _ h => (nomatch h)⟩
  | n + 1, .nil, _ => ⟨.nil, fun _ h => (nomatch h)⟩
  | n + 1, .node p l r, h => by
    obtain ⟨h1, h2⟩ := drain_sorted n (merged l r) (merged_hp l r h.1 h.2.1)
    have h3 : ∀ x ∈ drain n (merged l r), x ∈ toL l ++ toL r := fun x hx => (merged_perm l r).mem_iff.mp (h2 x hx)
    refine ⟨List.pairwise_cons.mpr ⟨fun x hx => h.2.2 x (h3 x hx), h1⟩, fun x hx => ?_⟩
    rcases List.mem_cons.mp hx with rfl | hx
    · exact List.mem_cons_self ..
    · exact List.mem_cons_of_mem _ (h3 x hx)
theorem drain_perm : ∀ (n : Nat) (s : Sh), size s ≤ n → (drain n s).Perm (toL s)
  | 0, .nil, _ => .refl _
  | 0, .node _ _ _, h => by unfold size at h; omega
  | n + 1, .nil, _ => .refl _
  | n + 1, .node p l r, h => by
    have hs := merged_size l r
    have h' : size l + size r + 1 ≤ n + 1 := h
    exact List.Perm.cons _ ((drain_perm n (merged l r) (by omega)).trans (merged_perm l r))
end Sh
end DL
namespace DL
open PySem PySem.Spec PyProof.Rows L2
end DL
namespace DL
open PySem PySem.Spec PyProof.Rows L2
/-- a Waiting stands at w, its dict at d -/
structure WtAt (k : Kls) (S : Sto) (w d : Addr) (sh : Sh) (ks : List PK) : Prop where
  ob : S w = some (.ins k [eSh sh, .ref d])
  hd : S d = some (.ndc ks)
theorem WtAt.sub {k : Kls} {S S' : Sto} {w d : Addr} {sh : Sh} {ks : List PK} (h : WtAt k S w d sh ks) (s : Sub S S') : WtAt k S' w d sh ks := ⟨s _ _ h.ob, s _ _ h.hd⟩
structure WtOk (sh : Sh) (ks : List PK) : Prop where
  lft : sh.Lft
  hp : sh.Hp
  nd : sh.toL.Nodup
  keys : ks.Perm (sh.toL.map pkP)
  nz : ∀ p ∈ sh.toL, Nz 4000 p.1
theorem WtOk.nil : WtOk .nil [] := ⟨trivial, trivial, .nil, .refl _, fun _ h => (nomatch h)⟩
theorem WtOk.mem {sh : Sh} {ks : List PK} (h : WtOk sh ks) (p : Wp) : pkP p ∈ ks ↔ p ∈ sh.toL := by
  rw [h.keys.mem_iff, List.mem_map]
  exact ⟨fun ⟨q, h1, h2⟩ => pkP_inj h2 ▸ h1, fun z => ⟨p, z, rfl⟩⟩
theorem WtOk.len {sh : Sh} {ks : List PK} (h : WtOk sh ks) : ks.length = sh.size := by rw [h.keys.length_eq, List.length_map, Sh.toL_len]
theorem WtOk.put {sh : Sh} {ks : List PK} {p : Wp} (h : WtOk sh ks) (hz : Nz 4000 p.1) (hn : p ∉ sh.toL) : WtOk (Sh.merged sh (.node p .nil .nil)) (ks ++ [pkP p]) ∧ (Sh.merged sh (.node p .nil .nil)).toL.Perm (p :: sh.toL) := by
  have h1 : Sh.Lft (.node p .nil .nil) := ⟨trivial, trivial, Nat.le_refl _⟩
  have h2 : Sh.Hp (.node p .nil .nil) := ⟨trivial, trivial, fun _ h => (nomatch h)⟩
  have hp := (Sh.merged_perm sh (.node p .nil .nil)).trans (List.perm_append_comm (l₁ := sh.toL) (l₂ := [p]))
  refine ⟨⟨Sh.merged_lft _ _ h.lft h1, Sh.merged_hp _ _ h.hp h2, hp.nodup_iff.mpr (List.nodup_cons.mpr ⟨hn, h.nd⟩), ?_, fun q hq => ?_⟩, hp⟩
  · refine List.Perm.trans ?_ (hp.map pkP).symm
    exact (List.perm_append_comm (l₁ := ks) (l₂ := [pkP p])).trans (List.Perm.cons _ h.keys)
  · rcases List.mem_cons.mp (hp.mem_iff.mp hq) with rfl | hq
    · exact hz
    · exact h.nz q hq
theorem WtOk.take {sh : Sh} {ks : List PK} {p : Wp} (h : WtOk sh ks) : WtOk (Sh.without p sh) (ks.filter fun x => decide (x ≠ pkP p)) ∧ (Sh.without p sh).toL.Perm (sh.toL.filter fun x => decide (x ≠ p)) := by
  have hp := Sh.without_perm p sh h.hp h.nd
  refine ⟨⟨Sh.without_lft p sh h.lft, Sh.without_hp p sh h.hp, hp.nodup_iff.mpr (List.Pairwise.filter _ h.nd), ?_, fun q hq => h.nz q (Sh.without_mem p sh q hq)⟩, hp⟩
  refine (h.keys.filter _).trans (List.Perm.trans (.of_eq ?_) (hp.map pkP).symm)
  rw [List.filter_map]
  congr 1
  refine List.filter_congr fun x _ => decide_eq_decide.mpr ⟨fun z e => z (by show pkP x = pkP p; rw [e]), fun z e => z (pkP_inj e)⟩
def fstD : Sh → D
  | .nil => .non
  | .node p _ _ => eWp p
end DL
/-! Walks along time. -/
namespace DL
open PySem PySem.Spec PyProof.Rows L2
/-- till when x is ahead of y, the time itself where it isn't from then on -/
def tlW (L : List Ln) (x y : Nat) (u : Rat) : Option Rat := if Ahd L y x u then some u else nxt L x y u
theorem tl_ge {L : List Ln} {x y : Nat} {u c : Rat} (h : tlW L x y u = some c) : u ≤ c := by
  unfold tlW at h
  split at h
  · cases h; exact Rat.le_refl
  · exact Rat.le_of_lt (nxt_gt h).1
/-- what is due not ahead of a time is so from there, too -/
theorem tl_stay {L : List Ln} {x y : Nat} {u t : Rat} (hn : x ≠ y) (hut : u ≤ t) (h : ∀ c, tlW L x y u = some c → t ≤ c) : tlW L x y t = tlW L x y u := by
  by_cases ha : Ahd L y x u
  · have e1 : tlW L x y u = some u := if_pos ha
    have := h u e1
    have e2 : t = u := Rat.le_antisymm this hut
    rw [e2]
  · have hax : Ahd L x y u := (ahd_total hn).resolve_right ha
    have e1 : tlW L x y u = nxt L x y u := if_neg ha
    rw [e1] at h ⊢
    cases en : nxt L x y u with
    | none =>
      have ht : Ahd L x y t := ahd_till hax hut fun c e => by rw [en] at e; cases e
      have e2 : tlW L x y t = nxt L x y t := if_neg fun z => ahd_asymm z ht
      rw [e2]
      cases e3 : nxt L x y t with
      | none => rfl
      | some c => rw [nxt_back e3 hut] at en; cases en
    | some c =>
      have htc := h c en
      by_cases e : t = c
      · subst e
        exact if_pos (change_up en hax)
      · have hlt : t < c := Rat.lt_of_le_of_ne htc e
        have ht : Ahd L x y t := ahd_till hax hut fun d e => by rw [en] at e; cases e; exact hlt
        have e2 : tlW L x y t = nxt L x y t := if_neg fun z => ahd_asymm z ht
        rw [e2]
        exact nxt_later en hlt
/-- the pair of a place that waits -/
def pwW (L : List Ln) (u : Rat) (row : List Nat) (i : Nat) : Option Wp := (tlW L (row.getD i 0) (row.getD (i + 1) 0) u).map fun c => (c, ((row.getD i 0 : Nat) : Int), ((row.getD (i + 1) 0 : Nat) : Int))
def pwI (L : List Ln) (u : Rat) (row : List Nat) (i : Int) : Option Wp := if 0 ≤ i ∧ i + 1 < (row.length : Int) then pwW L u row i.toNat else none
theorem pwW_some {L : List Ln} {u : Rat} {row : List Nat} {i : Nat} {p : Wp} (h : pwW L u row i = some p) : tlW L (row.getD i 0) (row.getD (i + 1) 0) u = some p.1 ∧ p.2.1 = ((row.getD i 0 : Nat) : Int) ∧ p.2.2 = ((row.getD (i + 1) 0 : Nat) : Int) := by
  unfold pwW at h
  obtain ⟨c, h1, rfl⟩ := Option.map_eq_some_iff.mp h
  exact ⟨h1, rfl, rfl⟩
theorem getD_inj {row : List Nat} (nd : row.Nodup) {i j : Nat} (hi : i < row.length) (hj : j < row.length) (e : row.getD i 0 = row.getD j 0) : i = j := by
  rw [List.getD_eq_getElem?_getD, List.getElem?_eq_getElem hi, List.getD_eq_getElem?_getD, List.getElem?_eq_getElem hj] at e
  have e : row[i] = row[j] := by simpa using e
  rcases Nat.lt_trichotomy i j with h | h | h
  · exact absurd e ((List.pairwise_iff_getElem.mp nd) i j hi hj h)
  · exact h
  · exact absurd e.symm ((List.pairwise_iff_getElem.mp nd) j i hj hi h)
theorem pwW_inj {L : List Ln} {u v : Rat} {row : List Nat} (nd : row.Nodup) {i j : Nat} (hi : i < row.length) (hj : j < row.length) {p : Wp} (h : pwW L u row i = some p) (k : pwW L v row j = some p) : i = j := by
  have h1 := (pwW_some h).2.1
  have h2 := (pwW_some k).2.1
  rw [h1] at h2
  exact getD_inj nd hi hj (by omega)
structure WkAt (kW kQ : Kls) (S : Sto) (k a r w d : Addr) (L : List Ln) (u : Rat) (row : List Nat) (sh : Sh) (ks : List PK) : Prop where
  ob : S k = some (.ins kW [.ref a, eQ u, .ref r, .ref w])
  la : LA S a L
  hr : S r = some (.lst (row.map eN))
  wt : WtAt kQ S w d sh ks
  ar : a ≠ r
  kw : k ≠ w
structure WkOk (L : List Ln) (u : Rat) (row : List Nat) : Prop where
  perm : row.Perm (List.range L.length)
  nz : Nz 3500 u
  len : L.length ≤ 20
theorem WkOk.nd {L : List Ln} {u : Rat} {row : List Nat} (h : WkOk L u row) : row.Nodup := h.perm.nodup_iff.mpr List.nodup_range
theorem WkOk.lt {L : List Ln} {u : Rat} {row : List Nat} (h : WkOk L u row) {x : Nat} (hx : x ∈ row) : x < L.length := List.mem_range.mp (h.perm.mem_iff.mp hx)
theorem WkOk.at_ {L : List Ln} {u : Rat} {row : List Nat} (h : WkOk L u row) {i : Nat} (hi : i < row.length) : row.getD i 0 < L.length := h.lt (row_mem hi)
/-- what waits: the pairs of those places that f says -/
def Waits (L : List Ln) (u : Rat) (row : List Nat) (sh : Sh) (f : Nat → Prop) : Prop := ∀ p, p ∈ sh.toL ↔ ∃ i, i + 1 < row.length ∧ f i ∧ pwW L u row i = some p
section
variable {kW kQ : Kls} {S S' : Sto} {k a r w d : Addr} {L : List Ln} {u : Rat} {row : List Nat} {sh : Sh} {ks : List PK}
theorem WkAt.sub (h : WkAt kW kQ S k a r w d L u row sh ks) (s : Sub S S') : WkAt kW kQ S' k a r w d L u row sh ks := ⟨s _ _ h.ob, h.la.sub s, s _ _ h.hr, h.wt.sub s, h.ar, h.kw⟩
end
end DL
namespace DL
open PySem PySem.Spec PyProof.Rows L2
theorem Waits.size {L : List Ln} {u : Rat} {row : List Nat} {sh : Sh} {f : Nat → Prop} (h : Waits L u row sh f) (nd : sh.toL.Nodup) : sh.size ≤ row.length := by
  rw [← Sh.toL_len]
  refine Nat.le_trans (nodup_sub (ys := (List.range row.length).filterMap (pwW L u row)) nd fun p hp => ?_) ?_
  · obtain ⟨i, h1, _, h2⟩ := (h p).mp hp
    exact List.mem_filterMap.mpr ⟨i, List.mem_range.mpr (by omega), h2⟩
  · exact Nat.le_trans (List.length_filterMap_le _ _) (by rw [List.length_range]; exact Nat.le_refl _)
theorem perm_same {α : Type} [DecidableEq α] {xs ys : List α} (h1 : xs.Nodup) (h2 : ys.Nodup) (h : ∀ x, x ∈ xs ↔ x ∈ ys) : xs.Perm ys := by
  rw [List.perm_iff_count]
  intro a
  rw [List.Nodup.count h1, List.Nodup.count h2]
  by_cases z : a ∈ xs
  · rw [if_pos z, if_pos ((h a).mp z)]
  · rw [if_neg z, if_neg fun q => z ((h a).mpr q)]
end DL
namespace DL
open PySem PySem.Spec PyProof.Rows L2
end DL
namespace DL
open PySem PySem.Spec PyProof.Rows L2
structure WRec where
  (k a r w d : Addr) (u : Rat) (row : List Nat) (sh : Sh) (ks : List PK)
structure WGood (kW kQ : Kls) (S : Sto) (L : List Ln) (x : WRec) : Prop where
  at_ : WkAt kW kQ S x.k x.a x.r x.w x.d L x.u x.row x.sh x.ks
  ok : WkOk L x.u x.row
  ord : IsOrd L x.u L.length x.row
def WRec.off (x : WRec) (h : Addr) : Prop := h ≠ x.k ∧ h ≠ x.a ∧ h ≠ x.r ∧ h ≠ x.w ∧ h ≠ x.d
theorem WkAt.upd {kW kQ : Kls} {S : Sto} {k a r w d h : Addr} {L : List Ln} {u : Rat} {row : List Nat} {sh : Sh} {ks : List PK} {o : O} (g : WkAt kW kQ S k a r w d L u row sh ks) (n1 : h ≠ k) (n2 : h ≠ a) (n3 : h ≠ r) (n4 : h ≠ w) (n5 : h ≠ d) : WkAt kW kQ (ups S h o) k a r w d L u row sh ks :=
  ⟨(ups_ne n1.symm).trans g.ob, g.la.upd n2.symm, (ups_ne n3.symm).trans g.hr, ⟨(ups_ne n4.symm).trans g.wt.ob, (ups_ne n5.symm).trans g.wt.hd⟩, g.ar, g.kw⟩
theorem WGood.sub {kW kQ : Kls} {S S' : Sto} {L : List Ln} {x : WRec} (g : WGood kW kQ S L x) (s : Sub S S') : WGood kW kQ S' L x := ⟨g.at_.sub s, g.ok, g.ord⟩
theorem WGood.upd {kW kQ : Kls} {S : Sto} {L : List Ln} {x : WRec} {h : Addr} {o : O} (g : WGood kW kQ S L x) (n : x.off h) : WGood kW kQ (ups S h o) L x := ⟨g.at_.upd n.1 n.2.1 n.2.2.1 n.2.2.2.1 n.2.2.2.2, g.ok, g.ord⟩
/-- all but one stand: a walk off it stays good -/
theorem WGood.fr {kW kQ : Kls} {S S' : Sto} {L : List Ln} {x : WRec} {h : Addr} (g : WGood kW kQ S L x) (f : Fr S S' h) (n : x.off h) : WGood kW kQ S' L x :=
  ⟨⟨f _ _ n.1.symm g.at_.ob, ⟨f _ _ n.2.1.symm g.at_.la.st, g.at_.la.ok, g.at_.la.sz⟩, f _ _ n.2.2.1.symm g.at_.hr, ⟨f _ _ n.2.2.2.1.symm g.at_.wt.ob, f _ _ n.2.2.2.2.symm g.at_.wt.hd⟩, g.at_.ar, g.at_.kw⟩, g.ok, g.ord⟩
end DL
/-! Steps of walks. -/
namespace DL
open PySem PySem.Spec PyProof.Rows L2
theorem swap_get {l : List Nat} {p j : Nat} (h : p + 1 < l.length) : (swapG l p).getD j 0 = if j = p then l.getD (p + 1) 0 else if j = p + 1 then l.getD p 0 else l.getD j 0 := by
  unfold swapG
  have hp : (l.take p).length = p := by rw [List.length_take]; omega
  simp only [List.getD_eq_getElem?_getD]
  by_cases h1 : j < p
  · rw [List.append_assoc, List.getElem?_append_left (by omega), List.getElem?_take_of_lt h1, if_neg (by omega), if_neg (by omega)]
  · by_cases h2 : j = p
    · subst h2
      rw [List.append_assoc, List.getElem?_append_right (by omega), if_pos rfl, hp, Nat.sub_self]
      rfl
    · by_cases h3 : j = p + 1
      · subst h3
        rw [List.append_assoc, List.getElem?_append_right (by omega), if_neg h2, if_pos rfl, hp, show p + 1 - p = 1 by omega]
        rfl
      · rw [List.getElem?_append_right (by rw [List.length_append, hp]; show p + 2 ≤ j; omega), if_neg h2, if_neg h3, List.getElem?_drop, List.length_append, hp]
        show (l[p + 2 + (j - (p + 2))]?).getD 0 = _
        rw [show p + 2 + (j - (p + 2)) = j by omega]
def sw (p j : Nat) : Nat := if j = p then p + 1 else if j = p + 1 then p else j
theorem swap_sw {l : List Nat} {p j : Nat} (h : p + 1 < l.length) : (swapG l p).getD j 0 = l.getD (sw p j) 0 := by
  rw [swap_get h]
  unfold sw
  by_cases h1 : j = p
  · rw [if_pos h1, if_pos h1]
  · by_cases h2 : j = p + 1
    · rw [if_neg h1, if_pos h2, if_neg h1, if_pos h2]
    · rw [if_neg h1, if_neg h2, if_neg h1, if_neg h2]
/-- the first place with the least till -/
structure IsNx (L : List Ln) (u : Rat) (row : List Nat) (t : Rat) (i : Nat) : Prop where
  lt : i + 1 < row.length
  at_ : tlW L (row.getD i 0) (row.getD (i + 1) 0) u = some t
  le : ∀ j c, j + 1 < row.length → tlW L (row.getD j 0) (row.getD (j + 1) 0) u = some c → t ≤ c
  fst : ∀ j, j < i → tlW L (row.getD j 0) (row.getD (j + 1) 0) u ≠ some t
def NoNx (L : List Ln) (u : Rat) (row : List Nat) : Prop := ∀ j, j + 1 < row.length → tlW L (row.getD j 0) (row.getD (j + 1) 0) u = none
theorem IsNx.uniq {L : List Ln} {u : Rat} {row : List Nat} {t t' : Rat} {i j : Nat} (h : IsNx L u row t i) (k : IsNx L u row t' j) : t = t' ∧ i = j := by
  have e : t = t' := Rat.le_antisymm (h.le j t' k.lt k.at_) (k.le i t h.lt h.at_)
  subst e
  refine ⟨rfl, ?_⟩
  rcases Nat.lt_trichotomy i j with z | z | z
  · exact absurd h.at_ (k.fst i z)
  · exact z
  · exact absurd k.at_ (h.fst j z)
theorem NoNx.not {L : List Ln} {u : Rat} {row : List Nat} {t : Rat} {i : Nat} (h : NoNx L u row) (k : IsNx L u row t i) : False := by
  have := h i k.lt
  rw [k.at_] at this
  cases this
section
variable {L : List Ln} {u t : Rat} {row : List Nat} {sh sh' : Sh} {f g : Nat → Prop}
theorem pwI_some {x : Int} {q : Wp} (h : pwI L u row x = some q) : 0 ≤ x ∧ x + 1 < (row.length : Int) ∧ pwW L u row x.toNat = some q := by
  unfold pwI at h
  split at h
  · next c => exact ⟨c.1, c.2, h⟩
  · cases h
theorem pwI_nat {j : Nat} (h : j + 1 < row.length) : pwI L u row (j : Int) = pwW L u row j := by
  unfold pwI
  rw [if_pos (by omega), Int.toNat_natCast]
theorem Waits.drop {x : Int} (h : Waits L u row sh f) (nd : row.Nodup) (hq : ∀ q, q ∈ sh'.toL ↔ q ∈ sh.toL ∧ pwI L u row x ≠ some q) : Waits L u row sh' (fun j => f j ∧ (j : Int) ≠ x) := fun q => by
  rw [hq q, h q]
  constructor
  · rintro ⟨⟨i, h1, h2, h3⟩, h4⟩
    exact ⟨i, h1, ⟨h2, fun e => h4 (by rw [← e, pwI_nat h1, h3])⟩, h3⟩
  · rintro ⟨i, h1, ⟨h2, h4⟩, h3⟩
    refine ⟨⟨i, h1, h2, h3⟩, fun e => ?_⟩
    obtain ⟨k1, k2, k3⟩ := pwI_some e
    have := pwW_inj nd (show i < row.length by omega) (show x.toNat < row.length by omega) h3 k3
    omega
theorem Waits.keep {x : Int} (h : Waits L u row sh f) (hq : ∀ q, q ∈ sh'.toL ↔ q ∈ sh.toL ∨ pwI L u row x = some q) : Waits L u row sh' (fun j => f j ∨ (j : Int) = x) := fun q => by
  rw [hq q, h q]
  constructor
  · rintro (⟨i, h1, h2, h3⟩ | h4)
    · exact ⟨i, h1, .inl h2, h3⟩
    · obtain ⟨k1, k2, k3⟩ := pwI_some h4
      exact ⟨x.toNat, by omega, .inr (by omega), k3⟩
  · rintro ⟨i, h1, h2 | h2, h3⟩
    · exact .inl ⟨i, h1, h2, h3⟩
    · exact .inr (by rw [← h2, pwI_nat h1, h3])
theorem getD_ne {i j : Nat} (nd : row.Nodup) (hi : i < row.length) (hj : j < row.length) (h : i ≠ j) : row.getD i 0 ≠ row.getD j 0 := fun e => h (getD_inj nd hi hj e)
/-- those not beside the two that are exchanged stay -/
theorem Waits.swap {a : Nat} (h : Waits L u row sh f) (nd : row.Nodup) (ha : a + 1 < row.length) (hf : ∀ j, f j → (j : Int) ≠ (a : Int) - 1 ∧ j ≠ a ∧ j ≠ a + 1) (hut : u ≤ t) (hle : ∀ j c, j + 1 < row.length → tlW L (row.getD j 0) (row.getD (j + 1) 0) u = some c → t ≤ c) : Waits L t (swapG row a) sh f := fun q => by
  rw [h q]
  have key : ∀ i, i + 1 < row.length → f i → pwW L t (swapG row a) i = pwW L u row i := fun i h1 h2 => by
    obtain ⟨k1, k2, k3⟩ := hf i h2
    have e1 : (swapG row a).getD i 0 = row.getD i 0 := by rw [swap_get ha, if_neg k2, if_neg k3]
    have e2 : (swapG row a).getD (i + 1) 0 = row.getD (i + 1) 0 := by rw [swap_get ha, if_neg (by omega), if_neg (by omega)]
    unfold pwW
    rw [e1, e2, tl_stay (getD_ne nd (by omega) h1 (by omega)) hut (hle i · h1)]
  have hl := swap_len ha
  constructor
  · rintro ⟨i, h1, h2, h3⟩
    exact ⟨i, by omega, h2, (key i h1 h2).trans h3⟩
  · rintro ⟨i, h1, h2, h3⟩
    have h1' : i + 1 < row.length := by omega
    exact ⟨i, h1', h2, (key i h1' h2).symm.trans h3⟩
end
def FrW (S S' : Sto) (k r w d : Addr) : Prop := ∀ b o, b ≠ k → b ≠ r → b ≠ w → b ≠ d → S b = some o → S' b = some o
theorem FrW.trans {S S' S'' : Sto} {k r w d : Addr} (h : FrW S S' k r w d) (g : FrW S' S'' k r w d) : FrW S S'' k r w d := fun b o n1 n2 n3 n4 e => g b o n1 n2 n3 n4 (h b o n1 n2 n3 n4 e)
theorem FrW.sub {S S' S'' : Sto} {k r w d : Addr} (h : FrW S S' k r w d) (g : Sub S' S'') : FrW S S'' k r w d := fun b o n1 n2 n3 n4 e => g _ _ (h b o n1 n2 n3 n4 e)
theorem FrW.wr {S S' : Sto} {k r w d : Addr} {o : O} (h : FrW S S' k r w d) : FrW S (ups S' r o) k r w d := fun b p n1 n2 n3 n4 e => (ups_ne n2).trans (h b p n1 n2 n3 n4 e)
theorem FrW.refl {S : Sto} {k r w d : Addr} : FrW S S k r w d := fun _ _ _ _ _ _ e => e
theorem WkOk.swap {L : List Ln} {u t : Rat} {row : List Nat} {a : Nat} (h : WkOk L u row) (ha : a + 1 < row.length) (ht : Nz 3500 t) : WkOk L t (swapG row a) := ⟨(swap_perm ha).trans h.perm, ht, h.len⟩
/-! how many are still to come -/
def Bf (row : List Nat) (x y : Nat) : Prop := ∃ i j, i < j ∧ j < row.length ∧ row.getD i 0 = x ∧ row.getD j 0 = y
theorem bf_swap {row : List Nat} {p x y : Nat} (h : p + 1 < row.length) (nd : row.Nodup) (k : Bf (swapG row p) x y) : (x = row.getD (p + 1) 0 ∧ y = row.getD p 0) ∨ (Bf row x y ∧ ¬ (x = row.getD p 0 ∧ y = row.getD (p + 1) 0)) := by
  obtain ⟨i, j, h1, h2, rfl, rfl⟩ := k
  rw [swap_len h] at h2
  rw [swap_sw h, swap_sw h]
  by_cases c : i = p ∧ j = p + 1
  · obtain ⟨rfl, rfl⟩ := c
    refine .inl ⟨?_, ?_⟩
    · unfold sw; rw [if_pos rfl]
    · unfold sw; rw [if_neg (by omega), if_pos rfl]
  · have hs : sw p i < sw p j ∧ sw p j < row.length ∧ ¬ (sw p i = p ∧ sw p j = p + 1) := by unfold sw; grind
    refine .inr ⟨⟨_, _, hs.1, hs.2.1, rfl, rfl⟩, fun ⟨e1, e2⟩ => ?_⟩
    have k1 := getD_inj nd (by omega) (by omega) e1
    have k2 := getD_inj nd (by omega) (by omega) e2
    exact hs.2.2 ⟨k1, k2⟩
theorem bf_ne {row : List Nat} {x y : Nat} (nd : row.Nodup) (k : Bf row x y) : x ≠ y := by
  obtain ⟨i, j, h1, h2, rfl, rfl⟩ := k
  exact getD_ne nd (by omega) h2 (by omega)
theorem tl_back {L : List Ln} {x y : Nat} {u t c : Rat} (hn : x ≠ y) (hut : u ≤ t) (h : tlW L x y t = some c) : ∃ d, tlW L x y u = some d := by
  by_cases ha : Ahd L y x u
  · exact ⟨u, if_pos ha⟩
  · have hax : Ahd L x y u := (ahd_total hn).resolve_right ha
    have e1 : tlW L x y u = nxt L x y u := if_neg ha
    rw [e1]
    cases en : nxt L x y u with
    | some d => exact ⟨d, rfl⟩
    | none =>
      have ht : Ahd L x y t := ahd_till hax hut fun c e => by rw [en] at e; cases e
      have e2 : tlW L x y t = nxt L x y t := if_neg fun z => ahd_asymm z ht
      rw [e2] at h
      rw [nxt_back h hut] at en
      cases en
/-- two that stand wrong will not change again -/
def Inv (L : List Ln) (u : Rat) (row : List Nat) : Prop := ∀ x y, Bf row x y → Ahd L y x u → nxt L x y u = none
theorem tl_ahd {L : List Ln} {a b : Nat} {u t : Rat} (hn : a ≠ b) (h : tlW L a b u = some t) : Ahd L b a t := by
  unfold tlW at h
  split at h
  · next c => cases h; exact c
  · next c => exact change_up h ((ahd_total hn).resolve_right c)
theorem Inv.swap {L : List Ln} {u t : Rat} {row : List Nat} {p : Nat} (h : Inv L u row) (nd : row.Nodup) (k : IsNx L u row t p) : Inv L t (swapG row p) := fun x y hb ha => by
  have hut := tl_ge k.at_
  have hab := tl_ahd (getD_ne nd (by have := k.lt; omega) k.lt (by omega)) k.at_
  rcases bf_swap k.lt nd hb with ⟨rfl, rfl⟩ | ⟨hb, _⟩
  · exact absurd ha fun z => ahd_asymm z hab
  · cases e : nxt L x y t with
    | none => rfl
    | some c =>
      have eb := nxt_back e hut
      by_cases hu : Ahd L y x u
      · rw [h x y hb hu] at eb; cases eb
      · have hx : Ahd L x y u := (ahd_total (bf_ne nd hb)).resolve_right hu
        have := ahd_till (t := t) hx hut fun d e2 => by rw [eb] at e2; cases e2; exact (nxt_gt e).1
        exact (ahd_asymm this ha).elim
open Classical in
noncomputable def muW (L : List Ln) (u : Rat) (row : List Nat) : Nat := ((List.range (L.length * L.length)).filter fun k => decide (Bf row (k / L.length) (k % L.length) ∧ ∃ c, tlW L (k / L.length) (k % L.length) u = some c)).length
theorem muW_le (L : List Ln) (u : Rat) (row : List Nat) : muW L u row ≤ L.length * L.length := by
  unfold muW
  exact Nat.le_trans (List.length_filter_le _ _) (by rw [List.length_range]; exact Nat.le_refl _)
theorem muW_ltP {L : List Ln} {u t : Rat} {row : List Nat} {p : Nat} (h : Inv L u row) (hp0 : row.Perm (List.range L.length)) (k : IsNx L u row t p) : muW L t (swapG row p) < muW L u row := by
  classical
  have nd : row.Nodup := hp0.nodup_iff.mpr List.nodup_range
  have oka : ∀ {i : Nat}, i < row.length → row.getD i 0 < L.length := fun hi => List.mem_range.mp (hp0.mem_iff.mp (row_mem hi))
  have hp := k.lt
  have h1 := oka (show p < row.length by omega)
  have h2 := oka hp
  have hne := getD_ne nd (show p < row.length by omega) hp (by omega)
  have hut := tl_ge k.at_
  have hab := tl_ahd hne k.at_
  have hat := k.at_
  have hbf : Bf row (row.getD p 0) (row.getD (p + 1) 0) := ⟨p, p + 1, by omega, hp, rfl, rfl⟩
  have hsw := fun x y => bf_swap (x := x) (y := y) hp nd
  have hdone : tlW L (row.getD (p + 1) 0) (row.getD p 0) t = none := by
    have e2 : tlW L (row.getD (p + 1) 0) (row.getD p 0) t = nxt L (row.getD (p + 1) 0) (row.getD p 0) t := if_neg fun z => ahd_asymm z hab
    rw [e2]
    cases e : nxt L (row.getD (p + 1) 0) (row.getD p 0) t with
    | none => rfl
    | some c =>
      rw [nxt_comm] at e
      have eb := nxt_back e hut
      by_cases hu : Ahd L (row.getD (p + 1) 0) (row.getD p 0) u
      · rw [h _ _ hbf hu] at eb; cases eb
      · have e3 : tlW L (row.getD p 0) (row.getD (p + 1) 0) u = nxt L (row.getD p 0) (row.getD (p + 1) 0) u := if_neg hu
        rw [e3, eb] at hat
        cases hat
        exact absurd (nxt_gt e).1 (by grind)
  generalize row.getD p 0 = a at *
  generalize row.getD (p + 1) 0 = b at *
  have hn0 : 0 < L.length := by omega
  have hk : a * L.length + b < L.length * L.length := by
    have : (a + 1) * L.length ≤ L.length * L.length := Nat.mul_le_mul h1 (Nat.le_refl _)
    rw [Nat.add_mul] at this
    omega
  have hd1 : (a * L.length + b) / L.length = a := by rw [Nat.mul_comm, Nat.mul_add_div hn0, Nat.div_eq_of_lt h2, Nat.add_zero]
  have hd2 : (a * L.length + b) % L.length = b := by rw [Nat.mul_comm, Nat.mul_add_mod, Nat.mod_eq_of_lt h2]
  unfold muW
  refine Nat.lt_of_lt_of_le (Nat.lt_succ_self _) (Nat.le_trans (Nat.le_of_eq (List.length_cons (a := a * L.length + b)).symm) ?_)
  refine nodup_sub (List.nodup_cons.mpr ⟨fun hm => ?_, List.Pairwise.filter _ List.nodup_range⟩) fun x hx => ?_
  · have := (of_decide_eq_true (List.mem_filter.mp hm).2).1
    rw [hd1, hd2] at this
    rcases hsw _ _ this with ⟨z, _⟩ | ⟨_, z⟩
    · exact hne z
    · exact z ⟨rfl, rfl⟩
  · refine List.mem_filter.mpr ?_
    rcases List.mem_cons.mp hx with rfl | hx
    · exact ⟨List.mem_range.mpr hk, decide_eq_true (by rw [hd1, hd2]; exact ⟨hbf, _, hat⟩)⟩
    · obtain ⟨m1, m2⟩ := List.mem_filter.mp hx
      obtain ⟨m2, c, m3⟩ := of_decide_eq_true m2
      refine ⟨m1, decide_eq_true ?_⟩
      rcases hsw _ _ m2 with ⟨z1, z2⟩ | ⟨z, _⟩
      · rw [z1, z2, hdone] at m3; cases m3
      · exact ⟨z, tl_back (bf_ne nd z) hut m3⟩
theorem Inv.ord {L : List Ln} {u : Rat} {row : List Nat} (h : IsOrd L u L.length row) : Inv L u row := fun x y ⟨i, j, h1, h2, e1, e2⟩ ha => by
  subst e1 e2
  have := (List.pairwise_iff_getElem.mp h.pw) i j (by omega) h2 h1
  have eg : ∀ k (hk : k < row.length), row.getD k 0 = row[k] := fun k hk => by rw [List.getD_eq_getElem?_getD, List.getElem?_eq_getElem hk]; rfl
  rw [eg i (by omega), eg j h2] at ha
  exact (ahd_asymm ha this).elim
end DL
/-! Walks that go to a time. -/
namespace DL
open PySem PySem.Spec PyProof.Rows L2
/-- what a walk tells on its way to a time, and where it stands then -/
inductive Goes (L : List Ln) (t : Rat) : Rat → List Nat → List (Tri Rat Nat Nat) → Rat → List Nat → Prop where
  | stop {u : Rat} {row : List Nat} (h : ∀ j c, j + 1 < row.length → tlW L (row.getD j 0) (row.getD (j + 1) 0) u = some c → t < c) : Goes L t u row [] u row
  | step {u c v : Rat} {row row' : List Nat} {i : Nat} {es : List (Tri Rat Nat Nat)} (h : IsNx L u row c i) (hc : c ≤ t) (g : Goes L t c (swapG row i) es v row') : Goes L t u row (⟨c, row.getD i 0, row.getD (i + 1) 0⟩ :: es) v row'
theorem Goes.uniq {L : List Ln} {t u v v' : Rat} {row row' row2 : List Nat} {es es' : List (Tri Rat Nat Nat)} (h : Goes L t u row es v row') (k : Goes L t u row es' v' row2) : es = es' ∧ v = v' ∧ row' = row2 := by
  induction h generalizing es' v' row2 with
  | stop h =>
    cases k with
    | stop _ => exact ⟨rfl, rfl, rfl⟩
    | step h' hc' g' => exact absurd (h _ _ h'.lt h'.at_) (Rat.not_lt.mpr hc')
  | step h hc g ih =>
    cases k with
    | stop h' => exact absurd (h' _ _ h.lt h.at_) (Rat.not_lt.mpr hc)
    | step h' hc' g' =>
      obtain ⟨rfl, rfl⟩ := h.uniq h'
      obtain ⟨rfl, rfl, rfl⟩ := ih g'
      exact ⟨rfl, rfl, rfl⟩
/-- what waits stays when time goes on without a step -/
theorem Waits.on {L : List Ln} {u t : Rat} {row : List Nat} {sh : Sh} {f : Nat → Prop} (h : Waits L u row sh f) (nd : row.Nodup) (hut : u ≤ t) (hle : ∀ j c, j + 1 < row.length → tlW L (row.getD j 0) (row.getD (j + 1) 0) u = some c → t < c) : Waits L t row sh f := fun q => by
  rw [h q]
  have key : ∀ i, i + 1 < row.length → pwW L t row i = pwW L u row i := fun i h1 => by
    unfold pwW
    rw [tl_stay (getD_ne nd (by omega) h1 (by omega)) hut fun c e => Rat.le_of_lt (hle i c h1 e)]
  exact ⟨fun ⟨i, h1, h2, h3⟩ => ⟨i, h1, h2, (key i h1).trans h3⟩, fun ⟨i, h1, h2, h3⟩ => ⟨i, h1, h2, (key i h1).symm.trans h3⟩⟩
theorem Inv.on {L : List Ln} {u t : Rat} {row : List Nat} (h : Inv L u row) (nd : row.Nodup) (hut : u ≤ t) : Inv L t row := fun x y hb ha => by
  cases e : nxt L x y t with
  | none => rfl
  | some c =>
    have eb := nxt_back e hut
    by_cases hu : Ahd L y x u
    · rw [h x y hb hu] at eb; cases eb
    · have hx : Ahd L x y u := (ahd_total (bf_ne nd hb)).resolve_right hu
      have := ahd_till (t := t) hx hut fun d e2 => by rw [eb] at e2; cases e2; exact (nxt_gt e).1
      exact (ahd_asymm this ha).elim
end DL
/-! Dicts with tuple keys: in, not in, len. -/
namespace DL
open PySem PySem.Spec PyProof.Rows L2
def inTQ (f : Bool → Bool) (ds : List D) (d : D) (S : Sto) (Q : VK2) : Prop := match d with
  | .ref a => ds.length ≤ 1000 ∧ onS (tOf (S a)) fun kvs => onS (keysOf ds) fun k => Q (.bl (f (dget kvs k).isSome)) S
  | _ => False
def uInT (f : Bool → Bool) (i : Nat) (t : TA2) : TE2 := fun τ S Q => t τ S fun ds S1 => match τ[i]? with
  | some (some d) => inTQ f ds d S1 Q
  | _ => False
theorem KVs.isSome {κ : Type} [DecidableEq κ] {K : PySem.W.Frag} {H : Hp} {ds : List (κ × D)} {vs : List (κ × V)} (h : KVs K H ds vs) (k : κ) : (valV vs k).isSome = (dget ds k).isSome := by
  cases e : dget ds k with
  | none => rw [h.getN e]; rfl
  | some d => obtain ⟨v, e2, _⟩ := h.get e; rw [e2]; rfl
section
variable {X : Cx} {pos p : Pos} {e : Expr} {t : TA2} {S : Sto} {Q : VK2} {a : Addr} {ds : List D} {f : Bool → Bool}
theorem z_inT : inTQ f ds (.ref a) S Q = (ds.length ≤ 1000 ∧ onS (tOf (S a)) fun kvs => onS (keysOf ds) fun k => Q (.bl (f (dget kvs k).isSome)) S) := rfl
theorem z_tOf1 {kvs : List (List Key × D)} : tOf (some (.dct kvs)) = some kvs := rfl
theorem z_tOf2 {o : Obj} {kvs : List (List Key × D)} : tOf (some (.fdt o kvs)) = some kvs := rfl
theorem z_wT1 {kvs : List (List Key × D)} : wT (some (.dct kvs)) = some kvs := rfl
end
end DL
/-! All steps of a walk: each pair that is due is exchanged once. -/
namespace DL
open PySem PySem.Spec PyProof.Rows L2
/-! tables by pairs of runners -/
theorem keysOf_two (a b : Int) : keysOf [.int a, .int b] = some [.inl a, .inl b] := rfl
/-! which are due -/
def dueB (L : List Ln) (t : Rat) (p : Pr) : Bool := decide ((ln L p.1).2 < (ln L p.2).2 ∧ t < met (ln L p.1) (ln L p.2))
def dueP (L : List Ln) (t : Rat) : List Pr := (allP L.length).filter (dueB L t)
theorem due_iff {L : List Ln} {t : Rat} {x y : Nat} : ((ln L x).2 < (ln L y).2 ∧ t < met (ln L x) (ln L y)) ↔ Ahd L x y t ∧ nxt L x y t = some (met (ln L x) (ln L y)) := by
  constructor
  · rintro ⟨h1, h2⟩
    have hne : (ln L x).2 ≠ (ln L y).2 := by grind
    exact ⟨(ahd_lt hne h2).mpr h1, by unfold nxt; rw [if_pos ⟨hne, h2⟩]⟩
  · rintro ⟨h1, h2⟩
    obtain ⟨h3, h4, _⟩ := nxt_gt h2
    exact ⟨(ahd_lt h4 h3).mp h1, h3⟩
theorem mem_due {L : List Ln} {t : Rat} {p : Pr} : p ∈ dueP L t ↔ (p.1 < L.length ∧ p.2 < L.length) ∧ Ahd L p.1 p.2 t ∧ nxt L p.1 p.2 t = some (met (ln L p.1) (ln L p.2)) := by
  unfold dueP dueB
  rw [List.mem_filter, allP_mem, decide_eq_true_iff, due_iff]
theorem due_nd (L : List Ln) (t : Rat) : (dueP L t).Nodup := (allP_nd _).filter _
/-! neighbours and all pairs -/
section
variable {L : List Ln} {u t c : Rat} {row : List Nat}
theorem nb_ahd (nd : row.Nodup) (hut : u ≤ t) (h : ∀ j e, j + 1 < row.length → tlW L (row.getD j 0) (row.getD (j + 1) 0) u = some e → t < e) : ∀ j, j + 1 < row.length → Ahd L (row.getD j 0) (row.getD (j + 1) 0) t := fun j hj => by
  have hne := getD_ne nd (show j < row.length by omega) hj (by omega)
  have hna : ¬ Ahd L (row.getD (j + 1) 0) (row.getD j 0) u := fun z => by
    have := h j u hj (if_pos z)
    grind
  have ha : Ahd L (row.getD j 0) (row.getD (j + 1) 0) u := (ahd_total hne).resolve_right hna
  exact ahd_till ha hut fun e he => h j e hj (by unfold tlW; rw [if_neg hna, he])
theorem bf_ahd (h : ∀ j, j + 1 < row.length → Ahd L (row.getD j 0) (row.getD (j + 1) 0) t) {x y : Nat} (k : Bf row x y) : Ahd L x y t := by
  obtain ⟨i, j, h1, h2, rfl, rfl⟩ := k
  obtain ⟨m, rfl⟩ : ∃ m, j = i + 1 + m := ⟨j - i - 1, by omega⟩
  induction m with
  | zero => exact h i h2
  | succ m ih => exact ahd_trans (ih (by omega) (by omega)) (h (i + 1 + m) h2)
theorem ord_nb {n : Nat} (hp : row.Perm (List.range n)) (h : ∀ j, j + 1 < row.length → Ahd L (row.getD j 0) (row.getD (j + 1) 0) t) : IsOrd L t n row := by
  refine ⟨?_, fun i => by rw [hp.mem_iff, List.mem_range]⟩
  rw [List.pairwise_iff_getElem]
  intro i j hi hj hij
  have := bf_ahd h (x := row.getD i 0) (y := row.getD j 0) ⟨i, j, hij, hj, rfl, rfl⟩
  rw [List.getD_eq_getElem?_getD, List.getElem?_eq_getElem hi, List.getD_eq_getElem?_getD, List.getElem?_eq_getElem hj] at this
  exact this
theorem tl_no {x y : Nat} {d : Rat} (hne : x ≠ y) (h1 : Ahd L x y u) (h2 : ∀ e, tlW L x y u = some e → Ahd L x y e) (h : tlW L x y u = some d) : False := by
  have := h2 d h
  unfold tlW at h
  rw [if_neg fun z => ahd_asymm z h1] at h
  exact ahd_asymm (change_up h h1) this
/-- no pair fails ahead of the first neighbours that do -/
theorem nx_all {i : Nat} (nd : row.Nodup) (h : IsNx L u row c i) {x y : Nat} {d : Rat} (k : Bf row x y) (e : tlW L x y u = some d) : c ≤ d := by
  have hud := tl_ge e
  have hne := bf_ne nd k
  refine Rat.not_lt.mp fun hdc => ?_
  have nb : ∀ t, u ≤ t → t < c → Ahd L x y t := fun t h1 h2 => bf_ahd (nb_ahd nd h1 fun j e' hj he => by have := h.le j e' hj he; grind) k
  exact tl_no hne (nb u Rat.le_refl (by grind)) (fun e' he' => by rw [e] at he'; cases he'; exact nb d hud hdc) e
theorem no_all (nd : row.Nodup) (h : NoNx L u row) {x y : Nat} (k : Bf row x y) : tlW L x y u = none := by
  cases e : tlW L x y u with
  | none => rfl
  | some d =>
    have nb : ∀ t, u ≤ t → Ahd L x y t := fun t h1 => bf_ahd (nb_ahd nd h1 fun j e' hj he => by rw [h j hj] at he; cases he) k
    exact (tl_no (bf_ne nd k) (nb u Rat.le_refl) (fun e' he' => nb e' (tl_ge he')) e).elim
theorem bf_swap_of {p x y : Nat} (h : p + 1 < row.length) (nd : row.Nodup) (k : Bf row x y) (hn : ¬ (x = row.getD p 0 ∧ y = row.getD (p + 1) 0)) : Bf (swapG row p) x y := by
  obtain ⟨i, j, h1, h2, rfl, rfl⟩ := k
  have hsw : ∀ j, sw p (sw p j) = j := fun j => by unfold sw; grind
  have hs : sw p i < sw p j ∧ sw p j < row.length := by
    have c : ¬ (i = p ∧ j = p + 1) := fun ⟨a, b⟩ => hn ⟨by rw [a], by rw [b]⟩
    unfold sw; grind
  refine ⟨sw p i, sw p j, hs.1, by rw [swap_len h]; exact hs.2, ?_, ?_⟩
  · rw [swap_sw h, hsw]
  · rw [swap_sw h, hsw]
theorem bf_swap_one {p : Nat} (h : p + 1 < row.length) : Bf (swapG row p) (row.getD (p + 1) 0) (row.getD p 0) :=
  ⟨p, p + 1, by omega, by rw [swap_len h]; exact h, by rw [swap_get h, if_pos rfl], by rw [swap_get h, if_neg (by omega), if_pos rfl]⟩
theorem bf_or {n x y : Nat} (hp : row.Perm (List.range n)) (hx : x < n) (hy : y < n) (hne : x ≠ y) : Bf row x y ∨ Bf row y x := by
  have mx := hp.mem_iff.mpr (List.mem_range.mpr hx)
  have my := hp.mem_iff.mpr (List.mem_range.mpr hy)
  obtain ⟨i, hi, ei⟩ := List.getElem_of_mem mx
  obtain ⟨j, hj, ej⟩ := List.getElem_of_mem my
  have gi : row.getD i 0 = x := by rw [List.getD_eq_getElem?_getD, List.getElem?_eq_getElem hi]; exact ei
  have gj : row.getD j 0 = y := by rw [List.getD_eq_getElem?_getD, List.getElem?_eq_getElem hj]; exact ej
  rcases Nat.lt_trichotomy i j with z | z | z
  · exact .inl ⟨i, j, z, hj, gi, gj⟩
  · subst z; exact absurd (gi.symm.trans gj) hne
  · exact .inr ⟨j, i, z, hi, gj, gi⟩
end
/-! all steps -/
inductive Stp (L : List Ln) : Rat → List Nat → List (Tri Rat Nat Nat) → Rat → List Nat → Prop where
  | stop {u : Rat} {row : List Nat} (h : NoNx L u row) : Stp L u row [] u row
  | step {u c v : Rat} {row row' : List Nat} {i : Nat} {es : List (Tri Rat Nat Nat)} (h : IsNx L u row c i) (g : Stp L c (swapG row i) es v row') : Stp L u row (⟨c, row.getD i 0, row.getD (i + 1) 0⟩ :: es) v row'
section
variable {L : List Ln} {u v v' t : Rat} {row row' row2 : List Nat} {es es' : List (Tri Rat Nat Nat)}
theorem Stp.no (h : Stp L u row es v row') : NoNx L v row' := by
  induction h with
  | stop h => exact h
  | step _ _ ih => exact ih
theorem Stp.perm {n : Nat} (h : Stp L u row es v row') (hp : row.Perm (List.range n)) : row'.Perm (List.range n) := by
  induction h with
  | stop h => exact hp
  | step h g ih => exact ih ((swap_perm h.lt).trans hp)
theorem Goes.perm {n : Nat} (h : Goes L t u row es v row') (hp : row.Perm (List.range n)) : row'.Perm (List.range n) := by
  induction h with
  | stop h => exact hp
  | step h _ g ih => exact ih ((swap_perm h.lt).trans hp)
theorem perm_nd {n : Nat} (hp : row.Perm (List.range n)) : row.Nodup := hp.nodup_iff.mpr List.nodup_range
theorem tl_stay_nb (nd : row.Nodup) (hut : u ≤ t) (h : ∀ j c, j + 1 < row.length → tlW L (row.getD j 0) (row.getD (j + 1) 0) u = some c → t ≤ c) {j : Nat} (hj : j + 1 < row.length) : tlW L (row.getD j 0) (row.getD (j + 1) 0) t = tlW L (row.getD j 0) (row.getD (j + 1) 0) u := tl_stay (getD_ne nd (by omega) hj (by omega)) hut fun c e => h j c hj e
theorem IsNx.on {c : Rat} {i : Nat} (h : IsNx L u row c i) (nd : row.Nodup) (hut : u ≤ t) (hl : ∀ j c, j + 1 < row.length → tlW L (row.getD j 0) (row.getD (j + 1) 0) u = some c → t ≤ c) : IsNx L t row c i where
  lt := h.lt
  at_ := by rw [tl_stay_nb nd hut hl h.lt]; exact h.at_
  le := fun j d hj e => by rw [tl_stay_nb nd hut hl hj] at e; exact h.le j d hj e
  fst := fun j hj e => by have := h.lt; rw [tl_stay_nb nd hut hl (by omega)] at e; exact h.fst j hj e
theorem Stp.on (h : Stp L u row es v row') (nd : row.Nodup) (hut : u ≤ t) (hl : ∀ j c, j + 1 < row.length → tlW L (row.getD j 0) (row.getD (j + 1) 0) u = some c → t ≤ c) : ∃ v', Stp L t row es v' row' := by
  cases h with
  | stop h => exact ⟨t, .stop fun j hj => by rw [tl_stay_nb nd hut hl hj]; exact h j hj⟩
  | step h g => exact ⟨_, .step (h.on nd hut hl) g⟩
theorem Goes.split {n : Nat} {es1 : List (Tri Rat Nat Nat)} {u1 : Rat} {row1 : List Nat} (h : Goes L t u row es1 u1 row1) (hp : row.Perm (List.range n)) (hut : u ≤ t) (k : Stp L u row es v row') : ∃ es2 v', es = es1 ++ es2 ∧ Stp L t row1 es2 v' row' := by
  induction h generalizing es with
  | stop h =>
    obtain ⟨v', k'⟩ := k.on (perm_nd hp) hut fun j c hj e => Rat.le_of_lt (h j c hj e)
    exact ⟨es, v', rfl, k'⟩
  | step h hc g ih =>
    cases k with
    | stop k => exact (k.not h).elim
    | step k g' =>
      obtain ⟨rfl, rfl⟩ := h.uniq k
      obtain ⟨es2, v', rfl, k'⟩ := ih ((swap_perm h.lt).trans hp) hc g'
      exact ⟨es2, v', rfl, k'⟩
theorem Goes.ord {n : Nat} (h : Goes L t u row es v row') (hp : row.Perm (List.range n)) (hut : u ≤ t) : IsOrd L t n row' := by
  induction h with
  | stop h => exact ord_nb hp (nb_ahd (perm_nd hp) hut h)
  | step h hc g ih => exact ih ((swap_perm h.lt).trans hp) hc
/-! what was exchanged, and what is due yet -/
structure Jv (L : List Ln) (t0 u : Rat) (row : List Nat) (seen : List Pr) : Prop where
  bf : ∀ x y, Bf row x y → (Ahd L x y t0 ∧ tlW L x y u = nxt L x y t0 ∧ (x, y) ∉ seen) ∨ (Ahd L y x t0 ∧ (y, x) ∈ seen ∧ tlW L x y u = none)
  sn : ∀ p ∈ seen, Bf row p.2 p.1 ∧ Ahd L p.1 p.2 t0 ∧ nxt L p.1 p.2 t0 = some (met (ln L p.1) (ln L p.2))
  nd : seen.Nodup
theorem Jv.start {t0 : Rat} (h : IsOrd L t0 L.length row) : Jv L t0 t0 row [] where
  bf := fun x y k => by
    have ha : Ahd L x y t0 := by
      obtain ⟨i, j, h1, h2, rfl, rfl⟩ := k
      have := (List.pairwise_iff_getElem.mp h.pw) i j (by omega) h2 h1
      rw [List.getD_eq_getElem?_getD, List.getElem?_eq_getElem (by omega), List.getD_eq_getElem?_getD, List.getElem?_eq_getElem h2]
      exact this
    exact .inl ⟨ha, if_neg fun z => ahd_asymm z ha, List.not_mem_nil⟩
  sn := fun p h => nomatch h
  nd := .nil
theorem Jv.here {t0 c : Rat} {i : Nat} {seen : List Pr} (h : Jv L t0 u row seen) (k : IsNx L u row c i) : Ahd L (row.getD i 0) (row.getD (i + 1) 0) t0 ∧ nxt L (row.getD i 0) (row.getD (i + 1) 0) t0 = some c ∧ (row.getD i 0, row.getD (i + 1) 0) ∉ seen := by
  have hb : Bf row (row.getD i 0) (row.getD (i + 1) 0) := ⟨i, i + 1, by omega, k.lt, rfl, rfl⟩
  rcases h.bf _ _ hb with ⟨h1, h2, h3⟩ | ⟨_, _, h3⟩
  · exact ⟨h1, by rw [← h2]; exact k.at_, h3⟩
  · rw [k.at_] at h3; cases h3
theorem Jv.step {t0 c : Rat} {i : Nat} {seen : List Pr} (h : Jv L t0 u row seen) (nd : row.Nodup) (k : IsNx L u row c i) : Jv L t0 c (swapG row i) (seen ++ [(row.getD i 0, row.getD (i + 1) 0)]) := by
  obtain ⟨h1, h2, h3⟩ := h.here k
  have huc := tl_ge k.at_
  have hl := k.lt
  have all := fun x y (kb : Bf row x y) d (e : tlW L x y u = some d) => nx_all nd k kb e
  have stay := fun x y (kb : Bf row x y) => tl_stay (bf_ne nd kb) huc (all x y kb)
  have hec := (nxt_gt h2).2.2
  refine ⟨fun a b kb => ?_, fun p hp => ?_, ?_⟩
  · rcases bf_swap hl nd kb with ⟨rfl, rfl⟩ | ⟨kb, hn⟩
    · refine .inr ⟨h1, by simp, ?_⟩
      have ha := change_up h2 h1
      have e2 : tlW L (row.getD (i + 1) 0) (row.getD i 0) c = nxt L (row.getD (i + 1) 0) (row.getD i 0) c := if_neg fun z => ahd_asymm z ha
      rw [e2, nxt_comm]
      cases e : nxt L (row.getD i 0) (row.getD (i + 1) 0) c with
      | none => rfl
      | some d =>
        obtain ⟨k1, _, k2⟩ := nxt_gt e
        grind
    · rcases h.bf a b kb with ⟨g1, g2, g3⟩ | ⟨g1, g2, g3⟩
      · refine .inl ⟨g1, by rw [stay a b kb, g2], fun hm => ?_⟩
        rcases List.mem_append.mp hm with hm | hm
        · exact g3 hm
        · have := List.mem_singleton.mp hm
          exact hn ⟨congrArg Prod.fst this, congrArg Prod.snd this⟩
      · exact .inr ⟨g1, List.mem_append_left _ g2, by rw [stay a b kb, g3]⟩
  · rcases List.mem_append.mp hp with hp | hp
    · obtain ⟨g1, g2, g3⟩ := h.sn p hp
      refine ⟨bf_swap_of hl nd g1 fun ⟨e1, e2⟩ => ?_, g2, g3⟩
      rw [← e1, ← e2] at h1
      exact ahd_asymm h1 g2
    · rw [List.mem_singleton.mp hp]
      exact ⟨bf_swap_one hl, h1, by rw [← hec]; exact h2⟩
  · rw [List.nodup_append]
    exact ⟨h.nd, by simp, fun a ha b hb e => by subst e; rw [List.mem_singleton.mp hb] at ha; exact h3 ha⟩
theorem Jv.all {t0 : Rat} {seen : List Pr} (h : Jv L t0 u row seen) (hp : row.Perm (List.range L.length)) (hn : NoNx L u row) : seen.Perm (dueP L t0) := by
  refine perm_same h.nd (due_nd L t0) fun p => ?_
  rw [mem_due]
  constructor
  · intro hm
    obtain ⟨h1, h2, h3⟩ := h.sn p hm
    obtain ⟨i, j, k1, k2, e1, e2⟩ := h1
    have hlt := fun i (hi : i < row.length) => List.mem_range.mp (hp.mem_iff.mp (row_mem hi))
    exact ⟨⟨by rw [← e2]; exact hlt j k2, by rw [← e1]; exact hlt i (by omega)⟩, h2, h3⟩
  · rintro ⟨⟨h1, h2⟩, h3, h4⟩
    obtain ⟨x, y⟩ := p
    have hne : x ≠ y := fun e => by subst e; exact ahd_irr h3
    rcases bf_or hp h1 h2 hne with kb | kb
    · have := no_all (perm_nd hp) hn kb
      rcases h.bf _ _ kb with ⟨_, g, _⟩ | ⟨g, _, _⟩
      · rw [g, h4] at this; cases this
      · exact (ahd_asymm g h3).elim
    · rcases h.bf _ _ kb with ⟨g, _, _⟩ | ⟨_, g, _⟩
      · exact (ahd_asymm g h3).elim
      · exact g
end
/-! a time between -/
end DL
/-! Walks from till to till. -/
namespace DL
open PySem PySem.Spec PyProof.Rows L2
theorem PenC.sub {S S' : Sto} {a : Addr} {n : Nat} (h : PenC S a n) (s : Sub S S') : PenC S' a n := let ⟨x, y, z, e, r⟩ := h; ⟨x, y, z, s _ _ e, r⟩
theorem PenC.by {S S' : Sto} {a : Addr} {n : Nat} (h : PenC S a n) (s : ∀ o, S a = some o → S' a = some o) : PenC S' a n := let ⟨x, y, z, e, r⟩ := h; ⟨x, y, z, s _ e, r⟩
theorem LA.by {S S' : Sto} {p : Addr} {L : List Ln} (h : LA S p L) (s : ∀ o, S p = some o → S' p = some o) : LA S' p L := ⟨s _ h.st, h.ok, h.sz⟩
end DL
/-! Defs of a class that may raise. -/
namespace DL
open PySem PySem.Spec PyProof.Rows L2
structure FnMX (P : Program) (w : World) (K : PySem.W.Frag) (mg : Str → Option Value) (base : Heap) (l : Nat) (k : Kls) (m : Str) (sp : Sp2) : Prop where
  ex : ∃ f fd ps, FnOk P w K mg base (L2.CX P w) l f fd ps (dnSp K sp) ∧ Meth K (cA K k.name) m f ∧ Binds K fd ps []
theorem FnMX.mono {P : Program} {w : World} {K : PySem.W.Frag} {mg : Str → Option Value} {base : Heap} {i l : Nat} {k : Kls} {m : Str} {sp : Sp2} (F : FnMX P w K mg base i k m sp) (h : i ≤ l) : FnMX P w K mg base l k m sp := by
  obtain ⟨f, fd, ps, h1, h2⟩ := F.ex
  exact ⟨f, fd, ps, h1.mono h, h2⟩
def uMethX (k : Kls) (sp : Sp2) (W2 : St2 → XK2) (to : TE2) (t : TA2) : TE2 := fun τ S Q => to τ S fun d S1 => mthQ k d S1 (t τ S1 fun ds S2 => sp (d :: ds) S2 Q (W2 τ))
end DL
/-! A walk kept beside: lines, order, time in a list. -/
namespace DL
open PySem PySem.Spec PyProof.Rows L2
structure StAt (S : Sto) (s p o : Addr) (L : List Ln) (u : Rat) (row : List Nat) : Prop where
  st : S s = some (.lst [.ref p, .ref o, eQ u])
  la : LA S p L
  hr : S o = some (.lst (row.map eN))
  sp : s ≠ p
  so : s ≠ o
  po : p ≠ o
theorem StAt.by {S S' : Sto} {s p o : Addr} {L : List Ln} {u : Rat} {row : List Nat} (h : StAt S s p o L u row) (k : ∀ b x, (b = s ∨ b = p ∨ b = o) → S b = some x → S' b = some x) : StAt S' s p o L u row :=
  ⟨k _ _ (.inl rfl) h.st, h.la.by (k _ · (.inr (.inl rfl))), k _ _ (.inr (.inr rfl)) h.hr, h.sp, h.so, h.po⟩
theorem StAt.sub {S S' : Sto} {s p o : Addr} {L : List Ln} {u : Rat} {row : List Nat} (h : StAt S s p o L u row) (k : Sub S S') : StAt S' s p o L u row := h.by fun b x _ => k b x
theorem StAt.upd {S : Sto} {s p o b : Addr} {L : List Ln} {u : Rat} {row : List Nat} {x : O} (h : StAt S s p o L u row) (n1 : b ≠ s) (n2 : b ≠ p) (n3 : b ≠ o) : StAt (ups S b x) s p o L u row :=
  ⟨(ups_ne n1.symm).trans h.st, h.la.upd n2.symm, (ups_ne n3.symm).trans h.hr, h.sp, h.so, h.po⟩
end DL
/-! Races. -/
namespace DL
open PySem PySem.Spec PyProof.Rows L2
/-- the lines that a log has at a time -/
abbrev MT (D : List Dd) (t : Rat) : Mp := (runM (thenD D t)).1
/-- the papers of those who run, by their numbers -/
def ppM (M : Mp) (t : Rat) : List PprI := (pprs (lnM M) t (ordL (lnM M) t)).map fun x => ⟨kN M x.a, kN M x.b, x.c⟩
/-- an exchange, by numbers -/
abbrev StI := Tri Rat Int Int
def stM (M : Mp) (x : Tri Rat Nat Nat) : StI := ⟨x.a, kN M x.b, kN M x.c⟩
/-- what a race tells on its way -/
def RGo (D : List Dd) : Option Rat → Rat → List StI → Prop
  | none, _, es => es = []
  | some u, t, es => ∃ es' v row', Goes (lnM (MT D u)) t u (ordL (lnM (MT D u)) u) es' v row' ∧ es = es'.map (stM (MT D u))
theorem RGo.uniq {D : List Dd} {now : Option Rat} {t : Rat} {a b : List StI} (h : RGo D now t a) (k : RGo D now t b) : a = b := by
  cases now with
  | none => exact (show a = [] from h).trans (show b = [] from k).symm
  | some u =>
    obtain ⟨e1, _, _, g1, rfl⟩ := h
    obtain ⟨e2, _, _, g2, rfl⟩ := k
    rw [(g1.uniq g2).1]
structure RcAt (kR : Kls) (S : Sto) (r dl gl cl : Addr) (D : List Dd) (now : Option Rat) (G C : List PprI) : Prop where
  ob : S r = some (.ins kR [.ref dl, eO now, .ref gl, .ref cl])
  hd : S dl = some (.lst (D.map eDd))
  hg : S gl = some (.lst (G.map eI3))
  hc : S cl = some (.lst (C.map eI3))
  dg : dl ≠ gl
  dc : dl ≠ cl
section
variable {kR : Kls} {S S' : Sto} {r dl gl cl p : Addr} {D : List Dd} {now : Option Rat} {G C : List PprI} {o : O}
theorem RcAt.by (h : RcAt kR S r dl gl cl D now G C) (k : ∀ b x, (b = r ∨ b = dl ∨ b = gl ∨ b = cl) → S b = some x → S' b = some x) : RcAt kR S' r dl gl cl D now G C :=
  ⟨k _ _ (.inl rfl) h.ob, k _ _ (.inr (.inl rfl)) h.hd, k _ _ (.inr (.inr (.inl rfl))) h.hg, k _ _ (.inr (.inr (.inr rfl))) h.hc, h.dg, h.dc⟩
theorem RcAt.sub (h : RcAt kR S r dl gl cl D now G C) (k : Sub S S') : RcAt kR S' r dl gl cl D now G C := h.by fun b x _ => k b x
theorem RcAt.rc (h : RcAt kR S r dl gl cl D now G C) : r ≠ cl := st_ne h.ob h.hc fun z => nomatch z
theorem RcAt.off (h : RcAt kR S r dl gl cl D now G C) (n : S p = none) : p ≠ r ∧ p ≠ dl ∧ p ≠ gl ∧ p ≠ cl := ⟨(ne_of_st h.ob n).symm, (ne_of_st h.hd n).symm, (ne_of_st h.hg n).symm, (ne_of_st h.hc n).symm⟩
theorem RcAt.upd (h : RcAt kR S r dl gl cl D now G C) (n : p ≠ r ∧ p ≠ dl ∧ p ≠ gl ∧ p ≠ cl) : RcAt kR (ups S p o) r dl gl cl D now G C :=
  ⟨(ups_ne n.1.symm).trans h.ob, (ups_ne n.2.1.symm).trans h.hd, (ups_ne n.2.2.1.symm).trans h.hg, (ups_ne n.2.2.2.symm).trans h.hc, h.dg, h.dc⟩
end
theorem Goes.mem {L : List Ln} {t u v : Rat} {row row' : List Nat} {es : List (Tri Rat Nat Nat)} {n : Nat} (g : Goes L t u row es v row') (hp : row.Perm (List.range n)) : ∀ x ∈ es, x.b < n ∧ x.c < n := by
  induction g with
  | stop _ => exact fun x h => nomatch h
  | step h hc g ih =>
    have hlt := fun j (hj : j < _) => List.mem_range.mp (hp.mem_iff.mp (row_mem hj))
    intro x hx
    rcases List.mem_cons.mp hx with rfl | hx
    · exact ⟨hlt _ (by have := h.lt; omega), hlt _ h.lt⟩
    · exact ih ((swap_perm h.lt).trans hp) x hx
theorem Goes.lenW {L : List Ln} {t u v : Rat} {row row' : List Nat} {es : List (Tri Rat Nat Nat)} (g : Goes L t u row es v row') (hp : row.Perm (List.range L.length)) (hI : Inv L u row) : es.length ≤ muW L u row := by
  induction g with
  | stop _ => exact Nat.zero_le _
  | step h hc g ih =>
    have := ih ((swap_perm h.lt).trans hp) (hI.swap (perm_nd hp) h)
    have := muW_ltP hI hp h
    rw [List.length_cons]
    omega
theorem Goes.len {L : List Ln} {t u v : Rat} {row row' : List Nat} {es : List (Tri Rat Nat Nat)} (g : Goes L t u row es v row') (hp : row.Perm (List.range L.length)) (hI : Inv L u row) (hl : L.length ≤ 20) : es.length ≤ 400 := by
  have h1 := g.lenW hp hI
  have h2 := muW_le L u row
  have h3 : L.length * L.length ≤ 20 * 20 := Nat.mul_le_mul hl hl
  omega
/-- how many have joined -/
def isJ : Dd → Bool
  | .join _ _ _ => true
  | _ => false
theorem joins_run (D : List Dd) : (D.filter isJ).length = (runM D).2 := by
  induction D using snoc_ind with
  | h0 => rfl
  | h1 D d ih =>
    rw [runM_snoc, List.filter_append, List.length_append, ih]
    cases d <;> rfl
end DL
/-! How many are exchanged on a way; logs of small numbers. -/
namespace DL
open PySem PySem.Spec PyProof.Rows L2
end DL
/-! The leader that a told row of leaders tells at a time. -/
namespace DL
open PySem PySem.Spec PyProof.Rows L2
def LeR (x : Rat) (R : Fo) : Prop := ∀ y ∈ R, ∀ s, y.2 = some s → s ≤ x
theorem LeR.put {x t : Rat} {R : Fo} {r : Option Int} (h : LeR x R) (ht : t ≤ x) : LeR x (putR R r t) := by
  unfold putR
  split
  · exact h
  · intro y hy s e
    rcases List.mem_append.mp hy with hy | hy
    · exact h y hy s e
    · rw [List.mem_singleton.mp hy] at e; cases e; exact ht
end DL
/-! Waiting lists beside a sorted list of their pairs. -/
namespace DL
open PySem PySem.Spec PyProof.Rows L2
abbrev PwK (K : List Wp) : Prop := K.Pairwise prLt
/-- a waiting list at w, d; the sorted list of its pairs at k -/
structure OneW (kW : Kls) (S : Sto) (w d k : Addr) (sh : Sh) (ks : List PK) (K : List Wp) : Prop where
  wt : WtAt kW S w d sh ks
  ok : WtOk sh ks
  hk : S k = some (.lst (K.map eWp))
  pm : K.Perm sh.toL
  pw : PwK K
section
variable {kW : Kls} {S S' : Sto} {w d k : Addr} {sh sh' : Sh} {ks ks' : List PK} {K : List Wp}
theorem OneW.sub (h : OneW kW S w d k sh ks K) (s : Sub S S') : OneW kW S' w d k sh ks K := { h with wt := h.wt.sub s, hk := s _ _ h.hk }
theorem drain_eq (ok : WtOk sh ks) (pm : K.Perm sh.toL) (pw : PwK K) : Sh.drain sh.size sh = K := by
  have h1 := Sh.drain_perm sh.size sh (Nat.le_refl _)
  have h2 := (Sh.drain_sorted sh.size sh ok.hp).1
  have nd : (Sh.drain sh.size sh).Nodup := h1.nodup_iff.mpr ok.nd
  have h3 : PwK (Sh.drain sh.size sh) := (h2.and (List.nodup_iff_pairwise_ne.mp nd)).imp fun {a b} x => (prLt_total x.2).resolve_right x.1
  exact pw_ext (fun _ _ => prLt_asymm) h3 pw fun z => by rw [h1.mem_iff, pm.mem_iff]
theorem OneW.drain (h : OneW kW S w d k sh ks K) : Sh.drain sh.size sh = K := drain_eq h.ok h.pm h.pw
/-- the first one -/
def hdD (K : List Wp) : D := match K with
  | [] => .non
  | p :: _ => eWp p
theorem OneW.first (h : OneW kW S w d k sh ks K) : fstD sh = hdD K := by
  have e := h.drain
  cases sh with
  | nil => rw [← e]; rfl
  | node p l r => rw [← e]; rfl
theorem OneW.len (h : OneW kW S w d k sh ks K) : sh.size = K.length := by rw [h.pm.length_eq, Sh.toL_len]
theorem OneW.mem (h : OneW kW S w d k sh ks K) (p : Wp) : p ∈ sh.toL ↔ p ∈ K := (h.pm.mem_iff).symm
theorem OneW.nz (h : OneW kW S w d k sh ks K) : ∀ p ∈ K, Nz 4000 p.1 := fun p hp => h.ok.nz p ((h.mem p).mpr hp)
end
theorem map_erase {α β : Type} {f : α → β} {l : List α} {i : Nat} : (l.map f).eraseIdx i = (l.eraseIdx i).map f := by
  rw [List.eraseIdx_eq_take_drop_succ, List.eraseIdx_eq_take_drop_succ, List.map_append, List.map_take, List.map_drop]
section
variable {kW : Kls} {S S' : Sto} {w d : Addr} {sh : Sh} {ks : List PK}
theorem WtAt.lst (h : WtAt kW S w d sh ks) (fr : Fr2 S S' w d) {b : Addr} {xs : List D} (e : S b = some (.lst xs)) : S' b = some (.lst xs) :=
  fr b _ (st_ne e h.ob fun z => nomatch z) (st_ne e h.hd fun z => nomatch z) e
theorem WtAt.pen (h : WtAt kW S w d sh ks) (fr : Fr2 S S' w d) {a : Addr} {n : Nat} (hp : PenC S a n) : PenC S' a n := let ⟨x, y, z, e, r⟩ := hp; ⟨x, y, z, h.lst fr e, r⟩
theorem WtAt.fr (h : WtAt kW S w d sh ks) {a : Addr} {n : Nat} (fr : Fr S S' a) (hp : PenC S a n) : WtAt kW S' w d sh ks :=
  let ⟨_, _, _, e, _⟩ := hp
  ⟨fr _ _ (st_ne h.ob e fun z => nomatch z) h.ob, fr _ _ (st_ne h.hd e fun z => nomatch z) h.hd⟩
end
end DL
/-! A try whose one clause names a class and keeps no name. -/
namespace DL
open PySem PySem.Spec PyProof.Rows L2
end DL
/-! sorted of pairs of pairs of whole numbers. -/
namespace DL
open PySem PySem.Spec PyProof.Rows L2
def pyP (k : PK) : PyData := .tuple [.tuple [.int k.1.1, .int k.1.2], .tuple [.int k.2.1, .int k.2.2]]
def lt2 (a b : Int × Int) : Prop := a.1 < b.1 ∨ (a.1 = b.1 ∧ a.2 < b.2)
def ltP (a b : PK) : Prop := lt2 a.1 b.1 ∨ (a.1 = b.1 ∧ lt2 a.2 b.2)
instance (a b : Int × Int) : Decidable (lt2 a b) := by unfold lt2; infer_instance
instance (a b : PK) : Decidable (ltP a b) := by unfold ltP; infer_instance
/-! the rule -/
section
variable {X : Cx} {pins : List (Addr × Obj)} {σ : L2.St} {H : Hp} {s : Shared}
theorem pair_rd {p : Addr} {i j : Int} (I : L2.Inv X pins σ H s) (h : Dv X.K H (.tup [.int i, .int j]) (.ref p)) : Reads s.heap (.ref p) (.tuple [.int i, .int j]) [] := by
  cases h with
  | tup h1 h2 =>
    obtain ⟨its, r, ⟨o, e, c, n, d⟩, _⟩ := I.tuple h1
    cases h2 with
    | cons d1 h2 =>
      cases d1
      cases h2 with
      | cons d2 h2 =>
        cases d2
        cases h2
        cases r with
        | cons r1 r =>
          cases r with
          | cons r2 r =>
            cases r
            obtain ⟨t1, rfl⟩ := r1
            obtain ⟨t2, rfl⟩ := r2
            exact .tuple e c d (.cons (.int _ _) (.cons (.int _ _) .nil))
theorem key_rd {k : PK} {b : Addr} (I : L2.Inv X pins σ H s) (h : Dv X.K H (ePK k) (.ref b)) : Reads s.heap (.ref b) (pyP k) [] := by
  unfold ePK at h
  cases h with
  | tup h1 h2 =>
    obtain ⟨its, r, ⟨o, e, c, n, d⟩, _⟩ := I.tuple h1
    cases h2 with
    | @cons _ v1 _ _ d1 h2 =>
      cases h2 with
      | @cons _ v2 _ _ d2 h2 =>
        cases h2
        cases r with
        | cons r1 r =>
          cases r with
          | cons r2 r =>
            cases r
            cases d1 with
            | tup a1 a2 =>
              cases d2 with
              | tup b1 b2 =>
                cases r1
                cases r2
                exact .tuple e c d (.cons (pair_rd I (.tup a1 a2)) (.cons (pair_rd I (.tup b1 b2)) .nil))
end
theorem dvs_pk {K : PySem.W.Frag} {H : Hp} : ∀ {ks : List PK} {vs : List V}, Dvs K H (ks.map ePK) vs → ∃ xs : List (PK × Addr), vs = xs.map (fun x => V.ref x.2) ∧ xs.map (·.1) = ks ∧ ∀ x ∈ xs, Dv K H (ePK x.1) (.ref x.2)
  | [], _, h => by cases h; exact ⟨[], rfl, rfl, fun _ h => nomatch h⟩
  | k :: ks, _, h => by
    cases h with
    | @cons _ v _ vs h1 h2 =>
      obtain ⟨xs, rfl, rfl, hx⟩ := dvs_pk h2
      have h1' := h1
      unfold ePK at h1
      cases h1 with
      | @tup p _ _ h3 h4 =>
        refine ⟨(k, p) :: xs, rfl, rfl, fun x hm => ?_⟩
        rcases List.mem_cons.mp hm with rfl | hm
        · exact h1'
        · exact hx x hm
theorem pk_dvs {K : PySem.W.Frag} {H : Hp} : ∀ {xs : List (PK × Addr)}, (∀ x ∈ xs, Dv K H (ePK x.1) (.ref x.2)) → Dvs K H ((xs.map (·.1)).map ePK) (xs.map fun x => V.ref x.2)
  | [], _ => .nil
  | x :: xs, h => .cons (h x (List.mem_cons_self ..)) (pk_dvs fun y hy => h y (List.mem_cons_of_mem _ hy))
end DL
/-! xs.count(x) of data. -/
namespace DL
open PySem PySem.Spec PyProof.Rows L2
/-! ### not among a tuple's things -/
end DL
/-! Ways put one behind the other; what a deed changes in the papers. -/
namespace DL
open PySem PySem.Spec PyProof.Rows L2
theorem Goes.on {L : List Ln} {u m t v : Rat} {row row' : List Nat} {es : List (Tri Rat Nat Nat)} (h : Goes L t u row es v row') (nd : row.Nodup) (hum : u ≤ m) (hl : ∀ j c, j + 1 < row.length → tlW L (row.getD j 0) (row.getD (j + 1) 0) u = some c → m ≤ c) : ∃ v', Goes L t m row es v' row' := by
  cases h with
  | stop h => exact ⟨m, .stop fun j c hj e => h j c hj (by rw [← tl_stay_nb nd hum hl hj]; exact e)⟩
  | step h hc g => exact ⟨_, .step (h.on nd hum hl) hc g⟩
theorem Goes.off {L : List Ln} {u m t v : Rat} {row row' : List Nat} {es : List (Tri Rat Nat Nat)} (h : Goes L t m row es v row') (nd : row.Nodup) (hum : u ≤ m) (hl : ∀ j c, j + 1 < row.length → tlW L (row.getD j 0) (row.getD (j + 1) 0) u = some c → m ≤ c) : ∃ v', Goes L t u row es v' row' := by
  cases h with
  | stop h => exact ⟨u, .stop fun j c hj e => h j c hj (by rw [tl_stay_nb nd hum hl hj]; exact e)⟩
  | step h hc g =>
    refine ⟨_, .step ⟨h.lt, ?_, fun j d hj e => ?_, fun j hj e => ?_⟩ hc g⟩
    · rw [← tl_stay_nb nd hum hl h.lt]; exact h.at_
    · rw [← tl_stay_nb nd hum hl hj] at e; exact h.le j d hj e
    · have := h.lt
      rw [← tl_stay_nb nd hum hl (by omega)] at e; exact h.fst j hj e
/-! ### orders and papers by numbers -/
def AhK (M : Mp) (t : Rat) (x y : Int) : Prop := Ahd (LI M) x.toNat y.toNat t
def nxK (M : Mp) (t : Rat) (x y : Int) : Option Rat := nxt (LI M) x.toNat y.toNat t
def prsI (O : List Int) : List (Int × Int) := O.zip (O.drop 1)
theorem kN_key {M : Mp} {i : Nat} (h : i < M.length) : ∃ k : Nat, kN M i = (k : Int) ∧ k ∈ keysM M := by
  obtain ⟨k, l, e, e1, _⟩ := kN_get h
  exact ⟨k, e1, List.mem_map.mpr ⟨_, List.mem_of_getElem? e, rfl⟩⟩
theorem prsI_map {α : Type} (f : Nat → Int) (O : List Nat) : prsI (O.map f) = (prs O).map fun p => (f p.1, f p.2) := by
  unfold prsI prs
  rw [← List.map_drop, List.zip_map]
  rfl
theorem nxt_idx {M : Mp} (hk : (keysM M).Pairwise (· < ·)) {i j : Nat} {t : Rat} (hi : i < M.length) (hj : j < M.length) : nxt (lnM M) i j t = nxK M t (kN M i) (kN M j) := by
  obtain ⟨a, ea, _⟩ := kN_key hi
  obtain ⟨b, eb, _⟩ := kN_key hj
  unfold nxK nxt
  rw [ea, eb, Int.toNat_natCast, Int.toNat_natCast, ln_idx hk hi ea, ln_idx hk hj eb]
theorem ordM_lt {M : Mp} {t : Rat} {x : Nat} (h : x ∈ ordL (lnM M) t) : x < M.length := by
  have := ((ordL_ok (lnM M) t).mem x).mp h
  rwa [lnM_len] at this
theorem ppM_ids {M : Mp} (hk : (keysM M).Pairwise (· < ·)) (t : Rat) : ppM M t = (prsI (OM M t)).map fun p => (⟨p.1, p.2, nxK M t p.1 p.2⟩ : PprI) := by
  unfold ppM pprs OM
  rw [prsI_map (α := Nat), List.map_map, List.map_map]
  refine List.map_congr_left fun p hp => ?_
  have hm := prs_mem hp
  show (⟨kN M p.1, kN M p.2, nxt (lnM M) p.1 p.2 t⟩ : PprI) = _
  rw [nxt_idx hk (ordM_lt hm.1) (ordM_lt hm.2)]
  rfl
theorem OM_pw {M : Mp} (hk : (keysM M).Pairwise (· < ·)) (t : Rat) : (OM M t).Pairwise (AhK M t) := by
  unfold OM
  rw [List.pairwise_map]
  have hp := (ordL_ok (lnM M) t).pw
  refine List.Pairwise.imp_of_mem (fun {a b} ha hb h => ?_) hp
  obtain ⟨x, ex, _⟩ := kN_key (ordM_lt ha)
  obtain ⟨y, ey, _⟩ := kN_key (ordM_lt hb)
  unfold AhK
  rw [ex, ey, Int.toNat_natCast, Int.toNat_natCast]
  have := ahd_idx hk (ordM_lt ha) (ordM_lt hb) ex ey (t := t)
  exact (decide_eq_decide.mp this).mp h
theorem OM_mem {M : Mp} {t : Rat} {x : Int} : x ∈ OM M t ↔ x ∈ KM M := by
  rw [KM_range]
  unfold OM
  rw [List.mem_map, List.mem_map]
  constructor
  · rintro ⟨i, h, e⟩; exact ⟨i, List.mem_range.mpr (ordM_lt h), e⟩
  · rintro ⟨i, h, e⟩; exact ⟨i, ((ordL_ok (lnM M) t).mem i).mpr (by rw [lnM_len]; exact List.mem_range.mp h), e⟩
theorem KM_mem {M : Mp} {x : Int} : x ∈ KM M ↔ ∃ k : Nat, x = (k : Int) ∧ k ∈ keysM M := by
  unfold KM
  rw [List.mem_map]
  exact ⟨fun ⟨k, h, e⟩ => ⟨k, e.symm, h⟩, fun ⟨k, e, h⟩ => ⟨k, h, e.symm⟩⟩
/-- the same lines, but of one runner -/
structure But (M M' : Mp) (r : Nat) : Prop where
  k : (keysM M).Pairwise (· < ·)
  k' : (keysM M').Pairwise (· < ·)
  mem : ∀ x : Nat, x ∈ keysM M' ↔ x ∈ keysM M ∧ x ≠ r
  ln : ∀ x : Nat, x ∈ keysM M' → ln (LI M') x = ln (LI M) x
theorem But.ah {M M' : Mp} {r : Nat} (h : But M M' r) {t : Rat} {x y : Int} (hx : x ∈ KM M') (hy : y ∈ KM M') : AhK M' t x y ↔ AhK M t x y := by
  obtain ⟨a, rfl, ha⟩ := KM_mem.mp hx
  obtain ⟨b, rfl, hb⟩ := KM_mem.mp hy
  unfold AhK Ahd
  rw [Int.toNat_natCast, Int.toNat_natCast, h.ln a ha, h.ln b hb]
theorem But.nx {M M' : Mp} {r : Nat} (h : But M M' r) {t : Rat} {x y : Int} (hx : x ∈ KM M') (hy : y ∈ KM M') : nxK M' t x y = nxK M t x y := by
  obtain ⟨a, rfl, ha⟩ := KM_mem.mp hx
  obtain ⟨b, rfl, hb⟩ := KM_mem.mp hy
  unfold nxK nxt
  rw [Int.toNat_natCast, Int.toNat_natCast, h.ln a ha, h.ln b hb]
theorem But.om {M M' : Mp} {r : Nat} (h : But M M' r) {t : Rat} : OM M' t = (OM M t).filter fun x => decide (x ≠ (r : Int)) := by
  refine pw_ext (R := AhK M t) (fun _ _ a b => ahd_asymm a b) ?_ ((OM_pw h.k t).filter _) fun z => ?_
  · exact List.Pairwise.imp_of_mem (fun {a b} ha hb q => (h.ah (OM_mem.mp ha) (OM_mem.mp hb)).mp q) (OM_pw h.k' t)
  · rw [List.mem_filter, OM_mem, OM_mem, KM_mem, KM_mem, decide_eq_true_iff]
    constructor
    · rintro ⟨k, rfl, hk⟩
      have := (h.mem k).mp hk
      exact ⟨⟨k, rfl, this.1⟩, by have := this.2; omega⟩
    · rintro ⟨⟨k, rfl, hk⟩, n⟩
      exact ⟨k, rfl, (h.mem k).mpr ⟨hk, by omega⟩⟩
theorem prsI_mem {O : List Int} {p : Int × Int} (h : p ∈ prsI O) : p.1 ∈ O ∧ p.2 ∈ O := by
  unfold prsI at h
  have := List.of_mem_zip (show (p.1, p.2) ∈ O.zip (O.drop 1) from h)
  exact ⟨this.1, List.mem_of_mem_drop this.2⟩
theorem prsI_cons (x y : Int) (O : List Int) : prsI (x :: y :: O) = (x, y) :: prsI (y :: O) := rfl
/-- two neighbours stay so when another one goes -/
theorem prsI_filter {r : Int} : ∀ {O : List Int} {a b : Int}, (a, b) ∈ prsI O → a ≠ r → b ≠ r → (a, b) ∈ prsI (O.filter fun x => decide (x ≠ r))
  | [], _, _, h, _, _ => nomatch h
  | [x], _, _, h, _, _ => nomatch h
  | x :: y :: O, a, b, h, ha, hb => by
    rw [prsI_cons] at h
    have key : ∀ z (zs : List Int), (a, b) ∈ prsI zs → (a, b) ∈ prsI (z :: zs) := fun z zs h => by
      cases zs with
      | nil => exact h
      | cons w ws => rw [prsI_cons]; exact List.mem_cons_of_mem _ h
    rcases List.mem_cons.mp h with e | h
    · cases e
      rw [List.filter_cons_of_pos (by simpa using ha), List.filter_cons_of_pos (by simpa using hb), prsI_cons]
      exact List.mem_cons_self
    · have ih := prsI_filter (O := y :: O) h ha hb
      by_cases c : x = r
      · rw [List.filter_cons_of_neg (by simpa using c)]; exact ih
      · rw [List.filter_cons_of_pos (by simpa using c)]; exact key _ _ ih
/-- whether a runner is in a paper -/
def inP (r : Int) (x : PprI) : Bool := decide (x.a = r ∨ x.b = r)
section
variable {M M' : Mp} {r : Nat} {t : Rat}
theorem But.none (h : But M M' r) : ((ppM M t).filter fun x => !decide (x ∈ ppM M' t)).filter (fun x => !inP r x) = [] := by
  refine List.filter_eq_nil_iff.mpr fun x hx hn => ?_
  obtain ⟨h1, h2⟩ := List.mem_filter.mp hx
  rw [ppM_ids h.k] at h1
  obtain ⟨p, hp, rfl⟩ := List.mem_map.mp h1
  simp only [inP, Bool.not_eq_true', decide_eq_false_iff_not, not_or] at hn h2
  have hm := prsI_mem hp
  refine h2 ?_
  rw [ppM_ids h.k']
  have hp' := prsI_filter hp hn.1 hn.2
  rw [← h.om] at hp'
  have hm' := prsI_mem hp'
  refine List.mem_map.mpr ⟨p, hp', ?_⟩
  rw [h.nx (OM_mem.mp hm'.1) (OM_mem.mp hm'.2)]
end
/-! a join, a leaving -/
theorem But.join {M : Mp} {r : Nat} {l : Ln} (hk : (keysM M).Pairwise (· < ·)) (hr : ∀ k ∈ keysM M, k < r) : But (M ++ [(r, l)]) M r where
  k := by
    unfold keysM
    rw [List.map_append]
    refine List.pairwise_append.mpr ⟨hk, List.pairwise_singleton .., fun a ha b hb => ?_⟩
    rw [List.mem_singleton.mp hb]
    exact hr a ha
  k' := hk
  mem := fun x => by
    unfold keysM
    rw [List.map_append, List.mem_append]
    constructor
    · exact fun h => ⟨.inl h, by have := hr x h; omega⟩
    · rintro ⟨h | h, n⟩
      · exact h
      · exact absurd (List.mem_singleton.mp h) n
  ln := fun x hx => by
    have hx' : x ∈ keysM (M ++ [(r, l)]) := by unfold keysM; rw [List.map_append]; exact List.mem_append_left _ hx
    rw [ln_LI hx, ln_LI hx']
    unfold lnI
    rw [mget_app, if_pos hx]
theorem But.leave {M : Mp} {r : Nat} (hk : (keysM M).Pairwise (· < ·)) : But M (mdrop M r) r where
  k := hk
  k' := by rw [keys_mdrop]; exact hk.filter _
  mem := fun x => by rw [keys_mdrop, List.mem_filter, decide_eq_true_iff]
  ln := fun x hx => by
    have h2 := hx
    rw [keys_mdrop, List.mem_filter, decide_eq_true_iff] at h2
    rw [ln_LI hx, ln_LI h2.1]
    unfold lnI
    rw [mget_drop _ _ h2.2]
/-! a turn -/
structure Trn (L L' : List Ln) (t : Rat) (j : Nat) : Prop where
  len : L'.length = L.length
  lnx : ∀ i, i ≠ j → ln L' i = ln L i
  atx : at_ (ln L' j) t = at_ (ln L j) t
theorem Trn.ah {L L' : List Ln} {t : Rat} {j a b : Nat} (h : Trn L L' t j) (u : ∀ i, i < L'.length → i ≠ j → DL.at_ (DL.ln L' i) t ≠ DL.at_ (DL.ln L' j) t) (ha : a < L'.length) (hb : b < L'.length) : Ahd L' a b t ↔ Ahd L a b t := by
  by_cases e : a = b
  · subst e
    exact ⟨fun z => (ahd_irr z).elim, fun z => (ahd_irr z).elim⟩
  by_cases e1 : a = j
  · subst e1
    have h1 := u b hb (fun z => e z.symm)
    have h2 := h.lnx b (fun z => e z.symm)
    have h3 := h.atx
    unfold Ahd
    rw [h2] at h1 ⊢
    rw [h3] at h1 ⊢
    grind
  by_cases e2 : b = j
  · subst e2
    have h1 := u a ha e1
    have h2 := h.lnx a e1
    have h3 := h.atx
    unfold Ahd
    rw [h2] at h1 ⊢
    rw [h3] at h1 ⊢
    grind
  · unfold Ahd
    rw [h.lnx a e1, h.lnx b e2]
theorem Trn.ord {L L' : List Ln} {t : Rat} {j : Nat} (h : Trn L L' t j) (u : ∀ i, i < L'.length → i ≠ j → DL.at_ (DL.ln L' i) t ≠ DL.at_ (DL.ln L' j) t) : ordL L' t = ordL L t := by
  have ho := ordL_ok L t
  refine (IsOrd.eq ⟨?_, fun i => ?_⟩).symm
  · refine List.Pairwise.imp_of_mem (fun {a b} ha hb q => ?_) ho.pw
    have h1 := (ho.mem a).mp ha
    have h2 := (ho.mem b).mp hb
    exact (h.ah u (by rw [h.len]; exact h1) (by rw [h.len]; exact h2)).mpr q
  · rw [ho.mem, h.len]
end DL
/-! The same lines under other numbers, and told so much later. -/
namespace DL
open PySem PySem.Spec PyProof.Rows L2
structure Sim (L L' : List Ln) (π : Nat → Nat) (d : Rat) : Prop where
  len : L'.length = L.length
  lt : ∀ i, i < L.length → π i < L.length
  inj : ∀ i j, i < L.length → j < L.length → π i = π j → i = j
  sur : ∀ j, j < L.length → ∃ i, i < L.length ∧ π i = j
  gp : ∀ i j t, i < L.length → j < L.length → at_ (ln L' (π i)) (t + d) - at_ (ln L' (π j)) (t + d) = at_ (ln L i) t - at_ (ln L j) t
  tie : ∀ i j, i < L.length → j < L.length → i ≠ j → ln L i = ln L j → (π i < π j ↔ i < j)
section
variable {L L' : List Ln} {π : Nat → Nat} {d t : Rat} {i j k : Nat}
theorem Sim.sl (h : Sim L L' π d) (hi : i < L.length) (hj : j < L.length) : (ln L' (π i)).2 - (ln L' (π j)).2 = (ln L i).2 - (ln L j).2 := by
  have h0 := h.gp i j 0 hi hj
  have h1 := h.gp i j 1 hi hj
  unfold at_ at h0 h1
  grind
theorem Sim.ah (h : Sim L L' π d) (hi : i < L.length) (hj : j < L.length) : Ahd L' (π i) (π j) (t + d) ↔ Ahd L i j t := by
  by_cases e : i = j
  · subst e
    exact ⟨fun z => (ahd_irr z).elim, fun z => (ahd_irr z).elim⟩
  have g := h.gp i j t hi hj
  have s := h.sl hi hj
  have k : at_ (ln L i) t = at_ (ln L j) t → (ln L i).2 = (ln L j).2 → (π i < π j ↔ i < j) := fun e1 e2 => h.tie i j hi hj e (by
    refine Prod.ext ?_ e2
    unfold at_ at e1
    rw [e2] at e1
    grind)
  unfold Ahd
  generalize at_ (ln L' (π i)) (t + d) = a at *
  generalize at_ (ln L' (π j)) (t + d) = b at *
  generalize at_ (ln L i) t = a' at *
  generalize at_ (ln L j) t = b' at *
  generalize (ln L' (π i)).2 = c at *
  generalize (ln L' (π j)).2 = e at *
  generalize (ln L i).2 = c' at *
  generalize (ln L j).2 = e' at *
  have p1 : b < a ↔ b' < a' := by constructor <;> intro h <;> grind
  have p2 : a = b ↔ a' = b' := by constructor <;> intro h <;> grind
  have p3 : e < c ↔ e' < c' := by constructor <;> intro h <;> grind
  have p4 : c = e ↔ c' = e' := by constructor <;> intro h <;> grind
  rw [p1, p2, p3, p4]
  constructor
  · rintro (h | ⟨h1, h | ⟨h2, h3⟩⟩)
    · exact .inl h
    · exact .inr ⟨h1, .inl h⟩
    · exact .inr ⟨h1, .inr ⟨h2, (k h1 h2).mp h3⟩⟩
  · rintro (h | ⟨h1, h | ⟨h2, h3⟩⟩)
    · exact .inl h
    · exact .inr ⟨h1, .inl h⟩
    · exact .inr ⟨h1, .inr ⟨h2, (k h1 h2).mpr h3⟩⟩
theorem met_of {l m : Ln} {t : Rat} (n : l.2 ≠ m.2) (h : at_ l t = at_ m t) : met l m = t := by
  have h' := sub_ne n
  unfold at_ at h
  unfold met
  have e : m.1 - l.1 = t * (l.2 - m.2) := by grind
  rw [e]
  grind
theorem Sim.ne (h : Sim L L' π d) (hi : i < L.length) (hj : j < L.length) : (ln L' (π i)).2 ≠ (ln L' (π j)).2 ↔ (ln L i).2 ≠ (ln L j).2 := by
  have := h.sl hi hj
  constructor <;> intro a b <;> apply a <;> grind
theorem Sim.mt (h : Sim L L' π d) (hi : i < L.length) (hj : j < L.length) (n : (ln L i).2 ≠ (ln L j).2) : met (ln L' (π i)) (ln L' (π j)) = met (ln L i) (ln L j) + d := by
  refine met_of ((h.ne hi hj).mpr n) ?_
  have g := h.gp i j (met (ln L i) (ln L j)) hi hj
  have e := at_met n
  rw [e] at g
  grind
theorem Sim.nx (h : Sim L L' π d) (hi : i < L.length) (hj : j < L.length) : nxt L' (π i) (π j) (t + d) = (nxt L i j t).map (· + d) := by
  unfold nxt
  by_cases n : (ln L i).2 ≠ (ln L j).2
  · rw [h.mt hi hj n]
    by_cases c : t < met (ln L i) (ln L j)
    · rw [if_pos ⟨(h.ne hi hj).mpr n, by grind⟩, if_pos ⟨n, c⟩]; rfl
    · rw [if_neg fun z => c (by have := z.2; grind), if_neg fun z => c z.2]; rfl
  · rw [if_neg fun z => n ((h.ne hi hj).mp z.1), if_neg fun z => n z.1]; rfl
theorem ordL_lt {x : Nat} (h : x ∈ ordL L t) : x < L.length := ((ordL_ok L t).mem x).mp h
theorem Sim.ord (h : Sim L L' π d) : ordL L' (t + d) = (ordL L t).map π := by
  have o := ordL_ok L t
  symm
  refine IsOrd.eq ⟨?_, fun i => ?_⟩
  · rw [List.pairwise_map]
    exact List.Pairwise.imp_of_mem (fun {a b} ha hb q => (h.ah (ordL_lt ha) (ordL_lt hb)).mpr q) o.pw
  · rw [h.len, List.mem_map]
    constructor
    · rintro ⟨j, hj, rfl⟩; exact h.lt j (ordL_lt hj)
    · intro hi
      obtain ⟨j, hj, e⟩ := h.sur i hi
      exact ⟨j, (o.mem j).mpr hj, e⟩
/-! rows -/
theorem Sim.top (h : Sim L L' π d) {r : Nat} (k : IsTop L t r) : IsTop L' (t + d) (π r) := by
  refine ⟨by rw [h.len]; exact h.lt r k.1, fun j hj n => ?_⟩
  rw [h.len] at hj
  obtain ⟨i, hi, rfl⟩ := h.sur j hj
  exact (h.ah k.1 hi).mpr (k.2 i hi fun z => n (by rw [z]))
def ltr (π : Nat → Nat) (d : Rat) (x : Nat × Option Rat) : Nat × Option Rat := (π x.1, x.2.map (· + d))
theorem ge_off {s : Option Rat} {t' : Rat} (g : Ge (s.map (· + d)) t') : Ge s (t' - d) := fun v e => by
  subst e
  have := g (v + d) rfl
  grind
theorem Sim.seg (h : Sim L L' π d) : ∀ {rest : Rw} {s : Option Rat} {r : Nat}, Seg (IsTop L) s r rest → Seg (IsTop L') (s.map (· + d)) (π r) (rest.map (ltr π d))
  | [], s, r, k => fun t' g => by
    have := h.top (k (t' - d) (ge_off g))
    rwa [show t' - d + d = t' by grind] at this
  | (r', some u) :: rest, s, r, k => by
    obtain ⟨k1, k2, k3, k4⟩ := k
    refine ⟨fun v e => ?_, fun t' g hu => ?_, fun e => ?_, h.seg k4⟩
    · cases s with
      | none => cases e
      | some w =>
        cases e
        have := k1 w rfl
        grind
    · have := h.top (k2 (t' - d) (ge_off g) (by grind))
      rwa [show t' - d + d = t' by grind] at this
    · obtain ⟨t0, g0, g1⟩ := gt_between k1
      exact k3 (h.inj r r' (k2 t0 g0 g1).1 (Seg.at0 k4).1 e)
  | (_, none) :: _, _, _, k => k.elim
theorem Sim.row (h : Sim L L' π d) {rows : Rw} (k : IsRow L rows) : IsRow L' (rows.map (ltr π d)) := by
  rcases k with ⟨e, rfl⟩ | ⟨n, r, rest, rfl, k⟩
  · refine .inl ⟨?_, rfl⟩
    have := h.len
    rw [e] at this
    exact List.length_eq_zero_iff.mp this
  · refine .inr ⟨fun e => n ?_, π r, _, rfl, h.seg k⟩
    have := h.len
    rw [e] at this
    exact List.length_eq_zero_iff.mp this.symm
/-! covers -/
theorem rows_lt {rows : Rw} (h : IsRow L rows) {x : Nat} (hx : x ∈ rows.map (·.1)) : x < L.length := (row_leads h hx).choose_spec.1
theorem cvr_is {rows : Rw} (h : IsRow L rows) {r : Nat} (hr : r < L.length) {p : Nat × Nat} (e : cvr L rows r = some p) : IsCov L r (p.1 : Int) (p.2 : Int) ∧ p.1 < L.length ∧ p.2 < L.length := by
  unfold cvr at e
  split at e
  · cases e
  · next hn =>
    cases e
    obtain ⟨h1, h2, h3⟩ := cvr_ok h hr hn
    have l1 := rows_lt h h2
    have l2 := rows_lt h h3
    refine ⟨⟨⟨fun z => hn ?_, by omega, by omega⟩, ⟨fun z => hn ?_, by omega, by omega⟩, h1⟩, l1, l2⟩
    · rw [show r = _ from (Int.ofNat_inj.mp z).symm]; exact h2
    · rw [show r = _ from (Int.ofNat_inj.mp z).symm]; exact h3
/-! changes -/
def mapP (π : Nat → Nat) (p : Pr) : Pr := (π p.1, π p.2)
theorem Sim.tm (h : Sim L L' π d) {lo hi : Rat} {p : Pr} (h1 : p.1 < L.length) (h2 : p.2 < L.length) : tmW L' (lo + d) (hi + d) (mapP π p) = (tmW L lo hi p).map (· + d) := by
  unfold tmW mapP
  simp only
  have s := h.sl h1 h2
  by_cases c : (ln L p.1).2 < (ln L p.2).2
  · have n : (ln L p.1).2 ≠ (ln L p.2).2 := fun z => by grind
    have c' : (ln L' (π p.1)).2 < (ln L' (π p.2)).2 := by grind
    rw [h.mt h1 h2 n]
    by_cases e : lo < met (ln L p.1) (ln L p.2) ∧ ¬ hi < met (ln L p.1) (ln L p.2)
    · rw [if_pos ⟨c', by grind, by grind⟩, if_pos ⟨c, e⟩]; rfl
    · rw [if_neg fun z => e ⟨by grind, by grind⟩, if_neg fun z => e z.2]; rfl
  · rw [if_neg fun z => c (by have := z.1; grind), if_neg fun z => c z.1]; rfl
theorem Sim.grp (h : Sim L L' π d) {lo hi : Rat} {C C' : Grp} (g : IsGrp (tmW L lo hi) (allP L.length) C) (h1 : C'.map (·.1) = C.map fun x => x.1 + d) (h2 : ∀ x ∈ C', ∃ y ∈ C, x.1 = y.1 + d ∧ x.2.Perm (y.2.map (mapP π)) ∧ x.2.Pairwise lexP) : IsGrp (tmW L' (lo + d) (hi + d)) (allP L'.length) C' := by
  rw [h.len]
  have tq : ∀ p ∈ allP L.length, tmW L' (lo + d) (hi + d) (mapP π p) = (tmW L lo hi p).map (· + d) := fun p hp => h.tm (allP_mem.mp hp).1 (allP_mem.mp hp).2
  have inP : ∀ p ∈ allP L.length, mapP π p ∈ allP L.length := fun p hp => allP_mem.mpr ⟨h.lt _ (allP_mem.mp hp).1, h.lt _ (allP_mem.mp hp).2⟩
  have exP : ∀ q ∈ allP L.length, ∃ p ∈ allP L.length, mapP π p = q := fun q hq => by
    obtain ⟨a, ha, ea⟩ := h.sur q.1 (allP_mem.mp hq).1
    obtain ⟨b, hb, eb⟩ := h.sur q.2 (allP_mem.mp hq).2
    exact ⟨(a, b), allP_mem.mpr ⟨ha, hb⟩, Prod.ext ea eb⟩
  have inj : ∀ p ∈ allP L.length, ∀ q ∈ allP L.length, mapP π p = mapP π q → p = q := fun p hp q hq e => by
    have hp := allP_mem.mp hp
    have hq := allP_mem.mp hq
    exact Prod.ext (h.inj _ _ hp.1 hq.1 (congrArg Prod.fst e)) (h.inj _ _ hp.2 hq.2 (congrArg Prod.snd e))
  have ms : ∀ {o : Option Rat} {t : Rat}, o.map (· + d) = some (t + d) ↔ o = some t := fun {o t} => by
    cases o with
    | none => simp
    | some x =>
      simp only [Option.map_some, Option.some.injEq]
      constructor <;> intro e <;> grind
  refine grp_mk ?_ (fun t => ?_) fun x hx => ?_
  · rw [h1]
    have := g.inc
    unfold Inc at this ⊢
    rw [List.pairwise_map] at this ⊢
    exact this.imp fun {a b} z => by grind
  · rw [h1, List.mem_map]
    constructor
    · rintro ⟨y, hy, rfl⟩
      obtain ⟨p, hp, e⟩ := (g.mem y.1).mp (List.mem_map.mpr ⟨y, hy, rfl⟩)
      exact ⟨mapP π p, inP p hp, by rw [tq p hp, e]; rfl⟩
    · rintro ⟨q, hq, e⟩
      obtain ⟨p, hp, rfl⟩ := exP q hq
      rw [tq p hp] at e
      obtain ⟨u, e1, rfl⟩ := Option.map_eq_some_iff.mp e
      obtain ⟨y, hy, e2⟩ := List.mem_map.mp ((g.mem u).mpr ⟨p, hp, e1⟩)
      exact ⟨y, hy, by rw [e2]⟩
  · obtain ⟨y, hy, ey, pm, pw⟩ := h2 x hx
    refine sortP_eq (pm.trans ?_) pw ((allP_sorted _).filter _)
    have gy := g.grp y hy
    refine perm_of (nodup_map (by rw [gy]; exact (allP_nd _).filter _) fun a ha b hb e => ?_) ((allP_nd _).filter _) fun z => ?_
    · rw [gy] at ha hb
      exact inj _ (List.mem_filter.mp ha).1 _ (List.mem_filter.mp hb).1 e
    · rw [List.mem_map, List.mem_filter, decide_eq_true_eq]
      constructor
      · rintro ⟨p, hp, rfl⟩
        rw [gy, List.mem_filter, decide_eq_true_eq] at hp
        exact ⟨inP p hp.1, by rw [tq p hp.1, hp.2, ey]; rfl⟩
      · rintro ⟨hz, e⟩
        obtain ⟨p, hp, rfl⟩ := exP z hz
        refine ⟨p, ?_, rfl⟩
        rw [gy, List.mem_filter, decide_eq_true_eq]
        refine ⟨hp, ?_⟩
        rw [tq p hp, ey] at e
        exact ms.mp e
/-! walks -/
theorem getD_map {f : Nat → Nat} {row : List Nat} (hi : i < row.length) : (row.map f).getD i 0 = f (row.getD i 0) := by
  rw [List.getD_eq_getElem?_getD, List.getD_eq_getElem?_getD, List.getElem?_map, List.getElem?_eq_getElem hi]
  rfl
theorem swap_map {f : Nat → Nat} {row : List Nat} (hi : i + 1 < row.length) : swapG (row.map f) i = (swapG row i).map f := by
  unfold swapG
  rw [getD_map hi, getD_map (by omega), List.map_append, List.map_append, List.map_take, List.map_drop]
  rfl
end
end DL
namespace DL
open PySem PySem.Spec PyProof.Rows L2
theorem ln_map {f : Ln → Ln} {L : List Ln} {i : Nat} (h : i < L.length) : ln (L.map f) i = f (ln L i) := by
  unfold ln
  rw [List.getD_eq_getElem?_getD, List.getD_eq_getElem?_getD, List.getElem?_map, List.getElem?_eq_getElem h]
  rfl
/-! sizes -/
theorem rkF_mem {L : List Ln} {k r0 : Nat} (M : List Rat) : ∀ x ∈ rkF L k r0 M, ∀ v, x.2 = some v → v ∈ M := by
  refine snoc_ind (P := fun M => ∀ x ∈ rkF L k r0 M, ∀ v, x.2 = some v → v ∈ M) (fun x hx v e => ?_) (fun M m ih => ?_) M
  · rw [show rkF L k r0 [] = [(r0, none)] from rfl, List.mem_singleton] at hx
    rw [hx] at e; cases e
  · intro x hx v e
    rw [rkF_snoc] at hx
    unfold rkS at hx
    split at hx
    · rcases List.mem_append.mp hx with hx | hx
      · exact List.mem_append_left _ (ih x hx v e)
      · rw [List.mem_singleton.mp hx] at e
        cases e
        exact List.mem_append_right _ (List.mem_singleton.mpr rfl)
    · exact List.mem_append_left _ (ih x hx v e)
theorem isRk_nz {L : List Ln} {k : Nat} {rows : Rw} (hL : LOk L) (h : IsRk L k rows) : (∀ x ∈ rows, ∀ v, x.2 = some v → Nz 1210 v) ∧ rows.length ≤ 401 := by
  obtain ⟨M, hM, rfl⟩ := h
  refine ⟨fun x hx v e => ?_, rkRow_len hM⟩
  unfold rkRow at hx
  split at hx
  · cases hx
  · obtain ⟨a, b, h1, h2, h3, rfl⟩ := (hM.mem v).mp (rkF_mem M x hx v e)
    exact Lz.met (hL _ (ln_mem h1)) (hL _ (ln_mem h2)) h3
theorem isRow_len {L : List Ln} {rows : Rw} (h : IsRow L rows) : rows.length ≤ L.length := by
  rcases h with ⟨_, rfl⟩ | ⟨_, r, rest, rfl, h⟩
  · exact Nat.zero_le _
  · obtain ⟨h1, h2⟩ := Seg.rise h
    have nd : (((r, (none : Option Rat)) :: rest).map (·.1)).Nodup := by
      rw [List.nodup_iff_pairwise_ne, List.pairwise_map]
      exact h1.imp fun {a b} z e => by rw [e] at z; exact absurd z (by grind)
    have := nodup_sub (ys := List.range L.length) nd fun x hx => by
      obtain ⟨y, hy, rfl⟩ := List.mem_map.mp hx
      exact List.mem_range.mpr (h2 y hy)
    rw [List.length_map, List.length_range] at this
    exact this
end DL
/-! The same lines in another order. -/
namespace DL
open PySem PySem.Spec PyProof.Rows L2
/-! lines unlike one another -/
/-! one thing taken out of those left -/
end DL
/-! Things that may be deeds. -/
namespace DL
open PySem PySem.Spec PyProof.Rows L2
/-- a thing that may be asked whether it is a small number -/
def ThN (S : Sto) (d : D) : Prop := Th S d ∧ ∀ t b, d = .tup [.int t, .int b] → Sz 9000 b
def smB : D → Bool
  | .tup [.int t, .int b] => isNumD (.tup [.int t, .int b]) && (decide (t.natAbs < 10 ^ 9) && decide (b ≤ 12))
  | _ => false
def whB : D → Bool
  | .int _ => true
  | _ => false
def ThD (S : Sto) (x : D) : Prop := (∃ T, tyOf S x = some T) ∧ ∀ ds, x = .tup ds → ∀ y ∈ ds, ThN S y
theorem ThN.sub {S S' : Sto} {d : D} (h : ThN S d) (s : Sub S S') : ThN S' d := ⟨Th.sub s h.1, h.2⟩
theorem ThD.sub {S S' : Sto} {x : D} (h : ThD S x) (s : Sub S S') : ThD S' x :=
  ⟨(Th.sub s (d := x) ⟨h.1, fun a b e => ⟨(h.2 _ e a (by simp)).1.1, (h.2 _ e b (by simp)).1.1⟩⟩).1, fun ds e y hy => (h.2 ds e y hy).sub s⟩
section
variable {S : Sto}
def BadX (E : List Dd) (x : D) : Prop := ¬ ∃ d, x = eDd d ∧ LogX (E ++ [d])
end
theorem ThD.wr {S S' : Sto} {x : D} (h : ThD S x) (e : ∀ d, tyOf S' d = tyOf S d) : ThD S' x := by
  unfold ThD ThN Th at *
  simpa only [e] using h
end DL
/-! Things that are alike, lists within lists. -/
namespace DL
open PySem PySem.Spec PyProof.Rows L2
section
variable {S : Sto} {Q : VK2} {x y : D} {n : Nat} {a b : Addr} {xs ys : List D}
/-- two things that stand for the same data -/
def Same (S : Sto) (n : Nat) (x y : D) : Prop := ∃ p, Py S x p ∧ Py S y p ∧ p.canLay0 = true ∧ p.depth ≤ n ∧ PyData.eqv p p = true
theorem Same.le {m : Nat} (h : Same S n x y) (k : n ≤ m) : Same S m x y := let ⟨p, h1, h2, h3, h4, h5⟩ := h; ⟨p, h1, h2, h3, Nat.le_trans h4 k, h5⟩
end
/-- what a race says of itself -/
def StS (S : Sto) (a s : Addr) (D : List Dd) (now : Option Rat) (G C : List PprI) : Prop := ∃ o p l g c, S s = some (.lst [eO now, .ref o, .ref p, .ref l, .tup [.ref g, .ref c]]) ∧ S o = some (.lst ((now.elim [] fun u => OM (MT D u) u).map DL.D.int)) ∧ S p = some (.lst ((now.elim [] fun u => ppM (MT D u) u).map eI3)) ∧ S l = some (.lst (D.map eDd)) ∧ S g = some (.lst (G.map eI3)) ∧ S c = some (.lst (C.map eI3)) ∧ s ≠ a ∧ o ≠ a ∧ p ≠ a ∧ l ≠ a ∧ g ≠ a ∧ c ≠ a
section
variable {S S' : Sto} {a s t : Addr} {D : List Dd} {now : Option Rat} {G C : List PprI}
theorem StS.fr (h : StS S a s D now G C) (f : Fr S S' a) : StS S' a s D now G C := by
  obtain ⟨o, p, l, g, c, h0, h1, h2, h3, h4, h5, n0, n1, n2, n3, n4, n5⟩ := h
  exact ⟨o, p, l, g, c, f _ _ n0 h0, f _ _ n1 h1, f _ _ n2 h2, f _ _ n3 h3, f _ _ n4 h4, f _ _ n5 h5, n0, n1, n2, n3, n4, n5⟩
theorem StS.sub (h : StS S a s D now G C) (f : Sub S S') : StS S' a s D now G C := h.fr fun b x _ e => f b x e
end
end DL
/-! upper; replace of the first sign alone, within a list behind a join (a token must be out). -/
namespace DL
open PySem PySem.Spec PyProof.Rows L2
end DL
/-! Texts that write no log or no book. -/
namespace DL
open PySem PySem.Spec PyProof.Rows L2
open TL (spl)
end DL
/-! Lines that write no row. -/
namespace DL
open PySem PySem.Spec PyProof.Rows L2
open TL (spl joinL spl_join)
/-- a row that is well written -/
def GoodR (b : Bool) (r : RwT) : Prop := (b = true ∧ ∃ d, fewD d ∧ r = rwD d) ∨ (b = false ∧ ∃ x, BROk x ∧ r = rwB x)
theorem GoodR.ok {b : Bool} {r : RwT} (h : GoodR b r) : RwOk r ∧ r.word ≠ [] := by
  rcases h with ⟨_, d, h, rfl⟩ | ⟨_, x, h, rfl⟩
  · exact rwD_ok h
  · exact rwB_ok h
end DL
/-! What is heard of texts. -/
namespace DL
open PySem PySem.Spec PyProof.Rows L2
open TL (spl joinL spl_join)
theorem LogX.keys {P : List Dd} (h : LogX P) : ∀ k ∈ keysM (runM P).1, k < 40 := fun k hk => by
  have h1 := (keyOk_run P).2 k hk
  have k2 : ∀ D : List Dd, (runM D).2 ≤ D.length := snoc_ind (Nat.le_refl _) fun D d ih => by
    rw [runM_snoc, List.length_append, List.length_singleton]
    cases d <;> simp only [stepM] <;> omega
  have := k2 P
  have := h.len
  omega
theorem LogX.first {d : Dd} {E : List Dd} (h : LogX (d :: E)) : ∃ t p m, d = .join t p m ∧ SmX t ∧ SmX p ∧ SmX m := by
  obtain ⟨h1, h2, _⟩ := h.ok [] d E rfl
  cases d with
  | join t p m => exact ⟨t, p, m, rfl, h1⟩
  | leave t k => cases h2
  | turn t k m => cases h2
end DL
/-! The law's own def, run where nothing else is being shown: what repr leans on. -/
namespace DL
open PySem PySem.Spec PyProof.Rows L2
end DL
/-! repr of data, where nothing else is being shown. -/
namespace DL
open PySem PySem.Spec PyProof.Rows L2
mutual
/-- no lists, no dicts -/
def NL : PyData → Bool
  | .none => true
  | .bool _ => true
  | .int _ => true
  | .str _ => true
  | .tuple ds => NLs ds
  | .list _ => false
  | .dict _ => false
def NLs : List PyData → Bool
  | [] => true
  | d :: ds => NL d && NLs ds
end
/-- .. over the store -/
def ShDI (S : Sto) (x : D) (p : PyData) : Prop := (Py S x p ∧ NL p = true) ∨ ∃ a, x = .ref a ∧ S a = some (.dic []) ∧ p = .dict []
def ShD (S : Sto) (x : D) (z : Str) : Prop :=
  (∃ d, Py S x d ∧ d.showable = true ∧ d.hasDict = false ∧ d.depth ≤ 40 ∧ d.shown.length ≤ 16000000 ∧ z = d.shown) ∨
  (∃ a, x = .ref a ∧ S a = some (.dic []) ∧ z = (PyData.dict []).shown) ∨
  ∃ a xs ds, x = .ref a ∧ S a = some (.lst xs) ∧ Paired (ShDI S) xs ds ∧ xs ≠ [] ∧ PyData.showableAll ds = true ∧ PyData.depthAll ds ≤ 40 ∧ (PyData.list ds).shown.length ≤ 16000000 ∧ z = (PyData.list ds).shown
end DL
/-! A law's own def and its end, where it asks for repr. -/
namespace DL
open PySem PySem.Spec PyProof.Rows L2
end DL
/-! Things that are shown, and how long that is; logs spoilt. -/
namespace DL
open PySem PySem.Spec PyProof.Rows L2
/-! ### what is shown of things -/
/-- data that is shown in few signs -/
structure RpD (p : PyData) (n k : Nat) : Prop where
  sh : p.showable = true
  le : p.leavesShort 70 = true
  hd : p.hasDict = false
  wt : p.weight ≤ n
  dp : p.depth ≤ k
structure RpDs (ps : List PyData) (n k : Nat) : Prop where
  sh : PyData.showableAll ps = true
  le : PyData.leavesShortAll 70 ps = true
  hd : PyData.hasDictAll ps = false
  wt : PyData.weightAll ps ≤ n
  dp : PyData.depthAll ps ≤ k
theorem RpDs.nil {n k : Nat} : RpDs [] n k := ⟨rfl, rfl, rfl, by simp [PyData.weightAll], by simp [PyData.depthAll]⟩
theorem RpDs.cons {p : PyData} {ps : List PyData} {n m k : Nat} (h : RpD p n k) (hs : RpDs ps m k) : RpDs (p :: ps) (n + 1 + m) k where
  sh := by simp only [PyData.showableAll]; rw [h.sh, hs.sh]; rfl
  le := by simp only [PyData.leavesShortAll]; rw [h.le, hs.le]; rfl
  hd := by simp only [PyData.hasDictAll]; rw [h.hd, hs.hd]; rfl
  wt := by simp only [PyData.weightAll]; have := h.wt; have := hs.wt; omega
  dp := by simp only [PyData.depthAll]; have := h.dp; have := hs.dp; omega
theorem RpD.tup {ps : List PyData} {n k : Nat} (h : RpDs ps n k) : RpD (.tuple ps) (n + 1) (k + 1) where
  sh := by simp only [PyData.showable]; exact h.sh
  le := by simp only [PyData.leavesShort]; exact h.le
  hd := by simp only [PyData.hasDict]; exact h.hd
  wt := by simp only [PyData.weight]; have := h.wt; omega
  dp := by simp only [PyData.depth]; have := h.dp; omega
theorem RpD.lst {ps : List PyData} {n k : Nat} (h : RpDs ps n k) : RpD (.list ps) (n + 1) (k + 1) where
  sh := by simp only [PyData.showable]; exact h.sh
  le := by simp only [PyData.leavesShort]; exact h.le
  hd := by simp only [PyData.hasDict]; exact h.hd
  wt := by simp only [PyData.weight]; have := h.wt; omega
  dp := by simp only [PyData.depth]; have := h.dp; omega
theorem RpD.mono {p : PyData} {n k m j : Nat} (h : RpD p n k) (h1 : n ≤ m) (h2 : k ≤ j) : RpD p m j := ⟨h.sh, h.le, h.hd, Nat.le_trans h.wt h1, Nat.le_trans h.dp h2⟩
theorem RpDs.mono {p : List PyData} {n k m j : Nat} (h : RpDs p n k) (h1 : n ≤ m) (h2 : k ≤ j) : RpDs p m j := ⟨h.sh, h.le, h.hd, Nat.le_trans h.wt h1, Nat.le_trans h.dp h2⟩
theorem shown_int_len {i : Int} (h : i.natAbs < 10 ^ 60) : (PyData.shown (.int i)).length ≤ 61 := by
  have e : PyData.shown (.int i) = tS (numI i) := str_int i
  rw [e, tS_len]
  exact numI_len h
theorem RpD.int {i : Int} (h : i.natAbs < 10 ^ 60) : RpD (.int i) 200 2 where
  sh := by simp only [PyData.showable]; exact decide_eq_true (log_lt h)
  le := by simp only [PyData.leavesShort]; exact decide_eq_true (Nat.le_trans (shown_int_len h) (by decide))
  hd := rfl
  wt := by
    simp only [PyData.weight]
    split
    · decide
    · next z =>
      have hi : i.natAbs ≠ 0 := fun e => z (by rw [Int.natAbs_eq_zero.mp e]; rfl)
      have : i.natAbs.log2 < 200 := (Nat.log2_lt hi).mpr (Nat.lt_trans h (by decide))
      omega
  dp := by simp [PyData.depth]
theorem RpD.non : RpD .none 2 2 := ⟨rfl, rfl, rfl, by simp [PyData.weight], by simp [PyData.depth]⟩
theorem RpD.bl {b : Bool} : RpD (.bool b) 2 2 := ⟨rfl, rfl, rfl, by simp [PyData.weight], by simp [PyData.depth]⟩
theorem RpD.str {x : Str} (h : (x.cps.toList.all fun c => decide (c < 128)) = true) (hl : x.cps.size ≤ 10) : RpD (.str x) 12 2 where
  sh := rfl
  le := by
    simp only [PyData.leavesShort]
    rw [List.all_eq_true] at h ⊢
    intro c hc
    have := h c hc
    rw [decide_eq_true_eq] at this ⊢
    exact Nat.lt_trans this (by decide)
  hd := rfl
  wt := by simp only [PyData.weight]; omega
  dp := by simp [PyData.depth]
theorem RpD.q {q : Rat} (h1 : q.num.natAbs < 10 ^ 60) (h2 : q.den < 10 ^ 60) : RpD (pyQ q) 403 3 :=
  (RpD.tup (n := 402) (k := 2) ((RpDs.cons (.int h1) (.cons (.int (by exact h2)) (.nil (n := 0)))).mono (by decide) (by decide)))
/-- a thing whose text is short -/
def Rp (S : Sto) (x : D) (n k : Nat) : Prop := ∃ p, Py S x p ∧ RpD p n k
def Rps (S : Sto) (xs : List D) (n k : Nat) : Prop := ∃ ps, Pys S xs ps ∧ RpDs ps n k
section
variable {S S' : Sto} {x : D} {xs : List D} {n m k j : Nat}
theorem Rp.sub (s : Sub S S') (h : Rp S x n k) : Rp S' x n k := let ⟨p, h1, h2⟩ := h; ⟨p, Py.sub s p x h1, h2⟩
theorem Rps.sub (s : Sub S S') (h : Rps S xs n k) : Rps S' xs n k := let ⟨p, h1, h2⟩ := h; ⟨p, Pys.sub s p xs h1, h2⟩
theorem Rp.mono (h : Rp S x n k) (h1 : n ≤ m) (h2 : k ≤ j) : Rp S x m j := let ⟨p, a, b⟩ := h; ⟨p, a, b.mono h1 h2⟩
theorem Rps.mono (h : Rps S xs n k) (h1 : n ≤ m) (h2 : k ≤ j) : Rps S xs m j := let ⟨p, a, b⟩ := h; ⟨p, a, b.mono h1 h2⟩
theorem Rps.nil : Rps S [] 0 k := ⟨[], .nil, .nil⟩
theorem Rps.cons (h : Rp S x n k) (hs : Rps S xs m k) : Rps S (x :: xs) (n + 1 + m) k := let ⟨p, a, b⟩ := h; let ⟨ps, c, d⟩ := hs; ⟨p :: ps, .cons a c, .cons b d⟩
theorem Rp.tup (h : Rps S xs n k) : Rp S (.tup xs) (n + 1) (k + 1) := let ⟨_, a, b⟩ := h; ⟨_, .tup a, .tup b⟩
theorem Rp.lst {a : Addr} (e : S a = some (.lst xs)) (h : Rps S xs n k) : Rp S (.ref a) (n + 1) (k + 1) := let ⟨_, a, b⟩ := h; ⟨_, .lst e a, .lst b⟩
theorem Rp.non : Rp S .non 2 2 := ⟨_, .non, .non⟩
theorem Rp.bl {b : Bool} : Rp S (.bl b) 2 2 := ⟨_, .bl b, .bl⟩
theorem Rp.int {i : Int} (h : i.natAbs < 10 ^ 60) : Rp S (.int i) 200 2 := ⟨_, .int i, .int h⟩
theorem Rp.str {z : Str} (h : (z.cps.toList.all fun c => decide (c < 128)) = true) (hl : z.cps.size ≤ 10) : Rp S (.str z) 12 2 := ⟨_, .str z, .str h hl⟩
theorem Rp.q {q : Rat} (h : SmX q) : Rp S (eQ q) 403 3 := ⟨_, py_eQ q, .q (Nat.lt_trans h.1 (by decide)) (Nat.lt_of_le_of_lt h.2 (by decide))⟩
theorem Rps.app {ys : List D} : ∀ {xs : List D} {n : Nat}, Rps S xs n k → Rps S ys m k → Rps S (xs ++ ys) (n + m) k := fun {xs} => by
  induction xs with
  | nil => exact fun h hs => hs.mono (by omega) (Nat.le_refl _)
  | cons x xs ih =>
    rintro n ⟨ps, h1, h2⟩ hs
    cases h1 with
    | cons h1 h3 =>
      have e1 : RpD _ _ k := ⟨by have := h2.sh; simp only [PyData.showableAll, Bool.and_eq_true] at this; exact this.1, by have := h2.le; simp only [PyData.leavesShortAll, Bool.and_eq_true] at this; exact this.1, by have := h2.hd; simp only [PyData.hasDictAll, Bool.or_eq_false_iff] at this; exact this.1, Nat.le_refl _, by have := h2.dp; simp only [PyData.depthAll] at this; omega⟩
      have e2 : RpDs _ _ k := ⟨by have := h2.sh; simp only [PyData.showableAll, Bool.and_eq_true] at this; exact this.2, by have := h2.le; simp only [PyData.leavesShortAll, Bool.and_eq_true] at this; exact this.2, by have := h2.hd; simp only [PyData.hasDictAll, Bool.or_eq_false_iff] at this; exact this.2, Nat.le_refl _, by have := h2.dp; simp only [PyData.depthAll] at this; omega⟩
      have w := h2.wt
      simp only [PyData.weightAll] at w
      exact (Rps.cons ⟨_, h1, e1⟩ (ih ⟨_, h3, e2⟩ hs)).mono (by omega) (Nat.le_refl _)
theorem Rp.dd {d : Dd} (h : SmXD d) (hk : ∀ t r m, (d = .leave t r ∨ d = .turn t r m) → r < 10 ^ 60) : Rp S (eDd d) 1300 4 := by
  cases d with
  | join t p m => exact (Rp.tup (Rps.cons ((Rp.str (by decide +kernel) (by decide +kernel)).mono (Nat.le_refl _) (by decide : 2 ≤ 3)) (.cons (.q h.1) (.cons (.q h.2.1) (.cons (.q h.2.2) .nil))))).mono (by decide) (by decide)
  | leave t r => exact (Rp.tup (Rps.cons ((Rp.str (by decide +kernel) (by decide +kernel)).mono (Nat.le_refl _) (by decide : 2 ≤ 3)) (.cons (.q h) (.cons ((Rp.int (i := (r : Int)) (hk t r 0 (.inl rfl))).mono (Nat.le_refl _) (by decide)) .nil)))).mono (by decide) (by decide)
  | turn t r m => exact (Rp.tup (Rps.cons ((Rp.str (by decide +kernel) (by decide +kernel)).mono (Nat.le_refl _) (by decide : 2 ≤ 3)) (.cons (.q h.1) (.cons ((Rp.int (i := (r : Int)) (hk t r m (.inr rfl))).mono (Nat.le_refl _) (by decide)) (.cons (.q h.2) .nil))))).mono (by decide) (by decide)
theorem LogX.keyk {E : List Dd} (h : LogX E) {d : Dd} (hd : d ∈ E) : ∀ t r m, (d = .leave t r ∨ d = .turn t r m) → r < 10 ^ 60 := fun t r m e => by
  obtain ⟨a, b, rfl⟩ := List.append_of_mem hd
  obtain ⟨_, h2, _⟩ := h.ok a d b rfl
  have hk := (LogX.pre h).keys
  rcases e with rfl | rfl
  · exact Nat.lt_trans (hk r h2) (by decide)
  · exact Nat.lt_trans (hk r h2) (by decide)
theorem Rps.log : ∀ {E : List Dd}, (∀ d ∈ E, SmXD d ∧ ∀ t r m, (d = .leave t r ∨ d = .turn t r m) → r < 10 ^ 60) → Rps S (E.map eDd) (E.length * 1301) 4
  | [], _ => Rps.nil.mono (Nat.zero_le _) (Nat.le_refl _)
  | d :: E, h => by
    have h1 := h d (by simp)
    refine (Rps.cons (Rp.dd h1.1 h1.2) (Rps.log fun x hx => h x (by simp [hx]))).mono ?_ (Nat.le_refl _)
    rw [List.length_cons]
    omega
theorem Rps.of {E : List Dd} (h : LogX E) : Rps S (E.map eDd) (E.length * 1301) 4 := Rps.log fun d hd => ⟨h.mem hd, h.keyk hd⟩
theorem Rp.shown (h : Rp S x n k) (hn : n ≤ 200000) (hk : k ≤ 40) : ∃ z, ShD S x z := by
  obtain ⟨p, h1, h2⟩ := h
  have := PyData.shown_le 70 (by decide) p h2.le
  have hw := h2.wt
  have : 72 * p.weight ≤ 72 * 200000 := Nat.mul_le_mul_left _ (by omega)
  exact ⟨_, .inl ⟨p, h1, h2.sh, h2.hd, Nat.le_trans h2.dp hk, by omega, rfl⟩⟩
end
/-! ### odd things -/
/-- a thing that is no number -/
structure OddN (S : Sto) (v : D) : Prop where
  th : ThN S v
  no : smB v = false
  rp : Rp S v 1000 4
/-- a thing that is no deed -/
structure OddD (S : Sto) (y : D) : Prop where
  th : ThD S y
  no : ∀ E, LogX E → BadX E y
  rp : Rp S y 6000 8 ∨ ∃ g, y = .ref g ∧ S g = some (.dic [])
/-- a thing that is no runner of any log -/
structure OddR (S : Sto) (r : D) : Prop where
  th : ThN S r
  no : whB r = false ∨ ∃ i, r = .int i ∧ (i < 0 ∨ 40 ≤ i)
  rp : Rp S r 1000 4
section
variable {S S' : Sto} {v y r : D}
theorem OddN.sub (s : Sub S S') (h : OddN S v) : OddN S' v := ⟨h.th.sub s, h.no, h.rp.sub s⟩
theorem OddR.sub (s : Sub S S') (h : OddR S v) : OddR S' v := ⟨h.th.sub s, h.no, h.rp.sub s⟩
theorem OddD.sub (s : Sub S S') (h : OddD S v) : OddD S' v := ⟨h.th.sub s, h.no, h.rp.elim (fun z => .inl (z.sub s)) fun ⟨g, e, z⟩ => .inr ⟨g, e, s _ _ z⟩⟩
theorem Rps.all : ∀ {ds : List D}, (∀ z ∈ ds, Rp S z 1000 4) → Rps S ds (ds.length * 1001) 4
  | [], _ => Rps.nil
  | d :: ds, h => (Rps.cons (h d (by simp)) (Rps.all fun z hz => h z (by simp [hz]))).mono (by rw [List.length_cons]; omega) (Nat.le_refl _)
end
end DL
/-! Logs spoilt: who has left, too many who run, too many deeds. -/
namespace DL
open PySem PySem.Spec PyProof.Rows L2
/-- a spoilt thing, and where it is spoilt -/
def Spl (S : Sto) (x : D) (i : Int) : Prop := (∃ z, ShD S x z) ∧
  ((∃ (p : Addr) (E : List Dd) (y : D) (ys : List D), x = .ref p ∧ S p = some (.lst (E.map eDd ++ y :: ys)) ∧ LogX E ∧ ThD S y ∧ BadX E y ∧ i = (E.length : Int)) ∨ ((∃ T, tyOf S x = some T ∧ isiT T .lst = false) ∧ i = 0))
theorem pd_sub {S S' : Sto} (s : Sub S S') : ∀ {xs : List D} {ps : List PyData}, Paired (ShDI S) xs ps → Paired (ShDI S') xs ps
  | _, _, .nil => .nil
  | _, _, .cons h hs => .cons (h.elim (fun z => .inl ⟨Py.sub s _ _ z.1, z.2⟩) fun ⟨a, e, z, f⟩ => .inr ⟨a, e, s _ _ z, f⟩) (pd_sub s hs)
theorem ShD.sub {S S' : Sto} {x : D} {z : Str} (s : Sub S S') (h : ShD S x z) : ShD S' x z := by
  rcases h with ⟨d, h, r⟩ | ⟨a, e, h, r⟩ | ⟨a, xs, ds, e, h, hp, r⟩
  · exact .inl ⟨d, Py.sub s _ _ h, r⟩
  · exact .inr (.inl ⟨a, e, s _ _ h, r⟩)
  · exact .inr (.inr ⟨a, xs, ds, e, s _ _ h, pd_sub s hp, r⟩)
theorem Spl.sub {S S' : Sto} {x : D} {i : Int} (s : Sub S S') (h : Spl S x i) : Spl S' x i := by
  obtain ⟨⟨z, hz⟩, h⟩ := h
  refine ⟨⟨z, hz.sub s⟩, ?_⟩
  rcases h with ⟨p, E, y, ys, e, hp, hE, ht, hb, hi⟩ | ⟨⟨T, hT, hs⟩, hi⟩
  · exact .inl ⟨p, E, y, ys, e, s _ _ hp, hE, ht.sub s, hb, hi⟩
  · refine .inr ⟨⟨T, ?_, hs⟩, hi⟩
    cases x with
    | ref a =>
      have hT : tyO (S a) = some T := hT
      show tyO (S' a) = some T
      cases q : S a with
      | none => rw [q] at hT; cases hT
      | some o => rw [s _ _ q]; rw [q] at hT; exact hT
    | _ => exact hT
end DL
/-! zip of a text and a list. -/
namespace DL
open PySem PySem.Spec PyProof.Rows L2
/-- .. over the store -/
def zipSD (z : Str) (es : List D) : List D := (z.cps.toList.zip es).map fun p => .tup [.str ⟨#[p.1]⟩, p.2]
def zipQS : List D → Sto → (List D → (Sto → Prop) → Sto → Prop) → Prop
  | [.str z, .ref b], S, R => getO (S b) fun ys => R (zipSD z ys) (stayL b ys) S
  | _, _, _ => False
def uZipS (ta : TA2) : TI2 := fun τ S R => ta τ S fun ds S1 => zipQS ds S1 R
section
variable {X : Cx} {a b : Expr} {ta : TA2} {p pos tpos : Pos} {elts : List Expr} {kk : Nat}
theorem z_zipS {z : Str} {b : Addr} {S : Sto} {R : List DL.D → (Sto → Prop) → Sto → Prop} : zipQS [.str z, .ref b] S R = getO (S b) fun ys => R (zipSD z ys) (stayL b ys) S := rfl
end
end DL
/-! Defs that call themselves some hundred deep; == of things that are nested deeper; i << j; xs.remove(x) of data. -/
namespace DL
open PySem PySem.Spec PyProof.Rows L2
/-- room for n turns of one def, and k levels beside -/
structure RoomD (n k : Nat) (A : Around) : Prop where
  hd : A.handled = none
  dp : A.depth + n + 3 * k + 5 < recursionLimit
  un : A.units + 4 * n + 16 * k + 200 < cLine
section
variable {n k m : Nat} {A : Around}
theorem RoomD.room (r : RoomD n k A) : Room k A := ⟨r.hd, by have := r.dp; omega, by have := r.un; omega⟩
theorem RoomD.depth (r : RoomD n k A) : A.depth < recursionLimit := by have := r.dp; omega
theorem RoomD.of (r : Room (k + m) A) (h : n ≤ 3 * m) : RoomD n k A := ⟨r.hd, by have := r.dp; omega, by have := r.un; omega⟩
theorem RoomD.deeper (r : RoomD (n + 1) k A) (env : Env) : RoomD n k (A.deeper env) :=
  ⟨r.hd, by have := r.dp; show A.depth + 1 + n + 3 * k + 5 < _; omega, by have := r.un; show A.units + 3 + 4 * n + 16 * k + 200 < _; omega⟩
end
/-- a def that may go n deep -/
structure FnD (P : Program) (w : World) (K : PySem.W.Frag) (mg : Str → Option Value) (base : Heap) (n k : Nat) (x : Str) (sp : Sp2) : Prop where
  ex : ∃ (f : Addr) (fd : FuncData) (ps : List Str), mg x = some (.ref f) ∧ PySem.W.keepIn K (.ref f) = true ∧ Binds K fd ps [] ∧ (∀ ds S Q E, sp ds S Q E → ds.length = ps.length) ∧
    ∀ (A : Around) (outer : List Env) (s : Shared) (H : Hp) (args : Args) (us : List Value) (vs : List V) (Q : VK) (E : XK), RoomD n k A → Env0 P w K mg base A outer s H → BindsTo s fd args (ps.zip us) → Vals vs us → dnSp K sp vs H Q E →
      codeAny (model P w) A (.call (.ref f) args) (CR CX0 outer P w H s Q E) s
section
variable {P : Program} {w : World} {K : PySem.W.Frag} {mg : Str → Option Value} {base : Heap} {n k m : Nat} {x : Str} {sp : Sp2}
theorem FnD.fn (F : FnD P w K mg base n k x sp) (h : n ≤ 3 * m) : Fn P w K mg base (k + m) x sp := by
  obtain ⟨f, fd, ps, gm, kp, bd, len, run⟩ := F.ex
  refine ⟨f, fd, ps, ⟨fun vs H Q E z => ?_, fun A outer s H args us vs Q E hr e0 hb r q => run A outer s H args us vs Q E (.of hr h) e0 hb r q⟩, gm, kp, bd⟩
  obtain ⟨ds, S, Q2, E2, dvs, _, z, _⟩ := z
  rw [← dvs.length]
  exact len _ _ _ _ z
end
/-! ### == of deep things -/
section
variable {X : Cx} {K : PySem.W.Frag} {pos : Pos} {a b : Expr} {ta tb : TE2}
/-! ### i << j -/
def rShl : R22
  | .int i, .int j, S, Q => CPow i j ∧ Q (.int (i * 2 ^ j.toNat)) S
  | _, _, _, _ => False
end
theorem z_shl {i j : Int} {S : Sto} {Q : VK2} : rShl (.int i) (.int j) S Q = (CPow i j ∧ Q (.int (i * 2 ^ j.toNat)) S) := rfl
/-! ### xs.remove(x) -/
end DL
/-! str of None; split at most so often; replace of one text by another, in a def that has a parameter. -/
namespace DL
open PySem PySem.Spec PyProof.Rows L2
/-! ### str -/
def rStrN : List D → Sto → VK2 → Prop
  | [.int i], S, Q => i.natAbs.log2 < 1920 ∧ Q (.str (Str.ofString (toString i))) S
  | [.non], S, Q => Q (.str (Str.ofString "None")) S
  | _, _, _ => False
/-! ### x.split(y, k) -/
def rSplit2 : RM
  | .str a, [.str b, .int k], S, Q => (b.length == 0) = false ∧ -(2 ^ 63) ≤ k ∧ k < 2 ^ 63 ∧ a.length + 2 ≤ sizeLine ∧ ∀ p, S p = none → Q (.ref p) (ups S p (.lst ((Txt.splitMax a b k).map D.str)))
  | _, _, _, _ => False
/-! ### replace -/
def rRepl (y z : Str) : D → Sto → VK2 → Prop
  | .str x, S, Q => x.length + (x.length + 1) * z.length ≤ 16777216 ∧ Q (.str (Txt.replace x y z)) S
  | _, _, _ => False
def uRepl (y z : Str) (to : TE2) : TE2 := fun τ S Q => to τ S fun x S1 => rRepl y z x S1 Q
section
variable {S : Sto} {Q : VK2} {a b x y z : Str} {i k : Int}
theorem z_strN : rStrN [.non] S Q = Q (.str (Str.ofString "None")) S := rfl
theorem z_strNi : rStrN [.int i] S Q = (i.natAbs.log2 < 1920 ∧ Q (.str (Str.ofString (toString i))) S) := rfl
theorem z_split2 : rSplit2 (.str a) [.str b, .int k] S Q = ((b.length == 0) = false ∧ -(2 ^ 63) ≤ k ∧ k < 2 ^ 63 ∧ a.length + 2 ≤ sizeLine ∧ ∀ p, S p = none → Q (.ref p) (ups S p (.lst ((Txt.splitMax a b k).map D.str)))) := rfl
theorem z_repl : rRepl y z (.str x) S Q = (x.length + (x.length + 1) * z.length ≤ 16777216 ∧ Q (.str (Txt.replace x y z)) S) := rfl
end
end DL
/-! Texts: cut at the first so many blanks; one sign for another. -/
namespace DL
open PySem PySem.Spec PyProof.Rows L2 TL PySem.StrLaws PySem.Builtin PySem.Builtin.Str
/-- the signs cut at the first n signs c -/
def spM (c : Nat) : Nat → List Nat → List Nat → List (List Nat)
  | _, acc, [] => [acc]
  | 0, acc, d :: r => [acc ++ d :: r]
  | n + 1, acc, d :: r => if d = c then acc :: spM c n [] r else spM c (n + 1) (acc ++ [d]) r
/-- one sign put for another -/
def subL (a b : Nat) (l : List Nat) : List Nat := l.map fun c => if c = a then b else c
end DL
/-! Rows at a desk: their words. -/
namespace DL
open PySem PySem.Spec PyProof.Rows L2 TL
abbrev goL : List Nat := [103, 111]
abbrev logL : List Nat := [108, 111, 103]
abbrev orderL : List Nat := [111, 114, 100, 101, 114]
abbrev thenL : List Nat := [116, 104, 101, 110]
abbrev papersL : List Nat := [112, 97, 112, 101, 114, 115]
abbrev changedL : List Nat := [99, 104, 97, 110, 103, 101, 100]
abbrev leadersL : List Nat := [108, 101, 97, 100, 101, 114, 115]
abbrev bookL : List Nat := [98, 111, 111, 107]
abbrev checkL : List Nat := [99, 104, 101, 99, 107]
abbrev byL : List Nat := [98, 121]
abbrev noneL : List Nat := [110, 111, 110, 101]
abbrev okL : List Nat := [111, 107]
abbrev yesL : List Nat := [121, 101, 115]
abbrev noL : List Nat := [110, 111]
def kindsT : List (List Nat × List Nat) := [(joinL', [110, 110, 110]), (leaveL, [110, 119]), (turnL, [110, 119, 110]), (goL, [110]), (logL, []), (orderL, []), (thenL, [110]), (papersL, []), (changedL, []), (leadersL, []), (bookL, [110]), (checkL, [110, 116]), (byL, [110, 119, 116])]
/-- what a word stands for -/
def thD (k : Nat) (v : List Nat) : D := if k = 116 then dS v else if k = 119 then oW (wholeL v) else oQ (numberL v)
/-- the words of a row, by its kinds -/
def wordsK (ks l : List Nat) : List (List Nat) := if ks.getLast? = some 116 then spM 32 ks.length [] l else spl [32] 0 [] l
/-! ### rows that are answered -/
inductive Dr where
  | deed (d : Dd) | go (t : Rat) | log | order | thn (t : Rat) | papers | changed | leaders | book (t : Rat) | check (t : Rat) (B : List BR) | byr (t : Rat) (k : Nat) (B : List BR)
end DL
/-! Words that a desk tells. -/
namespace DL
open PySem PySem.Spec PyProof.Rows L2 TL
/-- signs as texts have them -/
def Asc (l : List Nat) : Prop := ∀ c ∈ l, c < 128
theorem Asc.lay {l : List Nat} (h : Asc l) : (PyData.str (tS l)).canLay0 = true := by
  simp only [PyData.canLay0, PyData.strOk]
  rw [← Array.all_toList]
  exact List.all_eq_true.mpr fun c hc => by
    have := h c hc
    simp
    omega
theorem Asc.cons {c : Nat} {b : List Nat} (h : c < 128) (k : Asc b) : Asc (c :: b) := fun d hd => by
  rcases List.mem_cons.mp hd with rfl | hd
  · exact h
  · exact k d hd
theorem Asc.nil : Asc [] := fun _ h => nomatch h
/-- words with blanks between, or none -/
def orNone (ws : List (List Nat)) : List Nat := if ws = [] then noneL else joinL [32] ws
/-- a time, or - -/
def timeL : Option Rat → List Nat
  | none => [45]
  | some q => showL q
def FewO (x : Option Rat) : Prop := ∀ q, x = some q → Few q
/-- lists of such as a desk tells them -/
def orderT (xs : List Int) : List Nat := orNone (xs.map numI)
def ppL (x : PprI) : List Nat := numI x.a ++ [58] ++ numI x.b ++ [58] ++ timeL x.c
def papersT (xs : List PprI) : List Nat := orNone (xs.map ppL)
def exL (x : StI) : List Nat := showL x.a ++ [58] ++ numI x.b ++ [58] ++ numI x.c
def exchT (xs : List StI) : List Nat := orNone (xs.map exL)
def runL : Option Int → List Nat
  | none => [45]
  | some i => numI i
def ldL (x : Option Int × Option Rat) : List Nat := runL x.1 ++ [58] ++ timeL x.2
def leadersT (xs : List (Option Int × Option Rat)) : List Nat := orNone (xs.map ldL)
def LdOk (x : Option Int × Option Rat) : Prop := (∀ i, x.1 = some i → i.natAbs < 10 ^ 60) ∧ FewO x.2
end DL
/-! Books by passes: places along a row, how many passes there are. -/
namespace DL
open PySem PySem.Spec PyProof.Rows L2
section
variable {L : List Ln} {u t c : Rat} {row : List Nat} {x y p : Nat}
/-- places do not rise along a row -/
def Dec (L : List Ln) (u : Rat) (row : List Nat) : Prop := row.Pairwise fun x y => at_ (ln L y) u ≤ at_ (ln L x) u
theorem ahd_le (h : Ahd L x y u) : at_ (ln L y) u ≤ at_ (ln L x) u := by
  rcases h with h | h
  · exact Rat.le_of_lt h
  · rw [h.1]; exact Rat.le_refl
theorem pl_adj {f : Nat → Rat} : ∀ {row : List Nat}, (∀ i, i + 1 < row.length → f (row.getD (i + 1) 0) ≤ f (row.getD i 0)) → row.Pairwise fun x y => f y ≤ f x
  | [], _ => .nil
  | [a], _ => by simp
  | a :: b :: r, h => by
    have ih : (b :: r).Pairwise fun x y => f y ≤ f x := pl_adj fun i hi => by
      have := h (i + 1) (by simp only [List.length_cons] at hi ⊢; omega)
      simpa using this
    have hab : f b ≤ f a := by simpa using h 0 (by simp)
    refine List.pairwise_cons.mpr ⟨fun z hz => ?_, ih⟩
    rcases List.mem_cons.mp hz with rfl | hz
    · exact hab
    · exact Rat.le_trans ((List.pairwise_cons.mp ih).1 z hz) hab
theorem pl_get {f : Nat → Rat} {row : List Nat} (h : row.Pairwise fun x y => f y ≤ f x) {i j : Nat} (hij : i < j) (hj : j < row.length) : f (row.getD j 0) ≤ f (row.getD i 0) := by
  have := List.pairwise_iff_getElem.mp h i j (by omega) hj hij
  simpa [List.getD_eq_getElem?_getD, List.getElem?_eq_getElem hj, List.getElem?_eq_getElem (show i < row.length by omega)] using this
theorem at_meet {l m : Ln} (n : l.2 ≠ m.2) (h : at_ l u = at_ m u) : met l m = u := by
  have g := at_gap l m n u
  have s := sub_ne n
  rw [h] at g
  have z : (l.2 - m.2) * (u - met l m) = 0 := by rw [← g]; grind
  rcases Rat.mul_eq_zero.mp z with z | z
  · exact absurd z s
  · grind
theorem eq_nxt (h : at_ (ln L x) u = at_ (ln L y) u) : nxt L x y u = none := by
  unfold nxt
  refine if_neg fun ⟨h1, h2⟩ => ?_
  rw [at_meet h1 h] at h2
  exact Rat.lt_irrefl h2
theorem ahd_place_till (h : Ahd L x y u) (hut : u ≤ t) (hc : ∀ c, nxt L x y u = some c → t ≤ c) : at_ (ln L y) t ≤ at_ (ln L x) t := by
  cases e : nxt L x y u with
  | none => exact ahd_le (ahd_till h hut fun c z => by rw [e] at z; cases z)
  | some c =>
    have h1 := hc c e
    by_cases h2 : t = c
    · subst h2
      obtain ⟨_, k1, k2⟩ := nxt_gt e
      rw [k2, at_met k1]
      exact Rat.le_refl
    · exact ahd_le (ahd_till h hut fun d z => by rw [e] at z; cases z; exact Rat.lt_of_le_of_ne h1 h2)
theorem Dec.at (h : Dec L u row) {i j : Nat} (hij : i < j) (hj : j < row.length) : at_ (ln L (row.getD j 0)) u ≤ at_ (ln L (row.getD i 0)) u := pl_get (f := fun k => at_ (ln L k) u) h hij hj
/-- .. they stay so till the first change of neighbours -/
theorem Dec.on (h : Dec L u row) (nd : row.Nodup) (hut : u ≤ t) (hm : ∀ i d, i + 1 < row.length → tlW L (row.getD i 0) (row.getD (i + 1) 0) u = some d → t ≤ d) : Dec L t row := pl_adj (f := fun k => at_ (ln L k) t) fun i hi => by
  have hne := getD_ne nd (show i < row.length by omega) hi (by omega)
  by_cases ha : Ahd L (row.getD (i + 1) 0) (row.getD i 0) u
  · have := hm i u hi (if_pos ha)
    rw [show t = u from Rat.le_antisymm this hut]
    exact h.at (Nat.lt_succ_self i) hi
  · exact ahd_place_till ((ahd_total hne).resolve_right ha) hut fun c e => hm i c hi (by unfold tlW; rw [if_neg ha]; exact e)
theorem Dec.eq (h : Dec L u row) (hb : Bf row x y) (ha : Ahd L y x u) : at_ (ln L x) u = at_ (ln L y) u := by
  obtain ⟨i, j, h1, h2, rfl, rfl⟩ := hb
  exact Rat.le_antisymm (ahd_le ha) (h.at h1 h2)
theorem Dec.inv (h : Dec L u row) : Inv L u row := fun x y hb ha => eq_nxt (h.eq hb ha)
theorem Dec.swap (h : Dec L c row) (hp : p + 1 < row.length) (ha : Ahd L (row.getD (p + 1) 0) (row.getD p 0) c) : Dec L c (swapG row p) := by
  have e : at_ (ln L (row.getD p 0)) c = at_ (ln L (row.getD (p + 1) 0)) c := h.eq ⟨p, p + 1, by omega, hp, rfl, rfl⟩ ha
  refine pl_adj (f := fun k => at_ (ln L k) c) fun i hi => ?_
  rw [swap_len hp] at hi
  show at_ (ln L ((swapG row p).getD (i + 1) 0)) c ≤ at_ (ln L ((swapG row p).getD i 0)) c
  rw [swap_sw hp, swap_sw hp]
  by_cases c1 : i = p
  · subst c1
    have e1 : sw i i = i + 1 := if_pos rfl
    have e2 : sw i (i + 1) = i := by unfold sw; rw [if_neg (by omega), if_pos rfl]
    rw [e1, e2, e]
    exact Rat.le_refl
  · have hs : sw p i < sw p (i + 1) ∧ sw p (i + 1) < row.length := by unfold sw; grind
    exact h.at hs.1 hs.2
/-- the first pass due -/
structure TlMin (L : List Ln) (u : Rat) (row : List Nat) (c : Rat) (p : Nat) : Prop where
  lt : p + 1 < row.length
  at_ : tlW L (row.getD p 0) (row.getD (p + 1) 0) u = some c
  le : ∀ j d, j + 1 < row.length → tlW L (row.getD j 0) (row.getD (j + 1) 0) u = some d → c ≤ d
theorem TlMin.up (k : TlMin L u row c p) (nd : row.Nodup) : Ahd L (row.getD (p + 1) 0) (row.getD p 0) c := tl_ahd (getD_ne nd (show p < row.length by have := k.lt; omega) k.lt (by omega)) k.at_
theorem Dec.pass (h : Dec L u row) (nd : row.Nodup) (k : TlMin L u row c p) : Dec L c (swapG row p) := (h.on nd (tl_ge k.at_) k.le).swap k.lt (k.up nd)
/-- how many pairs will still pass -/
def prsR (row : List Nat) : List (Nat × Nat) := row.flatMap fun x => row.map fun y => (x, y)
theorem prsR_mem {x y : Nat} : (x, y) ∈ prsR row ↔ x ∈ row ∧ y ∈ row := by
  unfold prsR
  rw [List.mem_flatMap]
  constructor
  · rintro ⟨a, ha, hm⟩
    obtain ⟨b, hb, e⟩ := List.mem_map.mp hm
    cases e
    exact ⟨ha, hb⟩
  · rintro ⟨ha, hb⟩
    exact ⟨x, ha, List.mem_map.mpr ⟨y, hb, rfl⟩⟩
theorem prsR_nd (nd : row.Nodup) : (prsR row).Nodup := by
  have key : ∀ l : List Nat, l.Nodup → (l.flatMap fun x => row.map fun y => (x, y)).Nodup := fun l => by
    induction l with
    | nil => intro _; exact .nil
    | cons a l ih =>
      intro hl
      obtain ⟨h1, h2⟩ := List.nodup_cons.mp hl
      rw [List.flatMap_cons]
      refine List.nodup_append.mpr ⟨?_, ih h2, fun q hq r hr e => ?_⟩
      · exact List.pairwise_map.mpr (nd.imp fun hne e => hne (Prod.mk.inj e).2)
      · subst e
        obtain ⟨b, _, rfl⟩ := List.mem_map.mp hq
        obtain ⟨a', ha', hm⟩ := List.mem_flatMap.mp hr
        obtain ⟨b', _, e⟩ := List.mem_map.mp hm
        cases e
        exact h1 ha'
  exact key row nd
open Classical in
noncomputable def muR (L : List Ln) (u : Rat) (row : List Nat) : Nat := ((prsR row).filter fun q => decide (Bf row q.1 q.2 ∧ ∃ c, tlW L q.1 q.2 u = some c)).length
theorem bf_mem (h : Bf row x y) : x ∈ row ∧ y ∈ row := by
  obtain ⟨i, j, h1, h2, rfl, rfl⟩ := h
  exact ⟨row_mem (by omega), row_mem h2⟩
theorem muR_lt (h : Dec L u row) (nd : row.Nodup) (k : TlMin L u row c p) : muR L c (swapG row p) < muR L u row := by
  classical
  have hp := k.lt
  have hne := getD_ne nd (show p < row.length by omega) hp (by omega)
  have hut := tl_ge k.at_
  have hab := k.up nd
  have hat := k.at_
  have hinv := h.inv
  have hbf : Bf row (row.getD p 0) (row.getD (p + 1) 0) := ⟨p, p + 1, by omega, hp, rfl, rfl⟩
  have hsw := fun x y => bf_swap (x := x) (y := y) hp nd
  have hdone : tlW L (row.getD (p + 1) 0) (row.getD p 0) c = none := by
    unfold tlW
    rw [if_neg fun z => ahd_asymm z hab]
    cases e : nxt L (row.getD (p + 1) 0) (row.getD p 0) c with
    | none => rfl
    | some d =>
      rw [nxt_comm] at e
      have eb := nxt_back e hut
      by_cases hu : Ahd L (row.getD (p + 1) 0) (row.getD p 0) u
      · rw [hinv _ _ hbf hu] at eb; cases eb
      · have e3 : tlW L (row.getD p 0) (row.getD (p + 1) 0) u = nxt L (row.getD p 0) (row.getD (p + 1) 0) u := if_neg hu
        rw [e3, eb] at hat
        cases hat
        exact absurd (nxt_gt e).1 (by grind)
  have pm : ∀ z, z ∈ swapG row p ↔ z ∈ row := fun z => (swap_perm hp).mem_iff
  generalize hA : row.getD p 0 = a at *
  generalize hB : row.getD (p + 1) 0 = b at *
  unfold muR
  refine Nat.lt_of_lt_of_le (Nat.lt_succ_self _) (Nat.le_trans (Nat.le_of_eq (List.length_cons (a := (a, b))).symm) ?_)
  refine nodup_sub (List.nodup_cons.mpr ⟨fun hm => ?_, List.Pairwise.filter _ (prsR_nd ((swap_perm hp).nodup_iff.mpr nd))⟩) fun q hq => ?_
  · have := (of_decide_eq_true (List.mem_filter.mp hm).2).1
    rcases hsw _ _ this with ⟨z, _⟩ | ⟨_, z⟩
    · exact hne z
    · exact z ⟨rfl, rfl⟩
  · refine List.mem_filter.mpr ?_
    rcases List.mem_cons.mp hq with rfl | hq
    · exact ⟨prsR_mem.mpr (bf_mem hbf), decide_eq_true ⟨hbf, _, hat⟩⟩
    · obtain ⟨m1, m2⟩ := List.mem_filter.mp hq
      obtain ⟨m2, d, m3⟩ := of_decide_eq_true m2
      obtain ⟨n1, n2⟩ := prsR_mem.mp (show (q.1, q.2) ∈ _ from m1)
      refine ⟨prsR_mem.mpr ⟨(pm _).mp n1, (pm _).mp n2⟩, decide_eq_true ?_⟩
      rcases hsw _ _ m2 with ⟨z1, z2⟩ | ⟨z, _⟩
      · rw [z1, z2, hdone] at m3; cases m3
      · exact ⟨z, tl_back (bf_ne nd z) hut m3⟩
/-! one more in the row -/
theorem ins_cut {f : Nat → Rat} {v : Rat} {q : Nat → Bool} : ∀ {row : List Nat}, (∀ k ∈ row, v < f k → q k = true) → (∀ k ∈ row, q k = true → v ≤ f k) → row.Pairwise (fun x y => f y ≤ f x) →
    (∀ x ∈ row.take (row.filter q).length, v ≤ f x) ∧ ∀ x ∈ row.drop (row.filter q).length, f x ≤ v
  | [], _, _, _ => ⟨fun _ h => (by simp at h), fun _ h => (by simp at h)⟩
  | a :: r, h1, h2, h => by
    obtain ⟨ha, hr⟩ := List.pairwise_cons.mp h
    obtain ⟨i1, i2⟩ := ins_cut (fun k hk => h1 k (List.mem_cons_of_mem _ hk)) (fun k hk => h2 k (List.mem_cons_of_mem _ hk)) hr
    cases e : q a with
    | true =>
      rw [List.filter_cons, if_pos e, List.length_cons, List.take_succ_cons, List.drop_succ_cons]
      refine ⟨fun x hx => ?_, i2⟩
      rcases List.mem_cons.mp hx with rfl | hx
      · exact h2 x (List.mem_cons_self ..) e
      · exact i1 x hx
    | false =>
      have hav : f a ≤ v := Rat.not_lt.mp fun z => by rw [h1 a (List.mem_cons_self ..) z] at e; cases e
      rw [List.filter_cons, if_neg (by rw [e]; decide)]
      have all : ∀ x ∈ r, f x ≤ v := fun x hx => Rat.le_trans (ha x hx) hav
      refine ⟨fun x hx => ?_, fun x hx => ?_⟩
      · cases en : (r.filter q).length with
        | zero => rw [en] at hx; simp at hx
        | succ n =>
          rw [en, List.take_succ_cons] at hx
          have hne : 0 < (r.filter q).length := by omega
          obtain ⟨z, hz⟩ := List.exists_mem_of_length_pos hne
          obtain ⟨z1, z2⟩ := List.mem_filter.mp hz
          rcases List.mem_cons.mp hx with rfl | hx
          · exact Rat.le_trans (h2 z (List.mem_cons_of_mem _ z1) z2) (ha z z1)
          · refine i1 x ?_
            rw [en]
            exact (List.take_subset_take_left r (Nat.le_succ n)) hx
      · have hx2 := List.mem_of_mem_drop hx
        rcases List.mem_cons.mp hx2 with rfl | hx2
        · exact hav
        · exact all x hx2
end
end DL
/-! How long the program's books are, and of how few figures. -/
namespace DL
open PySem PySem.Spec PyProof.Rows L2
/-! ### few figures -/
theorem few_quoI {a b : Int} (hb : b ≠ 0) (ha : a.natAbs < 10 ^ 60) (hb2 : b.natAbs < 10 ^ 60) : Few ((a : Rat) / (b : Rat)) :=
  ⟨Nat.lt_of_le_of_lt (quo_num_le a b) ha, Nat.lt_of_le_of_lt (quo_den_le hb) hb2⟩
/-- a line of a log of so many deeds -/
def LSz (n : Nat) (l : Ln) : Prop := Sm l.2 ∧ ∃ z : Int, l.1 = (z : Rat) / (W2 : Rat) ∧ z.natAbs ≤ n * 2 ^ 112
theorem few_met {n : Nat} {l m : Ln} (hl : LSz n l) (hm : LSz n m) (hn : n ≤ 40) (ne : l.2 ≠ m.2) : Few (met l m) := by
  obtain ⟨sl, z, ez, hz⟩ := hl
  obtain ⟨sm, y, ey, hy⟩ := hm
  obtain ⟨a, ea, ha⟩ := sl.z
  obtain ⟨b, eb, hb⟩ := sm.z
  have hab : a ≠ b := fun e => ne (by rw [ea, eb, e])
  have hz2 : z.natAbs ≤ 40 * 2 ^ 112 := Nat.le_trans hz (Nat.mul_le_mul_right _ hn)
  have hy2 : y.natAbs ≤ 40 * 2 ^ 112 := Nat.le_trans hy (Nat.mul_le_mul_right _ hn)
  have e : met l m = ((y - z : Int) : Rat) / ((27720 * (a - b) : Int) : Rat) := by
    unfold met
    rw [ez, ey, ea, eb, Rat.intCast_mul, Rat.intCast_sub, Rat.intCast_sub]
    have w : (W2 : Rat) = 27720 * 27720 := by unfold W2; norm_cast
    have h1 : (a : Rat) - (b : Rat) ≠ 0 := fun h => hab (by exact_mod_cast (show (a : Rat) = (b : Rat) by grind))
    rw [w, show ((27720 : Int) : Rat) = 27720 from rfl]
    generalize (a : Rat) = a' at *
    generalize (b : Rat) = b' at *
    generalize (y : Rat) = y' at *
    generalize (z : Rat) = z' at *
    have e1 : y' / (27720 * 27720) - z' / (27720 * 27720) = (y' - z') / (27720 * 27720) := by grind
    have e2 : a' / 27720 - b' / 27720 = (a' - b') / 27720 := by grind
    rw [e1, e2]
    generalize a' - b' = g at *
    generalize y' - z' = k at *
    grind
  rw [e]
  refine few_quoI (by omega) ?_ ?_
  · have : (40 * 2 ^ 112 + 40 * 2 ^ 112 : Nat) < 10 ^ 60 := by decide
    omega
  · have : (27720 * (2 ^ 55 + 2 ^ 55) : Nat) < 10 ^ 60 := by decide
    rw [Int.natAbs_mul]
    have h2 : (a - b).natAbs ≤ 2 ^ 55 + 2 ^ 55 := by omega
    have := Nat.mul_le_mul (Nat.le_refl (27720 : Int).natAbs) h2
    have e3 : (27720 : Int).natAbs = 27720 := rfl
    omega
theorem lsz_run {D : List Dd} (h : DOk D) {k : Nat} (hk : k ∈ keysM (runM D).1) : LSz D.length (lnI (runM D).1 k) := by
  obtain ⟨l, el, hm⟩ := mget_key hk
  unfold lnI
  rw [el]
  exact msz_run D h _ hm
theorem few_nxt {D : List Dd} (h : DOk D) {a b : Nat} {u c : Rat} (ha : a ∈ keysM (runM D).1) (hb : b ∈ keysM (runM D).1) (e : nxt (LI (runM D).1) a b u = some c) : Few c := by
  obtain ⟨_, h1, rfl⟩ := nxt_gt e
  rw [ln_LI ha, ln_LI hb] at h1 ⊢
  exact few_met (lsz_run h ha) (lsz_run h hb) h.len h1
theorem few_tl {D : List Dd} (h : DOk D) {a b : Nat} {u c : Rat} (ha : a ∈ keysM (runM D).1) (hb : b ∈ keysM (runM D).1) (hu : Few u) (e : tlW (LI (runM D).1) a b u = some c) : Few c := by
  unfold tlW at e
  split at e
  · cases e; exact hu
  · exact few_nxt h ha hb e
/-! ### passes of a book -/
section
variable {D : List Dd} {s : Gs} {u c t e : Rat} {p : Nat}
theorem min_do (hs : GsOk D s) (hD : DOk D) (hu : s.now = some u) (k : TlMin (LI (s.M D)) u s.row c p) (he : c ≤ e) : u ≤ c ∧ fitsG D e s (.pass c (p : Int)) = true ∧ Nz 3000 c := by
  obtain ⟨hp, ht, hmin⟩ := k
  have huc := tl_ge ht
  have hm1 := hs.mem (row_mem (l := s.row) (i := p) (by omega))
  have hm2 := hs.mem (row_mem (l := s.row) (i := p + 1) hp)
  have hne : s.row.getD p 0 ≠ s.row.getD (p + 1) 0 := pairsG_ne hs.nd (List.mem_of_getElem? (pairsG_get hp))
  by_cases hup : Ahd (LI (s.M D)) (s.row.getD (p + 1) 0) (s.row.getD p 0) u
  · have ec : u = c := by
      unfold tlW at ht
      rw [if_pos hup] at ht
      exact Option.some.inj ht
    subst ec
    exact ⟨huc, link_pass (.inl hu) he (ups_mem.mpr ⟨hp, hup⟩), hs.now u hu⟩
  · have hn : nxt (LI (s.M D)) (s.row.getD p 0) (s.row.getD (p + 1) 0) u = some c := by
      unfold tlW at ht
      rw [if_neg hup] at ht
      exact ht
    have hlt := (nxt_gt hn).1
    have ha : Ahd (LI (s.M D)) (s.row.getD p 0) (s.row.getD (p + 1) 0) u := (ahd_total hne).resolve_right hup
    have hin : p ∈ upsG (s.M D) s.row c := ups_mem.mpr ⟨hp, change_up hn ha⟩
    have hk : keepsG D s u c false = true := keeps_till hs.nd (.inl hlt) fun i d hi ed => by
      have := hmin i d hi ed
      rintro (z | ⟨z, _⟩)
      · exact absurd z (Rat.not_lt.mpr this)
      · cases z
    refine ⟨huc, link_pass (.inr ⟨u, hu, hlt, hk⟩) he hin, ?_⟩
    exact till_nz hs hD hu hp (show tillI (s.M D) u s.row p = some c from ht)
theorem gs_take (hX : LogX D) : ∃ n, n = s.past ∧ LogX (D.take s.past) := by
  refine ⟨_, rfl, ?_⟩
  have e := List.take_append_drop s.past D
  rw [← e] at hX
  exact hX.pre
theorem row_eight (hX : LogX D) (hs : GsOk D s) : s.row.length ≤ 8 := by
  obtain ⟨_, _, h⟩ := gs_take (s := s) hX
  rw [hs.perm.length_eq, keysM_len]
  exact h.room
theorem few_pass (hD : DOk D) (hs : GsOk D s) (hu : Few u) (k : TlMin (LI (s.M D)) u s.row c p) : Few c :=
  few_tl (hD.take s.past) (hs.mem (row_mem (by have := k.lt; omega))) (hs.mem (row_mem k.lt)) hu k.at_
/-! ### a deed -/
theorem pw_lnI {M : Mp} {row : List Nat} (hk : ∀ k ∈ row, k ∈ keysM M) : Dec (LI M) t row ↔ row.Pairwise fun x y => at_ (lnI M y) t ≤ at_ (lnI M x) t := by
  constructor
  · exact fun h => h.imp_of_mem fun {a b} ha hb z => by rw [ln_LI (hk a ha), ln_LI (hk b hb)] at z; exact z
  · exact fun h => h.imp_of_mem fun {a b} ha hb z => by rw [ln_LI (hk a ha), ln_LI (hk b hb)]; exact z
theorem dec_deed {d : Dd} (hD : DOk D) (hs : GsOk D s) (hs2 : GsOk D (doG D s (.deed (placeP D s d : Nat)))) (ed : D[s.past]? = some d) (h : Dec (LI (s.M D)) d.t s.row) :
    Dec (LI ((doG D s (.deed (placeP D s d : Nat))).M D)) d.t (doG D s (.deed (placeP D s d : Nat))).row := by
  have hn := M_next ed
  have hM : (doG D s (.deed (placeP D s d : Nat))).M D = (stepM (s.M D, s.J D) d).1 := by
    show (runM (D.take (doG D s (.deed (placeP D s d : Nat))).past)).1 = _
    rw [(do_deed ed).2, hn]
  have hk2 : ∀ k ∈ (doG D s (.deed (placeP D s d : Nat))).row, k ∈ keysM ((doG D s (.deed (placeP D s d : Nat))).M D) := fun k hk => hs2.perm.mem_iff.mp hk
  have h' := (pw_lnI (fun k hk => hs.mem hk)).mp h
  have hh := (hD.at ed).2
  rw [pw_lnI hk2]
  rw [hM] at hk2 ⊢
  unfold doG at hk2 ⊢
  simp only [ed] at hk2 ⊢
  cases d with
  | join t q m =>
    simp only [Int.toNat_natCast] at hk2 ⊢
    have hJ : s.J D ∉ keysM (s.M D) := (keyOk_run (D.take s.past)).new
    have hnJ : lnI (stepM (s.M D, s.J D) (.join t q m)).1 (s.J D) = (q - m * t, m) := by
      show (mget (s.M D ++ [(s.J D, (q - m * t, m))]) (s.J D)).getD (0, 0) = _
      rw [mget_app, if_neg hJ, if_pos rfl]
      rfl
    have hold : ∀ k ∈ s.row, lnI (stepM (s.M D, s.J D) (.join t q m)).1 k = lnI (s.M D) k := fun k hk => by
      show (mget (s.M D ++ [(s.J D, (q - m * t, m))]) k).getD (0, 0) = _
      rw [mget_app, if_pos (hs.mem hk)]
      rfl
    have hKk : ∀ k ∈ s.row, ln (LI (s.K D ++ [(s.J D, (q - m * t, m))])) k = lnI (s.M D) k := fun k hk => by
      have hkK := hs.kmem hD (hs.mem hk)
      rw [ln_LI (show k ∈ keysM (s.K D ++ [(s.J D, (q - m * t, m))]) by unfold keysM; rw [List.map_append]; exact List.mem_append_left _ hkK)]
      unfold lnI
      rw [mget_app, if_pos hkK, show mget (s.K D) k = mget (s.M D) k from (kOk_run _ (hD.take s.past)).ln k (hs.mem hk)]
    have hKJ : ln (LI (s.K D ++ [(s.J D, (q - m * t, m))])) (s.J D) = (q - m * t, m) := by
      rw [ln_LI (show s.J D ∈ keysM (s.K D ++ [(s.J D, (q - m * t, m))]) by unfold keysM; rw [List.map_append]; simp)]
      unfold lnI
      rw [mget_app, if_neg (K_new hD s), if_pos rfl]
      rfl
    have cut := ins_cut (f := fun k => at_ (lnI (s.M D) k) t) (v := at_ (q - m * t, m) t) (q := fun k => decide (Ahd (LI (s.K D ++ [(s.J D, (q - m * t, m))])) k (s.J D) t)) (row := s.row)
      (fun k hk z => decide_eq_true (.inl (by rw [hKk k hk, hKJ]; exact z)))
      (fun k hk z => by
        have z := ahd_le (of_decide_eq_true z)
        rw [hKk k hk, hKJ] at z
        exact z) h'
    have hp : placeP D s (.join t q m) = (s.row.filter fun k => decide (Ahd (LI (s.K D ++ [(s.J D, (q - m * t, m))])) k (s.J D) t)).length := rfl
    rw [hp]
    generalize (s.row.filter fun k => decide (Ahd (LI (s.K D ++ [(s.J D, (q - m * t, m))])) k (s.J D) t)).length = z at *
    have h1 : ∀ k ∈ s.row.take z, k ∈ s.row := fun k hk => List.mem_of_mem_take hk
    have h2 : ∀ k ∈ s.row.drop z, k ∈ s.row := fun k hk => List.mem_of_mem_drop hk
    have e0 := List.take_append_drop z s.row
    rw [← e0] at h'
    obtain ⟨p1, p2, p3⟩ := List.pairwise_append.mp h'
    rw [List.append_assoc]
    refine List.pairwise_append.mpr ⟨p1.imp_of_mem fun {a b} ha hb w => by rw [hold a (h1 a ha), hold b (h1 b hb)]; exact w, List.pairwise_cons.mpr ⟨fun b hb => ?_, p2.imp_of_mem fun {a b} ha hb w => by rw [hold a (h2 a ha), hold b (h2 b hb)]; exact w⟩, fun a ha b hb => ?_⟩
    · rw [hold b (h2 b hb), hnJ]
      exact cut.2 b hb
    · rw [hold a (h1 a ha)]
      rcases List.mem_cons.mp hb with rfl | hb
      · rw [hnJ]; exact cut.1 a ha
      · rw [hold b (h2 b hb)]
        exact p3 a ha b hb
  | leave t r =>
    simp only [Int.toNat_natCast] at hk2 ⊢
    have hsub := h'.sublist (List.eraseIdx_sublist s.row (placeP D s (.leave t r)))
    refine hsub.imp_of_mem fun {a b} ha hb w => ?_
    have ne : ∀ k ∈ s.row.eraseIdx (placeP D s (.leave t r)), lnI (stepM (s.M D, s.J D) (.leave t r)).1 k = lnI (s.M D) k := fun k hk => by
      have := hk2 k hk
      have this : k ∈ keysM (mdrop (s.M D) r) := this
      rw [keys_mdrop] at this
      have hkr : k ≠ r := by simpa using (List.mem_filter.mp this).2
      show (mget (mdrop (s.M D) r) k).getD (0, 0) = _
      rw [mget_drop r k hkr]
      rfl
    rw [ne a ha, ne b hb]
    exact w
  | turn t r m =>
    refine h'.imp_of_mem fun {a b} ha hb w => ?_
    have ne : ∀ k ∈ s.row, at_ (lnI (stepM (s.M D, s.J D) (.turn t r m)).1 k) t = at_ (lnI (s.M D) k) t := fun k hk => by
      show at_ ((mget (mset (s.M D) r (at_ ((mget (s.M D) r).getD (0, 0)) t - m * t, m)) k).getD (0, 0)) t = _
      rw [mget_set]
      by_cases e : k = r
      · subst e
        rw [if_pos ⟨rfl, hs.mem hk⟩]
        show at_ ((mget (s.M D) k).getD (0, 0)) t - m * t + m * t = at_ ((mget (s.M D) k).getD (0, 0)) t
        grind
      · rw [if_neg fun z => e z.1]
        rfl
    show at_ (lnI (stepM (s.M D, s.J D) (.turn t r m)).1 b) t ≤ at_ (lnI (stepM (s.M D, s.J D) (.turn t r m)).1 a) t
    rw [ne a ha, ne b hb]
    exact w
end
end DL
/-! The program's book as rows of few figures; what a desk tells has few figures. -/
namespace DL
open PySem PySem.Spec PyProof.Rows L2
/-- a row of a book whose place is from 0 on -/
def brR : RB → BR
  | .deed p => .deed p.toNat
  | .pass t p => .pass t p.toNat
def RbOk : RB → Prop
  | .deed p => 0 ≤ p ∧ p < 10 ^ 60
  | .pass t p => 0 ≤ p ∧ p < 10 ^ 60 ∧ Few t
def rbB : BR → RB
  | .deed k => .deed (k : Int)
  | .pass t k => .pass t (k : Int)
theorem Few.nz {q : Rat} (h : Few q) : Nz 200 q := by
  have h1 : (10 ^ 60 : Nat) < 2 ^ 200 := by decide
  exact ⟨Nat.lt_trans h.1 h1, by show (q.den : Int).natAbs < 2 ^ 200; rw [Int.natAbs_natCast]; exact Nat.lt_trans h.2 h1⟩
/-! ### the book that the program writes -/
section
variable {D : List Dd} {e : Rat}
theorem Runs.place {s s' : Gs} {B : List RB} (hX : LogX D) (h : Runs D e s B s') (hs : GsOk D s) (hz : ∀ t p, RB.pass t p ∈ B → Nz 3000 t) : ∀ r ∈ B, match r with
    | .deed p => 0 ≤ p ∧ p ≤ 8
    | .pass _ p => 0 ≤ p ∧ p ≤ 8 := by
  induction h with
  | nil s => exact fun r h => nomatch h
  | @cons s s' r rs hf _ ih =>
    have h8 := row_eight hX hs
    have hs2 := hs.step hX.dok hf fun t p z => hz t p (by rw [z]; exact List.mem_cons_self ..)
    intro q hq
    rcases List.mem_cons.mp hq with rfl | hq
    · unfold fitsG at hf
      cases q with
      | pass t p =>
        simp only [timeG, placeG, Bool.and_eq_true, decide_eq_true_eq] at hf
        obtain ⟨_, _, h0, h1, _⟩ := hf
        exact ⟨h0, by omega⟩
      | deed p =>
        simp only [timeG] at hf
        cases ed : D[s.past]? with
        | none => rw [ed] at hf; cases hf
        | some d =>
          rw [ed] at hf
          simp only [Option.map_some, placeG, ed, Bool.and_eq_true] at hf
          obtain ⟨_, _, hp⟩ := hf
          cases d with
          | join t q m =>
            simp only [Bool.and_eq_true, decide_eq_true_eq] at hp
            exact ⟨hp.1, by omega⟩
          | leave t r =>
            simp only [Bool.and_eq_true, decide_eq_true_eq] at hp
            exact ⟨hp.1, by omega⟩
          | turn t r m =>
            simp only [Bool.and_eq_true, decide_eq_true_eq] at hp
            exact ⟨hp.1, by omega⟩
    · exact ih hs2 (fun t p h => hz t p (List.mem_cons_of_mem _ h)) q hq
theorem rb_ok {B : List RB} {s s' : Gs} (hX : LogX D) (h : Runs D e s B s') (hs : GsOk D s) (hf : ∀ t p, RB.pass t p ∈ B → Few t) : ∀ r ∈ B, RbOk r := fun r hr => by
  have := h.place hX hs (fun t p h => (hf t p h).nz.le (by decide)) r hr
  cases r with
  | deed p => exact ⟨this.1, by have := this.2; omega⟩
  | pass t p => exact ⟨this.1, by have := this.2; omega, hf t p hr⟩
end
/-! ### figures of papers, exchanges, leaders, orders -/
theorem runs_cnt (D : List Dd) : (runM D).2 ≤ D.length := by
  rw [← joins_run]
  exact List.length_filter_le _ _
theorem kN_few {D : List Dd} (hD : DOk D) (a : Nat) : (kN (runM D).1 a).natAbs < 10 ^ 60 := by
  unfold kN
  rw [Int.natAbs_natCast, List.getD_eq_getElem?_getD]
  cases e : (keysM (runM D).1)[a]? with
  | none => exact (by decide : (0 : Nat) < 10 ^ 60)
  | some k =>
    have h1 := (keyOk_run D).2 k (List.mem_of_getElem? e)
    have h2 := runs_cnt D
    have h3 := hD.len
    show k < 10 ^ 60
    have : (40 : Nat) < 10 ^ 60 := by decide
    omega
theorem lsz_at {D : List Dd} (h : DOk D) {a : Nat} (ha : a < (runM D).1.length) : LSz D.length (ln (lnM (runM D).1) a) := by
  have hm : (runM D).1[a] ∈ (runM D).1 := List.getElem_mem ha
  have e : ln (lnM (runM D).1) a = ((runM D).1[a]).2 := by
    unfold ln lnM
    rw [List.getD_eq_getElem?_getD, List.getElem?_map, List.getElem?_eq_getElem ha]
    rfl
  rw [e]
  exact msz_run D h _ hm
theorem LdR.uniq {D : List Dd} {T : List Rat} {k : Nat} {R : Fo} (h : LdR D T k R) : ∀ {R' : Fo}, LdR D T k R' → R = R' := by
  induction h with
  | zero => intro R' h'; cases h'; rfl
  | succ h1 h2 h3 ih =>
    intro R' h'
    cases h' with
    | succ k1 k2 k3 =>
      rw [h2] at k2
      cases k2
      obtain rfl := ih k1
      rcases h3 with ⟨e1, rfl⟩ | ⟨r0, rest, g1, rfl⟩ <;> rcases k3 with ⟨e2, rfl⟩ | ⟨r0', rest', g2, rfl⟩
      · rfl
      · rcases g2 with ⟨_, z⟩ | ⟨z, _⟩
        · cases z
        · exact absurd (by unfold lnM; rw [e1]; rfl) z
      · rcases g1 with ⟨_, z⟩ | ⟨z, _⟩
        · cases z
        · exact absurd (by unfold lnM; rw [e2]; rfl) z
      · cases g1.uniq g2
        rfl
theorem putR_mem2 {R : Fo} {r : Option Int} {t : Rat} {y : Option Int × Option Rat} (h : y ∈ putR R r t) : y ∈ R ∨ y = (r, some t) := by
  unfold putR at h
  split at h
  · exact .inl h
  · rcases List.mem_append.mp h with h | h
    · exact .inl h
    · exact .inr (List.mem_singleton.mp h)
theorem foldS_mem2 {M : Mp} {t : Rat} {b : Option Rat} {y : Option Int × Option Rat} : ∀ {post : Rw} {R : Fo}, y ∈ post.foldl (stepS M t b) R → y ∈ R ∨ ∃ z ∈ post, ∃ u, z.2 = some u ∧ y = (some (kN M z.1), some u)
  | [], _, h => .inl h
  | z :: post, R, h => by
    rw [List.foldl_cons] at h
    rcases foldS_mem2 h with h | ⟨w, h1, h2⟩
    · unfold stepS at h
      split at h
      · next s e =>
        split at h
        · rcases putR_mem2 h with h | h
          · exact .inl h
          · exact .inr ⟨z, List.mem_cons_self .., s, e, h⟩
        · exact .inl h
      · exact .inl h
    · exact .inr ⟨w, List.mem_cons_of_mem _ h1, h2⟩
theorem LdR.ok {D : List Dd} {T : List Rat} (hX : LogX D) (hT : IsT D T) {k : Nat} {R : Fo} (h : LdR D T k R) : ∀ y ∈ R, LdOk y := by
  have hD := hX.dok
  induction h with
  | zero => exact fun y hy => by rw [List.mem_singleton.mp hy]; exact ⟨fun i e => (by cases e), fun q e => (by cases e)⟩
  | @succ k R R' t h1 h2 h3 ih =>
    have ft : Few t := by
      obtain ⟨d, hd, rfl⟩ := (hT.mem t).mp (List.mem_of_getElem? h2)
      exact (hX.mem hd).t.few
    have put : ∀ r : Option Int, (∀ i, r = some i → i.natAbs < 10 ^ 60) → ∀ y ∈ putR R r t, LdOk y := fun r hr y hy => by
      rcases putR_mem2 hy with hy | hy
      · exact ih y hy
      · rw [hy]; exact ⟨hr, fun q e => by cases e; exact ft⟩
    rcases h3 with ⟨_, rfl⟩ | ⟨r0, rest, hrow, rfl⟩
    · exact put none fun i e => nomatch e
    · intro y hy
      rcases foldS_mem2 hy with hy | ⟨z, hz, u, e1, e3⟩
      · exact put _ (fun i e => by cases e; exact kN_few (hD.then t) _) y hy
      · rw [e3]
        refine ⟨fun i e => by cases e; exact kN_few (hD.then t) _, fun q e => ?_⟩
        cases e
        rcases hrow with ⟨_, e⟩ | ⟨_, r, rest', e, hseg⟩
        · cases e
        · cases e
          obtain ⟨a, b', ha, hb', hs, eu, _⟩ := seg_level hseg z hz _ e1
          rw [lnM_len] at ha hb'
          rw [eu]
          exact few_met (lsz_at (hD.then t) ha) (lsz_at (hD.then t) hb') (hD.then t).len (Rat.ne_of_lt hs)
end DL
/-! A desk, what it holds and what it answers. -/
namespace DL
open PySem PySem.Spec PyProof.Rows L2 TL
structure DkAt (kD kR : Kls) (S : Sto) (k r dl gl cl : Addr) (D : List Dd) (now : Option Rat) (G C : List PprI) : Prop where
  ob : S k = some (.ins kD [.ref r])
  rc : RcAt kR S r dl gl cl D now G C
theorem DkAt.sub {kD kR : Kls} {S S' : Sto} {k r dl gl cl : Addr} {D : List Dd} {now : Option Rat} {G C : List PprI} (h : DkAt kD kR S k r dl gl cl D now G C) (s : Sub S S') : DkAt kD kR S' k r dl gl cl D now G C := ⟨s _ _ h.ob, h.rc.sub s⟩
/-- what a row of one word, or a row about the log, is answered -/
def Ans (D : List Dd) (now : Option Rat) (G C : List PprI) : Dr → List Nat → Prop
  | .deed d, a => a = if isJ d = true then numL (runM D).2 else okL
  | .go t, a => ∃ es, RGo D now t es ∧ a = exchT es
  | .log, a => a = subL 10 59 (textL (D.map rwD))
  | .order, a => a = orderT (now.elim [] fun u => OM (MT D u) u)
  | .papers, a => a = papersT (now.elim [] fun u => ppM (MT D u) u)
  | .changed, a => a = papersT G ++ [32, 124, 32] ++ papersT C
  | .leaders, a => ∃ T R, IsT D T ∧ LdR D T T.length R ∧ a = leadersT R
  | .thn t, a => a = orderT (OM (runM (thenD D t)).1 t)
  | .book t, a => a = subL 10 59 (textL (((bookF D t).map brR).map rwB))
  | .check t B, a => a = match faultG D t 0 ⟨[], 0, none⟩ (B.map rbB) with
    | none => yesL
    | some n => noL ++ [32] ++ numL n
  | .byr t k B, a => a = match faultG D t 0 ⟨[], 0, none⟩ (B.map rbB) with
    | some _ => noL
    | none => if k < (OK (runM (thenD D t)).1 t).length then numL ((OK (runM (thenD D t)).1 t).getD k 0) else [45]
theorem Ans.uniq {D : List Dd} {now : Option Rat} {G C : List PprI} {r : Dr} {a b : List Nat} (h : Ans D now G C r a) (k : Ans D now G C r b) : a = b := by
  cases r with
  | go t =>
    obtain ⟨es, h1, rfl⟩ := h
    obtain ⟨es', k1, rfl⟩ := k
    rw [h1.uniq k1]
  | leaders =>
    obtain ⟨T, R, h1, h2, rfl⟩ := h
    obtain ⟨T', R', k1, k2, rfl⟩ := k
    obtain rfl := h1.uniq k1
    rw [h2.uniq k2]
  | _ => exact (show a = _ from h).trans (show b = _ from k).symm
end DL
/-! Own books of a law. -/
namespace DL
open PySem PySem.Spec PyProof.Rows L2 TL
end DL
/-! Books that a law writes itself: passes up to a time and at it, then the deed. -/
namespace DL
open PySem PySem.Spec PyProof.Rows L2 TL
/-- the next pass, where there is one: some first one -/
def NxP (L : List Ln) (u : Rat) (row : List Nat) : Option (Rat × Nat) → Prop
  | none => ∀ i, i + 1 < row.length → tlW L (row.getD i 0) (row.getD (i + 1) 0) u = none
  | some x => TlMin L u row x.1 x.2
/-- the first of those looked at so far -/
def NxS (L : List Ln) (u : Rat) (row : List Nat) (n : Nat) : Option (Rat × Nat) → Prop
  | none => ∀ i, i < n → tlW L (row.getD i 0) (row.getD (i + 1) 0) u = none
  | some x => x.2 < n ∧ tlW L (row.getD x.2 0) (row.getD (x.2 + 1) 0) u = some x.1 ∧ ∀ i d, i < n → tlW L (row.getD i 0) (row.getD (i + 1) 0) u = some d → x.1 ≤ d
section
variable {L : List Ln} {u c : Rat} {row : List Nat} {n : Nat} {x : Option (Rat × Nat)}
theorem NxS.start : NxS L u row 0 none := fun i h => absurd h (Nat.not_lt_zero i)
theorem NxS.stop (h : NxS L u row (row.length - 1) x) : NxP L u row x := by
  cases x with
  | none => exact fun i hi => h i (by omega)
  | some x =>
    obtain ⟨h1, h2, h3⟩ := h
    exact ⟨by omega, h2, fun j d hj e => h3 j d (by omega) e⟩
theorem NxS.skip (h : NxS L u row n x) (e : tlW L (row.getD n 0) (row.getD (n + 1) 0) u = none) : NxS L u row (n + 1) x := by
  cases x with
  | none =>
    intro i hi
    by_cases c : i = n
    · rw [c]; exact e
    · exact h i (by omega)
  | some x =>
    obtain ⟨h1, h2, h3⟩ := h
    refine ⟨by omega, h2, fun i d hi ed => ?_⟩
    by_cases c : i = n
    · rw [c, e] at ed; cases ed
    · exact h3 i d (by omega) ed
theorem NxS.put (h : NxS L u row n x) (e : tlW L (row.getD n 0) (row.getD (n + 1) 0) u = some c) (hc : ∀ y, x = some y → c ≤ y.1) : NxS L u row (n + 1) (some (c, n)) := by
  refine ⟨Nat.lt_succ_self n, e, fun i d hi ed => ?_⟩
  by_cases k : i = n
  · rw [k, e] at ed; cases ed; exact Rat.le_refl
  · cases x with
    | none => rw [h i (by omega)] at ed; cases ed
    | some y => exact Rat.le_trans (hc y rfl) (h.2.2 i d (by omega) ed)
theorem NxS.keep {y : Rat × Nat} (h : NxS L u row n (some y)) (e : tlW L (row.getD n 0) (row.getD (n + 1) 0) u = some c) (hc : y.1 ≤ c) : NxS L u row (n + 1) (some y) := by
  obtain ⟨h1, h2, h3⟩ := h
  refine ⟨by omega, h2, fun i d hi ed => ?_⟩
  by_cases k : i = n
  · rw [k, e] at ed; cases ed; exact hc
  · exact h3 i d (by omega) ed
end
/-- how far a book of one's own is -/
structure OwnB (D : List Dd) (e v : Rat) (B : List RB) (s : Gs) : Prop where
  ok : GsOk D s
  run : Runs D e ⟨[], 0, none⟩ B s
  now : (s.now = none ∧ s.row = []) ∨ (s.now = some v ∧ v ≤ e)
  fv : Few v
  dec : Dec (LI (s.M D)) v s.row
  few : ∀ t p, RB.pass t p ∈ B → Few t
section
variable {D : List Dd} {e v w c : Rat} {B : List RB} {s : Gs} {p : Nat}
theorem OwnB.pass (h : OwnB D e v B s) (hD : DOk D) (k : TlMin (LI (s.M D)) v s.row c p) (he : c ≤ e) : v ≤ c ∧ OwnB D e c (B ++ [.pass c (p : Int)]) (doG D s (.pass c (p : Int))) ∧ muR (LI (s.M D)) c (doG D s (.pass c (p : Int))).row < muR (LI (s.M D)) v s.row ∧ doG D s (.pass c (p : Int)) = ⟨swapG s.row p, s.past, some c⟩ := by
  have hu : s.now = some v := by
    rcases h.now with ⟨_, z⟩ | ⟨z, _⟩
    · have := k.lt; rw [z] at this; cases this
    · exact z
  obtain ⟨k1, k2, k4⟩ := min_do h.ok hD hu k he
  have hdo : doG D s (.pass c (p : Int)) = ⟨swapG s.row p, s.past, some c⟩ := do_pass
  have hM : (doG D s (.pass c (p : Int))).M D = s.M D := M_past (by rw [hdo])
  have hc := few_pass hD h.ok h.fv k
  refine ⟨k1, ⟨h.ok.step hD k2 fun t' p' z => by cases z; exact k4, h.run.snoc k2, .inr ⟨by rw [hdo], he⟩, hc, ?_, fun t q hm => ?_⟩, ?_, hdo⟩
  · rw [hM, hdo]; exact h.dec.pass h.ok.nd k
  · rcases List.mem_append.mp hm with hm | hm
    · exact h.few t q hm
    · cases List.mem_singleton.mp hm; exact hc
  · rw [hdo]; exact muR_lt h.dec h.ok.nd k
/-- nothing comes up to a time, this one too -/
def Idle (D : List Dd) (v w : Rat) (s : Gs) : Prop := ∀ i c, i + 1 < s.row.length → tlW (LI (s.M D)) (s.row.getD i 0) (s.row.getD (i + 1) 0) v = some c → w < c
theorem Idle.link (h : Idle D v w s) (hs : GsOk D s) (hu : s.now = some v) (hvw : v ≤ w) : Link D s w := by
  by_cases z : v = w
  · subst z; exact .inl hu
  · refine .inr ⟨v, hu, Rat.lt_of_le_of_ne hvw z, keeps_till hs.nd (.inl (Rat.lt_of_le_of_ne hvw z)) fun i d hi ed => ?_⟩
    have := h i d hi ed
    rintro (y | ⟨y, _⟩)
    · grind
    · cases y
theorem Idle.keeps (h : Idle D v w s) (hs : GsOk D s) (hvw : v ≤ w) : keepsG D s v w true = true := by
  refine keeps_till hs.nd ?_ fun i d hi ed => ?_
  · by_cases z : v = w
    · exact .inr ⟨rfl, z⟩
    · exact .inl (Rat.lt_of_le_of_ne hvw z)
  · have := h i d hi ed
    rintro (y | ⟨_, y⟩) <;> grind
theorem OwnB.deed {d : Dd} (h : OwnB D e v B s) (hX : LogX D) (hi : Idle D v d.t s) (hv : s.now = some v → v ≤ d.t) (ed : D[s.past]? = some d) (he : d.t ≤ e) : OwnB D e d.t (B ++ [.deed (placeP D s d : Nat)]) (doG D s (.deed (placeP D s d : Nat))) := by
  have hD := hX.dok
  have hk : s.now = none ∨ Link D s d.t := by
    rcases h.now with ⟨z, _⟩ | ⟨z, _⟩
    · exact .inl z
    · exact .inr (hi.link h.ok z (hv z))
  have hfit := deed_fits (e := e) ed (place_ok hD h.ok ed) he hk
  have hs2 := h.ok.step hD hfit fun t p z => nomatch z
  have hdec : Dec (LI (s.M D)) d.t s.row := by
    rcases h.now with ⟨_, z⟩ | ⟨z, _⟩
    · rw [z]; exact .nil
    · exact h.dec.on h.ok.nd (hv z) fun i c hh ec => Rat.le_of_lt (hi i c hh ec)
  have fd : Few d.t := (hX.mem (List.mem_of_getElem? ed)).t.few
  refine ⟨hs2, h.run.snoc hfit, .inr ⟨(do_deed ed).1, he⟩, fd, dec_deed hD h.ok hs2 ed hdec, fun t p hm => ?_⟩
  rcases List.mem_append.mp hm with hm | hm
  · exact h.few t p hm
  · cases List.mem_singleton.mp hm
theorem OwnB.start (hv : Few v) : OwnB D e v [] ⟨[], 0, none⟩ := ⟨GsOk.start D, .nil _, .inl ⟨rfl, rfl⟩, hv, .nil, fun _ _ h => nomatch h⟩
theorem OwnB.rb (h : OwnB D e v B s) (hX : LogX D) : ∀ r ∈ B, RbOk r := rb_ok hX h.run (GsOk.start D) h.few
end
end DL
/-! What stands behind the word of a row; rows that a law tells. -/
namespace DL
open PySem PySem.Spec PyProof.Rows L2 TL
/-! ### rows of parts -/
/-! ### times; rows of books with another place -/
end DL
/-! Books that are spoilt are not let by. -/
namespace DL
open PySem PySem.Spec PyProof.Rows L2 TL
section
variable {D : List Dd} {e t u v c : Rat} {s s' : Gs} {B C : List RB} {n m : Nat} {x y p : Nat}
theorem Runs.ok (h : Runs D e s B s') (hD : DOk D) (hs : GsOk D s) (hz : ∀ t p, RB.pass t p ∈ B → Nz 3000 t) : GsOk D s' := by
  induction h with
  | nil s => exact hs
  | @cons s s' r rs hf _ ih =>
    exact ih (hs.step hD hf fun t p z => hz t p (by rw [z]; exact List.mem_cons_self ..)) fun t p h => hz t p (List.mem_cons_of_mem _ h)
theorem Runs.order (h : Runs D e s B s') : orderG D e s B = s'.row := by
  induction h with
  | nil s => rfl
  | @cons s s' r rs hf _ ih =>
    obtain ⟨v, h1, h2, _⟩ := fits_time hf
    unfold orderG
    rw [h1]
    dsimp only
    rw [if_neg (Rat.not_lt.mpr h2)]
    exact ih
/-! ### two that are to be exchanged -/
/-- what a pass that fits says -/
theorem pass_says {q : Int} (h : fitsG D e s (.pass t q) = true) (hs : GsOk D s) : ∃ p : Nat, q = (p : Int) ∧ p + 1 < s.row.length ∧ Ahd (LI (s.M D)) (s.row.getD (p + 1) 0) (s.row.getD p 0) t ∧ t ≤ e ∧ ∀ u, s.now = some u → u ≤ t := by
  obtain ⟨v, h1, h2, _, h4, _⟩ := fits_time h
  cases h1
  unfold fitsG at h
  simp only [timeG, placeG, Bool.and_eq_true, decide_eq_true_eq] at h
  obtain ⟨_, _, h0, h1', h5⟩ := h
  refine ⟨q.toNat, by omega, by omega, ?_, h2, fun u hu => (h4 u hu).1⟩
  have e1 : nthR s.row (q + 1) = s.row.getD (q.toNat + 1) 0 := by unfold nthR; rw [show (q + 1).toNat = q.toNat + 1 by omega]
  rw [e1] at h5
  exact h5
/-! ### .. one exchange too many -/
/-! ### .. one exchange left out -/
def sg (x y k : Nat) : Nat := if k = x then y else if k = y then x else k
theorem sg_x (x y : Nat) : sg x y x = y := if_pos rfl
theorem sg_y (x y : Nat) : sg x y y = x := by unfold sg; split <;> simp_all
theorem sg_o {x y k : Nat} (h1 : k ≠ x) (h2 : k ≠ y) : sg x y k = k := by unfold sg; rw [if_neg h1, if_neg h2]
theorem sg_fix {x y k : Nat} (hxy : x ≠ y) (h : sg x y k = k) : k ≠ x ∧ k ≠ y := by
  refine ⟨fun z => ?_, fun z => ?_⟩
  · subst z; rw [sg_x] at h; exact hxy h.symm
  · subst z; rw [sg_y] at h; exact hxy h
/-- two lists, the one with two exchanged -/
structure Exd (x y : Nat) (s s' : Gs) : Prop where
  past : s'.past = s.past
  row : s'.row = s.row.map (sg x y)
  ne : x ≠ y
  mx : x ∈ s.row
  my : y ∈ s.row
theorem mem_erase {l : List Nat} {k q : Nat} (h : k ∈ l) (n : l[q]? ≠ some k) : k ∈ l.eraseIdx q := by
  obtain ⟨i, hi, rfl⟩ := List.mem_iff_getElem.mp h
  have hiq : i ≠ q := fun z => n (by subst z; exact List.getElem?_eq_getElem hi)
  rw [List.mem_eraseIdx_iff_getElem]
  exact ⟨i, hi, hiq, rfl⟩
theorem Exd.step {r : RB} (h : Exd x y s s') (hs : GsOk D s) (hf : fitsG D e s r = true) (hf' : fitsG D e s' r = true) : Exd x y (doG D s r) (doG D s' r) := by
  obtain ⟨h1, h2, hne, hx, hy⟩ := h
  cases r with
  | pass t q =>
    obtain ⟨p, rfl, hp, _⟩ := pass_says hf hs
    rw [do_pass, do_pass]
    have hpm := swap_perm hp
    exact ⟨h1, by rw [h2]; exact swap_map hp, hne, hpm.mem_iff.mpr hx, hpm.mem_iff.mpr hy⟩
  | deed q =>
    have hM : s'.M D = s.M D := M_past h1
    have hJ : s'.J D = s.J D := by unfold Gs.J; rw [h1]
    obtain ⟨v, _, _, _, _, h5⟩ := fits_time hf
    rcases h5 with ⟨_, z, _⟩ | ⟨d, p, z, ed, _, _⟩
    · cases z
    cases z
    have ed' : D[s'.past]? = some d := by rw [h1]; exact ed
    unfold fitsG at hf hf'
    have et : timeG D s (.deed q) = some d.t := by unfold timeG; rw [ed]; rfl
    have et' : timeG D s' (.deed q) = some d.t := by unfold timeG; rw [ed']; rfl
    rw [et] at hf
    rw [et'] at hf'
    simp only [Bool.and_eq_true, placeG, ed, ed'] at hf hf'
    obtain ⟨_, _, hp⟩ := hf
    obtain ⟨_, _, hp'⟩ := hf'
    have hout : s.J D ≠ x ∧ s.J D ≠ y := by
      have hn := (keyOk_run (D.take s.past)).new
      exact ⟨fun z => hn (by rw [show (runM (D.take s.past)).2 = x from z]; exact hs.mem hx), fun z => hn (by rw [show (runM (D.take s.past)).2 = y from z]; exact hs.mem hy)⟩
    cases d with
    | join a b c =>
      unfold doG
      simp only [ed, ed']
      refine ⟨by rw [h1], ?_, hne, ?_, ?_⟩
      · dsimp only
        rw [h2, hJ, List.map_append, List.map_append, List.map_take, List.map_drop]
        show _ = _ ++ [sg x y (s.J D)] ++ _
        rw [sg_o hout.1 hout.2]
      · have := List.take_append_drop q.toNat s.row
        rw [← this] at hx
        dsimp only
        rcases List.mem_append.mp hx with z | z
        · exact List.mem_append_left _ (List.mem_append_left _ z)
        · exact List.mem_append_right _ z
      · have := List.take_append_drop q.toNat s.row
        rw [← this] at hy
        dsimp only
        rcases List.mem_append.mp hy with z | z
        · exact List.mem_append_left _ (List.mem_append_left _ z)
        · exact List.mem_append_right _ z
    | leave a k =>
      simp only [Bool.and_eq_true, decide_eq_true_eq] at hp hp'
      obtain ⟨q0, q1, q2⟩ := hp
      obtain ⟨_, _, q2'⟩ := hp'
      have hg := nthR_get q0 q1
      rw [q2] at hg
      have hgs : nthR s'.row q = sg x y (nthR s.row q) := by
        unfold nthR
        rw [h2, List.getD_eq_getElem?_getD, List.getElem?_map, List.getElem?_eq_getElem (show q.toNat < s.row.length by omega), List.getD_eq_getElem?_getD, List.getElem?_eq_getElem (show q.toNat < s.row.length by omega)]
        rfl
      rw [q2', q2] at hgs
      obtain ⟨kx, ky⟩ := sg_fix hne hgs.symm
      unfold doG
      simp only [ed, ed']
      refine ⟨by rw [h1], ?_, hne, ?_, ?_⟩
      · dsimp only
        rw [h2]
        exact (DT.map_erase (sg x y) s.row q.toNat).symm
      · exact mem_erase hx fun z => kx (Option.some.inj (hg.symm.trans z))
      · exact mem_erase hy fun z => ky (Option.some.inj (hg.symm.trans z))
    | turn a k b =>
      unfold doG
      simp only [ed, ed']
      exact ⟨by rw [h1], h2, hne, hx, hy⟩
/-! ### times of rows -/
def timesB (D : List Dd) : Nat → List RB → List Rat
  | _, [] => []
  | n, .deed _ :: rs => ((D[n]?.map Dd.t).getD 0) :: timesB D (n + 1) rs
  | n, .pass t _ :: rs => t :: timesB D n rs
/-- a row that fits has its time there -/
theorem times_row {r : RB} (hf : fitsG D e s r = true) : timesB D s.past (r :: B) = (doG D s r).now.getD 0 :: timesB D (doG D s r).past B ∧ timeG D s r = some ((doG D s r).now.getD 0) := by
  obtain ⟨v, h1, _, h3, _, h5⟩ := fits_time hf
  rw [h3]
  rcases h5 with ⟨p, rfl, e1⟩ | ⟨d, p, rfl, ed, et, e1⟩
  · rw [e1]; exact ⟨rfl, h1⟩
  · rw [e1]
    refine ⟨?_, h1⟩
    show ((D[s.past]?.map Dd.t).getD 0) :: _ = _
    rw [ed]
    show d.t :: _ = _
    rw [et]
    rfl
end
end DL
/-! A row of leaders tells who leads when they take over. -/
namespace DL
open PySem PySem.Spec PyProof.Rows L2 TL
end DL
/-! More where a token is out: several rows, a walk over things whose rows need it, a test. -/
namespace DL
open PySem PySem.Spec PyProof.Rows L2
end DL
/-! Times of the rows of a book that is let by. -/
namespace DL
open PySem PySem.Spec PyProof.Rows L2 TL
section
variable {D : List Dd} {e u : Rat} {s s' : Gs} {B C : List RB}
theorem Runs.rise (h : Runs D e s B s') : (timesB D s.past B).Pairwise (· ≤ ·) ∧ ∀ t ∈ timesB D s.past B, t ≤ e ∧ ∀ u, s.now = some u → u ≤ t := by
  induction h with
  | nil s => exact ⟨.nil, fun _ h => nomatch h⟩
  | @cons s s' r rs hf _ ih =>
    obtain ⟨i1, i2⟩ := ih
    obtain ⟨v, a1, a2, a3, a4, _⟩ := fits_time hf
    rw [(times_row hf).1, a3]
    refine ⟨List.pairwise_cons.mpr ⟨fun t ht => (i2 t ht).2 v a3, i1⟩, fun t ht => ?_⟩
    rcases List.mem_cons.mp ht with rfl | ht
    · exact ⟨a2, fun u hu => (a4 u hu).1⟩
    · exact ⟨(i2 t ht).1, fun u hu => Rat.le_trans (a4 u hu).1 ((i2 t ht).2 v a3)⟩
end
end DL
/-! A desk stands while a pen is moved. -/
namespace DL
open PySem PySem.Spec PyProof.Rows L2 TL
end DL
/-! Words of answers, a point between two times, a desk whose log grows deed by deed. -/
namespace DL
open PySem PySem.Spec PyProof.Rows L2 TL PySem.StrLaws
/-- a time that a law goes on to -/
def TmL (n : Nat) (t : Rat) : Prop := t.num.natAbs ≤ 10 ^ 9 * 4 ^ n ∧ t.den ≤ 99
theorem TmL.few {n : Nat} {t : Rat} (h : TmL n t) (hn : n ≤ 4) : Few t := by
  have : 4 ^ n ≤ 4 ^ 4 := Nat.pow_le_pow_right (by decide) hn
  have : (10 ^ 9 * 4 ^ n : Nat) ≤ 10 ^ 9 * 4 ^ 4 := Nat.mul_le_mul_left _ this
  exact ⟨Nat.lt_of_le_of_lt (Nat.le_trans h.1 this) (by decide), Nat.lt_of_le_of_lt h.2 (by decide)⟩
theorem TmL.step {n : Nat} {t u : Rat} (h : TmL n t) (h1 : u.num.natAbs ≤ 3 * t.num.natAbs + 1188) (h2 : u.den ≤ 99) : TmL (n + 1) u := by
  refine ⟨?_, h2⟩
  have := h.1
  have h4 : 0 < 4 ^ n := Nat.pow_pos (by decide)
  rw [Nat.pow_succ]
  omega
theorem TmL.up {n : Nat} {t u : Rat} (h : TmL n t) (h1 : u.num.natAbs ≤ 3 * t.num.natAbs + 1188) : TmL (n + 1) ((u.num.fdiv (u.den : Int) + 1 : Int) : Rat) := by
  have hk : (u.num.fdiv (u.den : Int)).natAbs ≤ u.num.natAbs := by
    have hd : (0 : Int) < (u.den : Int) := by have := u.den_pos; omega
    rw [Int.fdiv_eq_ediv_of_nonneg _ (Int.le_of_lt hd)]
    exact Int.natAbs_ediv_le_natAbs _ _
  refine ⟨?_, by show (1 : Nat) ≤ 99; decide⟩
  show (u.num.fdiv (u.den : Int) + 1).natAbs ≤ _
  have := h.1
  have h4 : 0 < 4 ^ n := Nat.pow_pos (by decide)
  rw [Nat.pow_succ]
  omega
end DL
/-! A list made item by item whose items may raise. -/
namespace DL
open PySem PySem.Spec PyProof.Rows L2
end DL
/-! Rows that a desk refuses. -/
namespace DL
open PySem PySem.Spec PyProof.Rows L2 TL
/-- texts that are no rows -/
def BadL (l : List Nat) : Prop := 10 ∈ l ∨ (10 ∉ l ∧ ∃ w vs, spl [32] 0 [] l = w :: vs ∧ (kindsT.lookup w = none ∨ ∃ ks, kindsT.lookup w = some ks ∧ ((wordsK ks l).length ≠ ks.length + 1 ∨ ∃ w0 ws, wordsK ks l = w0 :: ws ∧ ws.length = ks.length ∧ ∃ x ∈ List.zipWith thD ks ws, isNon x = true)))
/-- what is no row -/
def NoRw (S : Sto) (d : D) : Prop := (∃ T, tyOf S d = some T ∧ isiT T .str = false) ∨ ∃ l : List Nat, d = dS l ∧ l.length ≤ 1000000 ∧ BadL l
theorem NoRw.sub {S S' : Sto} {d : D} (h : NoRw S d) (s : Sub S S') : NoRw S' d := by
  rcases h with ⟨T, h1, h2⟩ | h
  · exact .inl ⟨T, by cases d <;> first | exact h1 | (rename_i a; cases e : S a with | none => (simp [tyOf, e, tyO] at h1) | some o => (have := s a o e; simp [tyOf, e] at h1; simp [tyOf, this, h1])), h2⟩
  · exact .inr h
theorem NoRw.fr {S S' : Sto} {d : D} {a : Addr} {sc : List Int} (h : NoRw S d) (f : Fr S S' a) (hp : PenB S' a sc) : NoRw S' d := by
  rcases h with ⟨T, h1, h2⟩ | h
  · cases d with
    | ref q =>
      by_cases e : q = a
      · subst e
        obtain ⟨x, y, e⟩ := hp
        exact .inl ⟨.lst, by show tyO (S' q) = _; rw [e]; rfl, rfl⟩
      · refine .inl ⟨T, ?_, h2⟩
        have h1 : tyO (S q) = some T := h1
        show tyO (S' q) = some T
        cases es : S q with
        | none => rw [es] at h1; cases h1
        | some o => rw [f q o e es, ← es]; exact h1
    | _ => exact .inl ⟨T, h1, h2⟩
  · exact .inr h
end DL
/-! One of some defs, taken out of a list of them, is called: [f, g, ..][i](e, ..). -/
namespace DL
open PySem PySem.Spec PyProof.Rows L2
/-! sum of a list of True and False -/
abbrev cntB (bs : List Bool) : Int := preSum (fun i => if bs.getD i false = true then 1 else 0) bs.length
def rSumB : List D → Sto → VK2 → Prop
  | [d], S, Q => ∃ bs : List Bool, listOf S d = some (bs.map D.bl) ∧ Q (.int (cntB bs)) S
  | _, _, _ => False
theorem z_sumB {d : D} {S : Sto} {Q : VK2} : rSumB [d] S Q = ∃ bs : List Bool, listOf S d = some (bs.map D.bl) ∧ Q (.int (cntB bs)) S := rfl
end DL
/-! sorted(set(xs)), xs a list of pairs of pairs of whole numbers. The table's own word (TabOk, ways, laying anew) is the library's; what is asked of such keys, the search, the adding and the taking out are told here. -/
namespace DL
open PySem PySem.Spec PyProof.Rows L2
/-- the pair of pairs k lies at a -/
def IsK (h : Heap) (k : PK) (a : Addr) : Prop := NestedIs h (nkP k) (.ref a)
theorem IsK.inj {h : Heap} {x y : PK} {a : Addr} (hx : IsK h x a) (hy : IsK h y a) : x = y := nkP_inj (NestedIs.inj _ _ _ hx hy)
theorem IsK.up {h h' : Heap} {k : PK} {a : Addr} (x : IsK h k a) (hk : ∀ b o, h.get? b = some o → h'.get? b = some o) : IsK h' k a := NestedIs.at (fun b o vs n e _ => hk b o e) _ _ x
theorem IsK.but {h h' : Heap} {k : PK} {a b : Addr} {o : Obj} {es : Array (Int × Value)} {ep : Nat} {t : SetTable} (x : IsK h k b) (ho : h.get? a = some o) (hd : o.data = .set es ep t) (hs : Heap.SameBut a h h') : IsK h' k b :=
  NestedIs.at (fun c ob vs n hc hv => (hs.2 c fun e => by subst e; rw [ho] at hc; cases hc; rw [hd] at hv; cases hv).trans hc) _ _ x
theorem IsK.nk {P : Program} {w : World} {h : Heap} {k : PK} {a : Addr} (x : IsK h k a) : (nestedKind P w).is h (nkP k) a := ⟨x, by show NestedKey.depth (nkP k) ≤ 8; simp [nkP, NestedKey.depth, NestedKey.depthAll]⟩
section
variable {P : Program} {w : World} {A : Around} {E : Value → Shared → Prop} {s : Shared}
/-! ### what a search asks of such keys -/
def NoCls (P : Program) (w : World) (n : Nat) (s : Shared) (v : Value) : Prop := ∀ (A : Around) (E : Value → Shared → Prop) (Q : Bool → Shared → Prop), Q false s → wpAny (model P w) A (ofAClassStatement n v) Q E s
def ByVal (P : Program) (w : World) (n : Nat) (s : Shared) (v : Value) : Prop := ∀ (A : Around) (E : Value → Shared → Prop) (Q : Bool → Shared → Prop), Q true s → wpAny (model P w) A (hashByValue n v) Q E s
theorem noCls_int (n : Nat) (i : Int) (t : Tok) : NoCls P w n s (.int i t) := fun A E Q h => by rw [ofAClass_int]; exact wpAny_pure h
theorem byVal_int (n : Nat) (i : Int) (t : Tok) : ByVal P w n s (.int i t) := fun A E Q h => by rw [hashBy_int]; exact wpAny_pure h
theorem noCls_tup {n m : Nat} {a : Addr} {o : Obj} {vs : Array Value} (ho : s.heap.get? a = some o) (hc : o.cls = .type "tuple") (hd : o.data = .seq vs m) (hv : ∀ v ∈ vs.toList, NoCls P w n s v) : NoCls P w (n + 1) s (.ref a) := fun A E Q h => by
  have hT : s.TypeIs (.ref a) "tuple" := ⟨o, ho, hc⟩
  unfold ofAClassStatement
  refine wpAny_bind (wpAny_typeOf hT ?_)
  dsimp only
  have e : (("tuple" : String) == "tuple") = true := by decide
  simp only [e, if_true, Bool.not_true, Bool.false_eq_true, if_false]
  try refine wpAny_bind (wpAny_pure ?_)
  try simp only [Bool.not_true, Bool.false_eq_true, if_false]
  show wpAny _ _ (seqItems? (.ref a) >>= _) _ _ s
  refine wpAny_bind (wpAny_seqItems ho hd ?_)
  dsimp only
  refine wpAny_bind ?_
  show wpAny _ _ (forIn vs _ _) _ _ s
  rw [← Array.forIn_toList]
  refine wpAny_forIn_list _ (fun rest r s' => r.1 = none ∧ s' = s ∧ ∀ v ∈ rest, NoCls P w n s v) _ ?_ ?_ _ _ ⟨rfl, rfl, hv⟩
  · rintro v rest r s' ⟨hr, rfl, hall⟩
    refine wpAny_bind (hall v List.mem_cons_self _ _ _ ?_)
    simp only [Bool.false_eq_true, if_false]
    exact wpAny_pure ⟨rfl, rfl, fun u hu => hall u (List.mem_cons_of_mem _ hu)⟩
  · rintro ⟨r1, r2⟩ s' ⟨hr, rfl, _⟩
    simp only at hr
    subst hr
    exact wpAny_pure h
theorem byVal_tup {n m : Nat} {a : Addr} {o : Obj} {vs : Array Value} (ho : s.heap.get? a = some o) (hc : o.cls = .type "tuple") (hd : o.data = .seq vs m) (hv : ∀ v ∈ vs.toList, ByVal P w n s v) : ByVal P w (n + 1) s (.ref a) := fun A E Q h => by
  have hT : s.TypeIs (.ref a) "tuple" := ⟨o, ho, hc⟩
  unfold hashByValue
  refine wpAny_bind (wpAny_specialOf hT F.slot_tuple_hash.lookup ?_)
  show wpAny _ _ (seqItems? (.ref a) >>= _) _ _ s
  refine wpAny_bind (wpAny_seqItems ho hd ?_)
  refine wpAny_bind ?_
  show wpAny _ _ (forIn vs _ _) _ _ s
  rw [← Array.forIn_toList]
  refine wpAny_forIn_list _ (fun rest r s' => r.1 = none ∧ s' = s ∧ ∀ v ∈ rest, ByVal P w n s v) _ ?_ ?_ _ _ ⟨rfl, rfl, hv⟩
  · rintro v rest r s' ⟨hr, rfl, hall⟩
    refine wpAny_bind (hall v List.mem_cons_self _ _ _ ?_)
    simp only [Bool.not_true, Bool.false_eq_true, if_false]
    exact wpAny_pure ⟨rfl, rfl, fun u hu => hall u (List.mem_cons_of_mem _ hu)⟩
  · rintro ⟨r1, r2⟩ s' ⟨hr, rfl, _⟩
    simp only at hr
    subst hr
    exact wpAny_pure h
theorem all_two {p : Value → Prop} {h : Heap} {a b : NestedKey} {vs : List Value} (x : NestedAll h [a, b] vs) (ha : ∀ v, NestedIs h a v → p v) (hb : ∀ v, NestedIs h b v → p v) : ∀ v ∈ vs, p v := by
  cases x with
  | cons x1 x2 =>
    cases x2 with
    | cons x2 x3 =>
      cases x3
      intro v hv
      rcases List.mem_cons.mp hv with rfl | hv
      · exact ha _ x1
      · rw [List.mem_singleton.mp hv]; exact hb _ x2
theorem noCls_num {n : Nat} {i : Int} : ∀ v, NestedIs s.heap (.num i) v → NoCls P w n s v := fun v x => by
  cases x with
  | int _ t => exact noCls_int n i t
  | bool e => exact fun A E Q h => by unfold ofAClassStatement; exact wpAny_pure h
theorem byVal_num {n : Nat} {i : Int} : ∀ v, NestedIs s.heap (.num i) v → ByVal P w n s v := fun v x => by
  cases x with
  | int _ t => exact byVal_int n i t
  | bool e => exact fun A E Q h => by unfold hashByValue; exact wpAny_pure h
theorem noCls_two {n : Nat} {a b : NestedKey} (ha : ∀ v, NestedIs s.heap a v → NoCls P w n s v) (hb : ∀ v, NestedIs s.heap b v → NoCls P w n s v) : ∀ v, NestedIs s.heap (.tup [a, b]) v → NoCls P w (n + 1) s v := fun v x => by
  cases x with
  | tup h1 h2 h3 h4 => exact noCls_tup h1 h2 h3 (all_two h4 ha hb)
theorem byVal_two {n : Nat} {a b : NestedKey} (ha : ∀ v, NestedIs s.heap a v → ByVal P w n s v) (hb : ∀ v, NestedIs s.heap b v → ByVal P w n s v) : ∀ v, NestedIs s.heap (.tup [a, b]) v → ByVal P w (n + 1) s v := fun v x => by
  cases x with
  | tup h1 h2 h3 h4 => exact byVal_tup h1 h2 h3 (all_two h4 ha hb)
theorem IsK.cls {k : PK} {a : Addr} (x : IsK s.heap k a) : NoCls P w 8 s (.ref a) := noCls_two (noCls_two noCls_num noCls_num) (noCls_two noCls_num noCls_num) _ x
theorem IsK.byv {k : PK} {a : Addr} (x : IsK s.heap k a) : ByVal P w 8 s (.ref a) := byVal_two (byVal_two byVal_num byVal_num) (byVal_two byVal_num byVal_num) _ x
/-- a search among such keys shows nothing -/
theorem seen_K {k : PK} {b : Addr} {Q : Bool → Shared → Prop} (hk : IsK s.heap k b) {ys : List Value} (hy : ∀ y ∈ ys, ∃ k' c, y = Value.ref c ∧ IsK s.heap k' c) (h : Q false s) : wpAny (model P w) A (searchCouldBeSeen (.ref b) ys) Q E s := by
  unfold searchCouldBeSeen
  refine wpAny_bind ?_
  refine wpAny_forIn_list _ (fun rest r s' => r.1 = none ∧ s' = s ∧ ∀ y ∈ rest, ∃ k' c, y = Value.ref c ∧ IsK s.heap k' c) _ ?_ ?_ _ _ ⟨rfl, rfl, hy⟩
  · rintro v rest r s' ⟨hr, rfl, hall⟩
    obtain ⟨k', c, rfl, hc⟩ := hall v List.mem_cons_self
    have on : ∀ y ∈ rest, ∃ k' c, y = Value.ref c ∧ IsK s'.heap k' c := fun u hu => hall u (List.mem_cons_of_mem _ hu)
    dsimp only
    by_cases hv : (b == c || (carriedByValue (.ref b) && carriedByValue (.ref c))) = true
    · exact wp_if_pos hv (wpAny_pure ⟨rfl, rfl, on⟩)
    · refine wp_if_neg hv ?_
      refine wpAny_bind ((nestedKind P w).quiet hk.nk ?_)
      simp only [Bool.not_true, Bool.false_eq_true, if_false]
      refine wpAny_bind ((nestedKind P w).quiet hc.nk ?_)
      simp only [Bool.not_true, Bool.false_eq_true, if_false]
      refine wpAny_bind (hk.cls _ _ _ ?_)
      simp only [Bool.false_eq_true, if_false]
      refine wpAny_bind (hc.cls _ _ _ ?_)
      simp only [Bool.false_eq_true, if_false]
      exact wpAny_pure ⟨rfl, rfl, on⟩
  · rintro ⟨r1, r2⟩ s' ⟨hr, rfl, _⟩
    simp only at hr
    subst hr
    exact wpAny_pure h
end
end DL
/-! sorted(set(xs)), xs a list of pairs of pairs of whole numbers: the set itself. -/
namespace DL
open PySem PySem.Spec PyProof.Rows L2
section
variable {P : Program} {w : World} {A : Around} {E : Value → Shared → Prop} {s : Shared}
/-! ### the set at an address -/
def rowsK (L : List (Addr × PK)) : List (Int × Value) := L.map fun p => (hP p.2, Value.ref p.1)
structure SetP (w : World) (h : Heap) (a : Addr) (L : List (Addr × PK)) (es : Array (Int × Value)) (ep : Nat) (t : SetTable) : Prop where
  ob : ∃ o, h.get? a = some o ∧ o.ExactSet ∧ o.data = .set es ep t
  rows : es.toList = rowsK L
  tab : TabOk t (L.map fun p => hP p.2)
  nd : (L.map (·.2)).Nodup
  key : ∀ p ∈ L, IsK h p.2 p.1
  plain : t.plain = true
  led : w.params.followText "set-order" = true ∨ t.led = true
  room : L.length * 5 < t.mask * 3
  few : L.length < 64
theorem rowsK_size {L : List (Addr × PK)} {es : Array (Int × Value)} (h : es.toList = rowsK L) : es.size = L.length := by
  have h := congrArg List.length h
  rwa [rowsK, Array.length_toList, List.length_map] at h
theorem rowsK_at {L : List (Addr × PK)} {es : Array (Int × Value)} (r : es.toList = rowsK L) {i : Nat} {p : Addr × PK} (h : L[i]? = some p) : es[i]? = some (hP p.2, Value.ref p.1) := by
  rw [← Array.getElem?_toList, r, rowsK, List.getElem?_map, h]; rfl
theorem rowsK_hash {L : List (Addr × PK)} {es : Array (Int × Value)} (r : es.toList = rowsK L) {i : Nat} {p : Addr × PK} (h : L[i]? = some p) : (es[i]?.map (·.1)).getD 0 = hP p.2 := by
  rw [rowsK_at r h, Option.map_some, Option.getD_some]
variable {a : Addr} {L : List (Addr × PK)} {es : Array (Int × Value)} {ep : Nat} {t : SetTable}
theorem fits_of {n m : Nat} (h1 : t.place.size = m) (h2 : n = m) (h3 : t.dummies = #[]) (h4 : m ≤ t.mask) : t.fits n = true := by
  unfold SetTable.fits SetTable.fill
  rw [h3, Bool.and_eq_true, beq_iff_eq, decide_eq_true_eq, h1, h2]
  exact ⟨rfl, h4⟩
theorem SetP.size (R : SetP w s.heap a L es ep t) : es.size = L.length := rowsK_size R.rows
theorem SetP.psz (R : SetP w s.heap a L es ep t) : t.place.size = L.length := by have h := R.tab.sz; rwa [List.length_map] at h
theorem SetP.low (R : SetP w s.heap a L es ep t) : L.length ≤ t.mask := by have := R.room; omega
theorem SetP.fits (R : SetP w s.heap a L es ep t) : t.fits es.size = true := fits_of R.psz R.size R.tab.dm R.low
theorem SetP.gw (R : SetP w s.heap a L es ep t) : ¬ t.gaveWay = true := by
  unfold SetTable.gaveWay
  rw [mask_odd R.tab.mok]
  decide
theorem nth_dummy (m : Nat) : ∀ (n : Nat) (p : SetTable.Probe), p.dummy = none → (nth m p n).dummy = none
  | 0, _, h => h
  | n + 1, p, h => nth_dummy m n (adv m p) (by unfold adv; split <;> exact h)
/-- the search from the c-th step of the way on; `K` the first empty slot -/
theorem search_step (R : SetP w s.heap a L es ep t) {x : Addr} {k : PK} (hx : IsK s.heap k x) (hu : A.units + 8 < cLine) {K : Nat} (hKf : K < 10 * SetTable.turns t.mask)
    (hK : way t.mask (hP k) K ∉ t.place.toList) (hKb : ∀ c, c < K → way t.mask (hP k) c ∈ t.place.toList) {Q : SetFound → Shared → Prop}
    (hin : k ∈ L.map (·.2) → Q (.there none) s) (hout : k ∉ L.map (·.2) → Q (.free (way t.mask (hP k) K) false) s) :
    ∀ (f c : Nat) (stand : Option SetTable.Probe), stand.getD (t.probeStart (hP k)) = nth t.mask (runAt t.mask (SetTable.bits (hP k) % (t.mask + 1)) (SetTable.bits (hP k))) c → c ≤ K → K - c < f →
      (∀ (i : Nat) p, L[i]? = some p → p.2 = k → ∃ c', c ≤ c' ∧ c' < K ∧ t.place.toList[i]? = some (way t.mask (hP k) c')) → wpAny (model P w) A (setSearchFrom a (.ref x) (hP k) true f stand) Q E s
  | 0, c, stand, _, _, hf, _ => absurd hf (Nat.not_lt_zero _)
  | f + 1, c, stand, hst, hc, hf, hre => by
    obtain ⟨o, ho, hex, hd⟩ := R.ob
    rw [setSearchFrom_succ]
    refine wpAny_bind (wpAny_setState_of ho hd R.fits ?_)
    dsimp only
    refine wp_if_neg R.gw ?_
    try refine wpAny_bind (wpAny_pure ?_)
    obtain ⟨p0, ep0⟩ : ∃ p0, p0 = runAt t.mask (SetTable.bits (hP k) % (t.mask + 1)) (SetTable.bits (hP k)) := ⟨_, rfl⟩
    have hw : ∀ n, way t.mask (hP k) n = (nth t.mask p0 n).j := fun n => by rw [ep0]
    rw [← ep0] at hst
    have e1 : ∀ q, (nth t.mask (nth t.mask p0 c) q).j = way t.mask (hP k) (c + q) := fun q => by rw [hw, nth_add]
    have hAt : ∀ (i : Nat) (p : Addr × PK), L[i]? = some p → (fun i => (es[i]?.map (·.1)).getD 0) i = hP p.2 := fun i p hp => rowsK_hash R.rows hp
    have hd0 : p0.dummy = none := by rw [ep0]; rfl
    have hnd : (nth t.mask p0 c).dummy = none := nth_dummy t.mask c p0 hd0
    have spec := go_spec t R.tab.ris R.tab.dm (fun i => (es[i]?.map (·.1)).getD 0) (hP k) (10 * SetTable.turns t.mask) (K - c) (nth t.mask p0 c) hnd (by omega)
      (fun q hq => by rw [e1]; exact hKb (c + q) (by omega)) (by rw [e1, show c + (K - c) = K by omega]; exact hK)
    -- what has the key isn't passed
    have late : ∀ (n : Nat), (∀ (k' i' : Nat), k' < n → t.place.toList[i']? = some (nth t.mask (nth t.mask p0 c) k').j → (fun i => (es[i]?.map (·.1)).getD 0) i' ≠ hP k) → ∀ (i : Nat) (p : Addr × PK), L[i]? = some p → p.2 = k →
        ∃ c', c + n ≤ c' ∧ c' < K ∧ t.place.toList[i]? = some (way t.mask (hP k) c') := fun n hno i p hp hk => by
      obtain ⟨c', a1, a2, a3⟩ := hre i p hp hk
      refine ⟨c', Nat.le_of_not_lt fun z => ?_, a2, a3⟩
      exact hno (c' - c) i (by omega) (by rw [e1, show c + (c' - c) = c' by omega]; exact a3) ((hAt i p hp).trans (congrArg hP hk))
    rcases spec with ⟨q, i, hq, hi, hh, hno, hpr⟩ | ⟨hno, hpr⟩
    · have hpr' : t.probe (fun i => (es[i]?.map (·.1)).getD 0) (hP k) (stand.getD (t.probeStart (hP k))) = some (.candidate (way t.mask (hP k) (c + q)) i (nth t.mask p0 (c + (q + 1)))) := by
        rw [hst, ← e1, nth_add t.mask c p0 (q + 1)]
        exact hpr
      rw [hpr']
      dsimp only
      rw [e1] at hi
      have hil : i < L.length := by
        have h1 : i < t.place.toList.length := (List.getElem?_eq_some_iff.mp hi).1
        have h2 := R.psz
        rw [Array.length_toList] at h1
        omega
      obtain ⟨p, hp⟩ : ∃ p, L[i]? = some p := ⟨_, List.getElem?_eq_getElem hil⟩
      have hmem : p ∈ L := List.mem_of_getElem? hp
      have go : wpAny (model P w) A (searchRest a (.ref x) (hP k) true f es t (way t.mask (hP k) (c + q)) i (nth t.mask p0 (c + (q + 1)))) Q E s := by
        unfold searchRest
        rw [rowsK_at R.rows hp]
        dsimp only
        refine wpAny_bind (wpAny_holding ((nestedKind P w).eqBool hu (R.key p hmem).nk hx.nk ?_))
        refine wpAny_bind (wpAny_setState_of ho hd R.fits ?_)
        dsimp only
        rw [nkP_dec]
        by_cases hkk : p.2 = k
        · refine wp_if_pos (by simp [hkk]) ?_
          exact wpAny_pure (hin (List.mem_map.mpr ⟨p, hmem, hkk⟩))
        · refine wp_if_neg (by simp [hkk]) ?_
          try refine wpAny_bind (wpAny_pure ?_)
          rw [sameMem]
          dsimp only
          have hsl : t.slot (way t.mask (hP k) (c + q)) = .live i := slot_live R.tab.ris hi
          simp only [if_true, hsl, rowsK_at R.rows hp]
          refine wpAny_bind (wpAny_isSame_ref_self (wpAny_bind (wpAny_pure ?_)))
          simp only [if_true]
          refine wp_if_neg (by simp [hkk]) ?_
          refine search_step R hx hu hKf hK hKb hin hout f (c + (q + 1)) _ (by rw [ep0]; rfl) (by omega) (by omega) fun i0 p1 h0 hk0 => ?_
          obtain ⟨c', a1, a2, a3⟩ := late q hno i0 p1 h0 hk0
          refine ⟨c', ?_, a2, a3⟩
          rcases Nat.lt_or_ge (c + q) c' with y | y
          · omega
          · exfalso
            obtain rfl : c' = c + q := Nat.le_antisymm y a1
            have s0 := slot_live R.tab.ris a3
            rw [hsl] at s0
            injection s0 with s0
            rw [← s0, hp] at h0
            exact hkk ((congrArg Prod.snd (Option.some.inj h0)).trans hk0)
      by_cases hl : t.led = true
      · refine wp_if_neg (by simp [hl]) ?_
        try refine wpAny_bind (wpAny_pure ?_)
        exact go
      · refine wp_if_pos (by simp [hl]) ?_
        refine wpAny_bind (seen_K hx (fun y hy => ?_) ?_)
        · obtain ⟨e, he, ee⟩ := List.mem_map.mp hy
          have he1 : e ∈ es ∧ e.1 = hP k := by simpa using he
          have he2 : e ∈ es.toList := by simpa using he1.1
          rw [R.rows] at he2
          obtain ⟨p2, hp2, e2⟩ := List.mem_map.mp he2
          exact ⟨p2.2, p2.1, by rw [← ee, ← e2], R.key p2 hp2⟩
        · refine wp_if_neg (by decide) ?_
          try refine wpAny_bind (wpAny_pure ?_)
          exact go
    · have hpr' : t.probe (fun i => (es[i]?.map (·.1)).getD 0) (hP k) (stand.getD (t.probeStart (hP k))) = some (.empty (way t.mask (hP k) K) none) := by
        have e2 : way t.mask (hP k) K = (nth t.mask (nth t.mask p0 c) (K - c)).j := by
          rw [e1, show c + (K - c) = K by omega]
        rw [hst, e2]
        exact hpr
      rw [hpr']
      dsimp only
      refine wpAny_pure (hout fun hm => ?_)
      obtain ⟨p1, h0, hk0⟩ := List.mem_map.mp hm
      obtain ⟨i0, hi0, e0⟩ := List.getElem_of_mem h0
      obtain ⟨c', a1, a2, _⟩ := late (K - c) hno i0 p1 (by rw [List.getElem?_eq_getElem hi0, e0]) hk0
      omega
theorem search_K (R : SetP w s.heap a L es ep t) {x : Addr} {k : PK} (hx : IsK s.heap k x) (hu : A.units + 8 < cLine) {Q : SetFound → Shared → Prop} (hin : k ∈ L.map (·.2) → Q (.there none) s)
    (hout : ∀ K, k ∉ L.map (·.2) → way t.mask (hP k) K ∉ t.place.toList → (∀ c, c < K → way t.mask (hP k) c ∈ t.place.toList) → Q (.free (way t.mask (hP k) K) false) s) :
    wpAny (model P w) A (setSearch a (.ref x) (hP k) true) Q E s := by
  obtain ⟨K, hKf, hK, hKb⟩ := R.tab.first (by rw [List.length_map]; exact R.low) (hP k)
  have hbig : 10 * SetTable.turns t.mask ≤ 1420 := by
    unfold SetTable.turns
    rcases R.tab.mok with e | e | e <;> omega
  unfold setSearch
  refine search_step R hx hu hKf hK hKb hin (fun hn => hout K hn hK hKb) 100000 0 none rfl (Nat.zero_le _) (by omega) fun i p hp hk => ?_
  have hi : (L.map fun p => hP p.2)[i]? = some (hP k) := by rw [List.getElem?_map, hp, ← hk]; rfl
  have hil : i < t.place.toList.length := by
    have h1 : i < L.length := (List.getElem?_eq_some_iff.mp hp).1
    rw [Array.length_toList, R.psz]
    exact h1
  have hj := List.getElem?_eq_getElem hil
  obtain ⟨c, hc, e⟩ := R.tab.before hK hi hj
  exact ⟨c, Nat.zero_le _, hc, by rw [hj, e]⟩
end
end DL
/-! sorted(set(xs)), xs a list of pairs of pairs of whole numbers: one put in, all laid anew. -/
namespace DL
open PySem PySem.Spec PyProof.Rows L2
section
variable {P : Program} {w : World} {A : Around} {E : Value → Shared → Prop} {s : Shared}
/-- the rows in the order of the table laid anew -/
theorem order_K (L : List (Addr × PK)) (es : Array (Int × Value)) (order : Array Nat) (hr : es.toList = rowsK L) (hp : order.toList.Perm (List.range L.length)) :
    ∃ L2, (order.filterMap (es[·]?)).toList = rowsK L2 ∧ L2.Perm L ∧ (L2.map fun p => hP p.2) = order.toList.map fun i => (es.map (·.1)).getD i 0 := by
  have ent : ∀ i (h : i < L.length), es[i]? = some (hP (L[i]).2, Value.ref (L[i]).1) := fun i h => rowsK_at hr (List.getElem?_eq_getElem h)
  have key : ∀ l : List Nat, (∀ i ∈ l, i < L.length) → l.filterMap (fun i => es[i]?) = rowsK (l.filterMap fun i => L[i]?) ∧ ((l.filterMap fun i => L[i]?).map fun p => hP p.2) = l.map fun i => (es.map (·.1)).getD i 0 := by
    intro l
    induction l with
    | nil => exact fun _ => ⟨rfl, rfl⟩
    | cons i l ih =>
      intro hl
      have hi := hl i List.mem_cons_self
      obtain ⟨e1, e2⟩ := ih fun j hj => hl j (List.mem_cons_of_mem _ hj)
      rw [List.filterMap_cons_some (ent i hi), List.filterMap_cons_some (List.getElem?_eq_getElem hi), e1, List.map_cons, List.map_cons, e2]
      refine ⟨rfl, ?_⟩
      have e5 : (es.map (·.1))[i]? = some (hP (L[i]).2) := by rw [Array.getElem?_map, ent i hi, Option.map_some]
      rw [Array.getD_eq_getD_getElem?, e5, Option.getD_some]
  obtain ⟨e1, e2⟩ := key order.toList fun i hi => List.mem_range.mp (hp.mem_iff.mp hi)
  refine ⟨order.toList.filterMap fun i => L[i]?, by rw [Array.toList_filterMap]; exact e1, ?_, e2⟩
  have all : ∀ n, n ≤ L.length → (List.range n).filterMap (fun i => L[i]?) = L.take n := by
    intro n
    induction n with
    | zero => exact fun _ => rfl
    | succ n ih =>
      intro hn
      rw [List.range_succ, List.filterMap_append, ih (Nat.le_of_lt hn), List.take_succ, List.getElem?_eq_getElem hn, List.filterMap_cons_some (List.getElem?_eq_getElem hn)]
      rfl
  have h1 := hp.filterMap fun i => L[i]?
  rwa [all L.length (Nat.le_refl _), List.take_length] at h1
variable {a : Addr} {L : List (Addr × PK)} {es : Array (Int × Value)} {ep : Nat} {t : SetTable}
theorem relay_K {o : Obj} (ho : s.heap.get? a = some o) (hex : o.ExactSet) (hd : o.data = .set es ep t) (hrows : es.toList = rowsK L) (hsz : t.place.size = es.size) (hdm : t.dummies = #[]) (hfl : es.size ≤ t.mask)
    (nd : (L.map (·.2)).Nodup) (key : ∀ p ∈ L, IsK s.heap p.2 p.1) (pl : t.plain = true) (ld : w.params.followText "set-order" = true ∨ t.led = true) (few : L.length < 64) {wanted M : Nat}
    (hw : SetTable.sizeAbove wanted - 1 = M) (hM : MaskOk M) (hw2 : SetTable.sizeAbove wanted ≤ 128) (hn : L.length * 5 < M * 3) {Q : Unit → Shared → Prop}
    (hQ : ∀ h' L' es' ep' t', Heap.SameBut a s.heap h' → SetP w h' a L' es' ep' t' → L'.Perm L → Q () { s with heap := h' }) : wpAny (model P w) A (setRelay a wanted) Q E s := by
  have hsl : es.size = L.length := rowsK_size hrows
  obtain ⟨t', order, e, hp, T, em, el, ep', ed⟩ := relaid_ok t (hs := es.map (·.1)) (wanted := wanted) hw hM (by rw [Array.size_map, hsl]; omega)
  rw [Array.size_map, hsl] at hp
  obtain ⟨L2, r1, r2, r3⟩ := order_K L es order hrows hp
  rw [← r3] at T
  have hs2 : (order.filterMap (es[·]?)).size = es.size := (rowsK_size r1).trans (r2.length_eq.trans hsl.symm)
  rw [setRelay_eq]
  refine wpAny_bind (wpAny_setState_of ho hd (fits_of hsz rfl hdm hfl) ?_)
  dsimp only
  refine wp_if_neg (by rw [sizeLine_eq]; omega) ?_
  try refine wpAny_bind (wpAny_pure ?_)
  rw [e]
  dsimp only
  refine wpAny_bind ?_
  refine wp_if_neg (by rw [hs2]; simp) ?_
  try refine wpAny_bind (wpAny_pure ?_)
  refine wpAny_pure ?_
  dsimp only
  refine wpAny_storeSet_of ho hd ?_ (by rw [hs2, hsl, sizeLine_eq]; omega)
  have sb : Heap.SameBut a s.heap (s.heap.update a (Obj.putSet (order.filterMap (es[·]?)) t')) := Heap.SameBut.update ..
  refine hQ _ L2 (order.filterMap (es[·]?)) (ep + 1) t' sb ⟨⟨_, store_at ho hd, ⟨hex.1, hex.2.1, hex.2.2⟩, rfl⟩, r1, T, (r2.map (·.2)).nodup_iff.mpr nd, fun p hpm => (key p (r2.mem_iff.mp hpm)).but ho hd sb, by rw [ep']; exact pl, by rw [el]; exact ld, ?_, by rw [r2.length_eq]; exact few⟩ r2
  rw [r2.length_eq, em]
  exact hn
/-- one put in -/
theorem add_K (R : SetP w s.heap a L es ep t) {x : Addr} {k : PK} (hx : IsK s.heap k x) (hu : A.units + 8 < cLine) (hfew : L.length + 1 < 64) {Q : Bool → Shared → Prop}
    (hQ : ∀ b h' L' es' ep' t', Heap.SameBut a s.heap h' → SetP w h' a L' es' ep' t' → (k ∈ L.map (·.2) → L' = L) → (k ∉ L.map (·.2) → L'.Perm ((x, k) :: L)) → Q b { s with heap := h' }) :
    wpAny (model P w) A (setAddHashed a (.ref x) (hP k)) Q E s := by
  obtain ⟨o, ho, hex, hd⟩ := R.ob
  have hsl := R.size
  have hroom := R.room
  unfold setAddHashed
  refine wpAny_holding ?_
  rw [show (100000 : Nat) = 99999 + 1 from rfl, setAddHashedIn_succ]
  refine wpAny_bind (wpAny_setState_of ho hd R.fits ?_)
  dsimp only
  refine wp_if_neg (by simp [byScan, Value.scannable]) ?_
  try refine wpAny_bind (wpAny_pure ?_)
  refine wpAny_bind (search_K R hx hu (fun hm => ?_) fun K hm hK hb => ?_)
  · dsimp only
    exact wpAny_pure (hQ false s.heap L es ep t (Heap.SameBut.refl a s.heap) R (fun _ => rfl) fun z => absurd hm z)
  dsimp only
  refine wpAny_bind (wpAny_setState_of ho hd R.fits ?_)
  dsimp only
  obtain ⟨q1, q2, q3, q4, q5, q6, q7, q8, q9⟩ := R.tab.put hK hb
  have hp1 : (t.put (way t.mask (hP k) K)).1.plain = true := by rw [q6]; exact R.plain
  rw [List.length_map] at q9
  generalize hpt : t.put (way t.mask (hP k) K) = pt at q1 q3 q4 q5 q6 q7 q8 q9 hp1 ⊢
  obtain ⟨t1, p⟩ := pt
  dsimp only at q1 q3 q4 q5 q6 q7 q8 q9 hp1 ⊢
  subst q1
  first
    | (refine wpAny_bind ?_; refine wp_if_pos hp1 ?_; refine hx.byv _ _ _ ?_)
    | refine wp_if_pos hp1 (wpAny_bind (hx.byv _ _ _ ?_))
  simp only [if_true]
  generalize hpp : SetTable.below t.place (way t.mask (hP k) K) = p at q2 q3 ⊢
  have hin : (SetTable.insertAt es p (hP k, Value.ref x)).toList = rowsK (L.take p ++ (x, k) :: L.drop p) := by
    rw [SetTable.toList_insertAt, R.rows]
    unfold rowsK
    rw [List.map_append, List.map_cons, List.map_take, List.map_drop]
  have pm := put_perm L p (x, k)
  have hlen : (L.take p ++ (x, k) :: L.drop p).length = L.length + 1 := pm.length_eq
  have hhs : (L.take p ++ (x, k) :: L.drop p).map (fun p => hP p.2) = (L.map fun p => hP p.2).take p ++ hP k :: (L.map fun p => hP p.2).drop p := by
    rw [List.map_append, List.map_cons, List.map_take, List.map_drop]
  rw [← hhs] at q3
  have nd1 : ((L.take p ++ (x, k) :: L.drop p).map (·.2)).Nodup := by
    refine (pm.map (·.2)).nodup_iff.mpr ?_
    rw [List.map_cons]
    exact List.nodup_cons.mpr ⟨hm, R.nd⟩
  have hes : (SetTable.insertAt es p (hP k, Value.ref x)).size = L.length + 1 := (rowsK_size hin).trans hlen
  generalize SetTable.insertAt es p (hP k, Value.ref x) = es1 at hin hes ⊢
  generalize L.take p ++ (x, k) :: L.drop p = L1 at pm hlen q3 nd1 hin
  refine wpAny_bind (wpAny_storeSet_of ho hd ?_ (by rw [hes, sizeLine_eq]; omega))
  have sb : Heap.SameBut a s.heap (s.heap.update a (Obj.putSet es1 t1)) := Heap.SameBut.update ..
  have ho1 := store_at (es' := es1) (t' := t1) ho hd
  generalize s.heap.update a (Obj.putSet es1 t1) = h1 at sb ho1 ⊢
  have key1 : ∀ p ∈ L1, IsK h1 p.2 p.1 := fun p hp => by
    rcases List.mem_cons.mp (pm.mem_iff.mp hp) with e | hp
    · rw [e]; exact hx.but ho hd sb
    · exact (R.key p hp).but ho hd sb
  have ld1 : w.params.followText "set-order" = true ∨ t1.led = true := by rw [q5]; exact R.led
  have full : t1.tooFull = decide ((L.length + 1) * 5 ≥ t1.mask * 3) := by
    unfold SetTable.tooFull
    rw [q9]
  by_cases hf : t1.tooFull = true
  · first
      | (refine wpAny_bind ?_; refine wp_if_pos (by simp [hf]) ?_)
      | (refine wp_if_pos (by simp [hf]) ?_; refine wpAny_bind ?_)
    rw [full, decide_eq_true_eq] at hf
    rw [hsl]
    have hsz1 : t1.place.size = es1.size := by
      have h := q3.sz
      rw [List.length_map, hlen] at h
      rw [h, hes]
    have cases2 : (t.mask = 7 ∧ L.length = 4) ∨ (t.mask = 31 ∧ L.length = 18) := by
      rcases R.tab.mok with e | e | e
      · left; rw [q4, e] at hf; rw [e] at hroom; exact ⟨e, by omega⟩
      · right; rw [q4, e] at hf; rw [e] at hroom; exact ⟨e, by omega⟩
      · exfalso; rw [q4, e] at hf; omega
    have go : ∀ M, SetTable.sizeAbove (SetTable.grown (L.length + 1)) - 1 = M → MaskOk M → SetTable.sizeAbove (SetTable.grown (L.length + 1)) ≤ 128 → (L.length + 1) * 5 < M * 3 →
        wpAny (model P w) A (setRelay a (SetTable.grown (L.length + 1))) (fun _ s' => wpAny (model P w) A (pure true) Q E s') E { s with heap := h1 } := fun M h1' h2' h3' h4' => by
      refine relay_K (s := { s with heap := h1 }) ho1 ⟨hex.1, hex.2.1, hex.2.2⟩ rfl hin hsz1 q3.dm (by rw [hes, q4]; rcases cases2 with ⟨e, e2⟩ | ⟨e, e2⟩ <;> omega) nd1 key1 hp1 ld1 (by rw [hlen]; exact hfew) h1' h2' h3' (by rw [hlen]; exact h4') ?_
      intro h2 L2 es2 ep2 t2 sb2 R2 pm2
      exact wpAny_pure (hQ true h2 L2 es2 ep2 t2 (sb.trans sb2) R2 (fun z => absurd z hm) fun _ => pm2.trans pm)
    rcases cases2 with ⟨_, e2⟩ | ⟨_, e2⟩
    · exact go 31 (by rw [e2, size_20]) (.inr (.inl rfl)) (by rw [e2, size_20]; decide) (by omega)
    · exact go 127 (by rw [e2, size_76]) (.inr (.inr rfl)) (by rw [e2, size_76]; decide) (by omega)
  · first
      | refine wp_if_neg (by simp [hf]) ?_
      | (refine wpAny_bind ?_; refine wp_if_neg (by simp [hf]) ?_; refine wpAny_pure ?_)
    rw [full, decide_eq_true_eq] at hf
    exact wpAny_pure (hQ true h1 L1 es1 (ep + 1) t1 sb ⟨⟨_, ho1, ⟨hex.1, hex.2.1, hex.2.2⟩, rfl⟩, hin, q3, nd1, key1, hp1, ld1, by rw [hlen]; omega, by rw [hlen]; exact hfew⟩ (fun z => absurd z hm) fun _ => pm)
end
end DL
/-! sorted(set(xs)), xs a list of pairs of pairs of whole numbers: the call of set. -/
namespace DL
open PySem PySem.Spec PyProof.Rows L2
/-- what the set has of the first i items -/
structure HasK (ks : List (Addr × PK)) (i : Nat) (L : List (Addr × PK)) : Prop where
  sub : ∀ p ∈ L, p ∈ ks.take i
  all : ∀ p ∈ ks.take i, p.2 ∈ L.map (·.2)
  len : L.length ≤ i
theorem HasK.zero (ks : List (Addr × PK)) : HasK ks 0 [] := ⟨fun p h => (nomatch h), fun p h => (by simp at h), Nat.le_refl _⟩
theorem HasK.next {ks L L' : List (Addr × PK)} {i : Nat} {x : Addr × PK} (g : HasK ks i L) (h : ks[i]? = some x) (c1 : x.2 ∈ L.map (·.2) → L' = L) (c2 : x.2 ∉ L.map (·.2) → L'.Perm ((x.1, x.2) :: L)) : HasK ks (i + 1) L' := by
  have up : ∀ {p}, p ∈ ks.take i → p ∈ ks.take (i + 1) := fun hp => by rw [take_next h]; exact List.mem_append_left _ hp
  have old : ∀ {p}, p ∈ ks.take (i + 1) → p ∈ ks.take i ∨ p = x := fun hp => by
    rw [take_next h] at hp
    exact (List.mem_append.mp hp).imp id List.mem_singleton.mp
  by_cases c : x.2 ∈ L.map (·.2)
  · rw [c1 c]
    exact ⟨fun p hp => up (g.sub p hp), fun p hp => (old hp).elim (g.all p) fun e => e ▸ c, Nat.le_succ_of_le g.len⟩
  · have pm := c2 c
    refine ⟨fun p hp => ?_, fun p hp => ?_, by rw [pm.length_eq]; exact Nat.succ_le_succ g.len⟩
    · rcases List.mem_cons.mp (pm.mem_iff.mp hp) with e | z
      · rw [e, take_next h]; exact List.mem_append_right _ (List.mem_singleton.mpr rfl)
      · exact up (g.sub p z)
    · rw [(pm.map (·.2)).mem_iff, List.map_cons]
      rcases old hp with z | e
      · exact List.mem_cons_of_mem _ (g.all p z)
      · rw [e]; exact List.mem_cons_self
section
variable {P : Program} {w : World} {A : Around} {E : Value → Shared → Prop} {s : Shared}
theorem SetP.keep {h h' : Heap} {a : Addr} {L : List (Addr × PK)} {es : Array (Int × Value)} {ep : Nat} {t : SetTable} (R : SetP w h a L es ep t) (ha : ∀ o, h.get? a = some o → h'.get? a = some o) (hk : ∀ p ∈ L, IsK h' p.2 p.1) : SetP w h' a L es ep t := by
  obtain ⟨o, ho, r⟩ := R.ob
  exact ⟨⟨o, ha o ho, r⟩, R.rows, R.tab, R.nd, hk, R.plain, R.led, R.room, R.few⟩
theorem setP_fresh {h : Heap} {a : Addr} (ho : h.get? a = some { cls := .type "set", dict := none, data := .set #[] 0 (.fresh 0 0 (!w.params.followText "set-order")) }) : SetP w h a [] #[] 0 (.fresh 0 0 (!w.params.followText "set-order")) where
  ob := ⟨_, ho, ⟨rfl, rfl, rfl⟩, rfl⟩
  rows := rfl
  tab := ⟨List.Pairwise.nil, rfl, rfl, .inl rfl, fun x hx => (nomatch hx), fun i h j hi => (by simp at hi)⟩
  nd := List.nodup_nil
  key := fun p hp => nomatch hp
  plain := rfl
  led := by
    show _ ∨ (!w.params.followText "set-order") = true
    cases w.params.followText "set-order"
    · exact .inr rfl
    · exact .inl rfl
  room := by
    show 0 * 5 < 7 * 3
    decide
  few := by
    show 0 < 64
    decide
/-- the loop that puts all in -/
theorem put_all {I : Addr} {fp wr : List Addr} {G : Array GenState → Array GenState → Prop} {n : Nat} {Pv : Nat → Value → Prop} {St : Nat → Shared → Prop} {R : Result → Shared → Prop}
    (W : WalksS P w A.in1 I fp wr G n Pv St) (S : Addr) (hSf : S ∉ fp) (ks : List (Addr × PK)) (hn : n = ks.length) (hfew : ks.length < 64) (hval : ∀ i v, Pv i v → ∃ p, ks[i]? = some p ∧ v = .ref p.1)
    (h0 : Heap) (hk : ∀ p ∈ ks, IsK h0 p.2 p.1) (hS0 : h0.get? S = none) (hw0 : ∀ b ∈ wr, h0.get? b = none) (hu : A.in1.units + 8 < cLine) :
    ∀ (k i : Nat) (s : Shared), n - i = k → i ≤ n → St i s → (∀ b o, h0.get? b = some o → s.heap.get? b = some o) → (∃ L es ep t, SetP w s.heap S L es ep t ∧ HasK ks i L) →
      (∀ s' L es ep t, Moved (S :: wr) G s s' → SetP w s'.heap S L es ep t → HasK ks n L → (∀ b o, h0.get? b = some o → s'.heap.get? b = some o) → R (.ok (.ret .none)) s') →
      codeAny (model P w) A (.builtin "set.update.loop" ⟨[.ref S, .ref I], []⟩) R s := by
  have hSw : S ∉ wr := fun h => hSf (W.sub _ h)
  have hsub : ∀ b ∈ wr, b ∈ S :: wr := fun b hb => List.mem_cons_of_mem _ hb
  have still : ∀ {s s' : Shared}, Moved wr G s s' → (∀ b o, h0.get? b = some o → s.heap.get? b = some o) → ∀ b o, h0.get? b = some o → s'.heap.get? b = some o := fun hm hkp b o e =>
    hm.heap b o (fun hb => by rw [hw0 b hb] at e; cases e) (hkp b o e)
  have mine : ∀ {L : List (Addr × PK)} {i : Nat} {s' : Shared}, HasK ks i L → (∀ b o, h0.get? b = some o → s'.heap.get? b = some o) → ∀ p ∈ L, IsK s'.heap p.2 p.1 := fun g hkp p hp => (hk p (List.mem_of_mem_take (g.sub p hp))).up hkp
  intro k
  induction k with
  | zero =>
    intro i s hk' hi hst hkp ⟨L, es, ep, t, hS, g⟩ hR
    obtain rfl : i = n := by omega
    refine codeAny_builtin F.entry_set_update_loop ?_
    rw [Around.under_plainId F.plain_set_update_loop _]
    show wpAny _ A.in1 (pyNext (.ref I) >>= _) _ _ s
    refine wpAny_bind (W.done s _ _ hst fun s' hm => ?_)
    show wpAny _ A.in1 (ret Value.none) _ _ s'
    have hkp' := still hm hkp
    exact wpAny_pure (hR s' L es ep t (hm.mono hsub) (hS.keep (fun o e => hm.heap S o hSw e) (mine g hkp')) g hkp')
  | succ k ih =>
    intro i s hk' hi hst hkp ⟨L, es, ep, t, hS, g⟩ hR
    have hlt : i < n := by omega
    refine codeAny_builtin F.entry_set_update_loop ?_
    rw [Around.under_plainId F.plain_set_update_loop _]
    show wpAny _ A.in1 (pyNext (.ref I) >>= _) _ _ s
    refine wpAny_bind (W.item i s _ _ hlt hst fun v s' hv hst' hm => ?_)
    obtain ⟨p, hp, rfl⟩ := hval i v hv
    have hkp' := still hm hkp
    have hS' : SetP w s'.heap S L es ep t := hS.keep (fun o e => hm.heap S o hSw e) (mine g hkp')
    have hx : IsK s'.heap p.2 p.1 := (hk p (List.mem_of_getElem? hp)).up hkp'
    show wpAny _ A.in1 (holding [Value.ref p.1] (setAdd S (.ref p.1)) >>= _) _ _ s'
    refine wpAny_bind (wpAny_holding ?_)
    unfold setAdd
    refine wpAny_holding ?_
    refine wpAny_bind ((nestedKind P w).pyHash (A := A.in1) hu hx.nk ?_)
    rw [show (nestedKind P w).hash (nkP p.2) = hP p.2 from nkP_hash w p.2]
    refine add_K (s := { s' with toks := s'.toks + (nestedKind P w).draws (nkP p.2) }) hS' hx hu (by have := g.len; omega) fun b h' L' es' ep' t' hsb hS2 c1 c2 => ?_
    have hkp2 : ∀ b o, h0.get? b = some o → h'.get? b = some o := fun b o e => (hsb.2 b (fun z => by rw [z, hS0] at e; cases e)).trans (hkp' b o e)
    refine wpAny_pure ⟨plainId_quiet F.plain_set_update_loop _, ih (i + 1) _ (by omega) hlt (W.frame _ s' _ _ hst' (Nat.le_add_right _ _) fun b hb o e => ?_) hkp2 ⟨L', es', ep', t', hS2, g.next hp c1 c2⟩ fun s'' L2 es2 ep2 t2 hm'' hS'' g'' hkp'' => ?_⟩
    · rw [hsb.2 b (fun h : b = S => hSf (by rw [← h]; exact hb))]; exact e
    · refine hR s'' L2 es2 ep2 t2 (Moved.trans W.gtrans ((hm.mono hsub).then_heap (Nat.le_add_right _ _) fun b o hb e => ?_) hm'') hS'' g'' hkp''
      rw [hsb.2 b (fun h : b = S => hb (by rw [h]; exact List.mem_cons_self))]; exact e
/-- set(xs) -/
theorem call_setK {l : Addr} {items : Array Value} (ks : List (Addr × PK)) {Q : Value → Shared → Prop} (hh : A.handled = none) (hl : s.heap.IsList l items) (hit : items.toList = ks.map fun p => Value.ref p.1)
    (hk : ∀ p ∈ ks, IsK s.heap p.2 p.1) (hfew : ks.length < 64) (hu : A.units + 20 < cLine)
    (h : ∀ (h' : Heap) (tk : Nat) L es ep t, SetP w h' s.heap.objs.size L es ep t → HasK ks ks.length L → (∀ b o, s.heap.get? b = some o → h'.get? b = some o) → Q (.ref s.heap.objs.size) { s with heap := h', toks := tk }) :
    wpAny (model P w) A (call (.type "set") [.ref l]) Q E s := by
  have hisz : items.size = ks.length := by
    have q := congrArg List.length hit
    rw [Array.length_toList, List.length_map] at q
    exact q
  obtain ⟨c, tl, hmro⟩ := F.called_set.mro
  have hmade := F.called_set.made
  have hsub := F.called_set.sub
  refine wpAny_call (codeAny_of_tree ?_)
  show wpAny _ _ (callAny (.type "set") _) _ _ _
  refine wpAny_pure ⟨Code.quiet_builtin _ (by decide +kernel), codeAny_builtin F.entry_type_call ?_⟩
  rw [Around.under_plain (weight_type_call_type "set" [.ref l] []) rfl]
  have h1 := F.called_set.notType
  have h2 := F.called_set.canCreate
  have hct := F.typeCall_set_1 (.ref l)
  repeat (any_goals (first | assumption | wp_step))
  refine codeAny_mono (code_set_led1 (.ref l) (E := E) (Q₁ := fun obj s₁ => obj = .ref s.heap.objs.size ∧ s₁ = { s with heap := s.heap.push { cls := .type "set", dict := none, data := .set #[] 0 (.fresh 0 0 (!w.params.followText "set-order")) } }) ⟨rfl, rfl⟩) fun r s₁ hr => ?_
  cases r with
  | error e => exact hr
  | ok fl =>
    cases fl with
    | ret obj =>
      obtain ⟨rfl, rfl⟩ := hr
      have hS : (s.heap.push { cls := .type "set", dict := none, data := .set #[] 0 (.fresh 0 0 (!w.params.followText "set-order")) }).get? s.heap.objs.size = some { cls := .type "set", dict := none, data := .set #[] 0 (.fresh 0 0 (!w.params.followText "set-order")) } := Heap.get?_push_size _ rfl
      have hT : Shared.TypeIs { s with heap := s.heap.push { cls := .type "set", dict := none, data := .set #[] 0 (.fresh 0 0 (!w.params.followText "set-order")) } } (.ref s.heap.objs.size) "set" := ⟨_, hS, rfl⟩
      have hli := F.called_set.init.lookup
      have hbi := F.called_set.init.bind (.ref s.heap.objs.size)
      repeat (any_goals (first | assumption | wp_step))
      refine codeAny_mono (codeAny_call_builtin (R := PySem.wants (fun r s₂ => r = .none ∧ ∃ h' tk L es ep t, s₂ = { s with heap := h', toks := tk } ∧ SetP w h' s.heap.objs.size L es ep t ∧ HasK ks ks.length L ∧
          (∀ b o, s.heap.get? b = some o → h'.get? b = some o)) E) F.called_set.init.plain F.entry_set_init (check_set_init_1 hT ?_)) fun r₂ s₂ hr₂ => ?_
      · obtain ⟨ol, hol, hcl, nl, hdl⟩ := hl
        obtain ⟨ocls, odict, odata, oslots⟩ := ol
        simp only at hcl hdl
        subst hcl; subst hdl
        have hol' : (s.heap.push { cls := .type "set", dict := none, data := .set #[] 0 (.fresh 0 0 (!w.params.followText "set-order")) }).get? l = some { cls := .type "list", dict := odict, data := .seq items nl, slots := oslots } := Heap.get?_push_of_some _ hol
        have hsls := F.sub_list_set
        have hslf := F.sub_list_frozenset
        have hne : (Value.type "list" == Value.type "dict") = false := by decide
        have hl1 : (s.heap.push { cls := .type "set", dict := none, data := .set #[] 0 (.fresh 0 0 (!w.params.followText "set-order")) }).IsList l items := ⟨_, hol', rfl, nl, rfl⟩
        unfold Builtin.«set.__init__» noKeywords Builtin.Frozenset.updateFrom
        generalize hPI : pyIter = PI
        wp_walk
        subst hPI
        refine wpAny_pyIter_list hl1 ?_
        refine wpAny_bind (wpAny_runValue ?_)
        have hlS : l < s.heap.objs.size := Heap.lt_size hol
        have hh3 : A.in1.in1.in1.handled = none := by simp [hh]
        have hz1 : (s.heap.push { cls := .type "set", dict := none, data := .set #[] 0 (.fresh 0 0 (!w.params.followText "set-order")) }).objs.size = s.heap.objs.size + 1 := Heap.size_push ..
        have hneI : l ≠ (s.heap.push { cls := .type "set", dict := none, data := .set #[] 0 (.fresh 0 0 (!w.params.followText "set-order")) }).objs.size := by rw [hz1]; exact Nat.ne_of_lt (Nat.lt_succ_of_lt hlS)
        have hSf : s.heap.objs.size ∉ [(s.heap.push { cls := .type "set", dict := none, data := .set #[] 0 (.fresh 0 0 (!w.params.followText "set-order")) }).objs.size, l] := by
          rw [hz1]; simp only [List.mem_cons, List.mem_singleton, List.not_mem_nil, or_false, not_or]
          exact ⟨Nat.ne_of_lt (Nat.lt_succ_self _), Nat.ne_of_gt hlS⟩
        have hval : ∀ (i : Nat) (v : Value), items[i]? = some v → ∃ p, ks[i]? = some p ∧ v = .ref p.1 := fun i v hv => by
          have q : items.toList[i]? = some v := by rw [Array.getElem?_toList]; exact hv
          rw [hit, List.getElem?_map] at q
          obtain ⟨p, hp, e⟩ := Option.map_eq_some_iff.mp q
          exact ⟨p, hp, e.symm⟩
        have none_of : ∀ b, s.heap.objs.size ≤ b → s.heap.get? b = none := fun b hb => by
          cases q : s.heap.get? b with
          | none => rfl
          | some o => exact absurd (Nat.lt_of_lt_of_le (Heap.lt_size q) hb) (Nat.lt_irrefl _)
        refine put_all ((Walks.list hh3 _ l hneI items).toS) s.heap.objs.size
          hSf ks hisz hfew hval s.heap hk (none_of _ (Nat.le_refl _)) (fun b hb => none_of b (by
            rw [List.mem_singleton.mp hb, hz1]
            exact Nat.le_succ _)) (by show A.units + 1 + 1 + 1 + 8 < cLine; omega) (items.size - 0) 0 _ (by omega) (Nat.zero_le _)
          ⟨⟨_, Heap.get?_push_size _ rfl, rfl, rfl⟩, (hl1.push _)⟩ (fun b o e => Heap.get?_push_of_some _ (Heap.get?_push_of_some _ e)) ?hS0 ?hR
        case hS0 =>
          exact ⟨[], #[], 0, _, setP_fresh (Heap.get?_push_of_some _ hS), HasK.zero ks⟩
        case hR =>
          intro s' L es ep t hm hS' g' hkp
          obtain ⟨h', g2, d', tk', os'⟩ := s'
          have eg : g2 = s.gens := hm.gens
          have ed : d' = s.drawn := hm.drawn
          have eo : os' = s.os := hm.os
          subst eg; subst ed; subst eo
          show wpAny _ _ _ _ _ _
          refine wpAny_pure ?_
          show wpAny _ _ (ret Value.none) _ _ _
          rw [hisz] at g'
          exact wpAny_pure ⟨rfl, h', tk', L, es, ep, t, rfl, hS', g', hkp⟩
      · cases r₂ with
        | error e => exact hr₂
        | ok fl₂ =>
          cases fl₂ with
          | ret r =>
            obtain ⟨rfl, h', tk, L, es, ep, t, rfl, hS', g', hk'⟩ := hr₂
            repeat (any_goals (first | assumption | wp_step))
            exact h _ _ _ _ _ _ hS' g' hk'
          | _ => exact hr₂.elim
    | _ => exact hr.elim
end
end DL
/-! sorted(set(xs)), xs a list of pairs of pairs of whole numbers: the rule. -/
namespace DL
open PySem PySem.Spec PyProof.Rows L2
section
variable {P : Program} {w : World} {A : Around} {E : Value → Shared → Prop} {s : Shared}
theorem each_refs {h : Heap} : ∀ {bs : List (Addr × PK)}, (∀ b ∈ bs, Reads h (.ref b.1) (pyP b.2) []) → PySem.W.EachIs (fun (v : Value) (b : Addr × PK) => ∃ as, Reads h v (pyP b.2) as ∧ ∀ a, a ∉ as) (bs.map fun b => Value.ref b.1) bs
  | [], _ => .nil
  | b :: bs, h => .cons ⟨[], h b List.mem_cons_self, fun _ z => nomatch z⟩ (each_refs fun c hc => h c (List.mem_cons_of_mem _ hc))
theorem each_imp {α β : Type} {R R' : α → β → Prop} (k : ∀ a b, R a b → R' a b) : ∀ {as : List α} {bs : List β}, PySem.W.EachIs R as bs → PySem.W.EachIs R' as bs
  | _, _, .nil => .nil
  | _, _, .cons h t => .cons (k _ _ h) (each_imp k t)
theorem each_ref0 : ∀ {bs : List (Addr × PK)}, PySem.W.EachIs (fun (v : Value) (b : Addr × PK) => v = .ref b.1) (bs.map fun b => Value.ref b.1) bs
  | [] => .nil
  | b :: bs => .cons rfl each_ref0
theorem of_ref0 : ∀ {vs : List Value} {bs : List (Addr × PK)}, PySem.W.EachIs (fun (v : Value) (b : Addr × PK) => v = .ref b.1) vs bs → vs = bs.map fun b => Value.ref b.1
  | _, _, .nil => rfl
  | _, _, .cons h t => by rw [h, of_ref0 t]; rfl
/-- sorted(the set) -/
theorem sorted_setK {a : Addr} {L : List (Addr × PK)} {es : Array (Int × Value)} {ep : Nat} {t : SetTable} {Q : Value → Shared → Prop} (R : SetP w s.heap a L es ep t) (hh : A.handled = none) (hu : A.units + 20 < cLine)
    (rd : ∀ p ∈ L, Reads s.heap (.ref p.1) (pyP p.2) [])
    (hQ : ∀ s' p (out : Array Value) (c : Nat) (L' : List (Addr × PK)), (∀ b o, s.heap.get? b = some o → s'.heap.get? b = some o) → s'.gens = s.gens → s'.os = s.os → s.heap.objs.size ≤ p →
      s'.heap.get? p = some (seqObj "list" out c) → out.toList = L'.map (fun q => Value.ref q.1) → L'.Perm L → Q (.ref p) s') :
    wpAny (model P w) A (call (.builtin "sorted") [.ref a]) Q E s := by
  obtain ⟨o, ho, hex, hd⟩ := R.ob
  have hsz := R.size
  have hfew := R.few
  refine Calls.call_function_entry kind_sorted plain_sorted entry_sorted (args_sorted1 _) ?_
  unfold Builtin.«sorted»
  refine wpAny_bind (m := checkCount "sorted" 1 1 _) (wpAny_pure ?_)
  refine wpAny_bind (collect_set (A := A.in1) hh ⟨o, ho, hex.1, hd⟩ R.fits (by unfold scanBound; omega) R.tab.ris R.led fun s1 vs k1 hz g1 o1 pm => ?_)
  have hes : es.toList.map (·.2) = L.map fun q => Value.ref q.1 := by
    rw [R.rows]
    unfold rowsK
    rw [List.map_map]; rfl
  rw [hes] at pm
  obtain ⟨bs, pb, rfl⟩ := perm_lift pm L rfl
  have hbl : bs.length = L.length := pb.length_eq
  refine wpAny_bind (wpAny_newList ?_ (by rw [List.length_map, sizeLine_eq]; omega))
  have hoL : (s1.heap.push (seqObj "list" (bs.map fun q => Value.ref q.1).toArray 0)).get? s1.heap.objs.size = some (seqObj "list" (bs.map fun q => Value.ref q.1).toArray 0) := Heap.get?_push_size _ rfl
  have er := each_refs (h := s1.heap.push (seqObj "list" (bs.map fun q => Value.ref q.1).toArray 0)) (bs := bs) fun b hb => PyProof.Rows.Reads.keeps (fun c u e => Heap.get?_push_of_some _ (k1 c u e)) (rd b (pb.mem_iff.mp hb))
  refine wpAny_bind (wpAny_holding (PySem.W.list_sort_data (s := { s1 with heap := s1.heap.push (seqObj "list" (bs.map fun q => Value.ref q.1).toArray 0) }) (enc := fun b : Addr × PK => pyP b.2) (bs := bs) (R := fun (v : Value) (b : Addr × PK) => v = .ref b.1) hoL each_ref0
    (each_imp (fun v b ⟨as, h1, h2⟩ => ⟨as, h1, h2 _⟩) er) (PySem.W.AllAlike.of fun b b' => rfl) (PySem.W.Sortable.tuples fun b => ⟨_, _, rfl⟩) (by rw [sizeLine_eq]; omega) (fun b _ => ?_) fun out hlen hout => ?_))
  · show A.units + 1 + 1 + (pyP b.2).depth < cLine
    have : (pyP b.2).depth ≤ 4 := by simp [pyP, PyData.depth, PyData.depthAll]
    omega
  · obtain ⟨c, hc⟩ := sortedHeap_at (vs := bs.map fun q => Value.ref q.1) (out := List.toArray out) hoL
    refine wpAny_pure ⟨_, rfl, hQ _ s1.heap.objs.size out.toArray c _ (fun b u e => ?_) g1 o1 hz hc (of_ref0 hout) ((List.mergeSort_perm bs _).trans pb)⟩
    have q := k1 b u e
    have hlt := Heap.lt_size q
    show (sortedHeap (s1.heap.push (seqObj "list" (bs.map fun q => Value.ref q.1).toArray 0)) s1.heap.objs.size (bs.map fun q => Value.ref q.1) out.toArray).get? b = some u
    rw [sortedHeap_old (Nat.ne_of_lt hlt) (by rw [size_push']; exact Nat.lt_succ_of_lt hlt)]
    exact Heap.get?_push_of_some _ q
end
section
variable {X : Cx} {p p2 q pos : Pos} {e : Expr} {ta : TE} {ta2 : TE2}
def tSortSetK (K : PySem.W.Frag) (ta : TE) : TE := fun σ H Q => ta σ H fun x H1 => ∃ (l : Addr) (ks : List (Addr × PK)), x = V.ref l ∧ SqL K H1 l (ks.map fun p => V.ref p.1) ∧ (∀ p ∈ ks, Dv K H1 (ePK p.2) (.ref p.1)) ∧ ks.length < 64 ∧
  ∀ (L : List (Addr × PK)) (p : Addr), (∀ x ∈ L, x ∈ ks) → (∀ x ∈ ks, x.2 ∈ L.map (·.2)) → (L.map (·.2)).Nodup → H1 p = none → Q (.ref p) (upd H1 p (.lst (L.map fun x => V.ref x.1)))
theorem refs_valsK : ∀ {ks : List (Addr × PK)} {us : List Value}, Vals (ks.map fun p => V.ref p.1) us → us = ks.map fun p => Value.ref p.1
  | [], _, .nil => rfl
  | p :: ks, _, .cons r t => by
    cases r
    rw [refs_valsK t]; rfl
theorem vals_refsK : ∀ (ks : List (Addr × PK)), Vals (ks.map fun p => V.ref p.1) (ks.map fun p => Value.ref p.1)
  | [] => .nil
  | p :: ks => .cons rfl (vals_refsK ks)
theorem pe_sortSetK (hc : X.calm = true) (hu : X.A.units + 64 < cLine) (hg : Gl X "sorted") (hm : X.mg "sorted" = none) (hg2 : Gl X "set") (hm2 : X.mg "set" = none) (ha : PE X e ta)
    (na : starEach [e] X.env = (false, eval e X.env) :: starEach [] X.env := by rfl) : PE X (.Call (.Name "sorted" p) [.Call (.Name "set" p2) [e] [] q] [] pos) (tSortSetK X.K ta) := by
  refine ⟨fun pins s σ H Q I h => ?_⟩
  refine Call_ (ld_blt I hg hm PyProof.Rows.boot_sorted ?_)
  refine PyProof.Rows.callWith_builtin1 (PyProof.Rows.args_cons ?_ rfl) rfl rfl
  refine Call_ (ld_blt I hg2 hm2 PyProof.Rows.boot_set ?_)
  refine PyProof.Rows.callWith_type1 (PyProof.Rows.args_cons (thn (ha.run pins s σ H _ I h) fun v s1 ⟨x, H1, I1, r1, q1⟩ => PyProof.Rows.args_nil ?_) na) na rfl
  obtain ⟨l, ks, rfl, hq, hk, h1, q1⟩ := q1
  cases r1
  obtain ⟨its, r, pl, hz⟩ := I1.list hq
  refine call_setK (w := X.w) ks (I1.ok.hd hc) pl.isList (by simpa using refs_valsK r) (fun p hp => (key_in I1 (hk p hp)).1) h1 (by omega) fun h' tk L es ep t R g k => ?_
  have sub : ∀ x ∈ L, x ∈ ks := fun x hx => List.mem_of_mem_take (g.sub x hx)
  refine PyProof.Rows.args_nil ?_
  have I2 : L2.Inv X pins σ H1 { s1 with heap := h', toks := tk } := I1.kept fun b o e => k b o e
  generalize eS : ({ s1 with heap := h', toks := tk } : Shared) = S2 at I2 ⊢
  have hS : h' = S2.heap := by rw [← eS]
  rw [hS] at R
  clear eS
  refine sorted_setK (s := S2) R (I2.ok.hd hc) (by omega) (fun x hx => key_rd I2 (hk x (sub x hx))) fun s' p out c L' k2 g2 o2 hp hg' hout pm => ?_
  have hn : H1 p = none := I2.hok.fresh hp
  have hlen : (L'.map fun q => V.ref q.1).length ≤ sizeLine := by have := pm.length_eq; have := R.few; rw [List.length_map, sizeLine_eq]; omega
  have hv : Vals (L'.map fun q => V.ref q.1) out.toList := by rw [hout]; exact vals_refsK L'
  have J : L2.Inv X pins σ (upd H1 p (.lst (L'.map fun q => V.ref q.1))) { S2 with heap := s'.heap, gens := s'.gens, drawn := s'.drawn, toks := s'.toks } :=
    I2.call (ch := []) (Un.laid k2 hp hn) (I2.hok.laid k2 hp ⟨hlen, out.toList, c, hv, hg'⟩) (by rw [g2]; exact I2.bare) (fun _ z => nomatch z)
  have e : s' = { S2 with heap := s'.heap, gens := s'.gens, drawn := s'.drawn, toks := s'.toks } := by
    cases s'
    cases S2
    cases o2
    rfl
  rw [e]
  refine ⟨.ref p, _, J, rfl, q1 L' p (fun x hx => sub x (pm.mem_iff.mp hx)) (fun x hx => ?_) ((pm.map (·.2)).nodup_iff.mpr R.nd) hn⟩
  exact (pm.map (·.2)).mem_iff.mpr (g.all x (by rw [List.take_length]; exact hx))
/-- sorted(set(a list of pairs of pairs)): its unlike ones, each once -/
def uSortSetK (ta : TE2) : TE2 := fun τ S Q => ta τ S fun d S1 => ∃ ks : List PK, listOf S1 d = some (ks.map ePK) ∧ ks.length < 64 ∧ ∀ (n : List PK) (p : Addr), n.Nodup → (∀ k, k ∈ n ↔ k ∈ ks) → S1 p = none → Q (.ref p) (ups S1 p (.lst (n.map ePK)))
theorem q_sortSetK {k : Nat} (hc : X.calm = true) (hr : Room k X.A) (hg : Gl X "sorted") (hm : X.mg "sorted" = none) (hg2 : Gl X "set") (hm2 : X.mg "set" = none) (ha : QE X e ta2)
    (na : starEach [e] X.env = (false, eval e X.env) :: starEach [] X.env := by rfl) : QE X (.Call (.Name "sorted" p) [.Call (.Name "set" p2) [e] [] q] [] pos) (uSortSetK ta2) := PE.wk (pe_sortSetK hc (by have := Room.u65 hr; omega) hg hm hg2 hm2 ha na) fun σ H Q ⟨τ, S, Q2, rl, rs, t, k⟩ =>
  ⟨τ, S, _, rl, rs, t, fun d v S1 H1 g1 rs1 dv1 ⟨ks, h, hl, t1⟩ => by
    obtain ⟨a, us, rfl, hq, r⟩ := list_sq rs1 dv1 h
    obtain ⟨xs, rfl, rfl, hx⟩ := dvs_pk r
    rw [List.length_map] at hl
    refine ⟨a, xs.map fun x => (x.2, x.1), rfl, ?_, ?_, by rw [List.length_map]; exact hl, fun L b h1 h2 h3 nb => ?_⟩
    · rw [List.map_map]; exact hq
    · intro x hm
      obtain ⟨y, hy, rfl⟩ := List.mem_map.mp hm
      exact hx y hy
    have hL : ∀ x ∈ L, Dv X.K H1 (ePK x.2) (.ref x.1) := fun x hm => by
      obtain ⟨y, hy, rfl⟩ := List.mem_map.mp (h1 x hm)
      exact hx y hy
    have dv : Dvs X.K H1 ((L.map (·.2)).map ePK) (L.map fun x => V.ref x.1) := by
      have := pk_dvs (K := X.K) (H := H1) (xs := L.map fun x => (x.2, x.1)) fun x hm => by
        obtain ⟨y, hy, rfl⟩ := List.mem_map.mp hm
        exact hL y hy
      have e1 : (L.map fun x => (x.2, x.1)).map (·.1) = L.map (·.2) := by rw [List.map_map]; rfl
      have e2 : (L.map fun x => (x.2, x.1)).map (fun (x : PK × Addr) => V.ref x.2) = L.map fun x => V.ref x.1 := by rw [List.map_map]; rfl
      rw [e1, e2] at this
      exact this
    refine k _ _ _ _ (g1.trans (good_new nb)) (rs1.new (o := .lst ((L.map (·.2)).map ePK)) nb ⟨_, upd_same, dv.new nb⟩) (.ref b) (t1 (L.map (·.2)) b h3 (fun z => ⟨fun hz => ?_, fun hz => ?_⟩) (rs1.fresh nb))
    · obtain ⟨x, hm, rfl⟩ := List.mem_map.mp hz
      obtain ⟨y, hy, rfl⟩ := List.mem_map.mp (h1 x hm)
      exact List.mem_map.mpr ⟨y, hy, rfl⟩
    · obtain ⟨y, hy, rfl⟩ := List.mem_map.mp hz
      exact h2 _ (List.mem_map.mpr ⟨y, hy, rfl⟩)⟩
end
end DL
/-! Lines mirrored in time. -/
namespace DL
open PySem PySem.Spec PyProof.Rows L2
def mrL (l : Ln) : Ln := (l.1, -l.2)
def mir (L : List Ln) : List Ln := L.map mrL
section
variable {L : List Ln} {i j k : Nat} {t u : Rat} {M : List Rat}
theorem mir_len : (mir L).length = L.length := by unfold mir; rw [List.length_map]
theorem mir_ok (h : LOk L) : LOk (mir L) := fun l hl => by
  obtain ⟨m, hm, rfl⟩ := List.mem_map.mp hl
  exact ⟨(h m hm).1, (h m hm).2.neg⟩
theorem ln_mir (h : i < L.length) : ln (mir L) i = mrL (ln L i) := ln_map h
theorem at_mir (l : Ln) (t : Rat) : at_ (mrL l) (-t) = at_ l t := by unfold at_ mrL; grind
theorem met_mir (l m : Ln) (h : l.2 ≠ m.2) : met (mrL l) (mrL m) = -met l m := by
  have := sub_ne h
  unfold met mrL
  simp only
  grind
/-! where no two unlike lines are level -/
def NoLev (L : List Ln) (t : Rat) : Prop := ∀ i j, i < L.length → j < L.length → at_ (ln L i) t = at_ (ln L j) t → ln L i = ln L j
theorem ahd_mir (v : NoLev L t) (hi : i < L.length) (hj : j < L.length) : Ahd (mir L) i j (-t) ↔ Ahd L i j t := by
  unfold Ahd
  rw [ln_mir hi, ln_mir hj, at_mir, at_mir]
  by_cases e : at_ (ln L i) t = at_ (ln L j) t
  · have e2 := v i j hi hj e
    rw [e2]
    grind
  · unfold mrL
    simp only
    generalize at_ (ln L i) t = a at *
    generalize at_ (ln L j) t = b at *
    grind
theorem ord_same {L' : List Ln} {t' : Rat} (hl : L'.length = L.length) (h : ∀ i j, i < L.length → j < L.length → (Ahd L' i j t' ↔ Ahd L i j t)) : ordL L' t' = ordL L t := by
  have o := ordL_ok L t
  symm
  refine IsOrd.eq ⟨?_, fun i => by rw [o.mem, hl]⟩
  exact List.Pairwise.imp_of_mem (fun {a b} ha hb z => (h a b ((o.mem _).mp ha) ((o.mem _).mp hb)).mpr z) o.pw
theorem ord_mir (v : NoLev L t) : ordL (mir L) (-t) = ordL L t := ord_same mir_len fun i j hi hj => ahd_mir v hi hj
theorem gap_mir {p : Nat × Nat} (h1 : p.1 < L.length) (h2 : p.2 < L.length) : gap (mir L) (-t) p = gap L t p := by
  unfold gap
  rw [ln_mir h1, ln_mir h2, at_mir, at_mir]
theorem near_mir (ps : List (Nat × Nat)) : (∀ p ∈ ps, p.1 < L.length ∧ p.2 < L.length) → nearL (mir L) (-t) ps = nearL L t ps := by
  refine snoc_ind (P := fun ps => (∀ p ∈ ps, p.1 < L.length ∧ p.2 < L.length) → nearL (mir L) (-t) ps = nearL L t ps) (fun _ => rfl) (fun ps p ih h => ?_) ps
  have hp := h p (by simp)
  rw [nearL_snoc, nearL_snoc, ih fun q hq => h q (List.mem_append_left _ hq)]
  unfold nearF
  rw [gap_mir hp.1 hp.2]
theorem nearO_mir (v : NoLev L t) : nearL (mir L) (-t) (prs (ordL (mir L) (-t))) = nearL L t (prs (ordL L t)) := by
  rw [ord_mir v]
  have o := ordL_ok L t
  exact near_mir _ fun p hp => ⟨(o.mem _).mp (prs_mem hp).1, (o.mem _).mp (prs_mem hp).2⟩
/-! close ahead of a time -/
theorem close_to {s : Option Rat} (h : Gt s t) : ∀ M : List Rat, ∃ u, Ge s u ∧ u < t ∧ ∀ m ∈ M, m < t → m ≤ u
  | [] => by
    obtain ⟨u, h1, h2⟩ := gt_between h
    exact ⟨u, h1, h2, fun _ hm => (nomatch hm)⟩
  | m :: M => by
    obtain ⟨u, h1, h2, h3⟩ := close_to h M
    by_cases c : m < t ∧ u < m
    · refine ⟨m, fun v e => by have := h1 v e; grind, c.1, fun x hx hlt => ?_⟩
      rcases List.mem_cons.mp hx with rfl | hx
      · exact Rat.le_refl
      · have := h3 x hx hlt; grind
    · refine ⟨u, h1, h2, fun x hx hlt => ?_⟩
      rcases List.mem_cons.mp hx with rfl | hx
      · grind
      · exact h3 x hx hlt
theorem left_of (hM : IsMeet L M) {s : Option Rat} (h : Gt s t) : ∃ u, Ge s u ∧ u < t ∧ ∀ i j, i < L.length → j < L.length → (Ahd (mir L) i j (-t) ↔ Ahd L i j u) := by
  obtain ⟨u, h1, h2, h3⟩ := close_to h M
  refine ⟨u, h1, h2, fun i j hi hj => ?_⟩
  by_cases e : (ln L i).2 = (ln L j).2
  · rw [ahd_eq e, ahd_eq (by rw [ln_mir hi, ln_mir hj]; unfold mrL; simp only; rw [e]), ln_mir hi, ln_mir hj]
    exact Iff.rfl
  · have hm : met (ln L i) (ln L j) ∈ M := (hM.mem _).mpr ⟨i, j, hi, hj, e, rfl⟩
    have hne : (ln (mir L) i).2 ≠ (ln (mir L) j).2 := by rw [ln_mir hi, ln_mir hj]; unfold mrL; simp only; grind
    have em : met (ln (mir L) i) (ln (mir L) j) = -met (ln L i) (ln L j) := by rw [ln_mir hi, ln_mir hj, met_mir _ _ e]
    have e1 : (ln (mir L) i).2 = -(ln L i).2 := by rw [ln_mir hi]; rfl
    have e2 : (ln (mir L) j).2 = -(ln L j).2 := by rw [ln_mir hj]; rfl
    by_cases c : met (ln L i) (ln L j) < t
    · have := h3 _ hm c
      rw [ahd_ge e (by grind), ahd_lt hne (by rw [em]; grind), e1, e2]
      grind
    · rw [ahd_lt e (by grind), ahd_ge hne (by rw [em]; grind), e1, e2]
      grind
/-! rows turned about -/
def ngO (o : Option Rat) : Option Rat := o.map fun u => -u
def turnR (rows : Rw) : Rw := (rows.map (·.1)).reverse.zip (none :: (rows.map fun x => ngO x.2).reverse)
def tn : Nat → Rw → Rw → Rw
  | r, [], acc => (r, none) :: acc
  | r, (r', s) :: rest, acc => tn r' rest ((r, ngO s) :: acc)
theorem turn_cons (r r' : Nat) (s s' : Option Rat) (rest : Rw) : turnR ((r, s) :: (r', s') :: rest) = turnR ((r', s') :: rest) ++ [(r, ngO s')] := by
  unfold turnR
  simp only [List.map_cons, List.reverse_cons]
  rw [show none :: ((rest.map fun x => ngO x.2).reverse ++ [ngO s'] ++ [ngO s]) = (none :: (rest.map fun x => ngO x.2).reverse ++ [ngO s']) ++ [ngO s] by simp]
  have e : ∀ (A B : List (Option Rat)) (X : List Nat), X.length = A.length → X.zip (A ++ B) = X.zip A := fun A B X h => by
    have := List.zip_append (l₁ := X) (r₁ := []) (l₂ := A) (r₂ := B) h
    simpa using this
  rw [e _ [ngO s] _ (by simp), List.zip_append (by simp), show none :: ((rest.map fun x => ngO x.2).reverse ++ [ngO s']) = (none :: (rest.map fun x => ngO x.2).reverse) ++ [ngO s'] by simp, e _ [ngO s'] _ (by simp)]
  rfl
theorem tn_eq : ∀ (rest : Rw) (r : Nat) (s : Option Rat) (acc : Rw), tn r rest acc = turnR ((r, s) :: rest) ++ acc
  | [], r, s, acc => rfl
  | (r', s') :: rest, r, s, acc => by
    rw [turn_cons, List.append_assoc]
    exact tn_eq rest r' s' _
theorem turn_len (rows : Rw) : (turnR rows).length = rows.length := by unfold turnR; simp
theorem turn_fst (rows : Rw) : (turnR rows).map (·.1) = (rows.map (·.1)).reverse := by
  unfold turnR
  rw [show (fun x : Nat × Option Rat => x.1) = Prod.fst from rfl, List.map_fst_zip (by simp)]
theorem turn_get {rows : Rw} {k : Nat} {x : Nat × Option Rat} (h : rows[rows.length - 1 - k]? = some x) (hk : k < rows.length) : ∃ v, (turnR rows)[k]? = some (x.1, v) ∧ (k = 0 → v = none) ∧ ∀ y, 0 < k → rows[rows.length - k]? = some y → v = ngO y.2 := by
  unfold turnR
  cases k with
  | zero =>
    refine ⟨none, ?_, fun _ => rfl, fun y h => absurd h (Nat.lt_irrefl _)⟩
    rw [List.getElem?_zip_eq_some]
    exact ⟨by rw [List.getElem?_reverse (by rw [List.length_map]; exact hk), List.length_map, List.getElem?_map, h]; rfl, rfl⟩
  | succ k =>
    have hy : rows.length - (k + 1) < rows.length := by omega
    refine ⟨ngO (rows[rows.length - (k + 1)]).2, ?_, fun z => by omega, fun y _ e => ?_⟩
    · rw [List.getElem?_zip_eq_some]
      refine ⟨by rw [List.getElem?_reverse (by rw [List.length_map]; exact hk), List.length_map, List.getElem?_map, h]; rfl, ?_⟩
      rw [List.getElem?_cons_succ, List.getElem?_reverse (by rw [List.length_map]; omega), List.length_map, List.getElem?_map, show rows.length - 1 - k = rows.length - (k + 1) by omega, List.getElem?_eq_getElem hy]
      rfl
    · rw [List.getElem?_eq_getElem hy] at e
      rw [← Option.some.inj e]
section
variable {P P' : Rat → Nat → Prop}
/-- what stands behind the stretch that begins at s -/
def Bhd (P' : Rat → Nat → Prop) (s : Option Rat) (r : Nat) (acc : Rw) : Prop := match s with
  | none => acc = []
  | some v => ∃ r0 acc', acc = (r0, some (-v)) :: acc' ∧ r ≠ r0 ∧ Seg P' (some (-v)) r0 acc'
theorem seg_turn (H : ∀ r s τ, Gt s (-τ) → (∀ t, Ge s t → t < -τ → P t r) → P' τ r) : ∀ (rest : Rw) (s : Option Rat) (r : Nat) (acc : Rw), Seg P s r rest → Bhd P' s r acc → RowOf P' (tn r rest acc)
  | [], s, r, acc, h, a => by
    refine ⟨r, acc, rfl, ?_⟩
    cases s with
    | none =>
      obtain rfl : acc = [] := a
      exact fun t _ => H r none t (fun v e => nomatch e) fun t' g _ => h t' g
    | some v =>
      obtain ⟨r0, acc', rfl, hne, sg⟩ := a
      exact ⟨fun v e => (nomatch e), fun t _ ht => H r (some v) t (fun w e => by cases e; grind) fun t' g _ => h t' g, hne, sg⟩
  | (r', some u) :: rest, s, r, acc, h, a => by
    refine seg_turn H rest (some u) r' ((r, some (-u)) :: acc) h.2.2.2 ⟨r, acc, rfl, Ne.symm h.2.2.1, ?_⟩
    cases s with
    | none =>
      obtain rfl : acc = [] := a
      exact fun t g => H r none t (fun v e => nomatch e) fun t' g' ht' => h.2.1 t' g' (by have := g _ rfl; grind)
    | some v =>
      obtain ⟨r0, acc', rfl, hne, sg⟩ := a
      have hvu := h.1 v rfl
      exact ⟨fun w e => by cases e; grind, fun t g ht => H r (some v) t (fun w e => by cases e; grind) fun t' g' ht' => h.2.1 t' g' (by have := g _ rfl; grind), hne, sg⟩
  | (_, none) :: _, _, _, _, h, _ => h.elim
theorem row_turn (H : ∀ r s τ, Gt s (-τ) → (∀ t, Ge s t → t < -τ → P t r) → P' τ r) {rows : Rw} (h : RowOf P rows) : RowOf P' (turnR rows) := by
  obtain ⟨r, rest, rfl, sg⟩ := h
  have := seg_turn H rest none r [] sg rfl
  rwa [tn_eq rest r none [], List.append_nil] at this
end
theorem isRow_mir (hM : IsMeet L M) {rows : Rw} (h : IsRow L rows) : IsRow (mir L) (turnR rows) := by
  rcases h with ⟨rfl, rfl⟩ | ⟨hne, h⟩
  · exact .inl ⟨rfl, rfl⟩
  · refine .inr ⟨fun z => hne (List.map_eq_nil_iff.mp z), row_turn (fun r s τ g k => ?_) h⟩
    obtain ⟨u, h1, h2, h3⟩ := left_of hM g
    rw [Rat.neg_neg] at h3
    have tp := k u h1 h2
    exact ⟨by rw [mir_len]; exact tp.1, fun j hj hjr => (h3 r j tp.1 (by rw [mir_len] at hj; exact hj)).mpr (tp.2 j (by rw [mir_len] at hj; exact hj) hjr)⟩
theorem cov_mir (hM : IsMeet L M) {r a b : Nat} (hr : r < L.length) (ha : a < L.length) (hb : b < L.length) (h : Cov L r a b) : Cov (mir L) r a b := fun t => by
  obtain ⟨u, _, _, h3⟩ := left_of hM (s := none) (t := -t) fun v e => nomatch e
  rw [Rat.neg_neg] at h3
  exact (h u).imp (h3 a r ha hr).mpr (h3 b r hb hr).mpr
theorem isCov_mir (hM : IsMeet L M) {r a b : Nat} (hr : r < L.length) (ha : a < L.length) (hb : b < L.length) (h : IsCov L r (a : Int) (b : Int)) : IsCov (mir L) r (a : Int) (b : Int) := by
  obtain ⟨h1, h2, h3⟩ := h
  unfold Rn at h1 h2
  refine ⟨?_, ?_, cov_mir hM hr ha hb h3⟩
  · unfold Rn; rw [mir_len]; exact h1
  · unfold Rn; rw [mir_len]; exact h2
theorem cvr_mir {rows rows' : Rw} {r : Nat} (h : rows' = turnR rows) : (cvr (mir L) rows' r).isNone = (cvr L rows r).isNone := by
  subst h
  unfold cvr
  rw [turn_fst]
  by_cases c : r ∈ rows.map (·.1)
  · rw [if_pos (List.mem_reverse.mpr c), if_pos c]; try rfl
  · rw [if_neg fun z => c (List.mem_reverse.mp z), if_neg c]; try rfl
/-! rows of ranks -/
theorem rk_row (hM : IsMeet L M) (hk : k < L.length) : RowOf (fun t r => r = rk L t k) (rkRow L k M) := by
  unfold rkRow
  rw [if_neg (by omega)]
  have key : ∀ d r, d ++ r = M → ∃ pre x s, rkF L k (rk L (bef M) k) d = pre ++ [(x, s)] ∧ Pre (fun t r => r = rk L t k) (rkF L k (rk L (bef M) k) d) x s ∧ (∀ v, s = some v → v ∈ d) ∧ ∀ t, Ge s t → (∀ m ∈ r, t < m) → x = rk L t k := fun d => by
    refine snoc_ind (P := fun d => ∀ r, d ++ r = M → ∃ pre x s, rkF L k (rk L (bef M) k) d = pre ++ [(x, s)] ∧ Pre (fun t r => r = rk L t k) (rkF L k (rk L (bef M) k) d) x s ∧ (∀ v, s = some v → v ∈ d) ∧ ∀ t, Ge s t → (∀ m ∈ r, t < m) → x = rk L t k) (fun r e => ?_) (fun d m ih r e => ?_) d
    · rw [List.nil_append] at e
      subst e
      refine ⟨[], _, none, rfl, Pre.start, fun v h => (nomatch h), fun t _ h => ?_⟩
      have hb := bef_lt hM.inc
      unfold rk
      by_cases c : t ≤ bef r
      · rw [ord_const hM c fun m hm z => by have := hb m hm; grind]
      · rw [ord_const hM (t := bef r) (u := t) (by grind) fun m hm z => by have := h m hm; grind]
    · have hinc := hM.inc
      rw [← e, List.append_assoc] at hinc
      obtain ⟨lo, hi⟩ := inc_mid hinc
      obtain ⟨pre, x, s, e1, h1, h2, h3⟩ := ih (m :: r) (by rw [← e]; simp)
      have on : ∀ t, m ≤ t → (∀ m' ∈ r, t < m') → rk L m k = rk L t k := fun t hmt hr => by
        unfold rk
        rw [ord_const hM hmt fun m' hm' z => ?_]
        rw [← e] at hm'
        rcases List.mem_append.mp hm' with hm' | hm'
        · rcases List.mem_append.mp hm' with hm' | hm'
          · have := lo m' hm'; grind
          · rw [List.mem_singleton.mp hm']; exact Rat.le_refl
        · have := hr m' hm'; grind
      rw [rkF_snoc, e1]
      unfold rkS
      rw [lastR_snoc]
      by_cases c : rk L m k = x
      · rw [if_neg fun z => z c, ← e1]
        refine ⟨pre, x, s, e1, h1, fun v hv => List.mem_append_left _ (h2 v hv), fun t g hr => ?_⟩
        by_cases d : t < m
        · exact h3 t g fun m' hm' => by
            rcases List.mem_cons.mp hm' with rfl | hm'
            · exact d
            · exact hr m' hm'
        · rw [← c]; exact on t (by grind) hr
      · rw [if_pos c]
        refine ⟨pre ++ [(x, s)], _, some m, rfl, ?_, fun v hv => by cases hv; simp, fun t g hr => on t (g m rfl) hr⟩
        rw [← e1]
        refine h1.step (fun v hv => lo v (h2 v hv)) (fun t g ht => h3 t g fun m' hm' => ?_) (Ne.symm c)
        rcases List.mem_cons.mp hm' with rfl | hm'
        · exact ht
        · have := hi m' hm'; grind
  obtain ⟨pre, x, s, _, h1, _, h3⟩ := key M [] (by simp)
  exact h1.fin fun t g => h3 t g fun m hm => nomatch hm
theorem isRk_mir (hl : L.length ≤ 20) {rows : Rw} (h : IsRk L k rows) : IsRk (mir L) k (turnR rows) := by
  obtain ⟨M, hM, rfl⟩ := h
  by_cases hk : k < L.length
  · obtain ⟨M', hM'⟩ := meet_ex (L := mir L) (by rw [mir_len]; exact hl)
    refine ⟨M', hM', RowOf.uniq (P := fun t r => r = rk (mir L) t k) (fun a b => a.trans b.symm) (row_turn (fun r s τ g z => ?_) (rk_row hM hk)) (rk_row hM' (by rw [mir_len]; exact hk))⟩
    obtain ⟨u, h1, h2, h3⟩ := left_of hM g
    rw [Rat.neg_neg] at h3
    have := z u h1 h2
    show r = rk (mir L) τ k
    unfold rk
    rw [ord_same (t := u) mir_len h3]
    exact this
  · have e : rkRow L k M = [] := by unfold rkRow; rw [if_pos (by omega)]
    rw [e]
    exact isRk_nil (by rw [mir_len]; exact hl) (by rw [mir_len]; omega)
end
end DL
/-! Changes mirrored in time; who is level. -/
namespace DL
open PySem PySem.Spec PyProof.Rows L2
section
variable {L : List Ln} {lo hi : Rat} {p : Pr}
/-- changes strictly between two times -/
def tmO (L : List Ln) (lo hi : Rat) (p : Pr) : Option Rat := if (ln L p.1).2 < (ln L p.2).2 ∧ lo < met (ln L p.1) (ln L p.2) ∧ met (ln L p.1) (ln L p.2) < hi then some (met (ln L p.1) (ln L p.2)) else none
theorem tmO_iff {t : Rat} : tmO L lo hi p = some t ↔ tmW L lo hi p = some t ∧ t ≠ hi := by
  unfold tmO tmW
  by_cases c : (ln L p.1).2 < (ln L p.2).2 ∧ lo < met (ln L p.1) (ln L p.2) ∧ met (ln L p.1) (ln L p.2) < hi
  · rw [if_pos c, if_pos ⟨c.1, c.2.1, by grind⟩]
    constructor
    · rintro h; cases h; exact ⟨rfl, by grind⟩
    · exact fun h => h.1
  · rw [if_neg c]
    constructor
    · rintro h; cases h
    · rintro ⟨h, hne⟩
      split at h
      · rename_i d
        cases h
        exact absurd ⟨d.1, d.2.1, by grind⟩ c
      · cases h
theorem grp_short {ps : List Pr} {C : Grp} (h : IsGrp (tmW L lo hi) ps C) : IsGrp (tmO L lo hi) ps (C.filter fun x => !decide (x.1 = hi)) := by
  refine grp_mk (h.inc.sublist (List.Sublist.map _ List.filter_sublist)) (fun t => ?_) fun x hx => ?_
  · rw [List.mem_map]
    constructor
    · rintro ⟨x, hx, rfl⟩
      obtain ⟨h1, h2⟩ := List.mem_filter.mp hx
      obtain ⟨p, hp, e⟩ := (h.mem x.1).mp (List.mem_map.mpr ⟨x, h1, rfl⟩)
      exact ⟨p, hp, tmO_iff.mpr ⟨e, by simpa using h2⟩⟩
    · rintro ⟨p, hp, e⟩
      obtain ⟨e1, e2⟩ := tmO_iff.mp e
      obtain ⟨x, hx, rfl⟩ := List.mem_map.mp ((h.mem t).mpr ⟨p, hp, e1⟩)
      exact ⟨x, List.mem_filter.mpr ⟨hx, by simpa using e2⟩, rfl⟩
  · obtain ⟨h1, h2⟩ := List.mem_filter.mp hx
    have h2 : x.1 ≠ hi := by simpa using h2
    rw [h.grp x h1]
    exact List.filter_congr fun p _ => decide_eq_decide.mpr ⟨fun e => tmO_iff.mpr ⟨e, h2⟩, fun e => (tmO_iff.mp e).1⟩
def swP (p : Pr) : Pr := (p.2, p.1)
theorem tmO_mir (h1 : p.1 < L.length) (h2 : p.2 < L.length) : tmO (mir L) (-hi) (-lo) (swP p) = (tmO L lo hi p).map fun t => -t := by
  unfold tmO swP
  simp only
  rw [ln_mir h1, ln_mir h2]
  by_cases c : (ln L p.1).2 < (ln L p.2).2
  · have hne : (ln L p.2).2 ≠ (ln L p.1).2 := fun z => by grind
    have c' : (mrL (ln L p.2)).2 < (mrL (ln L p.1)).2 := by unfold mrL; simp only; grind
    rw [met_mir _ _ hne, met_comm hne]
    by_cases d : lo < met (ln L p.1) (ln L p.2) ∧ met (ln L p.1) (ln L p.2) < hi
    · rw [if_pos ⟨c', by grind, by grind⟩, if_pos ⟨c, d⟩]; rfl
    · rw [if_neg fun z => d ⟨by grind, by grind⟩, if_neg fun z => d z.2]; rfl
  · have c' : ¬ (mrL (ln L p.2)).2 < (mrL (ln L p.1)).2 := by unfold mrL; simp only; grind
    rw [if_neg fun z => c' z.1, if_neg fun z => c z.1]; rfl
theorem neg_eq {o : Option Rat} {t : Rat} : (o.map fun t => -t) = some t ↔ o = some (-t) := by
  cases o with
  | none => exact ⟨fun h => (nomatch h), fun h => (nomatch h)⟩
  | some v =>
    constructor
    · intro h
      have := Option.some.inj h
      rw [← this, Rat.neg_neg]
    · intro h
      rw [Option.some.inj h, Option.map_some, Rat.neg_neg]
theorem grp_mir {C : Grp} (h : IsGrp (tmO L lo hi) (allP L.length) C) {C' : Grp} (h1 : C'.map (·.1) = (C.map fun x => -x.1).reverse) (h2 : ∀ x ∈ C', ∃ y ∈ C, x.1 = -y.1 ∧ x.2.Perm (y.2.map swP) ∧ x.2.Pairwise lexP) : IsGrp (tmO (mir L) (-hi) (-lo)) (allP (mir L).length) C' := by
  rw [mir_len]
  have inv : ∀ p ∈ allP L.length, swP p ∈ allP L.length := fun p hp => by
    obtain ⟨a, b⟩ := allP_mem.mp hp
    exact allP_mem.mpr ⟨b, a⟩
  have tq : ∀ p ∈ allP L.length, tmO (mir L) (-hi) (-lo) (swP p) = (tmO L lo hi p).map fun t => -t := fun p hp => tmO_mir (allP_mem.mp hp).1 (allP_mem.mp hp).2
  refine grp_mk ?_ (fun t => ?_) fun x hx => ?_
  · rw [h1]
    unfold Inc
    rw [List.pairwise_reverse]
    have := h.inc
    unfold Inc at this
    rw [List.pairwise_map] at this ⊢
    exact this.imp fun {a b} z => by grind
  · rw [h1, List.mem_reverse, List.mem_map]
    constructor
    · rintro ⟨x, hx, rfl⟩
      obtain ⟨p, hp, e⟩ := (h.mem x.1).mp (List.mem_map.mpr ⟨x, hx, rfl⟩)
      exact ⟨swP p, inv p hp, by rw [tq p hp, e]; rfl⟩
    · rintro ⟨p, hp, e⟩
      have e2 := tq (swP p) (inv p hp)
      rw [show swP (swP p) = p from rfl, e] at e2
      have e3 := neg_eq.mp e2.symm
      obtain ⟨x, hx, e4⟩ := List.mem_map.mp ((h.mem (-t)).mpr ⟨swP p, inv p hp, e3⟩)
      exact ⟨x, hx, by rw [e4, Rat.neg_neg]⟩
  · obtain ⟨y, hy, ey, pm, pw⟩ := h2 x hx
    refine sortP_eq (pm.trans ?_) pw ((allP_sorted _).filter _)
    have g := h.grp y hy
    refine perm_of (nodup_map (by rw [g]; exact (allP_nd _).filter _) fun a _ b _ e => ?_) ((allP_nd _).filter _) fun z => ?_
    · have e1 := congrArg Prod.fst e
      have e2 := congrArg Prod.snd e
      exact Prod.ext e2 e1
    · rw [List.mem_map, List.mem_filter, decide_eq_true_eq]
      constructor
      · rintro ⟨p, hp, rfl⟩
        rw [g, List.mem_filter, decide_eq_true_eq] at hp
        exact ⟨inv p hp.1, by rw [tq p hp.1, hp.2, ey]; rfl⟩
      · rintro ⟨hz, e⟩
        refine ⟨swP z, ?_, rfl⟩
        rw [g, List.mem_filter, decide_eq_true_eq]
        refine ⟨inv z hz, ?_⟩
        have e2 := tq (swP z) (inv z hz)
        rw [show swP (swP z) = z from rfl, e] at e2
        have e3 := neg_eq.mp e2.symm
        rw [e3, ey, Rat.neg_neg]
end
theorem toC_filter (q : Rat → Bool) (E : List GI) : (toC E).filter (fun x => q x.1) = toC (E.filter fun x => q x.t) := by
  unfold toC
  rw [List.filter_map]
  rfl
/-- behind the first one of a row each one has a since -/
def Snc (rows : Rw) : Prop := ∀ i x, 0 < i → rows[i]? = some x → ∃ u, x.2 = some u
theorem rowOf_snc {P : Rat → Nat → Prop} {rows : Rw} (h : RowOf P rows) : Snc rows := fun i x hi e => by
  obtain ⟨r, rest, rfl, sg⟩ := h
  obtain ⟨j, rfl⟩ : ∃ j, i = j + 1 := ⟨i - 1, by omega⟩
  rw [List.getElem?_cons_succ] at e
  exact seg_sn sg x (List.mem_of_getElem? e)
theorem isRow_snc {L : List Ln} {rows : Rw} (h : IsRow L rows) : Snc rows := by
  rcases h with ⟨_, rfl⟩ | ⟨_, h⟩
  · intro i x _ e; simp at e
  · exact rowOf_snc h
theorem isRk_snc {L : List Ln} {k : Nat} {rows : Rw} (h : IsRk L k rows) : Snc rows := by
  obtain ⟨M, hM, rfl⟩ := h
  by_cases hk : k < L.length
  · exact rowOf_snc (rk_row hM hk)
  · unfold rkRow
    rw [if_pos (by omega)]
    intro i x _ e; simp at e
/-! ### who is level -/
def pkL (l : Ln) : PK := ((l.1.num, (l.1.den : Int)), (l.2.num, (l.2.den : Int)))
theorem rat_of {a b : Rat} (h1 : a.num = b.num) (h2 : (a.den : Int) = (b.den : Int)) : a = b := Rat.ext h1 (by omega)
theorem pkL_inj {l m : Ln} (h : pkL l = pkL m) : l = m := by
  unfold pkL at h
  have h1 := congrArg Prod.fst h
  have h2 := congrArg Prod.snd h
  exact Prod.ext (rat_of (congrArg Prod.fst h1) (congrArg Prod.snd h1)) (rat_of (congrArg Prod.fst h2) (congrArg Prod.snd h2))
theorem from_map {α β : Type} {f : α → β} {L : List α} : ∀ {n : List β}, (∀ k ∈ n, k ∈ L.map f) → ∃ N : List α, N.map f = n ∧ ∀ l ∈ N, l ∈ L
  | [], _ => ⟨[], rfl, fun _ h => nomatch h⟩
  | k :: n, h => by
    obtain ⟨l, hl, rfl⟩ := List.mem_map.mp (h k (by simp))
    obtain ⟨N, rfl, hN⟩ := from_map (n := n) fun x hx => h x (List.mem_cons_of_mem _ hx)
    refine ⟨l :: N, rfl, fun x hx => ?_⟩
    rcases List.mem_cons.mp hx with rfl | hx
    · exact hl
    · exact hN x hx
theorem nodup_long {α : Type} [DecidableEq α] : ∀ {ys xs : List α}, xs.Nodup → (∀ x ∈ xs, x ∈ ys) → ys.length ≤ xs.length → ys.Nodup
  | [], _, _, _, _ => .nil
  | y :: ys, xs, h, s, l => by
    rw [List.length_cons] at l
    have ny : y ∉ ys := fun hy => by
      have := nodup_sub (ys := ys) h fun x hx => by
        rcases List.mem_cons.mp (s x hx) with rfl | z
        · exact hy
        · exact z
      omega
    have h2 := h.erase y
    have s2 : ∀ x ∈ xs.erase y, x ∈ ys := fun x hx => by
      have hm := List.mem_of_mem_erase hx
      rcases List.mem_cons.mp (s x hm) with rfl | z
      · exact absurd hx (h.not_mem_erase)
      · exact z
    have l2 : xs.length - 1 ≤ (xs.erase y).length := by
      rw [List.length_erase]
      split <;> omega
    exact List.nodup_cons.mpr ⟨ny, nodup_long h2 s2 (by omega)⟩
def klQ (q : Rat) : List Int := [q.num, (q.den : Int)]
theorem klQ_map (T : List Rat) : T.map eQ = (T.map klQ).map fun k => D.tup (k.map D.int) := by rw [List.map_map]; rfl
/-- as many places as unlike lines: nobody is level with an unlike one -/
theorem no_level {L : List Ln} {t : Rat} {n : List PK} {m : List (List Int)} {N : List Ln} (e : N.map pkL = n) (hn : ∀ k, k ∈ n ↔ k ∈ L.map pkL) (hm : m.Nodup) (hk : ∀ k, k ∈ m ↔ k ∈ (N.map fun l => at_ l t).map klQ) (hl : ¬ m.length < N.length) : NoLev L t := by
  have nd : ((N.map fun l => at_ l t).map klQ).Nodup := nodup_long hm (fun x hx => (hk x).mp hx) (by rw [List.length_map, List.length_map]; omega)
  rw [List.map_map] at nd
  have inN : ∀ i, i < L.length → ln L i ∈ N := fun i hi => by
    have h1 : pkL (ln L i) ∈ n := (hn _).mpr (List.mem_map.mpr ⟨_, mem_ln.mpr ⟨i, hi, rfl⟩, rfl⟩)
    rw [← e] at h1
    obtain ⟨l, hl, e2⟩ := List.mem_map.mp h1
    rw [← pkL_inj e2]; exact hl
  intro i j hi hj ez
  refine Classical.byContradiction fun hne => ?_
  have key : ∀ {N : List Ln}, (N.map (klQ ∘ fun l => at_ l t)).Nodup → ∀ a ∈ N, ∀ b ∈ N, at_ a t = at_ b t → a = b := fun {N} => by
    induction N with
    | nil => intro _ a ha; cases ha
    | cons x xs ih =>
      intro nd a ha b hb eab
      rw [List.map_cons, List.nodup_cons] at nd
      rcases List.mem_cons.mp ha with rfl | ha'
      · rcases List.mem_cons.mp hb with rfl | hb'
        · rfl
        · exact absurd (List.mem_map.mpr ⟨b, hb', congrArg klQ eab.symm⟩) nd.1
      · rcases List.mem_cons.mp hb with rfl | hb'
        · exact absurd (List.mem_map.mpr ⟨a, ha', congrArg klQ eab⟩) nd.1
        · exact ih nd.2 a ha' b hb' eab
  exact hne (key nd _ (inN i hi) _ (inN j hj) ez)
end DL
namespace Claim
open PySem PySem.Spec PyProof.Rows L2 DL
local macro_rules | `(tactic| walk_at "d") => `(tactic| try simp only [DL.z_sumB, DL.z_strN, DL.z_strNi, DL.uRepl, DL.z_repl, DL.z_zipS, DL.uZipS, DL.z_split2, DL.z_shl, DL.uDNewN, DL.uMethX, DL.uInT, DL.z_inT, DL.z_tOf1, DL.z_tOf2, DL.z_wT1, DL.keysOf_two, DL.uDPopN, DL.vDSubN, DL.z_ltT2, DL.uDLit, DL.uSlV, DL.uKGet, DL.uKGet2, DL.z_kg2, DL.z_remove, DL.uM1, DL.z_tupL, DL.uFld, DL.uSFld, DL.uMeth, DL.uMake, DL.z_fld, DL.z_sf, DL.z_mth, DL.z_insK, DL.putD, DL.vSl, DL.z_vSl, DL.uDNewT, DL.uDIxT, DL.vDSubT, DL.uItDT, DL.uLockST, DL.z_dxT, DL.z_dstT, DL.z_indexC, DL.z_mulS, DL.uItS, DL.z_str1, DL.z_intS, DL.z_join, DL.z_split, DL.z_part, DL.z_inC, DL.z_notinC, DL.z_itS, DL.z_isSs, DL.uIsiS, DL.uCallX, DL.uIsE, DL.uFldE, DL.uRaise, DL.uRaiseO, DL.isE_non, DL.isE_exc, DL.fldE_exc, DL.isNon_exc, DL.uSeq, DL.uSet, DL.uRet, DL.uRetN, DL.uIf, DL.uTest, DL.uOp, DL.uVar, DL.uC, DL.uCons, DL.uNil, DL.uTup, DL.uLst, DL.uCall, DL.uCB, DL.uIxk, DL.nthQ, DL.uNext, DL.uDrop, DL.uAsg, DL.uPar, DL.uAnd, DL.uOr, DL.uNot, DL.uAndV, DL.uOrV, DL.uNotV, DL.uIsi, DL.uNeg, DL.uFgt, DL.uFgtT, DL.vName, DL.vCons, DL.vNil, DL.vTup, DL.vSub, DL.uBM, DL.uChain, DL.uNever, DL.cnd_not, DL.ups_same, DL.ups_ups, DL.vSubk, DL.uIt, DL.uRng1, DL.uRng2, DL.uEnum, DL.uZip, DL.uSlL, DL.uNoPart, DL.uPart, DL.uBreak, DL.uCont, DL.uYes, DL.uFor, DL.uLoop, DL.uLc, DL.wipe2, DL.stayT, DL.z_getO, DL.z_onS, DL.z_addI, DL.z_addS, DL.z_addL, DL.z_addT, DL.z_sortedP, DL.z_mulL, DL.enc_nat, DL.enc_int, DL.enc_bl, DL.enc_rat, DL.enc_opt, DL.cut3_2, DL.isNon_eTO, DL.eTO_none, DL.eTO_some, Option.isNone_none, Option.isNone_some, DL.z_slT, DL.z_slS, DL.z_slR, DL.z_slF, DL.uSlG, DL.z_sub, DL.z_mul, DL.z_mod, DL.z_fdiv, DL.z_pow, DL.z_lt, DL.z_le, DL.z_gt, DL.z_ge, DL.z_isN, DL.z_isB, DL.z_isnN, DL.z_isnB, DL.uSlK, DL.uRevL, DL.uLenSetI, DL.uLenSetT, DL.uSortSetK, DL.z_succ, Int.ofNat_lt, DL.uDNew, DL.uDGet1, DL.uDPop1, DL.vDSub, DL.uListRg, DL.z_dOf1, DL.z_dOf2, DL.z_wOf, DL.z_keyI, DL.z_dix, DL.z_dictOf, DL.z_neE, DL.z_setD, DL.z_isDc, DL.z_exs, DL.uItD, DL.uLockS, DL.zs_jj, DL.zs_lj, DL.zs_tj, DL.zs_ll, DL.zs_tl, DL.dget_eM, DL.ddrop_eM, Option.getD_some, Option.getD_none, Option.map_some, Option.map_none, Function.comp_apply, DL.eDd_1, DL.zs_never, DL.zs_always, DL.zs_at, DL.z_nonN, DL.z_nonI, DL.z_nonB, DL.z_nonS, DL.z_nonT, DL.z_nonR, DL.z_nonF, DL.z_eqI, DL.z_eqB, DL.z_eqS, DL.z_neI, DL.z_neB, DL.z_neS, DL.z_eqQ, DL.z_neQ, DL.z_neMt, DL.z_eqLL, DL.z_neLL, DL.z_eqO, DL.z_neO, DL.z_eqQN, DL.z_neQN, DL.z_eqOQ, DL.z_neOQ, DL.z_eqON, DL.z_eqNN', DL.z_neNN', DL.z_eqNQ, DL.z_neNQ, DL.z_eqNO, DL.z_neNO, DL.z_eqQO, DL.z_neQO, DL.z_oL, DL.z_listOfR, DL.cutD_map, DL.cutG_1, DL.isNon_eCv, DL.z_neCv, List.drop_succ_cons, List.drop_zero, DL.z_neON, DL.isNon_eO, eq_self, DL.eO_none, DL.eO_some, Int.toNat_natCast, DL.z_ixT, DL.z_ixF, DL.z_ixR, DL.z_ixS, DL.z_ixg, DL.z_igT, DL.z_igF, DL.z_igR, DL.z_igS, DL.z_lenS, DL.z_lenT, DL.z_lenF, DL.z_lenR, DL.z_abs, DL.z_max, DL.z_min, DL.z_intI, DL.z_intB, DL.z_listT, DL.z_listF, DL.z_listR, DL.z_tupT, DL.z_tupF, DL.z_tupR, DL.z_any, DL.z_all, DL.z_sorted, DL.z_tyN, DL.z_tyB, DL.z_tyI, DL.z_tyS, DL.z_tyT, DL.z_tyF, DL.z_tyR, DL.z_tyL, DL.z_tyD, DL.z_isiII, DL.z_isiBI, DL.z_isiBB, DL.z_isiIB, DL.z_isiTT, DL.z_isiLL, DL.z_isiSS, DL.z_isiNI, DL.z_isiNB, DL.z_isiNT, DL.z_isiNL, DL.z_cndT, DL.z_cndF, DL.z_app, DL.z_ins, DL.z_pop0, DL.z_popAt, DL.z_rev, DL.z_clear, DL.z_setQ, DL.z_setkQ, DL.z_isLR, DL.z_isLF, DL.z_listOfF, DL.z_itR, DL.z_itF, DL.z_itT, DL.z_rng1, DL.z_rng2, DL.z_enum, DL.z_zip, List.getElem?_cons_zero, List.getElem?_cons_succ, List.set_cons_zero, List.set_cons_succ, List.length_cons, List.length_nil, List.length_map, Nat.reduceAdd, Nat.reduceLT, Nat.reduceLeDiff, Int.reduceToNat, Int.reducePow, Int.reduceLE, Int.reduceLT, Nat.reducePow, Int.reduceNeg, ne_eq, Int.reduceEq, not_false_eq_true, and_self, Int.reduceMul, Int.reduceAdd, Int.reduceSub, decide_true, decide_false, List.length_map, true_and, Bool.not_true, Bool.not_false, Bool.true_and, Bool.and_true])
local macro_rules | `(tactic| walk_at "f") => `(tactic| try simp only [*, DL.ups_ne, DL.atL, DL.atQ, DL.z_sumB, DL.z_strN, DL.z_strNi, DL.uRepl, DL.z_repl, DL.z_zipS, DL.uZipS, DL.z_split2, DL.z_shl, DL.uDNewN, DL.uMethX, DL.uInT, DL.z_inT, DL.z_tOf1, DL.z_tOf2, DL.z_wT1, DL.keysOf_two, DL.uDPopN, DL.vDSubN, DL.z_ltT2, DL.uDLit, DL.uSlV, DL.uKGet, DL.uKGet2, DL.z_kg2, DL.z_remove, DL.uM1, DL.z_tupL, DL.uFld, DL.uSFld, DL.uMeth, DL.uMake, DL.z_fld, DL.z_sf, DL.z_mth, DL.z_insK, DL.putD, DL.vSl, DL.z_vSl, DL.uDNewT, DL.uDIxT, DL.vDSubT, DL.uItDT, DL.uLockST, DL.z_dxT, DL.z_dstT, DL.z_indexC, DL.z_mulS, DL.uItS, DL.z_str1, DL.z_intS, DL.z_join, DL.z_split, DL.z_part, DL.z_inC, DL.z_notinC, DL.z_itS, DL.z_isSs, DL.uIsiS, DL.uCallX, DL.uIsE, DL.uFldE, DL.uRaise, DL.uRaiseO, DL.isE_non, DL.isE_exc, DL.fldE_exc, DL.isNon_exc, DL.uSeq, DL.uSet, DL.uRet, DL.uRetN, DL.uIf, DL.uTest, DL.uOp, DL.uVar, DL.uC, DL.uCons, DL.uNil, DL.uTup, DL.uLst, DL.uCall, DL.uCB, DL.uIxk, DL.nthQ, DL.uNext, DL.uDrop, DL.uAsg, DL.uPar, DL.uAnd, DL.uOr, DL.uNot, DL.uAndV, DL.uOrV, DL.uNotV, DL.uIsi, DL.uNeg, DL.uFgt, DL.uFgtT, DL.vName, DL.vCons, DL.vNil, DL.vTup, DL.vSub, DL.uBM, DL.uChain, DL.uNever, DL.cnd_not, DL.ups_same, DL.ups_ups, DL.vSubk, DL.uIt, DL.uRng1, DL.uRng2, DL.uEnum, DL.uZip, DL.uSlL, DL.uNoPart, DL.uPart, DL.uBreak, DL.uCont, DL.uYes, DL.uFor, DL.uLoop, DL.uLc, DL.wipe2, DL.stayT, DL.z_getO, DL.z_onS, DL.z_addI, DL.z_addS, DL.z_addL, DL.z_addT, DL.z_sortedP, DL.z_mulL, DL.enc_nat, DL.enc_int, DL.enc_bl, DL.enc_rat, DL.enc_opt, DL.cut3_2, DL.isNon_eTO, DL.eTO_none, DL.eTO_some, Option.isNone_none, Option.isNone_some, DL.z_slT, DL.z_slS, DL.z_slR, DL.z_slF, DL.uSlG, DL.z_sub, DL.z_mul, DL.z_mod, DL.z_fdiv, DL.z_pow, DL.z_lt, DL.z_le, DL.z_gt, DL.z_ge, DL.z_isN, DL.z_isB, DL.z_isnN, DL.z_isnB, DL.uSlK, DL.uRevL, DL.uLenSetI, DL.uLenSetT, DL.uSortSetK, DL.z_succ, Int.ofNat_lt, DL.uDNew, DL.uDGet1, DL.uDPop1, DL.vDSub, DL.uListRg, DL.z_dOf1, DL.z_dOf2, DL.z_wOf, DL.z_keyI, DL.z_dix, DL.z_dictOf, DL.z_neE, DL.z_setD, DL.z_isDc, DL.z_exs, DL.uItD, DL.uLockS, DL.zs_jj, DL.zs_lj, DL.zs_tj, DL.zs_ll, DL.zs_tl, DL.dget_eM, DL.ddrop_eM, Option.getD_some, Option.getD_none, Option.map_some, Option.map_none, Function.comp_apply, DL.eDd_1, DL.zs_never, DL.zs_always, DL.zs_at, DL.z_nonN, DL.z_nonI, DL.z_nonB, DL.z_nonS, DL.z_nonT, DL.z_nonR, DL.z_nonF, DL.z_eqI, DL.z_eqB, DL.z_eqS, DL.z_neI, DL.z_neB, DL.z_neS, DL.z_eqQ, DL.z_neQ, DL.z_neMt, DL.z_eqLL, DL.z_neLL, DL.z_eqO, DL.z_neO, DL.z_eqQN, DL.z_neQN, DL.z_eqOQ, DL.z_neOQ, DL.z_eqON, DL.z_eqNN', DL.z_neNN', DL.z_eqNQ, DL.z_neNQ, DL.z_eqNO, DL.z_neNO, DL.z_eqQO, DL.z_neQO, DL.z_oL, DL.z_listOfR, DL.cutD_map, DL.cutG_1, DL.isNon_eCv, DL.z_neCv, List.drop_succ_cons, List.drop_zero, DL.z_neON, DL.isNon_eO, eq_self, DL.eO_none, DL.eO_some, Int.toNat_natCast, DL.z_ixT, DL.z_ixF, DL.z_ixR, DL.z_ixS, DL.z_ixg, DL.z_igT, DL.z_igF, DL.z_igR, DL.z_igS, DL.z_lenS, DL.z_lenT, DL.z_lenF, DL.z_lenR, DL.z_abs, DL.z_max, DL.z_min, DL.z_intI, DL.z_intB, DL.z_listT, DL.z_listF, DL.z_listR, DL.z_tupT, DL.z_tupF, DL.z_tupR, DL.z_any, DL.z_all, DL.z_sorted, DL.z_tyN, DL.z_tyB, DL.z_tyI, DL.z_tyS, DL.z_tyT, DL.z_tyF, DL.z_tyR, DL.z_tyL, DL.z_tyD, DL.z_isiII, DL.z_isiBI, DL.z_isiBB, DL.z_isiIB, DL.z_isiTT, DL.z_isiLL, DL.z_isiSS, DL.z_isiNI, DL.z_isiNB, DL.z_isiNT, DL.z_isiNL, DL.z_cndT, DL.z_cndF, DL.z_app, DL.z_ins, DL.z_pop0, DL.z_popAt, DL.z_rev, DL.z_clear, DL.z_setQ, DL.z_setkQ, DL.z_isLR, DL.z_isLF, DL.z_listOfF, DL.z_itR, DL.z_itF, DL.z_itT, DL.z_rng1, DL.z_rng2, DL.z_enum, DL.z_zip, List.getElem?_cons_zero, List.getElem?_cons_succ, List.set_cons_zero, List.set_cons_succ, List.length_cons, List.length_nil, List.length_map, Nat.reduceAdd, Nat.reduceLT, Nat.reduceLeDiff, Int.reduceToNat, Int.reducePow, Int.reduceLE, Int.reduceLT, Nat.reducePow, Int.reduceNeg, ne_eq, Int.reduceEq, not_false_eq_true, and_self, Int.reduceMul, Int.reduceAdd, Int.reduceSub, decide_true, decide_false, List.length_map, true_and, Bool.not_true, Bool.not_false, Bool.true_and, Bool.and_true])
def topS (i : Nat) : Stmt := PySem.Challenge.pw_leadtimes_k47_whole_mirrored_in_time.main.body.getD i (.Pass ⟨0, 0, 0, 0⟩)
abbrev s_l_below : Stmt := topS 51
abbrev N_l_below : List Str := ["_law_number_here"]
theorem sc_l_below : FnScope N_l_below ["_law_number_here"] (defScope s_l_below) := ⟨rfl, rfl, rfl, by decide +kernel, rfl, by decide +kernel, by decide +kernel⟩
abbrev s_is_less : Stmt := topS 11
abbrev N_is_less : List Str := ["a", "b"]
theorem sc_is_less : FnScope N_is_less ["a", "b"] (defScope s_is_less) := ⟨rfl, rfl, rfl, by decide +kernel, rfl, by decide +kernel, by decide +kernel⟩
abbrev s_common : Stmt := topS 5
abbrev N_common : List Str := ["one", "other"]
theorem sc_common : FnScope N_common ["one", "other"] (defScope s_common) := ⟨rfl, rfl, rfl, by decide +kernel, rfl, by decide +kernel, by decide +kernel⟩
abbrev s_is_whole : Stmt := topS 4
abbrev N_is_whole : List Str := ["thing"]
theorem sc_is_whole : FnScope N_is_whole ["thing"] (defScope s_is_whole) := ⟨rfl, rfl, rfl, by decide +kernel, rfl, by decide +kernel, by decide +kernel⟩
abbrev s_number_of : Stmt := topS 6
abbrev N_number_of : List Str := ["top", "bottom", "divisor"]
theorem sc_number_of : FnScope N_number_of ["top", "bottom"] (defScope s_number_of) := ⟨rfl, rfl, rfl, by decide +kernel, rfl, by decide +kernel, by decide +kernel⟩
abbrev s_difference_of : Stmt := topS 8
abbrev N_difference_of : List Str := ["a", "b"]
theorem sc_difference_of : FnScope N_difference_of ["a", "b"] (defScope s_difference_of) := ⟨rfl, rfl, rfl, by decide +kernel, rfl, by decide +kernel, by decide +kernel⟩
abbrev s_quotient_of : Stmt := topS 10
abbrev N_quotient_of : List Str := ["a", "b"]
theorem sc_quotient_of : FnScope N_quotient_of ["a", "b"] (defScope s_quotient_of) := ⟨rfl, rfl, rfl, by decide +kernel, rfl, by decide +kernel, by decide +kernel⟩
abbrev s_meeting : Stmt := topS 14
abbrev N_meeting : List Str := ["one", "other"]
theorem sc_meeting : FnScope N_meeting ["one", "other"] (defScope s_meeting) := ⟨rfl, rfl, rfl, by decide +kernel, rfl, by decide +kernel, by decide +kernel⟩
abbrev s_passing_time : Stmt := topS 19
abbrev N_passing_time : List Str := ["one", "other", "told"]
theorem sc_passing_time : FnScope N_passing_time ["one", "other"] (defScope s_passing_time) := ⟨rfl, rfl, rfl, by decide +kernel, rfl, by decide +kernel, by decide +kernel⟩
abbrev s_put_in : Stmt := topS 20
abbrev N_put_in : List Str := ["found", "time", "pair", "at"]
theorem sc_put_in : FnScope N_put_in ["found", "time", "pair"] (defScope s_put_in) := ⟨rfl, rfl, rfl, by decide +kernel, rfl, by decide +kernel, by decide +kernel⟩
abbrev s_changes : Stmt := topS 21
abbrev N_changes : List Str := ["lines", "low", "high", "found", "one", "other", "time"]
theorem sc_changes : FnScope N_changes ["lines", "low", "high"] (defScope s_changes) := ⟨rfl, rfl, rfl, by decide +kernel, rfl, by decide +kernel, by decide +kernel⟩
abbrev s_l_changes_right : Stmt := topS 54
abbrev N_l_changes_right : List Str := ["_law_lines_here", "_law_mirrored", "_law_low", "_law_high", "_law_there", "_law_due", "_law_time_here", "_law_pairs", "_law_found", "_law_one", "_law_other"]
theorem sc_l_changes_right : FnScope N_l_changes_right ["_law_lines_here", "_law_mirrored", "_law_low", "_law_high"] (defScope s_l_changes_right) := ⟨rfl, rfl, rfl, by decide +kernel, rfl, by decide +kernel, by decide +kernel⟩
abbrev s_l_less : Stmt := topS 45
abbrev N_l_less : List Str := ["_law_a", "_law_b"]
theorem sc_l_less : FnScope N_l_less ["_law_a", "_law_b"] (defScope s_l_less) := ⟨rfl, rfl, rfl, by decide +kernel, rfl, by decide +kernel, by decide +kernel⟩
abbrev s_l_lowest : Stmt := topS 40
abbrev N_l_lowest : List Str := ["_law_top", "_law_bottom", "_law_one", "_law_other"]
theorem sc_l_lowest : FnScope N_l_lowest ["_law_top", "_law_bottom"] (defScope s_l_lowest) := ⟨rfl, rfl, rfl, by decide +kernel, rfl, by decide +kernel, by decide +kernel⟩
abbrev s_l_spot : Stmt := topS 44
abbrev N_l_spot : List Str := ["_law_line", "_law_time_here", "_law_start", "_law_slope", "_law_top"]
theorem sc_l_spot : FnScope N_l_spot ["_law_line", "_law_time_here"] (defScope s_l_spot) := ⟨rfl, rfl, rfl, by decide +kernel, rfl, by decide +kernel, by decide +kernel⟩
abbrev s_l_level : Stmt := topS 53
abbrev N_l_level : List Str := ["_law_lines_here", "_law_time_here", "_law_some", "_law_spots", "_law_line"]
theorem sc_l_level : FnScope N_l_level ["_law_lines_here", "_law_time_here"] (defScope s_l_level) := ⟨rfl, rfl, rfl, by decide +kernel, rfl, by decide +kernel, by decide +kernel⟩
abbrev s_l_take : Stmt := topS 39
abbrev N_l_take : List Str := ["_law_pen", "_law_many", "_law_cell", "_law_digit"]
theorem sc_l_take : FnScope N_l_take ["_law_pen", "_law_many"] (defScope s_l_take) := ⟨rfl, rfl, rfl, by decide +kernel, rfl, by decide +kernel, by decide +kernel⟩
abbrev s_l_number : Stmt := topS 41
abbrev N_l_number : List Str := ["_law_pen", "_law_wide", "_law_way", "_law_top"]
theorem sc_l_number : FnScope N_l_number ["_law_pen", "_law_wide"] (defScope s_l_number) := ⟨rfl, rfl, rfl, by decide +kernel, rfl, by decide +kernel, by decide +kernel⟩
abbrev s_l_through : Stmt := topS 42
abbrev N_l_through : List Str := ["_law_time_here", "_law_place", "_law_slope", "_law_top"]
theorem sc_l_through : FnScope N_l_through ["_law_time_here", "_law_place", "_law_slope"] (defScope s_l_through) := ⟨rfl, rfl, rfl, by decide +kernel, rfl, by decide +kernel, by decide +kernel⟩
abbrev s_l_lines : Stmt := topS 43
abbrev N_l_lines : List Str := ["_law_pen", "_law_most", "_law_wide", "_law_lines_here", "_law_k", "_law_line", "_law_way", "_law_elder", "_law_time_here", "_law_met_here"]
theorem sc_l_lines : FnScope N_l_lines ["_law_pen", "_law_most"] (defScope s_l_lines) := ⟨rfl, rfl, rfl, by decide +kernel, rfl, by decide +kernel, by decide +kernel⟩
abbrev s_l_met : Stmt := topS 48
abbrev N_l_met : List Str := ["_law_lines_here", "_law_one", "_law_other", "_law_a", "_law_b", "_law_top", "_law_bottom"]
theorem sc_l_met : FnScope N_l_met ["_law_lines_here", "_law_one", "_law_other"] (defScope s_l_met) := ⟨rfl, rfl, rfl, by decide +kernel, rfl, by decide +kernel, by decide +kernel⟩
abbrev s_l_time : Stmt := topS 50
abbrev N_l_time : List Str := ["_law_pen", "_law_lines_here", "_law_way", "_law_one", "_law_other", "_law_time_here"]
theorem sc_l_time : FnScope N_l_time ["_law_pen", "_law_lines_here"] (defScope s_l_time) := ⟨rfl, rfl, rfl, by decide +kernel, rfl, by decide +kernel, by decide +kernel⟩
abbrev s_l_turned_row : Stmt := topS 52
abbrev N_l_turned_row : List Str := ["_law_row", "_law_found", "_law_k", "_law_since"]
theorem sc_l_turned_row : FnScope N_l_turned_row ["_law_row"] (defScope s_l_turned_row) := ⟨rfl, rfl, rfl, by decide +kernel, rfl, by decide +kernel, by decide +kernel⟩
abbrev s_product_of : Stmt := topS 9
abbrev N_product_of : List Str := ["a", "b"]
theorem sc_product_of : FnScope N_product_of ["a", "b"] (defScope s_product_of) := ⟨rfl, rfl, rfl, by decide +kernel, rfl, by decide +kernel, by decide +kernel⟩
abbrev s_sum_of : Stmt := topS 7
abbrev N_sum_of : List Str := ["a", "b"]
theorem sc_sum_of : FnScope N_sum_of ["a", "b"] (defScope s_sum_of) := ⟨rfl, rfl, rfl, by decide +kernel, rfl, by decide +kernel, by decide +kernel⟩
abbrev s_place_at : Stmt := topS 13
abbrev N_place_at : List Str := ["line", "time"]
theorem sc_place_at : FnScope N_place_at ["line", "time"] (defScope s_place_at) := ⟨rfl, rfl, rfl, by decide +kernel, rfl, by decide +kernel, by decide +kernel⟩
abbrev s_is_ahead : Stmt := topS 15
abbrev N_is_ahead : List Str := ["lines", "one", "other", "time", "here", "there"]
theorem sc_is_ahead : FnScope N_is_ahead ["lines", "one", "other", "time"] (defScope s_is_ahead) := ⟨rfl, rfl, rfl, by decide +kernel, rfl, by decide +kernel, by decide +kernel⟩
abbrev s_ahead_of_all : Stmt := topS 28
abbrev N_ahead_of_all : List Str := ["lines", "time", "found", "runner"]
theorem sc_ahead_of_all : FnScope N_ahead_of_all ["lines", "time"] (defScope s_ahead_of_all) := ⟨rfl, rfl, rfl, by decide +kernel, rfl, by decide +kernel, by decide +kernel⟩
abbrev s_earliest : Stmt := topS 31
abbrev N_earliest : List Str := ["times", "found", "time"]
theorem sc_earliest : FnScope N_earliest ["times"] (defScope s_earliest) := ⟨rfl, rfl, rfl, by decide +kernel, rfl, by decide +kernel, by decide +kernel⟩
abbrev s_first_leader : Stmt := topS 29
abbrev N_first_leader : List Str := ["lines", "found", "runner", "one", "other"]
theorem sc_first_leader : FnScope N_first_leader ["lines"] (defScope s_first_leader) := ⟨rfl, rfl, rfl, by decide +kernel, rfl, by decide +kernel, by decide +kernel⟩
abbrev s_passed_at : Stmt := topS 30
abbrev N_passed_at : List Str := ["lines", "leader", "since", "found", "line", "time"]
theorem sc_passed_at : FnScope N_passed_at ["lines", "leader", "since"] (defScope s_passed_at) := ⟨rfl, rfl, rfl, by decide +kernel, rfl, by decide +kernel, by decide +kernel⟩
abbrev s_leaders : Stmt := topS 32
abbrev N_leaders : List Str := ["lines", "found", "times", "time"]
theorem sc_leaders : FnScope N_leaders ["lines"] (defScope s_leaders) := ⟨rfl, rfl, rfl, by decide +kernel, rfl, by decide +kernel, by decide +kernel⟩
abbrev s_cover : Stmt := topS 34
abbrev N_cover : List Str := ["lines", "runner", "row", "at", "leader", "since"]
theorem sc_cover : FnScope N_cover ["lines", "runner"] (defScope s_cover) := ⟨rfl, rfl, rfl, by decide +kernel, rfl, by decide +kernel, by decide +kernel⟩
abbrev s_are_joint : Stmt := topS 36
abbrev N_are_joint : List Str := ["lines", "runner", "one", "other"]
theorem sc_are_joint : FnScope N_are_joint ["lines", "runner", "one", "other"] (defScope s_are_joint) := ⟨rfl, rfl, rfl, by decide +kernel, rfl, by decide +kernel, by decide +kernel⟩
abbrev s_is_always_ahead : Stmt := topS 35
abbrev N_is_always_ahead : List Str := ["lines", "one", "runner"]
theorem sc_is_always_ahead : FnScope N_is_always_ahead ["lines", "one", "runner"] (defScope s_is_always_ahead) := ⟨rfl, rfl, rfl, by decide +kernel, rfl, by decide +kernel, by decide +kernel⟩
abbrev s_is_cover : Stmt := topS 37
abbrev N_is_cover : List Str := ["lines", "runner", "one", "other", "number"]
theorem sc_is_cover : FnScope N_is_cover ["lines", "runner", "one", "other"] (defScope s_is_cover) := ⟨rfl, rfl, rfl, by decide +kernel, rfl, by decide +kernel, by decide +kernel⟩
abbrev s_order_at : Stmt := topS 17
abbrev N_order_at : List Str := ["lines", "time", "found", "runner", "at"]
theorem sc_order_at : FnScope N_order_at ["lines", "time"] (defScope s_order_at) := ⟨rfl, rfl, rfl, by decide +kernel, rfl, by decide +kernel, by decide +kernel⟩
abbrev s_nearest : Stmt := topS 18
abbrev N_nearest : List Str := ["lines", "time", "order", "best", "one", "other", "gap"]
theorem sc_nearest : FnScope N_nearest ["lines", "time"] (defScope s_nearest) := ⟨rfl, rfl, rfl, by decide +kernel, rfl, by decide +kernel, by decide +kernel⟩
abbrev s_change_times : Stmt := topS 25
abbrev N_change_times : List Str := ["lines", "found", "one", "other", "time", "pairs"]
theorem sc_change_times : FnScope N_change_times ["lines"] (defScope s_change_times) := ⟨rfl, rfl, rfl, by decide +kernel, rfl, by decide +kernel, by decide +kernel⟩
abbrev s_rank_row : Stmt := topS 26
abbrev N_rank_row : List Str := ["lines", "k", "times", "before", "row", "time", "runner"]
theorem sc_rank_row : FnScope N_rank_row ["lines", "k"] (defScope s_rank_row) := ⟨rfl, rfl, rfl, by decide +kernel, rfl, by decide +kernel, by decide +kernel⟩
abbrev s_law : Stmt := topS 55
abbrev N_law : List Str := ["_law_script", "_law_pen", "_law_lines_here", "_law_mirrored", "_law_turn", "_law_k", "_law_told", "_law_low", "_law_high", "_law_time_here", "_law_start", "_law_slope"]
theorem sc_law : FnScope N_law ["_law_script"] (defScope s_law) := ⟨rfl, rfl, rfl, by decide +kernel, rfl, by decide +kernel, by decide +kernel⟩
structure Txt (K : PySem.W.Frag) (mg : Str → Option Value) : Prop where
  b_abs : mg "abs" = none
  b_bool : mg "bool" = none
  b_int : mg "int" = none
  b_isinstance : mg "isinstance" = none
  b_len : mg "len" = none
  b_min : mg "min" = none
  b_range : mg "range" = none
  b_set : mg "set" = none
  b_sorted : mg "sorted" = none
  b_zip : mg "zip" = none
  q_NOUGHT : ConAt K mg "NOUGHT" (DL.D.tup [DL.D.int 0, DL.D.int 1])
  q_ONE : ConAt K mg "ONE" (DL.D.tup [DL.D.int 1, DL.D.int 1])
  f_l_below : FunAt K mg "_law_below" s_l_below ["_law_number_here"]
  f_is_less : FunAt K mg "is_less" s_is_less ["a", "b"]
  f_common : FunAt K mg "common" s_common ["one", "other"]
  f_is_whole : FunAt K mg "is_whole" s_is_whole ["thing"]
  f_number_of : FunAt K mg "number_of" s_number_of ["top", "bottom"]
  f_difference_of : FunAt K mg "difference_of" s_difference_of ["a", "b"]
  f_quotient_of : FunAt K mg "quotient_of" s_quotient_of ["a", "b"]
  f_meeting : FunAt K mg "meeting" s_meeting ["one", "other"]
  f_passing_time : FunAt K mg "passing_time" s_passing_time ["one", "other"]
  f_put_in : FunAt K mg "put_in" s_put_in ["found", "time", "pair"]
  f_changes : FunAt K mg "changes" s_changes ["lines", "low", "high"]
  f_l_changes_right : FunAt K mg "_law_changes_right" s_l_changes_right ["_law_lines_here", "_law_mirrored", "_law_low", "_law_high"]
  f_l_less : FunAt K mg "_law_less" s_l_less ["_law_a", "_law_b"]
  f_l_lowest : FunAt K mg "_law_lowest" s_l_lowest ["_law_top", "_law_bottom"]
  f_l_spot : FunAt K mg "_law_spot" s_l_spot ["_law_line", "_law_time_here"]
  f_l_level : FunAt K mg "_law_level" s_l_level ["_law_lines_here", "_law_time_here"]
  f_l_take : FunAt K mg "_law_take" s_l_take ["_law_pen", "_law_many"]
  f_l_number : FunAt K mg "_law_number" s_l_number ["_law_pen", "_law_wide"]
  f_l_through : FunAt K mg "_law_through" s_l_through ["_law_time_here", "_law_place", "_law_slope"]
  f_l_lines : FunAt K mg "_law_lines" s_l_lines ["_law_pen", "_law_most"]
  f_l_met : FunAt K mg "_law_met" s_l_met ["_law_lines_here", "_law_one", "_law_other"]
  f_l_time : FunAt K mg "_law_time" s_l_time ["_law_pen", "_law_lines_here"]
  f_l_turned_row : FunAt K mg "_law_turned_row" s_l_turned_row ["_law_row"]
  f_product_of : FunAt K mg "product_of" s_product_of ["a", "b"]
  f_sum_of : FunAt K mg "sum_of" s_sum_of ["a", "b"]
  f_place_at : FunAt K mg "place_at" s_place_at ["line", "time"]
  f_is_ahead : FunAt K mg "is_ahead" s_is_ahead ["lines", "one", "other", "time"]
  f_ahead_of_all : FunAt K mg "ahead_of_all" s_ahead_of_all ["lines", "time"]
  f_earliest : FunAt K mg "earliest" s_earliest ["times"]
  f_first_leader : FunAt K mg "first_leader" s_first_leader ["lines"]
  f_passed_at : FunAt K mg "passed_at" s_passed_at ["lines", "leader", "since"]
  f_leaders : FunAt K mg "leaders" s_leaders ["lines"]
  f_cover : FunAt K mg "cover" s_cover ["lines", "runner"]
  f_are_joint : FunAt K mg "are_joint" s_are_joint ["lines", "runner", "one", "other"]
  f_is_always_ahead : FunAt K mg "is_always_ahead" s_is_always_ahead ["lines", "one", "runner"]
  f_is_cover : FunAt K mg "is_cover" s_is_cover ["lines", "runner", "one", "other"]
  f_order_at : FunAt K mg "order_at" s_order_at ["lines", "time"]
  f_nearest : FunAt K mg "nearest" s_nearest ["lines", "time"]
  f_change_times : FunAt K mg "change_times" s_change_times ["lines"]
  f_rank_row : FunAt K mg "rank_row" s_rank_row ["lines", "k"]
  f_law : FunAt K mg "law" s_law ["_law_script"]
section
variable {P : Program} {w : World} {K : PySem.W.Frag} {mg : Str → Option Value} {base : Heap}
def sp_l_below : Sp2 := fun ds S Q _ => ∃ q : Rat, ds = [eQ q] ∧ Q (eQ (-q)) S
theorem st_l_below (x0 : DL.D) : start2 N_l_below [x0] = [some x0] := rfl
set_option maxHeartbeats 8000000 in
theorem ok_l_below (T : Txt K mg) : Fn P w K mg base 1 "_law_below" sp_l_below := by
  refine fn_intro2 T.f_l_below sc_l_below (fun ds S Q E h => ?_) (fun cdv A outer s H E f hr => ⟨_, (ss_one (s_ret (q_tup (a_cons (q_sub q_int (q_ixk 0 (qv 0 (pv 0)))) (a_cons (q_ixk 1 (qv 0 (pv 0))) a_nil))))), fun ds S Q E h => ?_⟩)
  · obtain ⟨_, rfl, _⟩ := h
    rfl
  · obtain ⟨x, rfl, q⟩ := h
    rw [st_l_below]
    walk_at "d"
    refine ⟨_, .refl _, ?_⟩
    rw [Int.zero_sub]
    exact q
def sp_is_less : Sp2 := fun ds S Q _ => ∃ a b : Rat, ds = [eQ a, eQ b] ∧ Nz 9000 a ∧ Nz 9000 b ∧ Q (.bl (decide (a < b))) S
theorem st_is_less (x0 x1 : DL.D) : start2 N_is_less [x0, x1] = [some x0, some x1] := rfl
set_option maxHeartbeats 8000000 in
theorem ok_is_less (T : Txt K mg) : Fn P w K mg base 1 "is_less" sp_is_less := by
  refine fn_intro2 T.f_is_less sc_is_less (fun ds S Q E h => ?_) (fun cdv A outer s H E f hr => ⟨_, (ss_one (s_ret (q_lt (q_mul (q_ixk 0 (qv 0 (pv 0))) (q_ixk 1 (qv 1 (pv 1)))) (q_mul (q_ixk 0 (qv 1 (pv 1))) (q_ixk 1 (qv 0 (pv 0))))))), fun ds S Q E h => ?_⟩)
  · obtain ⟨a, b, rfl, _⟩ := h
    rfl
  · obtain ⟨a, b, rfl, ha, hb, q⟩ := h
    rw [st_is_less]
    walk_at "d"
    refine ⟨.inl ⟨_, _, ha.1, hb.2, by decide⟩, .inl ⟨_, _, hb.1, ha.2, by decide⟩, ?_⟩
    rw [lt_quo]
    exact ⟨S, .refl S, q⟩
def sp_common : Sp2 := fun ds S Q _ => match ds with
  | [.int a, .int b] => Q (.int (Int.gcd a b : Nat)) S
  | _ => False
theorem st_common (x0 x1 : DL.D) : start2 N_common [x0, x1] = [some x0, some x1] := rfl
set_option maxHeartbeats 8000000 in
theorem ok_common (T : Txt K mg) : Fn P w K mg base 1 "common" sp_common := by
  refine fn_intro2 T.f_common sc_common (fun ds S Q E h => ?_) (fun cdv A outer s H E f hr => ⟨_, (ss_cons (s_set 0 sc_common.nd rfl (by first | exact .inl rfl | exact .inr rfl) (.inl rfl) (q_abs T.b_abs (by rfl) (a_cons (qv 0 (pv 0)) a_nil)))
 (ss_cons (s_set 1 sc_common.nd rfl (by first | exact .inl rfl | exact .inr rfl) (.inl rfl) (q_abs T.b_abs (by rfl) (a_cons (qv 1 (pv 1)) a_nil)))
 (ss_cons (s_while .never (t_gt (qv 1 (pv 1)) q_int)
 (ss_one (s_par 0 1 rfl sc_common.nd rfl rfl (by decide) rfl rfl (a_cons (qv 1 (pv 1)) (a_cons (q_mod (qv 0 (pv 0)) (qv 1 (pv 1))) a_nil)) (by rfl))))
 (ss_one (s_ret (qv 0 (pv 0))))))), fun ds S Q E h => ?_⟩)
  ·   unfold sp_common at h
      split at h
      · rfl
      · exact h.elim
  · unfold sp_common at h
    split at h
    · rw [st_common]
      walk_at "d"
      rw [abs_nat, abs_nat]
      rename_i a b
      refine ⟨fun m τ S' => ∃ x : Nat, τ = [some (.int (x : Nat)), some (.int (m : Nat))] ∧ S' = S ∧ Nat.gcd x m = Int.gcd a b, ⟨b.natAbs, a.natAbs, rfl, rfl, rfl⟩, ?_⟩
      rintro m τ S' ⟨x, rfl, rfl, e⟩
      walk_at "d"
      refine cnd_dec (fun hm => ?_) (fun hm => ?_)
      · refine ⟨by omega, x % m, Nat.mod_lt _ (by omega), m, ?_, ?_⟩
        · rw [fmod_nat]
        · rw [gcd_stepN]; exact e
      · have : m = 0 := by omega
        subst this
        rw [Nat.gcd_zero_right] at e
        subst e
        exact ⟨_, .refl _, h⟩
    · exact h.elim
def sp_is_whole : Sp2 := fun ds S Q _ => match ds with
  | [d] => ∃ T, tyOf S d = some T ∧ Q (.bl (isiT T .int && !isiT T .bool)) S
  | _ => False
theorem st_is_whole (x0 : DL.D) : start2 N_is_whole [x0] = [some x0] := rfl
set_option maxHeartbeats 8000000 in
theorem ok_is_whole (T : Txt K mg) : Fn P w K mg base 1 "is_whole" sp_is_whole := by
  refine fn_intro2 T.f_is_whole sc_is_whole (fun ds S Q E h => ?_) (fun cdv A outer s H E f hr => ⟨_, (ss_one (s_ret (q_and (q_isi .int T.b_isinstance (by rfl) T.b_int (by rfl) PyProof.Rows.boot_int rfl (qv 0 (pv 0))) (q_one (q_not (q_isi .bool T.b_isinstance (by rfl) T.b_bool (by rfl) PyProof.Rows.boot_bool rfl (qv 0 (pv 0)))))))), fun ds S Q E h => ?_⟩)
  ·   unfold sp_is_whole at h
      split at h
      · rfl
      · exact h.elim
  · unfold sp_is_whole at h
    split at h
    · obtain ⟨T, hT, q⟩ := h
      rw [st_is_whole]
      walk_at "d"
      rw [hT]
      walk_at "d"
      refine cnd_by (fun e => ?_) (fun e => ?_) <;> rw [e] at q
      · exact ⟨S, .refl S, q⟩
      · exact ⟨S, .refl S, q⟩
    · exact h.elim
def sp_number_of : Sp2 := fun ds S Q _ => match ds with
  | [.int t, .int b] => b ≠ 0 ∧ Sz 9000 b ∧ Q (eQ ((t : Rat) / (b : Rat))) S
  | _ => False
theorem st_number_of (x0 x1 : DL.D) : start2 N_number_of [x0, x1] = [some x0, some x1, none] := rfl
set_option maxHeartbeats 8000000 in
theorem ok_number_of (T : Txt K mg) : Fn P w K mg base 2 "number_of" sp_number_of := by
  refine fn_intro2 T.f_number_of sc_number_of (fun ds S Q E h => ?_) (fun cdv A outer s H E f hr => ⟨_, (ss_cons (s_if (PW.pt (w_or (t_not (t_val (q_call (ok_is_whole T) (hr.mono (by decide)) (by rfl) (a_cons (qv 0 (pv 0)) a_nil)))) (w_or (t_not (t_val (q_call (ok_is_whole T) (hr.mono (by decide)) (by rfl) (a_cons (qv 1 (pv 1)) a_nil)))) (w_or1 (t_eq hr (qv 1 (pv 1)) q_int)))))
 (ss_one s_never)
 ss_nil)
 (ss_cons (s_set 2 sc_number_of.nd rfl (by first | exact .inl rfl | exact .inr rfl) (.inl rfl) (q_call (ok_common T) (hr.mono (by decide)) (by rfl) (a_cons (qv 0 (pv 0)) (a_cons (qv 1 (pv 1)) a_nil))))
 (ss_cons (s_if (t_lt (qv 1 (pv 1)) q_int)
 (ss_one (s_set 2 sc_number_of.nd rfl (by first | exact .inl rfl | exact .inr rfl) (.inl rfl) (q_sub q_int (qv 2 (pv 2)))))
 ss_nil)
 (ss_one (s_ret (q_tup (a_cons (q_fdiv (qv 0 (pv 0)) (qv 2 (pv 2))) (a_cons (q_fdiv (qv 1 (pv 1)) (qv 2 (pv 2))) a_nil)))))))), fun ds S Q E h => ?_⟩)
  ·   unfold sp_number_of at h
      split at h
      · rfl
      · exact h.elim
  · unfold sp_number_of at h
    split at h
    · rename_i t b
      obtain ⟨hb, hs, q⟩ := h
      rw [st_number_of]
      walk_at "d"
      refine ⟨.int, rfl, ?_⟩
      walk_at "d"
      refine ⟨.int, rfl, ?_⟩
      walk_at "d"
      refine cnd_dec (fun z => absurd z hb) (fun _ => ?_)
      show sp_common [.int t, .int b] S _ _
      unfold sp_common
      walk_at "d"
      refine cnd_dec (fun hn => ?_) (fun hn => ?_)
      · have e1 := low_num (t := t) hb
        have e2 := low_den (t := t) hb
        rw [if_pos hn] at e1 e2
        rw [e1, e2]
        exact ⟨gcd_div_neg hb hs, gcd_div_neg hb hs, S, .refl S, q⟩
      · have e1 := low_num (t := t) hb
        have e2 := low_den (t := t) hb
        rw [if_neg hn] at e1 e2
        rw [e1, e2]
        exact ⟨gcd_div_ok hb hs, gcd_div_ok hb hs, S, .refl S, q⟩
    · exact h.elim
def sp_difference_of : Sp2 := fun ds S Q _ => ∃ a b : Rat, ds = [eQ a, eQ b] ∧ Nz 4400 a ∧ Nz 4400 b ∧ Q (eQ (a - b)) S
theorem st_difference_of (x0 x1 : DL.D) : start2 N_difference_of [x0, x1] = [some x0, some x1] := rfl
set_option maxHeartbeats 8000000 in
theorem ok_difference_of (T : Txt K mg) : Fn P w K mg base 3 "difference_of" sp_difference_of := by
  refine fn_intro2 T.f_difference_of sc_difference_of (fun ds S Q E h => ?_) (fun cdv A outer s H E f hr => ⟨_, (ss_one (s_ret (q_call (ok_number_of T) (hr.mono (by decide)) (by rfl) (a_cons (q_sub (q_mul (q_ixk 0 (qv 0 (pv 0))) (q_ixk 1 (qv 1 (pv 1)))) (q_mul (q_ixk 0 (qv 1 (pv 1))) (q_ixk 1 (qv 0 (pv 0))))) (a_cons (q_mul (q_ixk 1 (qv 0 (pv 0))) (q_ixk 1 (qv 1 (pv 1)))) a_nil))))), fun ds S Q E h => ?_⟩)
  · obtain ⟨a, b, rfl, _⟩ := h
    rfl
  · obtain ⟨a, b, rfl, ha, hb, q⟩ := h
    rw [st_difference_of]
    walk_at "d"
    refine ⟨Nz.mulOk ha.1 hb.2, Nz.mulOk hb.1 ha.2, Nz.mulOk ha.2 hb.2, Int.mul_ne_zero (den_ne a) (den_ne b), Nz.prod ha.2 hb.2, ?_⟩
    rw [sub_quo]
    exact ⟨S, .refl S, q⟩
def sp_quotient_of : Sp2 := fun ds S Q _ => ∃ a b : Rat, ds = [eQ a, eQ b] ∧ b ≠ 0 ∧ Nz 4400 a ∧ Nz 4400 b ∧ Q (eQ (a / b)) S
theorem st_quotient_of (x0 x1 : DL.D) : start2 N_quotient_of [x0, x1] = [some x0, some x1] := rfl
set_option maxHeartbeats 8000000 in
theorem ok_quotient_of (T : Txt K mg) : Fn P w K mg base 3 "quotient_of" sp_quotient_of := by
  refine fn_intro2 T.f_quotient_of sc_quotient_of (fun ds S Q E h => ?_) (fun cdv A outer s H E f hr => ⟨_, (ss_one (s_ret (q_call (ok_number_of T) (hr.mono (by decide)) (by rfl) (a_cons (q_mul (q_ixk 0 (qv 0 (pv 0))) (q_ixk 1 (qv 1 (pv 1)))) (a_cons (q_mul (q_ixk 1 (qv 0 (pv 0))) (q_ixk 0 (qv 1 (pv 1)))) a_nil))))), fun ds S Q E h => ?_⟩)
  · obtain ⟨a, b, rfl, _⟩ := h
    rfl
  · obtain ⟨a, b, rfl, hb, ha, hb2, q⟩ := h
    rw [st_quotient_of]
    walk_at "d"
    have hn : b.num ≠ 0 := fun z => hb (Rat.num_eq_zero.mp z)
    refine ⟨.inl ⟨_, _, ha.1, hb2.2, by decide⟩, .inl ⟨_, _, ha.2, hb2.1, by decide⟩, Int.mul_ne_zero (den_ne _) hn, (ha.2.mul hb2.1).le (by decide), ?_⟩
    rw [div_quo a b hb]
    exact ⟨S, .refl S, q⟩
def sp_meeting : Sp2 := fun ds S Q _ => ∃ l m : Ln, ds = [eL l, eL m] ∧ Lz 300 l ∧ Lz 300 m ∧ Q (eMt (meet l m)) S
theorem st_meeting (x0 x1 : DL.D) : start2 N_meeting [x0, x1] = [some x0, some x1] := rfl
set_option maxHeartbeats 8000000 in
theorem ok_meeting (T : Txt K mg) : Fn P w K mg base 4 "meeting" sp_meeting := by
  refine fn_intro2 T.f_meeting sc_meeting (fun ds S Q E h => ?_) (fun cdv A outer s H E f hr => ⟨_, (ss_cons (s_if (t_ne hr (q_ixk 1 (qv 0 (pv 0))) (q_ixk 1 (qv 1 (pv 1))))
 (ss_one (s_ret (q_tup (a_cons q_str (a_cons (q_call (ok_quotient_of T) (hr.mono (by decide)) (by rfl) (a_cons (q_call (ok_difference_of T) (hr.mono (by decide)) (by rfl) (a_cons (q_ixk 0 (qv 1 (pv 1))) (a_cons (q_ixk 0 (qv 0 (pv 0))) a_nil))) (a_cons (q_call (ok_difference_of T) (hr.mono (by decide)) (by rfl) (a_cons (q_ixk 1 (qv 0 (pv 0))) (a_cons (q_ixk 1 (qv 1 (pv 1))) a_nil))) a_nil))) a_nil)))))
 ss_nil)
 (ss_cons (s_if (t_ne hr (q_ixk 0 (qv 0 (pv 0))) (q_ixk 0 (qv 1 (pv 1))))
 (ss_one (s_ret (q_tup (a_cons q_str a_nil))))
 ss_nil)
 (ss_one (s_ret (q_tup (a_cons q_str a_nil)))))), fun ds S Q E h => ?_⟩)
  · obtain ⟨a, b, rfl, _⟩ := h
    rfl
  · obtain ⟨l, m, rfl, hl, hm, q⟩ := h
    unfold meet at q
    rw [st_meeting]
    walk_at "d"
    refine cnd_dec (fun e => ?_) (fun e => ?_)
    · rw [if_neg (by simpa using e)] at q
      refine cnd_dec (fun e => ?_) (fun e => ?_)
      · rw [if_neg (by simpa using e)] at q
        exact ⟨_, .refl _, q⟩
      · rw [if_pos e] at q
        exact ⟨_, .refl _, q⟩
    · rw [if_pos e] at q
      refine ⟨_, _, rfl, hm.1.le (by decide), hl.1.le (by decide), ?_⟩
      refine ⟨_, _, rfl, hl.2.le (by decide), hm.2.le (by decide), ?_⟩
      refine ⟨_, _, rfl, sub_ne e, (hm.1.sub hl.1).le (by decide), (hl.2.sub hm.2).le (by decide), ?_⟩
      exact ⟨_, .refl _, q⟩
def sp_passing_time : Sp2 := fun ds S Q _ => ∃ l m : Ln, ds = [eL l, eL m] ∧ Lz 300 l ∧ Lz 300 m ∧ Q (eO (pst l m)) S
theorem st_passing_time (x0 x1 : DL.D) : start2 N_passing_time [x0, x1] = [some x0, some x1, none] := rfl
set_option maxHeartbeats 8000000 in
theorem ok_passing_time (T : Txt K mg) : Fn P w K mg base 5 "passing_time" sp_passing_time := by
  refine fn_intro2 T.f_passing_time sc_passing_time (fun ds S Q E h => ?_) (fun cdv A outer s H E f hr => ⟨_, (ss_cons (s_set 2 sc_passing_time.nd rfl (by first | exact .inl rfl | exact .inr rfl) (.inl rfl) (q_call (ok_meeting T) (hr.mono (by decide)) (by rfl) (a_cons (qv 0 (pv 0)) (a_cons (qv 1 (pv 1)) a_nil))))
 (ss_cons (s_if (PW.pt (w_or (t_ne hr (q_ixk 0 (qv 2 (pv 2))) q_str) (w_or1 (t_not (t_val (q_call (ok_is_less T) (hr.mono (by decide)) (by rfl) (a_cons (q_ixk 1 (qv 0 (pv 0))) (a_cons (q_ixk 1 (qv 1 (pv 1))) a_nil))))))))
 (ss_one (s_ret q_non))
 ss_nil)
 (ss_one (s_ret (q_ixk 1 (qv 2 (pv 2))))))), fun ds S Q E h => ?_⟩)
  · obtain ⟨a, b, rfl, _⟩ := h
    rfl
  · obtain ⟨l, m, rfl, hl, hm, q⟩ := h
    unfold pst at q
    rw [st_passing_time]
    walk_at "d"
    refine ⟨l, m, rfl, hl, hm, ?_⟩
    by_cases e : l.2 = m.2
    · rw [if_neg (by grind)] at q
      rcases meet_eq e with h | h
      all_goals
        rw [h]
        unfold eMt
        walk_at "d"
        exact ⟨_, .refl _, q⟩
    · rw [meet_ne e]
      unfold eMt
      walk_at "d"
      refine ⟨_, _, rfl, hl.2.le (by decide), hm.2.le (by decide), ?_⟩
      refine cnd_dec (fun c => ?_) (fun c => ?_)
      · rw [if_pos c] at q
        walk_at "d"
        exact ⟨_, .refl _, q⟩
      · rw [if_neg c] at q
        exact ⟨_, .refl _, q⟩
def sp_put_in : Sp2 := fun ds S Q _ => ∃ (f : Addr) (E : List GI) (t : Rat) (p : Pr) (S0 : Sto), ds = [.ref f, eQ t, eP2 p] ∧ GrpM S f E ∧ GrpF S0 f E ∧ Sub S0 S ∧ E.length < 900 ∧ (∀ x ∈ E, Nz 1210 x.t) ∧ (∀ x ∈ E, x.ps.length < 900) ∧ Nz 1210 t ∧ Inc ((toC E).map (·.1)) ∧
  ∀ S' E', Sub S0 S' → GrpM S' f E' → GrpF S0 f E' → Put (toC E) t p (toC E') → Q .non S'
theorem st_put_in (x0 x1 x2 : DL.D) : start2 N_put_in [x0, x1, x2] = [some x0, some x1, some x2, none] := rfl
set_option maxHeartbeats 8000000 in
theorem ok_put_in (T : Txt K mg) : Fn P w K mg base 2 "put_in" sp_put_in := by
  refine fn_intro2 T.f_put_in sc_put_in (fun ds S Q E h => ?_) (fun cdv A outer s H E f hr => ⟨_, (ss_cons (s_set 3 sc_put_in.nd rfl (by first | exact .inl rfl | exact .inr rfl) (.inl rfl) q_int)
 (ss_cons (s_while .never (PW.pt (w_and (t_lt (qv 3 (pv 3)) (q_len T.b_len (by rfl) (a_cons (qv 0 (pv 0)) a_nil))) (w_and1 (t_val (q_call (ok_is_less T) (hr.mono (by decide)) (by rfl) (a_cons (q_ixk 0 (q_ixg (fun _ _ => rfl) (qv 0 (pv 0)) (qv 3 (pv 3)))) (a_cons (qv 1 (pv 1)) a_nil)))))))
 (ss_one (s_set 3 sc_put_in.nd rfl (by first | exact .inl rfl | exact .inr rfl) (.inl rfl) (q_add (qv 3 (pv 3)) q_int))))
 (ss_cons (s_if (PW.pt (w_or (t_eq hr (qv 3 (pv 3)) (q_len T.b_len (by rfl) (a_cons (qv 0 (pv 0)) a_nil))) (w_or1 (t_ne hr (q_ixk 0 (q_ixg (fun _ _ => rfl) (qv 0 (pv 0)) (qv 3 (pv 3)))) (qv 1 (pv 1))))))
 (ss_one (s_expr (q_insert (qv 0 (pv 0)) (a_cons (qv 3 (pv 3)) (a_cons (q_tup (a_cons (qv 1 (pv 1)) (a_cons (q_lst a_nil) a_nil))) a_nil)))))
 ss_nil)
 (ss_one (s_expr (q_append (q_ixk 1 (q_ixg (fun _ _ => rfl) (qv 0 (pv 0)) (qv 3 (pv 3)))) (a_cons (qv 2 (pv 2)) a_nil))))))), fun ds S Q E h => ?_⟩)
  · obtain ⟨_, _, _, _, _, rfl, _⟩ := h
    rfl
  · obtain ⟨f, E, t, p, S0, rfl, hM, hF, s0, hE, zE, hps, zt, inc, q⟩ := h
    have hst := hM.st
    have inc' := toC_inc inc
    rw [st_put_in]
    walk_at "d"
    refine ⟨fun m τ S' => S = S' ∧ ∃ k, m = E.length - k ∧ k ≤ E.length ∧ (∀ x ∈ E.take k, x.t < t) ∧ τ = [some (.ref f), some (eQ t), some (eP2 p), some (.int (k : Int))], ⟨_, rfl, 0, rfl, Nat.zero_le _, by simp, rfl⟩, ?_⟩
    rintro m τ S' ⟨rfl, k, rfl, hk, hlt, rfl⟩
    walk_at "f"
    have ins : (∀ x ∈ E.drop k, t < x.t) → ∀ b, S b = none → Q .non (ups (ups (ups S b (.lst [])) f (.lst ((E.map eG).take k ++ [.tup [eQ t, .ref b]] ++ (E.map eG).drop k))) b (.lst [eP2 p])) := fun h2 b nb => by
      have hM2 := hM.ins (k := k) (t := t) nb hF.ne (ps := [p])
      rw [← map_ins (f := eG)] at hM2
      have nb0 := s0.miss nb
      have hfb : f ≠ b := ne_of_st hst nb
      refine q _ _ ?_ hM2 (hF.ins nb0 fun z => ?_) (.inl ⟨k, toC_ins, fun x hx => ?_, fun x hx => ?_⟩)
      · exact ((s0.own nb0).own (hF.fr f (by simp))).own nb0
      · rcases List.mem_cons.mp z with z | z
        · exact hfb z.symm
        · obtain ⟨x, hx, e⟩ := List.mem_map.mp z
          exact ne_of_st (hM.at_ x hx) nb e
      · rw [toC_take] at hx
        obtain ⟨y, hy, rfl⟩ := List.mem_map.mp hx
        exact hlt y hy
      · rw [toC_drop] at hx
        obtain ⟨y, hy, rfl⟩ := List.mem_map.mp hx
        exact h2 y hy
    have app : ∀ (h : k < E.length), E[k].t = t → Q .non (ups S E[k].a (.lst (E[k].ps.map eP2 ++ [eP2 p]))) := fun h e => by
      have hM2 := hM.app hF h (ps := E[k].ps ++ [p])
      rw [List.map_append] at hM2
      refine q _ _ (s0.own (hF.fr _ (List.mem_cons_of_mem _ (List.mem_map.mpr ⟨_, List.getElem_mem h, rfl⟩)))) hM2 (hF.app h) (.inr ⟨k, by rw [toC_len]; exact h, ?_, ?_⟩)
      · rw [toC_get h]; exact e
      · rw [toC_set, toC_get h, e]
    have blk : (∀ x ∈ E.drop k, t < x.t) → (∃ xs, some (DL.O.lst (List.map eG E)) = some (DL.O.lst xs)) ∧ ∀ b : Addr, S b = none → getO (ups S b (.lst []) f) fun xs => xs.length < sizeLine ∧ (0 ≤ (k : Int) ∧ (k : Int) < 9223372036854775808) ∧
        onS (atI (List.take k xs ++ [DL.D.tup [eQ t, .ref b]] ++ List.drop k xs) (k : Int)) fun x => ixkQ 1 x (ups (ups S b (.lst [])) f (.lst (List.take k xs ++ [DL.D.tup [eQ t, .ref b]] ++ List.drop k xs))) fun x S1 => isL S1 x ∧ rAppend2 x [eP2 p] S1 fun x S1 => ∃ S0, DL.Sub S0 S1 ∧ Q .non S0 := fun h2 => by
      refine ⟨⟨_, rfl⟩, fun b nb => ?_⟩
      have hfb : f ≠ b := ne_of_st hst nb
      have z := ins h2 b nb
      rw [ups_ne hfb, hst]
      walk_at "d"
      refine ⟨small1000 (by omega), by omega, ?_⟩
      rw [atI_nat (j := k) (v := DL.D.tup [eQ t, .ref b]) (by rw [List.append_assoc, List.getElem?_append_right (by rw [List.length_take, List.length_map]; omega), List.length_take, List.length_map, Nat.min_eq_left hk, Nat.sub_self]; rfl)]
      walk_at "d"
      rw [ups_ne hfb.symm, ups_same]
      walk_at "d"
      exact ⟨⟨_, rfl⟩, by decide, _, .refl _, z⟩
    refine cnd_dec (fun c => ?_) (fun c => ?_)
    · have ek : atI (E.map eG) (k : Int) = some (eG E[k]) := atI_nat (by rw [List.getElem?_map, List.getElem?_eq_getElem c]; rfl)
      rw [ek]
      walk_at "d"
      refine ⟨_, _, rfl, (zE _ (List.getElem_mem c)).le (by decide), zt.le (by decide), ?_⟩
      refine cnd_dec (fun c2 => ?_) (fun c2 => ?_)
      · refine ⟨E.length - (k + 1), by omega, rfl, k + 1, rfl, by omega, fun x hx => ?_, by rfl⟩
        rw [take_snoc (List.getElem?_eq_getElem c)] at hx
        rcases List.mem_append.mp hx with hx | hx
        · exact hlt x hx
        · rw [List.mem_singleton.mp hx]; exact c2
      · walk_at "f"
        refine cnd_dec (fun c3 => by omega) (fun _ => ?_)
        refine cnd_dec (fun c3 => ?_) (fun c3 => ?_)
        · refine ⟨⟨_, hM.at_ _ (List.getElem_mem c)⟩, getO_of (hM.at_ _ (List.getElem_mem c)) ⟨?_, _, .refl _, app c c3⟩⟩
          rw [List.length_map]
          exact small1000 (by have := hps _ (List.getElem_mem c); omega)
        · refine blk fun x hx => ?_
          have l1 : (E.map (·.t)).length = E.length := List.length_map ..
          refine inc_after (k := k) inc' (by omega) (t := t) (by rw [List.getElem_map]; grind) x.t ?_
          rw [← List.map_drop]
          exact List.mem_map.mpr ⟨x, hx, rfl⟩
    · walk_at "f"
      refine cnd_dec (fun _ => ?_) (fun c3 => ?_)
      · exact blk fun x hx => by rw [List.drop_eq_nil_of_le (by omega)] at hx; cases hx
      · exact absurd (by omega) c3
def sp_changes : Sp2 := fun ds S Q _ => ∃ (p : Addr) (L : List Ln) (lo hi : Rat), ds = [.ref p, eQ lo, eQ hi] ∧ LA S p L ∧ Nz 3000 lo ∧ Nz 3000 hi ∧ ∀ S' f E, Sub S S' → GrpM S' f E → GrpF S f E → IsGrp (tmW L lo hi) (allP L.length) (toC E) → Q (.ref f) S'
theorem st_changes (x0 x1 x2 : DL.D) : start2 N_changes [x0, x1, x2] = [some x0, some x1, some x2, none, none, none, none] := rfl
set_option maxHeartbeats 8000000 in
theorem ok_changes (T : Txt K mg) : Fn P w K mg base 6 "changes" sp_changes := by
  refine fn_intro2 T.f_changes sc_changes (fun ds S Q E h => ?_) (fun cdv A outer s H E f hr => ⟨_, (ss_cons (s_set 3 sc_changes.nd rfl (by first | exact .inl rfl | exact .inr rfl) (.inl rfl) (q_lst a_nil))
 (ss_cons (s_for .never rfl (i_rng1 T.b_range (by rfl) (a_cons (q_len T.b_len (by rfl) (a_cons (qv 0 (pv 0)) a_nil)) a_nil)) (g_name (i := 4) sc_changes.nd rfl (by first | exact .inl rfl | exact .inr rfl) (.inl rfl))
 (ss_one (s_for .never rfl (i_rng1 T.b_range (by rfl) (a_cons (q_len T.b_len (by rfl) (a_cons (qv 0 (pv 0)) a_nil)) a_nil)) (g_name (i := 5) sc_changes.nd rfl (by first | exact .inl rfl | exact .inr rfl) (.inl rfl))
 (ss_cons (s_set 6 sc_changes.nd rfl (by first | exact .inl rfl | exact .inr rfl) (.inl rfl) (q_call (ok_passing_time T) (hr.mono (by decide)) (by rfl) (a_cons (q_ixg (fun _ _ => rfl) (qv 0 (pv 0)) (qv 4 (pv 4))) (a_cons (q_ixg (fun _ _ => rfl) (qv 0 (pv 0)) (qv 5 (pv 5))) a_nil))))
 (ss_one (s_if (PW.pt (w_and (t_isnot (qv 6 (pv 6)) q_non) (w_and (t_val (q_call (ok_is_less T) (hr.mono (by decide)) (by rfl) (a_cons (qv 1 (pv 1)) (a_cons (qv 6 (pv 6)) a_nil)))) (w_and1 (t_not (t_val (q_call (ok_is_less T) (hr.mono (by decide)) (by rfl) (a_cons (qv 2 (pv 2)) (a_cons (qv 6 (pv 6)) a_nil)))))))))
 (ss_one (s_expr (q_call (ok_put_in T) (hr.mono (by decide)) (by rfl) (a_cons (qv 3 (pv 3)) (a_cons (qv 6 (pv 6)) (a_cons (q_tup (a_cons (qv 4 (pv 4)) (a_cons (qv 5 (pv 5)) a_nil))) a_nil))))))
 ss_nil))))))
 (ss_one (s_ret (qv 3 (pv 3)))))), fun ds S Q E h => ?_⟩)
  · obtain ⟨_, _, _, _, rfl, _⟩ := h
    rfl
  · obtain ⟨p, L, lo, hi, rfl, hL, zl, zh, q⟩ := h
    have hst := hL.st
    have hsz := hL.sz
    rw [st_changes]
    walk_at "d"
    intro f nf
    have hpf := hL.ne nf
    have s0 : Sub S (ups S f (.lst [])) := Sub.drop nf
    have hM0 : GrpM (ups S f (.lst [])) f [] := ⟨ups_same, fun _ h => (by cases h)⟩
    have hF0 : GrpF S f [] := ⟨by simp, fun b hb => by simp at hb; subst hb; exact nf⟩
    walk_at "f"
    generalize ups S f (.lst []) = S1 at *
    refine ⟨by omega, ?_⟩
    refine loop_r0 (fun i τ S' => Sub S S' ∧ (∃ E, GrpM S' f E ∧ GrpF S f E ∧ IsGrp (tmW L lo hi) (pref L.length i 0) (toC E)) ∧ ∃ v4 v5 v6, τ = [some (.ref p), some (eQ lo), some (eQ hi), some (.ref f), v4, v5, v6]) ⟨s0, ⟨[], hM0, hF0, .nil⟩, _, _, _, rfl⟩ ?_ ?_
    · rintro i τ S2 hi' ⟨s2, ⟨E, hM, hF, hG⟩, v4, v5, v6, rfl⟩
      have hst2 := (hL.sub s2).st
      walk_at "f"
      refine ⟨by omega, ?_⟩
      refine loop_r0 (fun j τ S' => Sub S S' ∧ (∃ E, GrpM S' f E ∧ GrpF S f E ∧ IsGrp (tmW L lo hi) (pref L.length i j) (toC E)) ∧ ∃ v5 v6, τ = [some (.ref p), some (eQ lo), some (eQ hi), some (.ref f), some (.int (i : Int)), v5, v6]) ⟨s2, ⟨E, hM, hF, hG⟩, _, _, rfl⟩ ?_ ?_
      · rintro j τ S3 hj ⟨s3, ⟨E, hM, hF, hG⟩, v5, v6, rfl⟩
        have hL3 := hL.sub s3
        have hst3 := hL3.st
        walk_at "f"
        refine ⟨ln L i, ln L j, rfl, hL.at hi', hL.at hj, ?_⟩
        rw [pref_succ]
        have pl := pref_len L.length i j
        have pb : i * L.length + j ≤ 420 := by
          have : i * L.length ≤ 20 * 20 := Nat.mul_le_mul (by omega) hsz
          omega
        have gl := hG.len
        rw [toC_len, pl] at gl
        have zE := hG.nz (n := L.length) (fun p hp => by rcases pref_mem hp (by omega) with h | h <;> omega) fun p t h1 h2 e => tmW_nz hL.ok h1 h2 e
        have zp := hG.psl
        have skip : tmW L lo hi (i, j) = none → Sub S S3 ∧ (∃ E, GrpM S3 f E ∧ GrpF S f E ∧ IsGrp (tmW L lo hi) (pref L.length i j ++ [(i, j)]) (toC E)) := fun e => ⟨s3, E, hM, hF, hG.skip e⟩
        by_cases c : (ln L i).2 < (ln L j).2
        · have zm : Nz 1210 (met (ln L i) (ln L j)) := (hL.at hi').met (hL.at hj) (fun z => by grind)
          rw [show pst (ln L i) (ln L j) = some (met (ln L i) (ln L j)) from if_pos c]
          walk_at "d"
          refine ⟨_, _, rfl, zl.le (by decide), zm.le (by decide), ?_⟩
          refine cnd_dec (fun c2 => ?_) (fun c2 => ?_)
          · refine ⟨_, _, rfl, zh.le (by decide), zm.le (by decide), ?_⟩
            refine cnd_dec (fun c3 => ?_) (fun c3 => ?_)
            · obtain ⟨k1, k2⟩ := skip (if_neg fun z => z.2.2 c3)
              exact ⟨k1, k2, _, _, rfl⟩
            · walk_at "d"
              refine ⟨f, E, met (ln L i) (ln L j), (i, j), S, rfl, hM, hF, s3, by omega, zE, fun x hx => by have := zp x hx; omega, zm, hG.inc, fun S4 E4 s4 hM4 hF4 put => ?_⟩
              exact ⟨s4, ⟨E4, hM4, hF4, hG.put (if_pos ⟨c, c2, c3⟩) put⟩, _, _, rfl⟩
          · obtain ⟨k1, k2⟩ := skip (if_neg fun z => c2 z.2.1)
            exact ⟨k1, k2, _, _, rfl⟩
        · rw [show pst (ln L i) (ln L j) = none from if_neg c]
          walk_at "d"
          obtain ⟨k1, k2⟩ := skip (if_neg fun z => c z.1)
          exact ⟨k1, k2, _, _, rfl⟩
      · rintro τ S3 ⟨s3, ⟨E, hM, hF, hG⟩, v5, v6, rfl⟩
        rw [pref_row] at hG
        exact ⟨s3, ⟨E, hM, hF, hG⟩, _, _, _, rfl⟩
    · rintro τ S2 ⟨s2, ⟨E, hM, hF, hG⟩, v4, v5, v6, rfl⟩
      walk_at "d"
      exact ⟨_, .refl _, q S2 f E s2 hM hF hG⟩
def sp_l_changes_right : Sp2 := fun ds S Q _ => ∃ (p p' : Addr) (L : List Ln) (lo hi : Rat), ds = [.ref p, .ref p', eQ lo, eQ hi] ∧ LA S p L ∧ LA S p' (mir L) ∧ L.length ≤ 6 ∧ Nz 1300 lo ∧ Nz 1300 hi ∧ ∀ S', Sub S S' → Q (.bl true) S'
theorem st_l_changes_right (x0 x1 x2 x3 : DL.D) : start2 N_l_changes_right [x0, x1, x2, x3] = [some x0, some x1, some x2, some x3, none, none, none, none, none, none, none] := rfl
set_option maxHeartbeats 8000000 in
theorem ok_l_changes_right (T : Txt K mg) : Fn P w K mg base 7 "_law_changes_right" sp_l_changes_right := by
  refine fn_intro2 T.f_l_changes_right sc_l_changes_right (fun ds S Q E h => ?_) (fun cdv A outer s H E f hr => ⟨_, (ss_cons (s_setLc [9] (own := [("_law_one", 9)]) 4 rfl sc_l_changes_right.nd rfl rfl (sw_true rfl rfl rfl (by decide +kernel)) (i_val (q_call (ok_changes T) (hr.mono (by decide)) (by rfl) (a_cons (qv 0 (pv 0)) (a_cons (qv 2 (pv 2)) (a_cons (qv 3 (pv 3)) a_nil))))) (blkOk_by (N := N_l_changes_right) (sc := defScope s_l_changes_right) (by decide +kernel)) rfl (by decide) (fun _ _ _ _ _ => (g_name (i := 9) sc_l_changes_right.nd rfl (.inl rfl) (.inr rfl))) (fun _ _ _ _ _ => (ts_one (t_ne hr (q_ixk 0 (qv 9 (pv 9))) (qv 3 (pv 3))))) (fun _ _ _ _ _ => (qv 9 (pv 9))))
 (ss_cons (s_set 5 sc_l_changes_right.nd rfl (by first | exact .inl rfl | exact .inr rfl) (.inl rfl) (q_lst a_nil))
 (ss_cons (s_for .never rfl (i_val (q_rev (qv 4 (pv 4)))) (g_tup (n := 2) rfl (gs_cons (g_name (i := 6) sc_l_changes_right.nd rfl (by first | exact .inl rfl | exact .inr rfl) (.inl rfl)) (gs_cons (g_name (i := 7) sc_l_changes_right.nd rfl (by first | exact .inl rfl | exact .inr rfl) (.inl rfl)) gs_nil)))
 (ss_one (s_expr (q_append (qv 5 (pv 5)) (a_cons (q_tup (a_cons (q_call (ok_l_below T) (hr.mono (by decide)) (by rfl) (a_cons (qv 6 (pv 6)) a_nil)) (a_cons (q_sortedP T.b_sorted (by rfl) (a_cons (q_lc [9, 10] (own := [("_law_one", 9), ("_law_other", 10)]) rfl sc_l_changes_right.nd (i_val (qv 7 (pv 7))) (blkOk_by (N := N_l_changes_right) (sc := defScope s_l_changes_right) (by decide +kernel)) rfl (by decide) (fun _ _ _ _ _ => (g_tup (n := 2) rfl (gs_cons (g_name (i := 9) sc_l_changes_right.nd rfl (.inl rfl) (.inr rfl)) (gs_cons (g_name (i := 10) sc_l_changes_right.nd rfl (.inl rfl) (.inr rfl)) gs_nil)))) (fun _ _ _ _ _ => ts_nil) (fun _ _ _ _ _ => (q_tup (a_cons (qv 10 (pv 10)) (a_cons (qv 9 (pv 9)) a_nil))))) a_nil)) a_nil))) a_nil)))))
 (ss_cons (s_set 8 sc_l_changes_right.nd rfl (by first | exact .inl rfl | exact .inr rfl) (.inl rfl) (q_call (ok_changes T) (hr.mono (by decide)) (by rfl) (a_cons (qv 1 (pv 1)) (a_cons (q_call (ok_l_below T) (hr.mono (by decide)) (by rfl) (a_cons (qv 3 (pv 3)) a_nil)) (a_cons (q_call (ok_l_below T) (hr.mono (by decide)) (by rfl) (a_cons (qv 2 (pv 2)) a_nil)) a_nil)))))
 (ss_one (s_ret (q_eq hr (q_lc [9] (own := [("_law_one", 9)]) rfl sc_l_changes_right.nd (i_val (qv 8 (pv 8))) (blkOk_by (N := N_l_changes_right) (sc := defScope s_l_changes_right) (by decide +kernel)) rfl (by decide) (fun _ _ _ _ _ => (g_name (i := 9) sc_l_changes_right.nd rfl (.inl rfl) (.inr rfl))) (fun _ _ _ _ _ => (ts_one (t_ne hr (q_ixk 0 (qv 9 (pv 9))) (q_call (ok_l_below T) (hr.mono (by decide)) (by rfl) (a_cons (qv 2 (pv 2)) a_nil))))) (fun _ _ _ _ _ => (qv 9 (pv 9)))) (qv 5 (pv 5))))))))), fun ds S Q E h => ?_⟩)
  · obtain ⟨_, _, _, _, _, rfl, _⟩ := h
    rfl
  · obtain ⟨p, p', L, lo, hi, rfl, hL, hA, hl, zlo, zhi, q⟩ := h
    have hst := hL.st
    rw [st_l_changes_right]
    walk_at "f"
    refine ⟨p, L, lo, hi, rfl, hL, zlo.le (by decide), zhi.le (by decide), fun S1 f E s1 hM hF hG => ?_⟩
    have hf := hM.st
    have pb : ∀ x ∈ E, ∀ p ∈ x.ps, p.1 < L.length ∧ p.2 < L.length := fun x hx p hp => by
      have := hG.grp (x.t, x.ps) (List.mem_map.mpr ⟨x, hx, rfl⟩)
      simp only at this
      rw [this] at hp
      exact allP_mem.mp (List.mem_filter.mp hp).1
    have al : (allP L.length).length ≤ 36 := by
      unfold allP; rw [pref_len]
      have : L.length * L.length ≤ 6 * 6 := Nat.mul_le_mul hl hl
      omega
    have psl := hG.psl
    have el := hG.len
    rw [toC_len] at el
    walk_at "f"
    refine lc_map (α := GI) (e := eG) (fun x => if (!decide (x.t = hi)) = true then some (eG x) else none) (by omega) (fun _ s => s _ _ hf) (fun x hx S3 s3 N Y hN hY => ?_) (fun g ng => ?_)
    · walk_at "d"
      refine cnd_dec (fun c => hN (if_neg (by simp [c])) _ (.refl _)) (fun c => hY _ (if_pos (by simp [c])) _ (.refl _))
    rw [filterMap_if]
    have hG1 := grp_short hG
    have eF : (toC E).filter (fun x => !decide (x.1 = hi)) = toC (E.filter fun x => !decide (x.t = hi)) := toC_filter (fun t => !decide (t = hi)) E
    rw [eF] at hG1
    have subF : ∀ x ∈ E.filter (fun x => !decide (x.t = hi)), x ∈ E := fun x hx => (List.mem_filter.mp hx).1
    have lF : (E.filter fun x => !decide (x.t = hi)).length ≤ E.length := List.length_filter_le _ _
    generalize E.filter (fun x => !decide (x.t = hi)) = F at *
    have hM1 := hM.sub (Sub.drop (o := .lst (F.map eG)) ng)
    have hA1 := (hA.sub s1).sub (Sub.drop (o := .lst (F.map eG)) ng)
    have s2 := s1.trans (Sub.drop (o := .lst (F.map eG)) ng)
    have hg1 : ups S1 g (.lst (F.map eG)) g = some (.lst (F.map eG)) := ups_same
    generalize ups S1 g (.lst (F.map eG)) = S2 at *
    walk_at "f"
    intro d nd
    have nd0 := s2.miss nd
    have s3 := s2.trans (Sub.drop (o := .lst []) nd)
    have hM3 := hM1.sub (Sub.drop (o := .lst []) nd)
    have hA3 := hA1.sub (Sub.drop (o := .lst []) nd)
    have hg3 := Sub.drop (o := .lst []) nd _ _ hg1
    have hd3 : ups S2 d (.lst []) d = some (.lst []) := ups_same
    have npd := hA1.ne nd
    have nad : ∀ x ∈ E, x.a ≠ d := fun x hx => ne_of_st (hM1.at_ x hx) nd
    have nfd : f ≠ d := ne_of_st hM1.st nd
    generalize ups S2 d (.lst []) = S3 at *
    walk_at "f"
    intro r nr
    have s4 := s3.trans (Sub.drop (o := .lst (F.map eG).reverse) nr)
    have hM4 := hM3.sub (Sub.drop (o := .lst (F.map eG).reverse) nr)
    have hA4 := hA3.sub (Sub.drop (o := .lst (F.map eG).reverse) nr)
    have hd4 := Sub.drop (o := .lst (F.map eG).reverse) nr _ _ hd3
    have hr4 : ups S3 r (.lst (F.map eG).reverse) r = some (.lst (F.reverse.map eG)) := by rw [ups_same, List.map_reverse]
    have nrd : r ≠ d := fun z => by rw [z, hd3] at nr; cases nr
    generalize ups S3 r (.lst (F.map eG).reverse) = S4 at *
    rw [← List.map_reverse]
    refine loop_inv (α := GI) (e := eG) (xs := F.reverse) (fun dn rr τ S' => Sub S S' ∧ GrpM S' f E ∧ LA S' p' (mir L) ∧ S' r = some (.lst (F.reverse.map eG)) ∧ (∃ D : List GI, GrpM S' d D ∧ (∀ x ∈ D, x.a ≠ d) ∧ (toC D).map (·.1) = dn.map (fun x => -x.t) ∧ ∀ x ∈ toC D, ∃ y ∈ toC F, x.1 = -y.1 ∧ x.2.Perm (y.2.map swP) ∧ x.2.Pairwise lexP) ∧ ∃ v6 v7 v8 v9 v10, τ = [some (.ref p), some (.ref p'), some (eQ lo), some (eQ hi), some (.ref g), some (.ref d), v6, v7, v8, v9, v10]) ⟨s4, hM4, hA4, hr4, ⟨[], ⟨hd4, fun _ h => (by cases h)⟩, fun _ h => (by cases h), rfl, fun _ h => (by cases h)⟩, _, _, _, _, _, rfl⟩ (fun _ _ _ _ _ w => w.2.2.2.1) ?_ ?_
    · rintro dn x rr τ S5 ex ⟨s5, hM5, hA5, hr5, ⟨D, hD5, hDd, eD, rD⟩, v6, v7, v8, v9, v10, rfl⟩
      have hxF : x ∈ F := List.mem_reverse.mp (by rw [← ex]; simp)
      have hx := subF x hxF
      have hx5 := hM5.at_ x hx
      have hd5 := hD5.st
      have xl := psl x hx
      have Dl : D.length ≤ 36 := by
        have h1 := congrArg List.length eD
        rw [List.length_map, List.length_map, toC_len] at h1
        have h2 := congrArg List.length ex
        simp only [List.length_append, List.length_reverse, List.length_cons] at h2
        omega
      walk_at "f"
      refine ⟨⟨_, rfl⟩, x.t, rfl, ?_⟩
      walk_at "f"
      refine lc_map (α := Pr) (e := eP2) (fun p => some (eP2 (swP p))) (by omega) (fun _ s => s _ _ hx5) (fun y hy S9 s9 N Y hN hY => ?_) (fun c nc => ?_)
      · walk_at "d"
        exact hY _ rfl _ (.refl _)
      have e3 : x.ps.filterMap (fun p => some (eP2 (swP p))) = (x.ps.map swP).map eP2 := by rw [List.filterMap_eq_map', List.map_map]; rfl
      rw [e3]
      walk_at "d"
      refine ⟨x.ps.map swP, rfl, by rw [List.length_map]; omega, fun z hz => ?_, fun qs pm pw b nb => ?_⟩
      · obtain ⟨y, hy, rfl⟩ := List.mem_map.mp hz
        have := pb x hx y hy
        unfold swP
        exact ⟨by simp only; omega, by simp only; omega⟩
      have s9 := (Sub.drop (o := .lst ((x.ps.map swP).map eP2)) nc).trans (Sub.drop (o := .lst (qs.map dP)) nb)
      have hb9 : ups (ups S5 c (.lst ((x.ps.map swP).map eP2))) b (.lst (qs.map dP)) b = some (.lst (qs.map eP2)) := ups_same
      have nbd : b ≠ d := fun z => by rw [z] at nb; rw [ups_ne (ne_of_st hd5 nc)] at nb; rw [hd5] at nb; cases nb
      have s59 := s5.trans s9
      generalize ups (ups S5 c (.lst ((x.ps.map swP).map eP2))) b (.lst (qs.map dP)) = S9 at *
      have hM9 := hM5.sub s9
      have hA9 := hA5.sub s9
      have hD9 := hD5.sub s9
      have hd9 := hD9.st
      have hr9 := s9 _ _ hr5
      have hn := hD9.snoc (t := -x.t) hDd hb9 nbd
      rw [List.map_append, List.map_cons, List.map_nil] at hn
      have hA10 : LA (ups S9 d (.lst (D.map eG ++ [.tup [eQ (-x.t), .ref b]]))) p' (mir L) := hA9.upd npd
      have hM10 : GrpM (ups S9 d (.lst (D.map eG ++ [.tup [eQ (-x.t), .ref b]]))) f E := ⟨by rw [ups_ne nfd]; exact hM9.st, fun y hy => by rw [ups_ne (nad y hy)]; exact hM9.at_ y hy⟩
      have s10 : Sub S (ups S9 d (.lst (D.map eG ++ [.tup [eQ (-x.t), .ref b]]))) := s59.own nd0
      walk_at "f"
      refine ⟨small1000 (by omega), ⟨D ++ [⟨-x.t, b, qs⟩], hn, fun y hy => ?_, ?_, fun y hy => ?_⟩, _, _, _, _, _, rfl⟩
      · rcases List.mem_append.mp hy with hy | hy
        · exact hDd y hy
        · rw [List.mem_singleton.mp hy]; exact nbd
      · unfold toC at *
        rw [List.map_append, List.map_append, List.map_append, eD]; rfl
      · unfold toC at *
        rw [List.map_append] at hy
        rcases List.mem_append.mp hy with hy | hy
        · exact rD y hy
        · rw [List.map_cons, List.map_nil, List.mem_singleton] at hy
          subst hy
          exact ⟨(x.t, x.ps), List.mem_map.mpr ⟨x, hxF, rfl⟩, rfl, pm, pw⟩
    · rintro τ S5 ⟨s5, hM5, hA5, hr5, ⟨D, hD5, hDd, eD, rD⟩, v6, v7, v8, v9, v10, rfl⟩
      walk_at "d"
      refine ⟨hi, rfl, ?_⟩
      refine ⟨lo, rfl, ?_⟩
      refine ⟨p', mir L, -hi, -lo, rfl, hA5, zhi.neg.le (by decide), zlo.neg.le (by decide), fun S6 f2 E2 s6 hM2 hF2 hG2 => ?_⟩
      have hf2 := hM2.st
      have hD6 := hD5.sub s6
      have el2 := hG2.len
      rw [toC_len, mir_len] at el2
      walk_at "f"
      refine lc_map (α := GI) (e := eG) (fun x => if (!decide (x.t = -lo)) = true then some (eG x) else none) (by omega) (fun _ s => s _ _ hf2) (fun x hx S3 s3 N Y hN hY => ?_) (fun h nh => ?_)
      · walk_at "d"
        refine ⟨lo, rfl, ?_⟩
        walk_at "d"
        refine cnd_dec (fun c => hN (if_neg (by simp [c])) _ (.refl _)) (fun c => hY _ (if_pos (by simp [c])) _ (.refl _))
      rw [filterMap_if]
      have hG3 := grp_short hG2
      have eG2 : (toC E2).filter (fun x => !decide (x.1 = -lo)) = toC (E2.filter fun x => !decide (x.t = -lo)) := toC_filter (fun t => !decide (t = -lo)) E2
      rw [eG2] at hG3
      have subG : ∀ x ∈ E2.filter (fun x => !decide (x.t = -lo)), x ∈ E2 := fun x hx => (List.mem_filter.mp hx).1
      generalize E2.filter (fun x => !decide (x.t = -lo)) = G at *
      have hM3 : GrpM (ups S6 h (.lst (G.map eG))) h G := ⟨ups_same, fun x hx => Sub.drop (o := .lst (G.map eG)) nh _ _ (hM2.at_ x (subG x hx))⟩
      have hD7 := hD6.sub (Sub.drop (o := .lst (G.map eG)) nh)
      have s7 := (s5.trans s6).trans (Sub.drop (o := .lst (G.map eG)) nh)
      generalize ups S6 h (.lst (G.map eG)) = S7 at *
      have e9 : toC G = toC D := hG3.uniq (grp_mir hG1 (by rw [eD, List.map_reverse]; unfold toC; rw [List.map_map]; rfl) rD)
      refine eq_rep hM3.rep hD7.rep ?_
      rw [decide_eq_true e9]
      exact ⟨_, .refl _, q _ s7⟩
def sp_l_less : Sp2 := fun ds S Q _ => ∃ a b : Rat, ds = [eQ a, eQ b] ∧ Nz 9000 a ∧ Nz 9000 b ∧ Q (.bl (decide (a < b))) S
theorem st_l_less (x0 x1 : DL.D) : start2 N_l_less [x0, x1] = [some x0, some x1] := rfl
set_option maxHeartbeats 8000000 in
theorem ok_l_less (T : Txt K mg) : Fn P w K mg base 1 "_law_less" sp_l_less := by
  refine fn_intro2 T.f_l_less sc_l_less (fun ds S Q E h => ?_) (fun cdv A outer s H E f hr => ⟨_, (ss_one (s_ret (q_lt (q_mul (q_ixk 0 (qv 0 (pv 0))) (q_ixk 1 (qv 1 (pv 1)))) (q_mul (q_ixk 0 (qv 1 (pv 1))) (q_ixk 1 (qv 0 (pv 0))))))), fun ds S Q E h => ?_⟩)
  · obtain ⟨a, b, rfl, _⟩ := h
    rfl
  · obtain ⟨a, b, rfl, ha, hb, q⟩ := h
    rw [st_l_less]
    walk_at "d"
    refine ⟨.inl ⟨_, _, ha.1, hb.2, by decide⟩, .inl ⟨_, _, hb.1, ha.2, by decide⟩, ?_⟩
    rw [lt_quo]
    exact ⟨S, .refl S, q⟩
def sp_l_lowest : Sp2 := fun ds S Q _ => match ds with
  | [.int t, .int b] => 0 < b ∧ Sz 9000 b ∧ Q (eQ ((t : Rat) / (b : Rat))) S
  | _ => False
theorem st_l_lowest (x0 x1 : DL.D) : start2 N_l_lowest [x0, x1] = [some x0, some x1, none, none] := rfl
set_option maxHeartbeats 8000000 in
theorem ok_l_lowest (T : Txt K mg) : Fn P w K mg base 1 "_law_lowest" sp_l_lowest := by
  refine fn_intro2 T.f_l_lowest sc_l_lowest (fun ds S Q E h => ?_) (fun cdv A outer s H E f hr => ⟨_, (ss_cons (s_set 2 sc_l_lowest.nd rfl (by first | exact .inl rfl | exact .inr rfl) (.inl rfl) (q_abs T.b_abs (by rfl) (a_cons (qv 0 (pv 0)) a_nil)))
 (ss_cons (s_set 3 sc_l_lowest.nd rfl (by first | exact .inl rfl | exact .inr rfl) (.inl rfl) (qv 1 (pv 1)))
 (ss_cons (s_while .never (t_gt (qv 3 (pv 3)) q_int)
 (ss_one (s_par 2 3 rfl sc_l_lowest.nd rfl rfl (by decide) rfl rfl (a_cons (qv 3 (pv 3)) (a_cons (q_mod (qv 2 (pv 2)) (qv 3 (pv 3))) a_nil)) (by rfl))))
 (ss_one (s_ret (q_tup (a_cons (q_fdiv (qv 0 (pv 0)) (qv 2 (pv 2))) (a_cons (q_fdiv (qv 1 (pv 1)) (qv 2 (pv 2))) a_nil)))))))), fun ds S Q E h => ?_⟩)
  ·   unfold sp_l_lowest at h
      split at h
      · rfl
      · exact h.elim
  · unfold sp_l_lowest at h
    split at h
    · rename_i t b
      obtain ⟨hb0, hs, q⟩ := h
      have hb : b ≠ 0 := by omega
      rw [st_l_lowest]
      walk_at "d"
      rw [abs_nat]
      refine ⟨fun m τ S' => ∃ x : Nat, τ = [some (.int t), some (.int b), some (.int (x : Nat)), some (.int (m : Nat))] ∧ S' = S ∧ Nat.gcd x m = Int.gcd t b, ⟨b.natAbs, t.natAbs, by rw [show ((b.natAbs : Nat) : Int) = b by omega], rfl, rfl⟩, ?_⟩
      rintro m τ S' ⟨x, rfl, rfl, e⟩
      walk_at "d"
      refine cnd_dec (fun hm => ?_) (fun hm => ?_)
      · refine ⟨by omega, x % m, Nat.mod_lt _ (by omega), m, ?_, ?_⟩
        · rw [fmod_nat]
        · rw [gcd_stepN]; exact e
      · have : m = 0 := by omega
        subst this
        rw [Nat.gcd_zero_right] at e
        subst e
        have e1 := low_num (t := t) hb
        have e2 := low_den (t := t) hb
        rw [if_neg (by omega)] at e1 e2
        rw [e1, e2]
        exact ⟨gcd_div_ok hb hs, gcd_div_ok hb hs, _, .refl _, q⟩
    · exact h.elim
def sp_l_spot : Sp2 := fun ds S Q _ => ∃ (l : Rat × Rat) (t : Rat), ds = [eL l, eQ t] ∧ Lz 400 l ∧ Nz 4000 t ∧ Q (eQ (at_ l t)) S
theorem st_l_spot (x0 x1 : DL.D) : start2 N_l_spot [x0, x1] = [some x0, some x1, none, none, none] := rfl
set_option maxHeartbeats 8000000 in
theorem ok_l_spot (T : Txt K mg) : Fn P w K mg base 2 "_law_spot" sp_l_spot := by
  refine fn_intro2 T.f_l_spot sc_l_spot (fun ds S Q E h => ?_) (fun cdv A outer s H E f hr => ⟨_, (ss_cons (s_asg (qv 0 (pv 0)) (g_tup (n := 2) rfl (gs_cons (g_name (i := 2) sc_l_spot.nd rfl (by first | exact .inl rfl | exact .inr rfl) (.inl rfl)) (gs_cons (g_name (i := 3) sc_l_spot.nd rfl (by first | exact .inl rfl | exact .inr rfl) (.inl rfl)) gs_nil))))
 (ss_cons (s_set 4 sc_l_spot.nd rfl (by first | exact .inl rfl | exact .inr rfl) (.inl rfl) (q_mul (q_mul (q_ixk 0 (qv 2 (pv 2))) (q_ixk 1 (qv 3 (pv 3)))) (q_ixk 1 (qv 1 (pv 1)))))
 (ss_cons (s_set 4 sc_l_spot.nd rfl (by first | exact .inl rfl | exact .inr rfl) (.inl rfl) (q_add (qv 4 (pv 4)) (q_mul (q_mul (q_ixk 0 (qv 3 (pv 3))) (q_ixk 0 (qv 1 (pv 1)))) (q_ixk 1 (qv 2 (pv 2))))))
 (ss_one (s_ret (q_call (ok_l_lowest T) (hr.mono (by decide)) (by rfl) (a_cons (qv 4 (pv 4)) (a_cons (q_mul (q_mul (q_ixk 1 (qv 2 (pv 2))) (q_ixk 1 (qv 3 (pv 3)))) (q_ixk 1 (qv 1 (pv 1)))) a_nil)))))))), fun ds S Q E h => ?_⟩)
  · obtain ⟨l, t, rfl, _⟩ := h
    rfl
  · obtain ⟨l, t, rfl, hl, ht, q⟩ := h
    rw [st_l_spot]
    walk_at "d"
    have a1 := hl.1.1.mul hl.2.2
    have a2 := hl.2.1.mul ht.1
    have a3 := hl.1.2.mul hl.2.2
    refine ⟨.inl ⟨_, _, hl.1.1, hl.2.2, by decide⟩, .inl ⟨_, _, a1, ht.2, by decide⟩, .inl ⟨_, _, hl.2.1, ht.1, by decide⟩, .inl ⟨_, _, a2, hl.1.2, by decide⟩, .inl ⟨_, _, hl.1.2, hl.2.2, by decide⟩, .inl ⟨_, _, a3, ht.2, by decide⟩, ?_⟩
    refine ⟨Int.mul_pos (Int.mul_pos (den_pos _) (den_pos _)) (den_pos _), (a3.mul ht.2).le (by decide), ?_⟩
    rw [spot_quo]
    exact ⟨S, .refl S, q⟩
def sp_l_level : Sp2 := fun ds S Q _ => ∃ (p : Addr) (L : List Ln) (t : Rat), ds = [.ref p, eQ t] ∧ LA S p L ∧ L.length ≤ 6 ∧ Nz 1300 t ∧ ∀ (c : Bool) S', Sub S S' → (c = false → NoLev L t) → Q (.bl c) S'
theorem st_l_level (x0 x1 : DL.D) : start2 N_l_level [x0, x1] = [some x0, some x1, none, none, none] := rfl
set_option maxHeartbeats 8000000 in
theorem ok_l_level (T : Txt K mg) : Fn P w K mg base 3 "_law_level" sp_l_level := by
  refine fn_intro2 T.f_l_level sc_l_level (fun ds S Q E h => ?_) (fun cdv A outer s H E f hr => ⟨_, (ss_cons (s_set 2 sc_l_level.nd rfl (by first | exact .inl rfl | exact .inr rfl) (.inl rfl) (q_sortSetK rfl hr (by rfl) T.b_sorted (by rfl) T.b_set (qv 0 (pv 0))))
 (ss_cons (s_setLc [4] (own := [("_law_line", 4)]) 3 rfl sc_l_level.nd rfl rfl (sw_true rfl rfl rfl (by decide +kernel)) (i_val (qv 2 (pv 2))) (blkOk_by (N := N_l_level) (sc := defScope s_l_level) (by decide +kernel)) rfl (by decide) (fun _ _ _ _ _ => (g_name (i := 4) sc_l_level.nd rfl (.inl rfl) (.inr rfl))) (fun _ _ _ _ _ => ts_nil) (fun _ _ _ _ _ => (q_call (ok_l_spot T) (hr.mono (by decide)) (by rfl) (a_cons (qv 4 (pv 4)) (a_cons (qv 1 (pv 1)) a_nil)))))
 (ss_one (s_ret (q_lt (q_lenSetT rfl hr (by rfl) T.b_len (by rfl) T.b_set (qv 3 (pv 3))) (q_len T.b_len (by rfl) (a_cons (qv 3 (pv 3)) a_nil))))))), fun ds S Q E h => ?_⟩)
  · obtain ⟨_, _, _, rfl, _⟩ := h
    rfl
  · obtain ⟨p, L, t, rfl, hL, hl, zt, q⟩ := h
    have hst := hL.st
    rw [st_l_level]
    walk_at "f"
    refine ⟨L.map pkL, by rw [List.map_map]; rfl, by rw [List.length_map]; omega, fun n b nd hn nb => ?_⟩
    obtain ⟨N, rfl, hN⟩ := from_map (f := pkL) (L := L) fun k hk => (hn k).mp hk
    have nl : N.length ≤ 6 := by
      have := nodup_sub nd fun k hk => (hn k).mp hk
      rw [List.length_map, List.length_map] at this
      omega
    have s1 : Sub S (ups S b (.lst ((N.map pkL).map ePK))) := Sub.drop nb
    have hb : ups S b (.lst ((N.map pkL).map ePK)) b = some (.lst (N.map eL)) := by rw [ups_same, List.map_map]; rfl
    have e0 : (N.map pkL).map ePK = N.map eL := by rw [List.map_map]; rfl
    rw [e0] at s1 hb ⊢
    generalize ups S b (.lst (N.map eL)) = S1 at *
    refine lc_map (α := Ln) (e := eL) (fun l => some (eQ (at_ l t))) (by omega) (fun _ s => s _ _ hb) (fun l hm S4 s4 M Y hM hY => ?_) (fun g ng => ?_)
    · walk_at "d"
      refine ⟨l, t, rfl, (hL.ok l (hN l hm)).le (by decide), zt.le (by decide), ?_⟩
      exact hY _ rfl _ (.refl _)
    have e1 : N.filterMap (fun l => some (eQ (at_ l t))) = (N.map fun l => at_ l t).map eQ := by rw [List.filterMap_eq_map', List.map_map]; rfl
    rw [e1]
    have s2 := s1.trans (Sub.drop (o := .lst ((N.map fun l => at_ l t).map eQ)) ng)
    have hg : ups S1 g (.lst ((N.map fun l => at_ l t).map eQ)) g = some (.lst ((N.map fun l => at_ l t).map eQ)) := ups_same
    generalize ups S1 g (.lst ((N.map fun l => at_ l t).map eQ)) = S2 at *
    walk_at "f"
    refine ⟨(N.map fun l => at_ l t).map klQ, by rw [klQ_map], by simp only [List.length_map]; omega, fun m md hm => ?_⟩
    walk_at "f"
    exact ⟨_, .refl _, q _ _ s2 fun c => no_level rfl hn md hm (of_decide_eq_false c)⟩
def sp_l_take : Sp2 := fun ds S Q _ => ∃ a sc m, ds = [.ref a, .int m] ∧ PenB S a sc ∧ 0 < m ∧ Sz 9000 m ∧ ∀ r x y, 0 ≤ r → r < m → Q (.int r) (ups S a (penP sc x y))
theorem st_l_take (x0 x1 : DL.D) : start2 N_l_take [x0, x1] = [some x0, some x1, none, none] := rfl
set_option maxHeartbeats 8000000 in
theorem ok_l_take (T : Txt K mg) : Fn P w K mg base 1 "_law_take" sp_l_take := by
  refine fn_intro2 T.f_l_take sc_l_take (fun ds S Q E h => ?_) (fun cdv A outer s H E f hr => ⟨_, (ss_cons (s_if (t_eq hr (q_ixk 0 (qv 0 (pv 0))) q_int)
 (ss_cons (s_asg (q_add (q_ixk 1 (qv 0 (pv 0))) q_int) (g_subk 1 (qv 0 (pv 0))))
 (ss_cons (s_set 2 sc_l_take.nd rfl (by first | exact .inl rfl | exact .inr rfl) (.inl rfl) q_int)
 (ss_cons (s_if (t_gt (q_len T.b_len (by rfl) (a_cons (q_ixk 2 (qv 0 (pv 0))) a_nil)) q_int)
 (ss_one (s_set 2 sc_l_take.nd rfl (by first | exact .inl rfl | exact .inr rfl) (.inl rfl) (q_ixg (fun _ _ => rfl) (q_ixk 2 (qv 0 (pv 0))) (q_mod (q_ixk 1 (qv 0 (pv 0))) (q_len T.b_len (by rfl) (a_cons (q_ixk 2 (qv 0 (pv 0))) a_nil))))))
 ss_nil)
 (ss_one (s_if (PW.pt (w_and (t_lt (q_ixk 1 (qv 0 (pv 0))) (q_len T.b_len (by rfl) (a_cons (q_ixk 2 (qv 0 (pv 0))) a_nil))) (w_and1 (t_ge (q_abs T.b_abs (by rfl) (a_cons (qv 2 (pv 2)) a_nil)) (q_powk 1000000000000000000 (by decide +kernel) (by decide +kernel))))))
 (ss_one (s_asg (q_abs T.b_abs (by rfl) (a_cons (qv 2 (pv 2)) a_nil)) (g_subk 0 (qv 0 (pv 0)))))
 (ss_cons (s_set 2 sc_l_take.nd rfl (by first | exact .inl rfl | exact .inr rfl) (.inl rfl) (q_mod (q_mul (q_add (q_add (q_mod (qv 2 (pv 2)) q_int) (q_mul q_int (q_ixk 1 (qv 0 (pv 0))))) q_int) q_int) q_int))
 (ss_one (s_ret (q_mod (q_fdiv (q_mod (q_mul (qv 2 (pv 2)) (q_add (q_add (q_mod (qv 2 (pv 2)) q_int) (q_ixk 1 (qv 0 (pv 0)))) q_int)) q_int) q_int) (qv 1 (pv 1)))))))))))
 ss_nil)
 (ss_cons (s_set 3 sc_l_take.nd rfl (by first | exact .inl rfl | exact .inr rfl) (.inl rfl) (q_mod (q_ixk 0 (qv 0 (pv 0))) (qv 1 (pv 1))))
 (ss_cons (s_asg (q_fdiv (q_ixk 0 (qv 0 (pv 0))) (qv 1 (pv 1))) (g_subk 0 (qv 0 (pv 0))))
 (ss_one (s_ret (qv 3 (pv 3))))))), fun ds S Q E h => ?_⟩)
  · obtain ⟨a, sc, m, rfl, _⟩ := h
    rfl
  · obtain ⟨a, sc, m, rfl, ⟨x0, y0, h0⟩, hm, hz, q⟩ := h
    unfold penP at h0
    rw [st_l_take]
    walk_at "f"
    refine cnd_dec (fun hx => ?_) (fun hx => ?_)
    · refine cnd_dec (fun hl => ?_) (fun hl => ?_)
      · have hl' : 0 < (sc.length : Int) := by omega
        obtain ⟨c, hc⟩ := atI_ints (sc := sc) (fmod_lt (a := y0 + 1) (m := (sc.length : Int)) hl').1 (fmod_lt hl').2
        refine ⟨by omega, ?_⟩
        rw [hc]
        walk_at "d"
        refine cnd_by (fun _ => cnd_by (fun _ => ?_) (fun _ => ?_)) (fun _ => ?_)
        · exact ⟨by omega, ⟨by omega, hz⟩, _, .refl _, q _ _ _ (fmod_lt hm).1 (fmod_lt hm).2⟩
        · exact ⟨.inr (.inl (Sz.lit (by decide))), .inr (.inr (Sz.lit (by decide))), .inr (.inl (Sz.fmod (by decide) (Sz.lit (by decide)))), divOk_lit (by decide) (by decide), by omega, _, .refl _, q _ _ _ (fmod_lt hm).1 (fmod_lt hm).2⟩
        · exact ⟨.inr (.inl (Sz.lit (by decide))), .inr (.inr (Sz.lit (by decide))), .inr (.inl (Sz.fmod (by decide) (Sz.lit (by decide)))), divOk_lit (by decide) (by decide), by omega, _, .refl _, q _ _ _ (fmod_lt hm).1 (fmod_lt hm).2⟩
      · refine cnd_by (fun _ => cnd_by (fun _ => ?_) (fun _ => ?_)) (fun _ => ?_)
        · exact ⟨by omega, ⟨by omega, hz⟩, _, .refl _, q _ _ _ (fmod_lt hm).1 (fmod_lt hm).2⟩
        · exact ⟨.inr (.inl (Sz.lit (by decide))), .inr (.inr (Sz.lit (by decide))), .inr (.inl (Sz.fmod (by decide) (Sz.lit (by decide)))), divOk_lit (by decide) (by decide), by omega, _, .refl _, q _ _ _ (fmod_lt hm).1 (fmod_lt hm).2⟩
        · exact ⟨.inr (.inl (Sz.lit (by decide))), .inr (.inr (Sz.lit (by decide))), .inr (.inl (Sz.fmod (by decide) (Sz.lit (by decide)))), divOk_lit (by decide) (by decide), by omega, _, .refl _, q _ _ _ (fmod_lt hm).1 (fmod_lt hm).2⟩
    · exact ⟨by omega, ⟨by omega, hz⟩, _, .refl _, q _ _ _ (fmod_lt hm).1 (fmod_lt hm).2⟩
def sp_l_number : Sp2 := fun ds S Q _ => ∃ a sc w, ds = [.ref a, .bl w] ∧ PenB S a sc ∧ ∀ q x y, Nz 80 q → (w = false → Nz 8 q) → Q (eQ q) (ups S a (penP sc x y))
theorem st_l_number (x0 x1 : DL.D) : start2 N_l_number [x0, x1] = [some x0, some x1, none, none] := rfl
set_option maxHeartbeats 8000000 in
theorem ok_l_number (T : Txt K mg) : Fn P w K mg base 2 "_law_number" sp_l_number := by
  refine fn_intro2 T.f_l_number sc_l_number (fun ds S Q E h => ?_) (fun cdv A outer s H E f hr => ⟨_, (ss_cons (s_set 2 sc_l_number.nd rfl (by first | exact .inl rfl | exact .inr rfl) (.inl rfl) (q_call (ok_l_take T) (hr.mono (by decide)) (by rfl) (a_cons (qv 0 (pv 0)) (a_cons (q_ixg (fun _ _ => rfl) (q_lst (a_cons q_int (a_cons q_int a_nil))) (q_int1 T.b_int (by rfl) (a_cons (qv 1 (pv 1)) a_nil))) a_nil))))
 (ss_cons (s_if (t_lt (qv 2 (pv 2)) q_int)
 (ss_one (s_ret (q_tup (a_cons (q_sub (q_call (ok_l_take T) (hr.mono (by decide)) (by rfl) (a_cons (qv 0 (pv 0)) (a_cons q_int a_nil))) q_int) (a_cons q_int a_nil)))))
 ss_nil)
 (ss_cons (s_if (t_eq hr (qv 2 (pv 2)) q_int)
 (ss_one (s_ret (q_call (ok_l_lowest T) (hr.mono (by decide)) (by rfl) (a_cons (q_sub (q_call (ok_l_take T) (hr.mono (by decide)) (by rfl) (a_cons (qv 0 (pv 0)) (a_cons q_int a_nil))) q_int) (a_cons (q_add q_int (q_call (ok_l_take T) (hr.mono (by decide)) (by rfl) (a_cons (qv 0 (pv 0)) (a_cons q_int a_nil)))) a_nil)))))
 ss_nil)
 (ss_cons (s_if (t_lt (qv 2 (pv 2)) q_int)
 (ss_one (s_ret (q_call (ok_l_lowest T) (hr.mono (by decide)) (by rfl) (a_cons (q_sub (q_call (ok_l_take T) (hr.mono (by decide)) (by rfl) (a_cons (qv 0 (pv 0)) (a_cons q_int a_nil))) q_int) (a_cons (q_add q_int (q_call (ok_l_take T) (hr.mono (by decide)) (by rfl) (a_cons (qv 0 (pv 0)) (a_cons q_int a_nil)))) a_nil)))))
 ss_nil)
 (ss_cons (s_set 3 sc_l_number.nd rfl (by first | exact .inl rfl | exact .inr rfl) (.inl rfl) (q_add (q_mul (q_call (ok_l_take T) (hr.mono (by decide)) (by rfl) (a_cons (qv 0 (pv 0)) (a_cons (q_powk 1000000000 (by decide +kernel) (by decide +kernel)) a_nil))) (q_powk 1000000000 (by decide +kernel) (by decide +kernel))) (q_call (ok_l_take T) (hr.mono (by decide)) (by rfl) (a_cons (qv 0 (pv 0)) (a_cons (q_powk 1000000000 (by decide +kernel) (by decide +kernel)) a_nil)))))
 (ss_one (s_ret (q_call (ok_l_lowest T) (hr.mono (by decide)) (by rfl) (a_cons (q_mul (qv 3 (pv 3)) (q_ixg (fun _ _ => rfl) (q_lst (a_cons q_int (a_cons (q_neg q_int) a_nil))) (q_call (ok_l_take T) (hr.mono (by decide)) (by rfl) (a_cons (qv 0 (pv 0)) (a_cons q_int a_nil))))) (a_cons (q_add q_int (q_call (ok_l_take T) (hr.mono (by decide)) (by rfl) (a_cons (qv 0 (pv 0)) (a_cons q_int a_nil)))) a_nil)))))))))), fun ds S Q E h => ?_⟩)
  · obtain ⟨a, sc, w, rfl, _⟩ := h
    rfl
  · obtain ⟨a, sc, w, rfl, hp, q⟩ := h
    rw [st_l_number]
    walk_at "d"
    intro p np
    have hne := hp.ne np
    obtain ⟨m, em, hm⟩ : ∃ m : Int, atI [DL.D.int 4, DL.D.int 7] (if w = true then 1 else 0) = some (.int m) ∧ (m = 4 ∨ m = 7) ∧ (w = false → m = 4) := by
      cases w
      · exact ⟨4, rfl, .inl rfl, fun _ => rfl⟩
      · exact ⟨7, rfl, .inr rfl, fun h => by cases h⟩
    rw [em]
    walk_at "d"
    have drop : ∀ (x y : Int), Sub (ups S a (penP sc x y)) (ups (ups S p (.lst [.int 4, .int 7])) a (penP sc x y)) := fun x y => Sub.upd (Sub.drop np)
    refine ⟨a, sc, _, rfl, hp.new np, by omega, (Sz.lit (m := 10) (by omega)).le (by decide), fun k x y k0 k1 => ?_⟩
    walk_at "d"
    refine cnd_dec (fun c => ?_) (fun c => cnd_dec (fun c2 => ?_) (fun c2 => cnd_dec (fun c3 => ?_) (fun c3 => ?_)))
    · refine ⟨a, sc, _, rfl, penB_again, by decide, Sz.lit (by decide), fun r x y r0 r1 => ?_⟩
      walk_at "d"
      exact ⟨_, drop _ _, q ((r - 3 : Int) : Rat) x y (Nz.lit (m := 79) (by omega)) (fun _ => Nz.lit (m := 7) (by omega))⟩
    · refine ⟨a, sc, _, rfl, penB_again, by decide, Sz.lit (by decide), fun r x y r0 r1 => ?_⟩
      walk_at "d"
      refine ⟨a, sc, _, rfl, penB_again, by decide, Sz.lit (by decide), fun b x y b0 b1 => ?_⟩
      walk_at "d"
      have z : Nz 8 (((r - 6 : Int) : Rat) / ((1 + b : Int) : Rat)) := Nz.quo2 (n := 8) (by omega) (Sz.lit (by omega)) (Sz.lit (by omega))
      exact ⟨by omega, (Sz.lit (m := 10) (by omega)).le (by decide), _, drop _ _, q _ _ _ (z.le (by decide)) (fun _ => z)⟩
    · refine ⟨a, sc, _, rfl, penB_again, by decide, Sz.lit (by decide), fun r x y r0 r1 => ?_⟩
      walk_at "d"
      refine ⟨a, sc, _, rfl, penB_again, by decide, Sz.lit (by decide), fun b x y b0 b1 => ?_⟩
      walk_at "d"
      have z : Nz 20 (((r - 1000 : Int) : Rat) / ((1 + b : Int) : Rat)) := Nz.quo2 (n := 20) (by omega) (Sz.lit (by omega)) (Sz.lit (by omega))
      exact ⟨by omega, (Sz.lit (m := 20) (by omega)).le (by decide), _, drop _ _, q _ _ _ (z.le (by decide)) (fun hw => by have := hm.2 hw; omega)⟩
    · refine ⟨a, sc, _, rfl, penB_again, by decide, Sz.lit (by decide), fun u x y u0 u1 => ?_⟩
      walk_at "d"
      refine ⟨.inr (.inr (Sz.lit (by decide))), ?_⟩
      refine ⟨a, sc, _, rfl, penB_again, by decide, Sz.lit (by decide), fun v x y v0 v1 => ?_⟩
      walk_at "d"
      intro p2 n2
      obtain ⟨h2a, n2⟩ := ups_no n2
      refine ⟨a, sc, _, rfl, PenB.upd penB_again (Ne.symm h2a), by decide, Sz.lit (by decide), fun w' x y w0 w1 => ?_⟩
      walk_at "d"
      rw [ups_ne h2a, ups_same]
      walk_at "d"
      rw [atI_get2 w0 w1]
      obtain ⟨s, es, hs⟩ : ∃ s : Int, (if w' = 0 then DL.D.int 1 else DL.D.int (-1)) = .int s ∧ s.natAbs = 1 := by
        split
        · exact ⟨1, rfl, rfl⟩
        · exact ⟨-1, rfl, rfl⟩
      rw [es]
      walk_at "d"
      refine ⟨.inr (.inr (Sz.lit (by omega))), a, sc, _, rfl, penB_again, by decide, Sz.lit (by decide), fun b x4 y4 b0 b1 => ?_⟩
      walk_at "d"
      refine ⟨by omega, (Sz.lit (m := 30) (by omega)).le (by decide), ups S a (penP sc x4 y4), ?_, q _ _ _ ((Nz.quo2 (n := 70) (by omega) (Sz.lit ?_) (Sz.lit (by omega))).le (by decide)) (fun hw => by have := hm.2 hw; omega)⟩
      · intro c o hc
        by_cases hca : c = a
        · subst hca; rw [ups_same] at hc ⊢; exact hc
        · rw [ups_ne hca] at hc ⊢
          have hc2 : c ≠ p2 := fun z => by subst z; rw [(ups_no n2).2] at hc; cases hc
          first
          | (rw [ups_ne hc2, ups_ne hca, ups_ne (ne_of_st hc np)]; exact hc)
          | (rw [ups_ne hc2, ups_ne (ne_of_st hc np)]; exact hc)
      · rw [Int.natAbs_mul, hs]
        omega
def sp_l_through : Sp2 := fun ds S Q _ => ∃ (t p m : Rat), ds = [eQ t, eQ p, eQ m] ∧ Nz 1000 t ∧ Nz 1000 p ∧ Nz 1000 m ∧ Q (eL (p - m * t, m)) S
theorem st_l_through (x0 x1 x2 : DL.D) : start2 N_l_through [x0, x1, x2] = [some x0, some x1, some x2, none] := rfl
set_option maxHeartbeats 8000000 in
theorem ok_l_through (T : Txt K mg) : Fn P w K mg base 2 "_law_through" sp_l_through := by
  refine fn_intro2 T.f_l_through sc_l_through (fun ds S Q E h => ?_) (fun cdv A outer s H E f hr => ⟨_, (ss_cons (s_set 3 sc_l_through.nd rfl (by first | exact .inl rfl | exact .inr rfl) (.inl rfl) (q_sub (q_mul (q_mul (q_ixk 0 (qv 1 (pv 1))) (q_ixk 1 (qv 2 (pv 2)))) (q_ixk 1 (qv 0 (pv 0)))) (q_mul (q_mul (q_ixk 0 (qv 2 (pv 2))) (q_ixk 0 (qv 0 (pv 0)))) (q_ixk 1 (qv 1 (pv 1))))))
 (ss_one (s_ret (q_tup (a_cons (q_call (ok_l_lowest T) (hr.mono (by decide)) (by rfl) (a_cons (qv 3 (pv 3)) (a_cons (q_mul (q_mul (q_ixk 1 (qv 1 (pv 1))) (q_ixk 1 (qv 2 (pv 2)))) (q_ixk 1 (qv 0 (pv 0)))) a_nil))) (a_cons (qv 2 (pv 2)) a_nil)))))), fun ds S Q E h => ?_⟩)
  · obtain ⟨a, b, c, rfl, _⟩ := h
    rfl
  · obtain ⟨t, p, m, rfl, ht, hp, hm, q⟩ := h
    rw [st_l_through]
    walk_at "d"
    have a1 := hp.1.mul hm.2
    have a2 := hm.1.mul ht.1
    have a3 := hp.2.mul hm.2
    refine ⟨.inl ⟨_, _, hp.1, hm.2, by decide⟩, .inl ⟨_, _, a1, ht.2, by decide⟩, .inl ⟨_, _, hm.1, ht.1, by decide⟩, .inl ⟨_, _, a2, hp.2, by decide⟩, .inl ⟨_, _, hp.2, hm.2, by decide⟩, .inl ⟨_, _, a3, ht.2, by decide⟩, ?_⟩
    refine ⟨Int.mul_pos (Int.mul_pos (den_pos _) (den_pos _)) (den_pos _), (a3.mul ht.2).le (by decide), ?_⟩
    rw [through_quo]
    exact ⟨S, .refl S, q⟩
def sp_l_lines : Sp2 := fun ds S Q _ => ∃ (a : Addr) (sc : List Int) (m : Nat), ds = [.ref a, .int (m : Int)] ∧ PenB S a sc ∧ m ≤ 10 ∧ ∀ S' p L, Fr S S' a → PenB S' a sc → S p = none → LA S' p L → L.length ≤ m → Q (.ref p) S'
theorem st_l_lines (x0 x1 : DL.D) : start2 N_l_lines [x0, x1] = [some x0, some x1, none, none, none, none, none, none, none, none] := rfl
set_option maxHeartbeats 8000000 in
theorem ok_l_lines (T : Txt K mg) : Fn P w K mg base 3 "_law_lines" sp_l_lines := by
  refine fn_intro2 T.f_l_lines sc_l_lines (fun ds S Q E h => ?_) (fun cdv A outer s H E f hr => ⟨_, (ss_cons (s_set 2 sc_l_lines.nd rfl (by first | exact .inl rfl | exact .inr rfl) (.inl rfl) (q_eq hr (q_call (ok_l_take T) (hr.mono (by decide)) (by rfl) (a_cons (qv 0 (pv 0)) (a_cons q_int a_nil))) q_int))
 (ss_cons (s_set 3 sc_l_lines.nd rfl (by first | exact .inl rfl | exact .inr rfl) (.inl rfl) (q_lst a_nil))
 (ss_cons (s_for .never rfl (i_rng1 T.b_range (by rfl) (a_cons (q_call (ok_l_take T) (hr.mono (by decide)) (by rfl) (a_cons (qv 0 (pv 0)) (a_cons (q_add (qv 1 (pv 1)) q_int) a_nil))) a_nil)) (g_name (i := 4) sc_l_lines.nd rfl (by first | exact .inl rfl | exact .inr rfl) (.inl rfl))
 (ss_cons (s_set 5 sc_l_lines.nd rfl (by first | exact .inl rfl | exact .inr rfl) (.inl rfl) (q_tup (a_cons (q_call (ok_l_number T) (hr.mono (by decide)) (by rfl) (a_cons (qv 0 (pv 0)) (a_cons (qv 2 (pv 2)) a_nil))) (a_cons (q_call (ok_l_number T) (hr.mono (by decide)) (by rfl) (a_cons (qv 0 (pv 0)) (a_cons (qv 2 (pv 2)) a_nil))) a_nil))))
 (ss_cons (s_set 6 sc_l_lines.nd rfl (by first | exact .inl rfl | exact .inr rfl) (.inl rfl) (q_call (ok_l_take T) (hr.mono (by decide)) (by rfl) (a_cons (qv 0 (pv 0)) (a_cons q_int a_nil))))
 (ss_cons (s_if (PW.pt (w_and (t_gt (qv 4 (pv 4)) q_int) (w_and1 (t_lt (qv 6 (pv 6)) q_int))))
 (ss_cons (s_set 7 sc_l_lines.nd rfl (by first | exact .inl rfl | exact .inr rfl) (.inl rfl) (q_ixg (fun _ _ => rfl) (qv 3 (pv 3)) (q_call (ok_l_take T) (hr.mono (by decide)) (by rfl) (a_cons (qv 0 (pv 0)) (a_cons (qv 4 (pv 4)) a_nil)))))
 (ss_cons (s_set 8 sc_l_lines.nd rfl (by first | exact .inl rfl | exact .inr rfl) (.inl rfl) (q_tup (a_cons (q_sub (q_call (ok_l_take T) (hr.mono (by decide)) (by rfl) (a_cons (qv 0 (pv 0)) (a_cons q_int a_nil))) q_int) (a_cons q_int a_nil))))
 (ss_cons (s_set 9 sc_l_lines.nd rfl (by first | exact .inl rfl | exact .inr rfl) (.inl rfl) (q_tup (a_cons (q_ixk 0 (qv 7 (pv 7))) (a_cons (q_tup (a_cons (q_sub (q_call (ok_l_take T) (hr.mono (by decide)) (by rfl) (a_cons (qv 0 (pv 0)) (a_cons q_int a_nil))) q_int) (a_cons q_int a_nil))) a_nil))))
 (ss_cons (s_if (t_not (t_val (qv 2 (pv 2))))
 (ss_one (s_set 9 sc_l_lines.nd rfl (by first | exact .inl rfl | exact .inr rfl) (.inl rfl) (q_call (ok_l_through T) (hr.mono (by decide)) (by rfl) (a_cons (qv 8 (pv 8)) (a_cons (q_call (ok_l_spot T) (hr.mono (by decide)) (by rfl) (a_cons (qv 7 (pv 7)) (a_cons (qv 8 (pv 8)) a_nil))) (a_cons (q_ixk 1 (qv 5 (pv 5))) a_nil))))))
 ss_nil)
 (ss_one (s_set 5 sc_l_lines.nd rfl (by first | exact .inl rfl | exact .inr rfl) (.inl rfl) (q_ixg (fun _ _ => rfl) (q_lst (a_cons (qv 7 (pv 7)) (a_cons (q_tup (a_cons (q_ixk 0 (qv 5 (pv 5))) (a_cons (q_ixk 1 (qv 7 (pv 7))) a_nil))) (a_cons (qv 9 (pv 9)) (a_cons (qv 9 (pv 9)) a_nil))))) (qv 6 (pv 6)))))))))
 ss_nil)
 (ss_one (s_expr (q_append (qv 3 (pv 3)) (a_cons (qv 5 (pv 5)) a_nil))))))))
 (ss_one (s_ret (qv 3 (pv 3))))))), fun ds S Q E h => ?_⟩)
  · obtain ⟨a, b, c, rfl, _⟩ := h
    rfl
  · obtain ⟨a, sc, m, rfl, hp, hm, q⟩ := h
    rw [st_l_lines]
    walk_at "d"
    refine ⟨a, sc, _, rfl, hp, by decide, Sz.lit (by decide), fun w x y w0 w1 => ?_⟩
    walk_at "d"
    generalize decide (w = 2) = wd
    intro p np
    obtain ⟨hpa, np⟩ := ups_no np
    refine ⟨a, sc, _, rfl, PenB.upd penB_again (Ne.symm hpa), by omega, (Sz.lit (m := 10) (by omega)).le (by decide), fun r x y r0 r1 => ?_⟩
    walk_at "d"
    refine ⟨by omega, ?_⟩
    refine loop_r0 (fun i τ S' => Fr S S' a ∧ PenB S' a sc ∧ (∃ L : List Ln, S' p = some (.lst (L.map eL)) ∧ L.length = i ∧ L.length ≤ m ∧ ∀ l ∈ L, if wd = true then Lz 80 l else Nz (8 + 26 * i) l.1 ∧ Nz 8 l.2) ∧ ∃ v4 v5 v6 v7 v8 v9, τ = [some (.ref a), some (.int m), some (.bl wd), some (.ref p), v4, v5, v6, v7, v8, v9])
      ⟨(Fr.refl S a).wr.own np |>.wr, penB_again, ⟨[], by rw [ups_ne hpa, ups_same]; rfl, rfl, Nat.zero_le _, fun _ h => (by cases h)⟩, _, _, _, _, _, _, rfl⟩ ?_ ?_
    · rintro i τ S1 hi ⟨fr, hp1, ⟨L, hL, rfl, hlm, hz⟩, v4, v5, v6, v7, v8, v9, rfl⟩
      have hi' : L.length < m := by omega
      walk_at "d"
      refine ⟨a, sc, wd, rfl, hp1, fun q1 x y z1 y1 => ?_⟩
      walk_at "d"
      refine ⟨a, sc, wd, rfl, penB_again, fun q2 x y z2 y2 => ?_⟩
      walk_at "d"
      refine ⟨a, sc, _, rfl, penB_again, by decide, Sz.lit (by decide), fun k x y k0 k1 => ?_⟩
      walk_at "d"
      have up : ∀ l : Ln, (if wd = true then Lz 80 l else Nz (8 + 26 * L.length) l.1 ∧ Nz 8 l.2) → (if wd = true then Lz 80 l else Nz (8 + 26 * (L.length + 1)) l.1 ∧ Nz 8 l.2) := fun l h => by
        split at h
        · next c => rw [if_pos c]; exact h
        · next c => rw [if_neg c]; exact ⟨h.1.le (by omega), h.2⟩
      have z12 : if wd = true then Lz 80 (q1, q2) else Nz (8 + 26 * (L.length + 1)) q1 ∧ Nz 8 q2 := by
        cases wd
        · exact ⟨(y1 rfl).le (by omega), y2 rfl⟩
        · exact ⟨z1, z2⟩
      have fin : ∀ (S2 : Sto) (l : Ln), Fr S S2 a → PenB S2 a sc → S2 p = some (.lst (L.map eL)) → (if wd = true then Lz 80 l else Nz (8 + 26 * (L.length + 1)) l.1 ∧ Nz 8 l.2) →
        (∃ xs, S2 p = some (O.lst xs)) ∧ getO (S2 p) fun xs => xs.length < sizeLine ∧ (Fr S (ups S2 p (.lst (xs ++ [eL l]))) a ∧ PenB (ups S2 p (.lst (xs ++ [eL l]))) a sc ∧ (∃ L' : List Ln, (ups S2 p (.lst (xs ++ [eL l]))) p = some (.lst (L'.map eL)) ∧ L'.length = L.length + 1 ∧ L'.length ≤ m ∧ ∀ l ∈ L', if wd = true then Lz 80 l else Nz (8 + 26 * (L.length + 1)) l.1 ∧ Nz 8 l.2)) := by
        intro S2 l f1 f2 f3 f4
        refine ⟨⟨_, f3⟩, getO_of f3 ⟨small1000 (by rw [List.length_map]; omega), f1.own np, f2.upd (Ne.symm hpa), L ++ [l], ?_, ?_, ?_, fun z hzz => ?_⟩⟩
        · rw [ups_same, map_snoc]
        · simp
        · simp; omega
        · rcases List.mem_append.mp hzz with h | h
          · exact up z (hz z h)
          · rw [List.mem_singleton.mp h]; exact f4
      have simple : ∀ x y, (∃ xs, (ups S1 a (penP sc x y)) p = some (O.lst xs)) ∧ getO ((ups S1 a (penP sc x y)) p) fun xs => xs.length < sizeLine ∧ (Fr S (ups (ups S1 a (penP sc x y)) p (.lst (xs ++ [eL (q1, q2)]))) a ∧ PenB (ups (ups S1 a (penP sc x y)) p (.lst (xs ++ [eL (q1, q2)]))) a sc ∧ (∃ L' : List Ln, (ups (ups S1 a (penP sc x y)) p (.lst (xs ++ [eL (q1, q2)]))) p = some (.lst (L'.map eL)) ∧ L'.length = L.length + 1 ∧ L'.length ≤ m ∧ ∀ l ∈ L', if wd = true then Lz 80 l else Nz (8 + 26 * (L.length + 1)) l.1 ∧ Nz 8 l.2)) :=
        fun x y => fin _ (q1, q2) fr.wr penB_again (by rw [ups_ne hpa]; exact hL) z12
      refine cnd_dec (fun c => ?_) (fun c => ?_)
      · refine cnd_dec (fun c2 => ?_) (fun c2 => ?_)
        · refine ⟨a, sc, _, rfl, penB_again, c, (Sz.lit (m := 10) (by omega)).le (by decide), fun j x y j0 j1 => ?_⟩
          walk_at "d"
          rw [ups_ne hpa, hL]
          walk_at "d"
          obtain ⟨j, rfl⟩ := Int.eq_ofNat_of_zero_le j0
          have hj : j < L.length := by omega
          have zj := hz _ (ln_mem hj)
          rw [atL hj]
          walk_at "d"
          refine ⟨a, sc, _, rfl, penB_again, by decide, Sz.lit (by decide), fun t x y t0 t1 => ?_⟩
          walk_at "d"
          refine ⟨a, sc, _, rfl, penB_again, by decide, Sz.lit (by decide), fun u x y u0 u1 => ?_⟩
          walk_at "d"
          have zt : Nz 4 ((t - 3 : Int) : Rat) := Nz.lit (m := 3) (by omega)
          have zu : Nz 4 ((u - 3 : Int) : Rat) := Nz.lit (m := 3) (by omega)
          have last : ∀ (x y : Int) (S2 : Sto) (l3 : Ln), S2 = ups S1 a (penP sc x y) → (if wd = true then Lz 80 l3 else Nz (8 + 26 * (L.length + 1)) l3.1 ∧ Nz 8 l3.2) → ∀ (p1 : Addr), S2 p1 = none → ∃ l : Ln, atI [eL (ln L j), .tup [eQ q1, eQ (ln L j).2], eL l3, eL l3] k = some (eL l) ∧
              ((∃ xs, (ups S2 p1 (.lst [eL (ln L j), .tup [eQ q1, eQ (ln L j).2], eL l3, eL l3])) p = some (O.lst xs)) ∧ getO ((ups S2 p1 (.lst [eL (ln L j), .tup [eQ q1, eQ (ln L j).2], eL l3, eL l3])) p) fun xs => xs.length < sizeLine ∧ (Fr S (ups (ups S2 p1 (.lst [eL (ln L j), .tup [eQ q1, eQ (ln L j).2], eL l3, eL l3])) p (.lst (xs ++ [eL l]))) a ∧ PenB (ups (ups S2 p1 (.lst [eL (ln L j), .tup [eQ q1, eQ (ln L j).2], eL l3, eL l3])) p (.lst (xs ++ [eL l]))) a sc ∧ (∃ L' : List Ln, (ups (ups S2 p1 (.lst [eL (ln L j), .tup [eQ q1, eQ (ln L j).2], eL l3, eL l3])) p (.lst (xs ++ [eL l]))) p = some (.lst (L'.map eL)) ∧ L'.length = L.length + 1 ∧ L'.length ≤ m ∧ ∀ l ∈ L', if wd = true then Lz 80 l else Nz (8 + 26 * (L.length + 1)) l.1 ∧ Nz 8 l.2))) := by
            rintro x y S2 l3 rfl h3 p1 n1
            have hp1 : p ≠ p1 := by
              rintro rfl
              rw [ups_ne hpa, hL] at n1; cases n1
            have f1 : Fr S (ups (ups S1 a (penP sc x y)) p1 (.lst [eL (ln L j), .tup [eQ q1, eQ (ln L j).2], eL l3, eL l3])) a := fr.wr.new n1
            have f2 : PenB (ups (ups S1 a (penP sc x y)) p1 (.lst [eL (ln L j), .tup [eQ q1, eQ (ln L j).2], eL l3, eL l3])) a sc := penB_again.new n1
            have f3 : (ups (ups S1 a (penP sc x y)) p1 (.lst [eL (ln L j), .tup [eQ q1, eQ (ln L j).2], eL l3, eL l3])) p = some (.lst (L.map eL)) := by rw [ups_ne hp1, ups_ne hpa]; exact hL
            have zj2 : if wd = true then Lz 80 (q1, (ln L j).2) else Nz (8 + 26 * (L.length + 1)) q1 ∧ Nz 8 (ln L j).2 := by
              cases wd
              · exact ⟨(y1 rfl).le (by omega), zj.2⟩
              · exact ⟨z1, zj.2⟩
            rcases (show k = 0 ∨ k = 1 ∨ k = 2 ∨ k = 3 by omega) with rfl | rfl | rfl | rfl
            · exact ⟨_, rfl, fin _ (ln L j) f1 f2 f3 (up _ zj)⟩
            · exact ⟨(q1, (ln L j).2), rfl, fin _ (q1, (ln L j).2) f1 f2 f3 zj2⟩
            · exact ⟨_, rfl, fin _ l3 f1 f2 f3 h3⟩
            · exact ⟨_, rfl, fin _ l3 f1 f2 f3 h3⟩
          cases wd with
          | true =>
            walk_at "d"
            have zj : Lz 80 (ln L j) := zj
            intro p1 n1
            obtain ⟨l, e1, g1, g2⟩ := last x y _ ((ln L j).1, ((u - 3 : Int) : Rat)) rfl (by rw [if_pos rfl]; exact ⟨zj.1, zu.le (by decide)⟩) p1 n1
            have e2 : atI [eL (ln L j), DL.D.tup [eQ q1, eQ (ln L j).2], DL.D.tup [eQ (ln L j).1, DL.D.tup [.int (u - 3), .int 1]], DL.D.tup [eQ (ln L j).1, DL.D.tup [.int (u - 3), .int 1]]] k = some (eL l) := e1
            rw [e2]
            obtain ⟨xs, g3, g4, g5, g6, g7⟩ := getO_get g2
            refine ⟨g1, getO_of g3 ⟨g4, g5, g6, (by simpa only [ups_same, eq_self, Bool.false_eq_true] using g7), _, _, _, _, _, _, rfl⟩⟩
          | false =>
            walk_at "d"
            have zj : Nz (8 + 26 * L.length) (ln L j).1 ∧ Nz 8 (ln L j).2 := zj
            have zs : Nz (8 + 26 * L.length + 13) (at_ (ln L j) ((t - 3 : Int) : Rat)) := (zj.1.add (zj.2.mul zt)).le (by omega)
            have zn : Nz (8 + 26 * (L.length + 1)) (at_ (ln L j) ((t - 3 : Int) : Rat) - q2 * ((t - 3 : Int) : Rat)) := by
              have h2 := y2 rfl
              exact ((zj.1.add (zj.2.mul zt)).sub (h2.mul zt)).le (by omega)
            refine ⟨ln L j, ((t - 3 : Int) : Rat), rfl, ⟨zj.1.le (by omega), zj.2.le (by decide)⟩, zt.le (by decide), ?_⟩
            refine ⟨((t - 3 : Int) : Rat), _, q2, rfl, zt.le (by decide), zs.le (by omega), z2.le (by decide), ?_⟩
            walk_at "d"
            intro p1 n1
            obtain ⟨l, e1, g1, g2⟩ := last x y _ (at_ (ln L j) ((t - 3 : Int) : Rat) - q2 * ((t - 3 : Int) : Rat), q2) rfl (by rw [if_neg (by decide)]; exact ⟨zn, y2 rfl⟩) p1 n1
            rw [e1]
            obtain ⟨xs, g3, g4, g5, g6, g7⟩ := getO_get g2
            refine ⟨g1, getO_of g3 ⟨g4, g5, g6, (by simpa only [ups_same, eq_self, Bool.false_eq_true] using g7), _, _, _, _, _, _, rfl⟩⟩
        · obtain ⟨g1, g2⟩ := simple x y
          obtain ⟨xs, g3, g4, g5, g6, g7⟩ := getO_get g2
          exact ⟨g1, getO_of g3 ⟨g4, g5, g6, (by simpa only [ups_same, eq_self, Bool.false_eq_true] using g7), _, _, _, _, _, _, rfl⟩⟩
      · obtain ⟨g1, g2⟩ := simple x y
        obtain ⟨xs, g3, g4, g5, g6, g7⟩ := getO_get g2
        exact ⟨g1, getO_of g3 ⟨g4, g5, g6, (by simpa only [ups_same, eq_self, Bool.false_eq_true] using g7), _, _, _, _, _, _, rfl⟩⟩
    · rintro τ S' ⟨fr, hp1, ⟨L, hL, hl, hlm, hz⟩, v4, v5, v6, v7, v8, v9, rfl⟩
      walk_at "d"
      refine ⟨_, .refl _, q S' p L fr hp1 np ⟨hL, fun l hl => ?_, by omega⟩ hlm⟩
      have := hz l hl
      split at this
      · exact this.le (by decide)
      · exact ⟨this.1.le (by omega), this.2.le (by decide)⟩
def sp_l_met : Sp2 := fun ds S Q _ => ∃ (p : Addr) (L : List Ln) (i j : Nat), ds = [.ref p, .int (i : Int), .int (j : Int)] ∧ LA S p L ∧ i < L.length ∧ j < L.length ∧ Q (eO (metO (ln L i) (ln L j))) S
theorem st_l_met (x0 x1 x2 : DL.D) : start2 N_l_met [x0, x1, x2] = [some x0, some x1, some x2, none, none, none, none] := rfl
set_option maxHeartbeats 8000000 in
theorem ok_l_met (T : Txt K mg) : Fn P w K mg base 2 "_law_met" sp_l_met := by
  refine fn_intro2 T.f_l_met sc_l_met (fun ds S Q E h => ?_) (fun cdv A outer s H E f hr => ⟨_, (ss_cons (s_par 3 4 rfl sc_l_met.nd rfl rfl (by decide) rfl rfl (a_cons (q_ixg (fun _ _ => rfl) (qv 0 (pv 0)) (qv 1 (pv 1))) (a_cons (q_ixg (fun _ _ => rfl) (qv 0 (pv 0)) (qv 2 (pv 2))) a_nil)) (by rfl))
 (ss_cons (s_if (t_eq hr (q_ixk 1 (qv 3 (pv 3))) (q_ixk 1 (qv 4 (pv 4))))
 (ss_one (s_ret q_non))
 ss_nil)
 (ss_cons (s_set 5 sc_l_met.nd rfl (by first | exact .inl rfl | exact .inr rfl) (.inl rfl) (q_mul (q_mul (q_sub (q_mul (q_ixk 0 (q_ixk 0 (qv 4 (pv 4)))) (q_ixk 1 (q_ixk 0 (qv 3 (pv 3))))) (q_mul (q_ixk 0 (q_ixk 0 (qv 3 (pv 3)))) (q_ixk 1 (q_ixk 0 (qv 4 (pv 4)))))) (q_ixk 1 (q_ixk 1 (qv 3 (pv 3))))) (q_ixk 1 (q_ixk 1 (qv 4 (pv 4))))))
 (ss_cons (s_set 6 sc_l_met.nd rfl (by first | exact .inl rfl | exact .inr rfl) (.inl rfl) (q_mul (q_mul (q_sub (q_mul (q_ixk 0 (q_ixk 1 (qv 3 (pv 3)))) (q_ixk 1 (q_ixk 1 (qv 4 (pv 4))))) (q_mul (q_ixk 0 (q_ixk 1 (qv 4 (pv 4)))) (q_ixk 1 (q_ixk 1 (qv 3 (pv 3)))))) (q_ixk 1 (q_ixk 0 (qv 3 (pv 3))))) (q_ixk 1 (q_ixk 0 (qv 4 (pv 4))))))
 (ss_cons (s_if (t_lt (qv 6 (pv 6)) q_int)
 (ss_one (s_par 5 6 rfl sc_l_met.nd rfl rfl (by decide) rfl rfl (a_cons (q_sub q_int (qv 5 (pv 5))) (a_cons (q_sub q_int (qv 6 (pv 6))) a_nil)) (by rfl)))
 ss_nil)
 (ss_one (s_ret (q_call (ok_l_lowest T) (hr.mono (by decide)) (by rfl) (a_cons (qv 5 (pv 5)) (a_cons (qv 6 (pv 6)) a_nil)))))))))), fun ds S Q E h => ?_⟩)
  · obtain ⟨_, _, _, _, rfl, _⟩ := h
    rfl
  · obtain ⟨p, L, i, j, rfl, hL, hi, hj, q⟩ := h
    have hst := hL.st
    have zi := hL.at hi
    have zj := hL.at hj
    unfold metO at q
    rw [st_l_met]
    walk_at "f"
    generalize ln L i = l at *
    generalize ln L j = m at *
    refine cnd_dec (fun c => ?_) (fun c => ?_)
    · rw [if_pos c] at q
      exact ⟨_, .refl _, q⟩
    · rw [if_neg c] at q
      have a1 := zj.1.1.mul zi.1.2
      have a2 := zi.1.1.mul zj.1.2
      have a3 := a1.sub a2
      have a4 := a3.mul zi.2.2
      have b1 := zi.2.1.mul zj.2.2
      have b2 := zj.2.1.mul zi.2.2
      have b3 := b1.sub b2
      have b4 := b3.mul zi.1.2
      have b5 := b4.mul zj.1.2
      refine ⟨.inl ⟨_, _, zj.1.1, zi.1.2, by decide⟩, .inl ⟨_, _, zi.1.1, zj.1.2, by decide⟩, .inl ⟨_, _, a3, zi.2.2, by decide⟩, .inl ⟨_, _, a4, zj.2.2, by decide⟩, .inl ⟨_, _, zi.2.1, zj.2.2, by decide⟩, .inl ⟨_, _, zj.2.1, zi.2.2, by decide⟩, .inl ⟨_, _, b3, zi.1.2, by decide⟩, .inl ⟨_, _, b4, zj.1.2, by decide⟩, ?_⟩
      have mq := met_quo l m c
      have bne : (l.2.num * (m.2.den : Int) - m.2.num * (l.2.den : Int)) * (l.1.den : Int) * (m.1.den : Int) ≠ 0 := by
        refine Int.mul_ne_zero (Int.mul_ne_zero (fun z => c ?_) (den_ne _)) (den_ne _)
        have h1 : l.2.num * (m.2.den : Int) = m.2.num * (l.2.den : Int) := by omega
        have h2 := lt_quo l.2 m.2
        have h3 := lt_quo m.2 l.2
        simp only [decide_eq_decide] at h2 h3
        grind
      generalize (m.1.num * (l.1.den : Int) - l.1.num * (m.1.den : Int)) * (l.2.den : Int) * (m.2.den : Int) = top at *
      generalize (l.2.num * (m.2.den : Int) - m.2.num * (l.2.den : Int)) * (l.1.den : Int) * (m.1.den : Int) = bot at *
      refine cnd_dec (fun hb => ?_) (fun hb => ?_)
      · refine ⟨by omega, ?_, ?_⟩
        · rw [Int.zero_sub]; exact (b5.neg).le (by decide)
        · rw [Int.zero_sub, Int.zero_sub, show ((((-top : Int) : Rat)) / ((-bot : Int) : Rat)) = (top : Rat) / (bot : Rat) by
          have hb0 : ((bot : Int) : Rat) ≠ 0 := fun z => bne (by exact_mod_cast z)
          rw [Rat.intCast_neg, Rat.intCast_neg]
          grind, mq]
          exact ⟨_, .refl _, q⟩
      · refine ⟨by omega, b5.le (by decide), ?_⟩
        rw [mq]
        exact ⟨_, .refl _, q⟩
def sp_l_time : Sp2 := fun ds S Q _ => ∃ (a p : Addr) (sc : List Int) (L : List Ln), ds = [.ref a, .ref p] ∧ PenB S a sc ∧ LA S p L ∧ ∀ t x y, Nz 1300 t → Q (eQ t) (ups S a (penP sc x y))
theorem st_l_time (x0 x1 : DL.D) : start2 N_l_time [x0, x1] = [some x0, some x1, none, none, none, none] := rfl
set_option maxHeartbeats 8000000 in
theorem ok_l_time (T : Txt K mg) : Fn P w K mg base 3 "_law_time" sp_l_time := by
  refine fn_intro2 T.f_l_time sc_l_time (fun ds S Q E h => ?_) (fun cdv A outer s H E f hr => ⟨_, (ss_cons (s_set 2 sc_l_time.nd rfl (by first | exact .inl rfl | exact .inr rfl) (.inl rfl) (q_call (ok_l_take T) (hr.mono (by decide)) (by rfl) (a_cons (qv 0 (pv 0)) (a_cons q_int a_nil))))
 (ss_cons (s_if (PW.pt (w_and (t_lt (qv 2 (pv 2)) q_int) (w_and1 (t_gt (q_len T.b_len (by rfl) (a_cons (qv 1 (pv 1)) a_nil)) q_int))))
 (ss_cons (s_set 3 sc_l_time.nd rfl (by first | exact .inl rfl | exact .inr rfl) (.inl rfl) (q_call (ok_l_take T) (hr.mono (by decide)) (by rfl) (a_cons (qv 0 (pv 0)) (a_cons (q_len T.b_len (by rfl) (a_cons (qv 1 (pv 1)) a_nil)) a_nil))))
 (ss_cons (s_set 4 sc_l_time.nd rfl (by first | exact .inl rfl | exact .inr rfl) (.inl rfl) (q_call (ok_l_take T) (hr.mono (by decide)) (by rfl) (a_cons (qv 0 (pv 0)) (a_cons (q_len T.b_len (by rfl) (a_cons (qv 1 (pv 1)) a_nil)) a_nil))))
 (ss_cons (s_set 5 sc_l_time.nd rfl (by first | exact .inl rfl | exact .inr rfl) (.inl rfl) (q_call (ok_l_met T) (hr.mono (by decide)) (by rfl) (a_cons (qv 1 (pv 1)) (a_cons (qv 3 (pv 3)) (a_cons (qv 4 (pv 4)) a_nil)))))
 (ss_one (s_if (t_isnot (qv 5 (pv 5)) q_non)
 (ss_one (s_ret (qv 5 (pv 5))))
 ss_nil)))))
 ss_nil)
 (ss_cons (s_if (t_eq hr (qv 2 (pv 2)) q_int)
 (ss_one (s_ret (q_tup (a_cons (q_mul (q_mul (q_call (ok_l_take T) (hr.mono (by decide)) (by rfl) (a_cons (qv 0 (pv 0)) (a_cons (q_powk 1000000000 (by decide +kernel) (by decide +kernel)) a_nil))) (q_ixg (fun _ _ => rfl) (q_lst (a_cons q_int (a_cons (q_neg q_int) a_nil))) (q_call (ok_l_take T) (hr.mono (by decide)) (by rfl) (a_cons (qv 0 (pv 0)) (a_cons q_int a_nil))))) (q_powk 1000000 (by decide +kernel) (by decide +kernel))) (a_cons q_int a_nil)))))
 ss_nil)
 (ss_one (s_ret (q_call (ok_l_lowest T) (hr.mono (by decide)) (by rfl) (a_cons (q_sub (q_call (ok_l_take T) (hr.mono (by decide)) (by rfl) (a_cons (qv 0 (pv 0)) (a_cons q_int a_nil))) q_int) (a_cons (q_add q_int (q_call (ok_l_take T) (hr.mono (by decide)) (by rfl) (a_cons (qv 0 (pv 0)) (a_cons q_int a_nil)))) a_nil)))))))), fun ds S Q E h => ?_⟩)
  · obtain ⟨_, _, _, _, rfl, _⟩ := h
    rfl
  · obtain ⟨a, p, sc, L, rfl, hp, hL, q⟩ := h
    have hpa := hL.penB hp
    have hst := hL.st
    have hsz := hL.sz
    rw [st_l_time]
    walk_at "d"
    refine ⟨a, sc, _, rfl, hp, by decide, Sz.lit (by decide), fun w x y w0 w1 => ?_⟩
    walk_at "f"
    have two : ∀ x y, Cnd (decide (w = 7)) (sp_l_take [.ref a, .int 1000000000] (ups S a (penP sc x y)) (fun x1 S1 => ∀ p, S1 p = none → sp_l_take [.ref a, .int 2] (ups S1 p (.lst [.int 1, .int (-1)])) (fun z S2 => rIxg (.ref p) z S2 fun u S3 => rMul x1 u S3 fun v S4 => rMul v (.int 1000000) S4 fun v2 S5 => ∃ S0, Sub S0 S5 ∧ Q (.tup [v2, .int 1]) S0) fun _ _ _ => False) fun _ _ _ => False)
        (sp_l_take [.ref a, .int 41] (ups S a (penP sc x y)) (fun x1 S1 => rSub x1 (.int 20) S1 fun u S2 => sp_l_take [.ref a, .int 6] S2 (fun z S3 => rAdd (.int 1) z S3 fun v S4 => sp_l_lowest [u, v] S4 (fun d S5 => ∃ S0, Sub S0 S5 ∧ Q d S0) fun _ _ _ => False) fun _ _ _ => False) fun _ _ _ => False) := by
      intro x y
      refine cnd_dec (fun _ => ?_) (fun _ => ?_)
      · refine ⟨a, sc, _, rfl, penB_again, by decide, Sz.lit (by decide), fun r x y r0 r1 => ?_⟩
        intro p2 n2
        obtain ⟨h2a, n2⟩ := ups_no n2
        refine ⟨a, sc, _, rfl, PenB.upd penB_again (Ne.symm h2a), by decide, Sz.lit (by decide), fun w' x y w0 w1 => ?_⟩
        walk_at "d"
        rw [ups_ne h2a, ups_same]
        walk_at "d"
        rw [atI_get2 w0 w1]
        obtain ⟨s, es, hs⟩ : ∃ s : Int, (if w' = 0 then DL.D.int 1 else DL.D.int (-1)) = .int s ∧ s.natAbs = 1 := by
          split
          · exact ⟨1, rfl, rfl⟩
          · exact ⟨-1, rfl, rfl⟩
        rw [es]
        walk_at "d"
        have hrs : (r * s).natAbs < 1000000000 := by rw [Int.natAbs_mul, hs]; omega
        refine ⟨.inr (.inr (Sz.lit (by omega))), .inr (.inr (Sz.lit (by decide))), ups S a (penP sc x y), ?_, q ((r * s * 1000000 : Int) : Rat) x y (Nz.lit (m := 1299) (Nat.lt_of_lt_of_le (show (r * s * 1000000).natAbs < 2 ^ 60 by have h := Int.natAbs_mul (r * s) 1000000; have h2 : (1000000 : Int).natAbs = 1000000 := rfl; rw [h2] at h; omega) (Nat.pow_le_pow_right (by decide) (by decide))))⟩
        intro c o hc
        by_cases hca : c = a
        · subst hca; rw [ups_same] at hc ⊢; exact hc
        · rw [ups_ne hca] at hc
          have hc2 : c ≠ p2 := fun z => by subst z; rw [(ups_no n2).2] at hc; cases hc
          simp only [ups_ne hca, ups_ne hc2]
          exact hc
      · refine ⟨a, sc, _, rfl, penB_again, by decide, Sz.lit (by decide), fun r x y r0 r1 => ?_⟩
        walk_at "d"
        refine ⟨a, sc, _, rfl, penB_again, by decide, Sz.lit (by decide), fun b x y b0 b1 => ?_⟩
        walk_at "d"
        have z : Nz 8 (((r - 20 : Int) : Rat) / ((1 + b : Int) : Rat)) := Nz.quo2 (n := 8) (by omega) (Sz.lit (by omega)) (Sz.lit (by omega))
        exact ⟨by omega, (Sz.lit (m := 10) (by omega)).le (by decide), _, .refl _, q _ _ _ (z.le (by decide))⟩
    refine cnd_dec (fun c => ?_) (fun c => two _ _)
    refine cnd_dec (fun c2 => ?_) (fun c2 => two _ _)
    refine ⟨a, sc, _, rfl, penB_again, by omega, (Sz.lit (m := 10) (by omega)).le (by decide), fun i x y i0 i1 => ?_⟩
    obtain ⟨i, rfl⟩ := Int.eq_ofNat_of_zero_le i0
    walk_at "f"
    refine ⟨a, sc, _, rfl, penB_again, by omega, (Sz.lit (m := 10) (by omega)).le (by decide), fun j x y j0 j1 => ?_⟩
    obtain ⟨j, rfl⟩ := Int.eq_ofNat_of_zero_le j0
    have hi : i < L.length := by omega
    have hj : j < L.length := by omega
    walk_at "d"
    refine ⟨p, L, i, j, rfl, hL.upd hpa, hi, hj, ?_⟩
    by_cases e : (ln L i).2 = (ln L j).2
    · rw [show metO (ln L i) (ln L j) = none by unfold metO; rw [if_pos e]]
      walk_at "d"
      exact two _ _
    · rw [show metO (ln L i) (ln L j) = some (met (ln L i) (ln L j)) by unfold metO; rw [if_neg e]]
      walk_at "d"
      exact ⟨_, .refl _, q _ _ _ (((hL.at hi).met (hL.at hj) e).le (by decide))⟩
def sp_l_turned_row : Sp2 := fun ds S Q _ => ∃ (f : Addr) (rows : Rw), ds = [.ref f] ∧ S f = some (.lst (rows.map eR)) ∧ rows.length ≤ 401 ∧ Snc rows ∧ ∀ S' g, Sub S S' → S g = none → S' g = some (.lst ((turnR rows).map eR)) → Q (.ref g) S'
theorem st_l_turned_row (x0 : DL.D) : start2 N_l_turned_row [x0] = [some x0, none, none, none] := rfl
set_option maxHeartbeats 8000000 in
theorem ok_l_turned_row (T : Txt K mg) : Fn P w K mg base 2 "_law_turned_row" sp_l_turned_row := by
  refine fn_intro2 T.f_l_turned_row sc_l_turned_row (fun ds S Q E h => ?_) (fun cdv A outer s H E f hr => ⟨_, (ss_cons (s_set 1 sc_l_turned_row.nd rfl (by first | exact .inl rfl | exact .inr rfl) (.inl rfl) (q_lst a_nil))
 (ss_cons (s_for .never rfl (i_rng1 T.b_range (by rfl) (a_cons (q_len T.b_len (by rfl) (a_cons (qv 0 (pv 0)) a_nil)) a_nil)) (g_name (i := 2) sc_l_turned_row.nd rfl (by first | exact .inl rfl | exact .inr rfl) (.inl rfl))
 (ss_cons (s_set 3 sc_l_turned_row.nd rfl (by first | exact .inl rfl | exact .inr rfl) (.inl rfl) q_non)
 (ss_cons (s_if (t_gt (qv 2 (pv 2)) q_int)
 (ss_one (s_set 3 sc_l_turned_row.nd rfl (by first | exact .inl rfl | exact .inr rfl) (.inl rfl) (q_call (ok_l_below T) (hr.mono (by decide)) (by rfl) (a_cons (q_ixk 1 (q_ixg (fun _ _ => rfl) (qv 0 (pv 0)) (q_sub (q_len T.b_len (by rfl) (a_cons (qv 0 (pv 0)) a_nil)) (qv 2 (pv 2))))) a_nil))))
 ss_nil)
 (ss_one (s_expr (q_append (qv 1 (pv 1)) (a_cons (q_tup (a_cons (q_ixk 0 (q_ixg (fun _ _ => rfl) (qv 0 (pv 0)) (q_sub (q_sub (q_len T.b_len (by rfl) (a_cons (qv 0 (pv 0)) a_nil)) q_int) (qv 2 (pv 2))))) (a_cons (qv 3 (pv 3)) a_nil))) a_nil)))))))
 (ss_one (s_ret (qv 1 (pv 1)))))), fun ds S Q E h => ?_⟩)
  · obtain ⟨_, _, rfl, _⟩ := h
    rfl
  · obtain ⟨f, rows, rfl, hf, hl, hs, q⟩ := h
    rw [st_l_turned_row]
    walk_at "d"
    intro g ng
    have s1 : Sub S (ups S g (.lst [])) := Sub.drop ng
    have hf1 := s1 _ _ hf
    have hg1 : ups S g (.lst []) g = some (.lst (((turnR rows).take 0).map eR)) := ups_same
    have hgf : f ≠ g := ne_of_st hf ng
    generalize ups S g (.lst []) = S1 at *
    walk_at "f"
    refine ⟨by omega, ?_⟩
    refine loop_r0 (fun i τ S' => Sub S S' ∧ S' f = some (.lst (rows.map eR)) ∧ S' g = some (.lst (((turnR rows).take i).map eR)) ∧ ∃ v3 v4, τ = [some (.ref f), some (.ref g), v3, v4]) ⟨s1, hf1, hg1, _, _, rfl⟩ ?_ ?_
    · rintro k τ S2 hk ⟨s2, hf2, hg2, v3, v4, rfl⟩
      have hx : rows[rows.length - 1 - k]? = some rows[rows.length - 1 - k] := List.getElem?_eq_getElem (by omega)
      generalize rows[rows.length - 1 - k] = x at hx
      obtain ⟨v, hv, v0, v1⟩ := turn_get hx hk
      have ei : (rows.length : Int) - 1 - (k : Int) = ((rows.length - 1 - k : Nat) : Int) := by omega
      have ai : atI (rows.map eR) ((rows.length - 1 - k : Nat) : Int) = some (eR x) := atI_nat (by rw [List.getElem?_map, hx]; rfl)
      have tl : (((turnR rows).take k).map eR).length < 1000 := by rw [List.length_map, List.length_take]; omega
      walk_at "f"
      refine cnd_dec (fun c => ?_) (fun c => ?_)
      · have c : 0 < k := by omega
        have hy : rows[rows.length - k]? = some rows[rows.length - k] := List.getElem?_eq_getElem (by omega)
        generalize rows[rows.length - k] = y at hy
        obtain ⟨u, eu⟩ := hs _ y (by omega) hy
        have ej : (rows.length : Int) - (k : Int) = ((rows.length - k : Nat) : Int) := by omega
        have aj : atI (rows.map eR) ((rows.length - k : Nat) : Int) = some (eR y) := atI_nat (by rw [List.getElem?_map, hy]; rfl)
        have ev := v1 y c hy
        rw [eu] at ev
        walk_at "f"
        refine ⟨u, rfl, ?_⟩
        walk_at "f"
        subst ev
        have put : some (O.lst (((turnR rows).take k).map eR ++ [eR (x.1, ngO (some u))])) = some (O.lst (((turnR rows).take (k + 1)).map eR)) := by rw [take_snoc hv, List.map_append]; rfl
        exact ⟨⟨_, rfl⟩, small1000 (by rw [List.length_take]; omega), s2.own ng, put, _, _, rfl⟩
      · have k0 : k = 0 := by omega
        subst k0
        obtain rfl := v0 rfl
        walk_at "f"
        have put : some (O.lst (((turnR rows).take 0).map eR ++ [eR (x.1, none)])) = some (O.lst (((turnR rows).take (0 + 1)).map eR)) := by rw [take_snoc hv, List.map_append]; rfl
        exact ⟨⟨_, rfl⟩, small1000 (by rw [List.length_take]; omega), s2.own ng, put, _, _, rfl⟩
    · rintro τ S2 ⟨s2, hf2, hg2, v3, v4, rfl⟩
      walk_at "d"
      rw [List.take_of_length_le (by rw [turn_len]; omega)] at hg2
      exact ⟨_, .refl _, q _ g s2 ng hg2⟩
def sp_product_of : Sp2 := fun ds S Q _ => ∃ a b : Rat, ds = [eQ a, eQ b] ∧ Nz 4400 a ∧ Nz 4400 b ∧ Q (eQ (a * b)) S
theorem st_product_of (x0 x1 : DL.D) : start2 N_product_of [x0, x1] = [some x0, some x1] := rfl
set_option maxHeartbeats 8000000 in
theorem ok_product_of (T : Txt K mg) : Fn P w K mg base 3 "product_of" sp_product_of := by
  refine fn_intro2 T.f_product_of sc_product_of (fun ds S Q E h => ?_) (fun cdv A outer s H E f hr => ⟨_, (ss_one (s_ret (q_call (ok_number_of T) (hr.mono (by decide)) (by rfl) (a_cons (q_mul (q_ixk 0 (qv 0 (pv 0))) (q_ixk 0 (qv 1 (pv 1)))) (a_cons (q_mul (q_ixk 1 (qv 0 (pv 0))) (q_ixk 1 (qv 1 (pv 1)))) a_nil))))), fun ds S Q E h => ?_⟩)
  · obtain ⟨a, b, rfl, _⟩ := h
    rfl
  · obtain ⟨a, b, rfl, ha, hb, q⟩ := h
    rw [st_product_of]
    walk_at "d"
    refine ⟨Nz.mulOk ha.1 hb.1, Nz.mulOk ha.2 hb.2, Int.mul_ne_zero (den_ne a) (den_ne b), Nz.prod ha.2 hb.2, ?_⟩
    rw [mul_quo]
    exact ⟨S, .refl S, q⟩
def sp_sum_of : Sp2 := fun ds S Q _ => ∃ a b : Rat, ds = [eQ a, eQ b] ∧ Nz 4400 a ∧ Nz 4400 b ∧ Q (eQ (a + b)) S
theorem st_sum_of (x0 x1 : DL.D) : start2 N_sum_of [x0, x1] = [some x0, some x1] := rfl
set_option maxHeartbeats 8000000 in
theorem ok_sum_of (T : Txt K mg) : Fn P w K mg base 3 "sum_of" sp_sum_of := by
  refine fn_intro2 T.f_sum_of sc_sum_of (fun ds S Q E h => ?_) (fun cdv A outer s H E f hr => ⟨_, (ss_one (s_ret (q_call (ok_number_of T) (hr.mono (by decide)) (by rfl) (a_cons (q_add (q_mul (q_ixk 0 (qv 0 (pv 0))) (q_ixk 1 (qv 1 (pv 1)))) (q_mul (q_ixk 0 (qv 1 (pv 1))) (q_ixk 1 (qv 0 (pv 0))))) (a_cons (q_mul (q_ixk 1 (qv 0 (pv 0))) (q_ixk 1 (qv 1 (pv 1)))) a_nil))))), fun ds S Q E h => ?_⟩)
  · obtain ⟨a, b, rfl, _⟩ := h
    rfl
  · obtain ⟨a, b, rfl, ha, hb, q⟩ := h
    rw [st_sum_of]
    walk_at "d"
    refine ⟨Nz.mulOk ha.1 hb.2, Nz.mulOk hb.1 ha.2, Nz.mulOk ha.2 hb.2, Int.mul_ne_zero (den_ne a) (den_ne b), Nz.prod ha.2 hb.2, ?_⟩
    rw [add_quo]
    exact ⟨S, .refl S, q⟩
def sp_place_at : Sp2 := fun ds S Q _ => ∃ (l : Rat × Rat) (t : Rat), ds = [eL l, eQ t] ∧ Lz 400 l ∧ Nz 4000 t ∧ Q (eQ (at_ l t)) S
theorem st_place_at (x0 x1 : DL.D) : start2 N_place_at [x0, x1] = [some x0, some x1] := rfl
set_option maxHeartbeats 8000000 in
theorem ok_place_at (T : Txt K mg) : Fn P w K mg base 4 "place_at" sp_place_at := by
  refine fn_intro2 T.f_place_at sc_place_at (fun ds S Q E h => ?_) (fun cdv A outer s H E f hr => ⟨_, (ss_one (s_ret (q_call (ok_sum_of T) (hr.mono (by decide)) (by rfl) (a_cons (q_ixk 0 (qv 0 (pv 0))) (a_cons (q_call (ok_product_of T) (hr.mono (by decide)) (by rfl) (a_cons (q_ixk 1 (qv 0 (pv 0))) (a_cons (qv 1 (pv 1)) a_nil))) a_nil))))), fun ds S Q E h => ?_⟩)
  · obtain ⟨a, b, rfl, _⟩ := h
    rfl
  · obtain ⟨l, t, rfl, hl, ht, q⟩ := h
    rw [st_place_at]
    walk_at "d"
    refine ⟨l.2, t, rfl, hl.2.le (by decide), ht.le (by decide), ?_⟩
    refine ⟨l.1, l.2 * t, rfl, hl.1.le (by decide), (hl.2.mul ht).le (by decide), ?_⟩
    exact ⟨S, .refl S, q⟩
def sp_is_ahead : Sp2 := fun ds S Q _ => ∃ (p : Addr) (L : List Ln) (i j : Nat) (t : Rat), ds = [.ref p, .int (i : Int), .int (j : Int), eQ t] ∧ LA S p L ∧ i < L.length ∧ j < L.length ∧ Nz 4000 t ∧ Q (.bl (decide (Ahd L i j t))) S
theorem st_is_ahead (x0 x1 x2 x3 : DL.D) : start2 N_is_ahead [x0, x1, x2, x3] = [some x0, some x1, some x2, some x3, none, none] := rfl
set_option maxHeartbeats 8000000 in
theorem ok_is_ahead (T : Txt K mg) : Fn P w K mg base 5 "is_ahead" sp_is_ahead := by
  refine fn_intro2 T.f_is_ahead sc_is_ahead (fun ds S Q E h => ?_) (fun cdv A outer s H E f hr => ⟨_, (ss_cons (s_set 4 sc_is_ahead.nd rfl (by first | exact .inl rfl | exact .inr rfl) (.inl rfl) (q_call (ok_place_at T) (hr.mono (by decide)) (by rfl) (a_cons (q_ixg (fun _ _ => rfl) (qv 0 (pv 0)) (qv 1 (pv 1))) (a_cons (qv 3 (pv 3)) a_nil))))
 (ss_cons (s_set 5 sc_is_ahead.nd rfl (by first | exact .inl rfl | exact .inr rfl) (.inl rfl) (q_call (ok_place_at T) (hr.mono (by decide)) (by rfl) (a_cons (q_ixg (fun _ _ => rfl) (qv 0 (pv 0)) (qv 2 (pv 2))) (a_cons (qv 3 (pv 3)) a_nil))))
 (ss_cons (s_if (t_ne hr (qv 4 (pv 4)) (qv 5 (pv 5)))
 (ss_one (s_ret (q_call (ok_is_less T) (hr.mono (by decide)) (by rfl) (a_cons (qv 5 (pv 5)) (a_cons (qv 4 (pv 4)) a_nil)))))
 ss_nil)
 (ss_cons (s_if (t_ne hr (q_ixk 1 (q_ixg (fun _ _ => rfl) (qv 0 (pv 0)) (qv 1 (pv 1)))) (q_ixk 1 (q_ixg (fun _ _ => rfl) (qv 0 (pv 0)) (qv 2 (pv 2)))))
 (ss_one (s_ret (q_call (ok_is_less T) (hr.mono (by decide)) (by rfl) (a_cons (q_ixk 1 (q_ixg (fun _ _ => rfl) (qv 0 (pv 0)) (qv 2 (pv 2)))) (a_cons (q_ixk 1 (q_ixg (fun _ _ => rfl) (qv 0 (pv 0)) (qv 1 (pv 1)))) a_nil)))))
 ss_nil)
 (ss_one (s_ret (q_lt (qv 1 (pv 1)) (qv 2 (pv 2))))))))), fun ds S Q E h => ?_⟩)
  · obtain ⟨_, _, _, _, _, rfl, _⟩ := h
    rfl
  · obtain ⟨p, L, i, j, t, rfl, hL, hi, hj, ht, q⟩ := h
    have hst := hL.st
    have zi := hL.at hi
    have zj := hL.at hj
    rw [st_is_ahead]
    walk_at "f"
    refine ⟨ln L i, t, rfl, zi.le (by decide), ht, ?_⟩
    walk_at "f"
    refine ⟨ln L j, t, rfl, zj.le (by decide), ht, ?_⟩
    walk_at "d"
    have z1 := zi.at ht
    have z2 := zj.at ht
    refine cnd_dec (fun e => ?_) (fun e => ?_)
    · walk_at "f"
      refine cnd_dec (fun e2 => ?_) (fun e2 => ?_)
      · refine ⟨_, .refl _, ?_⟩
        rwa [show decide (i < j) = decide (Ahd L i j t) from decide_eq_decide.mpr (by unfold Ahd; grind)] 
      · walk_at "f"
        refine ⟨_, _, rfl, zj.2.le (by decide), zi.2.le (by decide), _, .refl _, ?_⟩
        rwa [show decide ((ln L j).2 < (ln L i).2) = decide (Ahd L i j t) from decide_eq_decide.mpr (by unfold Ahd; grind)]
    · refine ⟨_, _, rfl, z2.le (by decide), z1.le (by decide), _, .refl _, ?_⟩
      rwa [show decide (at_ (ln L j) t < at_ (ln L i) t) = decide (Ahd L i j t) from decide_eq_decide.mpr (by unfold Ahd; grind)]
def sp_ahead_of_all : Sp2 := fun ds S Q _ => ∃ (p : Addr) (L : List Ln) (t : Rat), ds = [.ref p, eQ t] ∧ LA S p L ∧ 0 < L.length ∧ Nz 4000 t ∧ ∀ r, IsTop L t r → Q (.int (r : Int)) S
theorem st_ahead_of_all (x0 x1 : DL.D) : start2 N_ahead_of_all [x0, x1] = [some x0, some x1, none, none] := rfl
set_option maxHeartbeats 8000000 in
theorem ok_ahead_of_all (T : Txt K mg) : Fn P w K mg base 6 "ahead_of_all" sp_ahead_of_all := by
  refine fn_intro2 T.f_ahead_of_all sc_ahead_of_all (fun ds S Q E h => ?_) (fun cdv A outer s H E f hr => ⟨_, (ss_cons (s_set 2 sc_ahead_of_all.nd rfl (by first | exact .inl rfl | exact .inr rfl) (.inl rfl) q_int)
 (ss_cons (s_for .never rfl (i_rng2 T.b_range (by rfl) (a_cons q_int (a_cons (q_len T.b_len (by rfl) (a_cons (qv 0 (pv 0)) a_nil)) a_nil))) (g_name (i := 3) sc_ahead_of_all.nd rfl (by first | exact .inl rfl | exact .inr rfl) (.inl rfl))
 (ss_one (s_if (t_val (q_call (ok_is_ahead T) (hr.mono (by decide)) (by rfl) (a_cons (qv 0 (pv 0)) (a_cons (qv 3 (pv 3)) (a_cons (qv 2 (pv 2)) (a_cons (qv 1 (pv 1)) a_nil))))))
 (ss_one (s_set 2 sc_ahead_of_all.nd rfl (by first | exact .inl rfl | exact .inr rfl) (.inl rfl) (qv 3 (pv 3))))
 ss_nil)))
 (ss_one (s_ret (qv 2 (pv 2)))))), fun ds S Q E h => ?_⟩)
  · obtain ⟨_, _, _, rfl, _⟩ := h
    rfl
  · obtain ⟨p, L, t, rfl, hL, h0, ht, q⟩ := h
    have hst := hL.st
    have hsz := hL.sz
    rw [st_ahead_of_all]
    walk_at "f"
    refine ⟨by omega, ?_⟩
    have hn : ((L.length : Int) - 1).toNat + 1 = L.length := by omega
    refine loop_r1 (fun i τ S' => S = S' ∧ ∃ (r : Nat) (v3 : Option DL.D), r < i ∧ (∀ j, j < i → j ≠ r → Ahd L r j t) ∧ τ = [some (.ref p), some (eQ t), some (.int (r : Int)), v3]) ⟨rfl, 0, _, by omega, fun j h1 h2 => by omega, rfl⟩ ?_ ?_
    · rintro i τ S' i0 hi ⟨rfl, r, v3, hr, htop, rfl⟩
      walk_at "d"
      refine ⟨p, L, i, r, t, rfl, hL, by omega, by omega, ht, ?_⟩
      walk_at "d"
      refine cnd_dec (fun c => ?_) (fun c => ?_)
      · exact ⟨i, _, by omega, fun j h1 h2 => if e : j = r then e ▸ c else ahd_trans c (htop j (by omega) e), rfl⟩
      · exact ⟨r, _, by omega, fun j h1 h2 => if e : j = i then e ▸ (ahd_total (by omega)).resolve_left c else htop j (by omega) h2, rfl⟩
    · rintro τ S' ⟨rfl, r, v3, hr, htop, rfl⟩
      rw [hn] at hr htop
      walk_at "d"
      exact ⟨_, .refl _, q r ⟨hr, htop⟩⟩
def sp_earliest : Sp2 := fun ds S Q _ => ∃ (f : Addr) (T : List Rat), ds = [.ref f] ∧ S f = some (.lst (T.map eQ)) ∧ 0 < T.length ∧ (∀ t ∈ T, Nz 1210 t) ∧ ∀ m ∈ T, (∀ t ∈ T, m ≤ t) → Q (eQ m) S
theorem st_earliest (x0 : DL.D) : start2 N_earliest [x0] = [some x0, none, none] := rfl
set_option maxHeartbeats 8000000 in
theorem ok_earliest (T : Txt K mg) : Fn P w K mg base 2 "earliest" sp_earliest := by
  refine fn_intro2 T.f_earliest sc_earliest (fun ds S Q E h => ?_) (fun cdv A outer s H E f hr => ⟨_, (ss_cons (s_set 1 sc_earliest.nd rfl (by first | exact .inl rfl | exact .inr rfl) (.inl rfl) (q_ixk 0 (qv 0 (pv 0))))
 (ss_cons (s_for .never rfl (i_val (qv 0 (pv 0))) (g_name (i := 2) sc_earliest.nd rfl (by first | exact .inl rfl | exact .inr rfl) (.inl rfl))
 (ss_one (s_if (t_val (q_call (ok_is_less T) (hr.mono (by decide)) (by rfl) (a_cons (qv 2 (pv 2)) (a_cons (qv 1 (pv 1)) a_nil))))
 (ss_one (s_set 1 sc_earliest.nd rfl (by first | exact .inl rfl | exact .inr rfl) (.inl rfl) (qv 2 (pv 2))))
 ss_nil)))
 (ss_one (s_ret (qv 1 (pv 1)))))), fun ds S Q E h => ?_⟩)
  · obtain ⟨_, _, rfl, _⟩ := h
    rfl
  · obtain ⟨f, T, rfl, hT, h0, hz, q⟩ := h
    rw [st_earliest]
    walk_at "f"
    refine nthQ_of (by rw [List.getElem?_map, mi_get h0]; rfl) ?_
    refine loop_inv (e := eQ) (fun done _ τ S' => S = S' ∧ ∃ m v2, m ∈ T ∧ (∀ t ∈ done, m ≤ t) ∧ τ = [some (.ref f), some (eQ m), v2]) ⟨rfl, mi T 0, _, mi_mem h0, fun _ h => (by cases h), rfl⟩ ?_ ?_ ?_
    · rintro _ _ τ S' _ ⟨rfl, _⟩
      exact hT
    · rintro done x rest τ S' e ⟨rfl, m, v2, hm, hmin, rfl⟩
      have hx : x ∈ T := by rw [← e]; simp
      walk_at "d"
      refine ⟨_, _, rfl, (hz x hx).le (by decide), (hz m hm).le (by decide), ?_⟩
      refine cnd_dec (fun c => ?_) (fun c => ?_)
      · refine ⟨rfl, x, _, hx, fun t ht => ?_, rfl⟩
        rcases List.mem_append.mp ht with ht | ht
        · have := hmin t ht; grind
        · rw [List.mem_singleton.mp ht]; exact Rat.le_refl
      · refine ⟨rfl, m, _, hm, fun t ht => ?_, rfl⟩
        rcases List.mem_append.mp ht with ht | ht
        · exact hmin t ht
        · rw [List.mem_singleton.mp ht]; grind
    · rintro τ S' ⟨rfl, m, v2, hm, hmin, rfl⟩
      walk_at "d"
      exact ⟨_, .refl _, q m hm hmin⟩
def sp_first_leader : Sp2 := fun ds S Q _ => ∃ (p : Addr) (L : List Ln), ds = [.ref p] ∧ LA S p L ∧ 0 < L.length ∧ ∀ r, IsEar L r → Q (.int (r : Int)) S
theorem st_first_leader (x0 : DL.D) : start2 N_first_leader [x0] = [some x0, none, none, none, none] := rfl
set_option maxHeartbeats 8000000 in
theorem ok_first_leader (T : Txt K mg) : Fn P w K mg base 2 "first_leader" sp_first_leader := by
  refine fn_intro2 T.f_first_leader sc_first_leader (fun ds S Q E h => ?_) (fun cdv A outer s H E f hr => ⟨_, (ss_cons (s_set 1 sc_first_leader.nd rfl (by first | exact .inl rfl | exact .inr rfl) (.inl rfl) q_int)
 (ss_cons (s_for .never rfl (i_rng2 T.b_range (by rfl) (a_cons q_int (a_cons (q_len T.b_len (by rfl) (a_cons (qv 0 (pv 0)) a_nil)) a_nil))) (g_name (i := 2) sc_first_leader.nd rfl (by first | exact .inl rfl | exact .inr rfl) (.inl rfl))
 (ss_cons (s_set 3 sc_first_leader.nd rfl (by first | exact .inl rfl | exact .inr rfl) (.inl rfl) (q_ixg (fun _ _ => rfl) (qv 0 (pv 0)) (qv 2 (pv 2))))
 (ss_cons (s_set 4 sc_first_leader.nd rfl (by first | exact .inl rfl | exact .inr rfl) (.inl rfl) (q_ixg (fun _ _ => rfl) (qv 0 (pv 0)) (qv 1 (pv 1))))
 (ss_one (s_if (PW.pt (w_or (t_val (q_call (ok_is_less T) (hr.mono (by decide)) (by rfl) (a_cons (q_ixk 1 (qv 3 (pv 3))) (a_cons (q_ixk 1 (qv 4 (pv 4))) a_nil)))) (w_or1 (PW.pt (w_and (t_eq hr (q_ixk 1 (qv 3 (pv 3))) (q_ixk 1 (qv 4 (pv 4)))) (w_and1 (t_val (q_call (ok_is_less T) (hr.mono (by decide)) (by rfl) (a_cons (q_ixk 0 (qv 4 (pv 4))) (a_cons (q_ixk 0 (qv 3 (pv 3))) a_nil))))))))))
 (ss_one (s_set 1 sc_first_leader.nd rfl (by first | exact .inl rfl | exact .inr rfl) (.inl rfl) (qv 2 (pv 2))))
 ss_nil)))))
 (ss_one (s_ret (qv 1 (pv 1)))))), fun ds S Q E h => ?_⟩)
  · obtain ⟨_, _, rfl, _⟩ := h
    rfl
  · obtain ⟨p, L, rfl, hL, h0, q⟩ := h
    have hst := hL.st
    have hsz := hL.sz
    rw [st_first_leader]
    walk_at "f"
    refine ⟨by omega, ?_⟩
    have hn : ((L.length : Int) - 1).toNat + 1 = L.length := by omega
    refine loop_r1 (fun i τ S' => S = S' ∧ ∃ (r : Nat) (v2 v3 v4 : Option DL.D), r < i ∧ (∀ j, j < i → j ≠ r → Ear L r j) ∧ τ = [some (.ref p), some (.int (r : Int)), v2, v3, v4]) ⟨rfl, 0, _, _, _, by omega, fun j h1 h2 => by omega, rfl⟩ ?_ ?_
    · rintro i τ S' i0 hi ⟨rfl, r, v2, v3, v4, hr, htop, rfl⟩
      have hi' : i < L.length := by omega
      have hr' : r < L.length := by omega
      have zi := hL.at hi'
      have zr := hL.at hr'
      have yes : (Ear L i r) → ∀ j, j < i + 1 → j ≠ i → Ear L i j := fun c j h1 h2 => if e : j = r then e ▸ c else ear_trans c (htop j (by omega) e)
      have no : ¬ ((ln L i).2 < (ln L r).2 ∨ ((ln L i).2 = (ln L r).2 ∧ (ln L r).1 < (ln L i).1)) → ∀ j, j < i + 1 → j ≠ r → Ear L r j := fun c j h1 h2 => if e : j = i then by
          subst e; unfold Ear; grind
        else htop j (by omega) h2
      walk_at "f"
      refine ⟨_, _, rfl, zi.2.le (by decide), zr.2.le (by decide), ?_⟩
      refine cnd_dec (fun c => ?_) (fun c => ?_)
      · exact ⟨rfl, i, _, _, _, by omega, yes (.inl c), rfl⟩
      · walk_at "d"
        refine cnd_dec (fun c2 => ?_) (fun c2 => ?_)
        · refine ⟨_, _, rfl, zr.1.le (by decide), zi.1.le (by decide), ?_⟩
          refine cnd_dec (fun c3 => ?_) (fun c3 => ?_)
          · exact ⟨rfl, i, _, _, _, by omega, yes (.inr ⟨c2, .inl c3⟩), rfl⟩
          · exact ⟨rfl, r, _, _, _, by omega, no (by grind), rfl⟩
        · exact ⟨r, _, _, _, by omega, no (by grind), rfl⟩
    · rintro τ S' ⟨rfl, r, v2, v3, v4, hr, htop, rfl⟩
      rw [hn] at hr htop
      walk_at "d"
      exact ⟨_, .refl _, q r ⟨hr, htop⟩⟩
def sp_passed_at : Sp2 := fun ds S Q _ => ∃ (p : Addr) (L : List Ln) (r : Nat) (s : Option Rat), ds = [.ref p, .int (r : Int), eO s] ∧ LA S p L ∧ r < L.length ∧ (∀ v, s = some v → Nz 1210 v) ∧ ∀ (S' : Sto) (f : Addr) (T : List Rat), Sub S S' → S f = none → S' f = some (.lst (T.map eQ)) → (∀ t, t ∈ T ↔ Passes L r s t) → T.length ≤ 20 → Q (.ref f) S'
theorem st_passed_at (x0 x1 x2 : DL.D) : start2 N_passed_at [x0, x1, x2] = [some x0, some x1, some x2, none, none, none] := rfl
set_option maxHeartbeats 8000000 in
theorem ok_passed_at (T : Txt K mg) : Fn P w K mg base 5 "passed_at" sp_passed_at := by
  refine fn_intro2 T.f_passed_at sc_passed_at (fun ds S Q E h => ?_) (fun cdv A outer s H E f hr => ⟨_, (ss_cons (s_set 3 sc_passed_at.nd rfl (by first | exact .inl rfl | exact .inr rfl) (.inl rfl) (q_lst a_nil))
 (ss_cons (s_for .never rfl (i_val (qv 0 (pv 0))) (g_name (i := 4) sc_passed_at.nd rfl (by first | exact .inl rfl | exact .inr rfl) (.inl rfl))
 (ss_one (s_if (t_val (q_call (ok_is_less T) (hr.mono (by decide)) (by rfl) (a_cons (q_ixk 1 (q_ixg (fun _ _ => rfl) (qv 0 (pv 0)) (qv 1 (pv 1)))) (a_cons (q_ixk 1 (qv 4 (pv 4))) a_nil))))
 (ss_cons (s_set 5 sc_passed_at.nd rfl (by first | exact .inl rfl | exact .inr rfl) (.inl rfl) (q_ixk 1 (q_call (ok_meeting T) (hr.mono (by decide)) (by rfl) (a_cons (q_ixg (fun _ _ => rfl) (qv 0 (pv 0)) (qv 1 (pv 1))) (a_cons (qv 4 (pv 4)) a_nil)))))
 (ss_one (s_if (PW.pt (w_or (t_is (qv 2 (pv 2)) q_non) (w_or1 (t_val (q_call (ok_is_less T) (hr.mono (by decide)) (by rfl) (a_cons (qv 2 (pv 2)) (a_cons (qv 5 (pv 5)) a_nil)))))))
 (ss_one (s_expr (q_append (qv 3 (pv 3)) (a_cons (qv 5 (pv 5)) a_nil))))
 ss_nil)))
 ss_nil)))
 (ss_one (s_ret (qv 3 (pv 3)))))), fun ds S Q E h => ?_⟩)
  · obtain ⟨_, _, _, _, rfl, _⟩ := h
    rfl
  · obtain ⟨p, L, r, s, rfl, hL, hr, hs, q⟩ := h
    have hst := hL.st
    have hsz := hL.sz
    have zr := hL.at hr
    rw [st_passed_at]
    walk_at "d"
    intro f nf
    have hpf := hL.ne nf
    rw [ups_ne hpf, hst]
    walk_at "d"
    refine loop_inv (e := eL) (fun done _ τ S' => Sub S S' ∧ (∃ T : List Rat, S' f = some (.lst (T.map eQ)) ∧ (∀ t, t ∈ T ↔ ∃ l ∈ done, (ln L r).2 < l.2 ∧ t = met (ln L r) l ∧ Gt s t) ∧ T.length ≤ done.length) ∧ ∃ v4 v5, τ = [some (.ref p), some (.int (r : Int)), some (eO s), some (.ref f), v4, v5]) ⟨Sub.drop nf, ⟨[], ups_same, fun t => ⟨fun h => (by cases h), fun ⟨l, h, _⟩ => (by cases h)⟩, Nat.le_refl _⟩, _, _, rfl⟩ ?_ ?_ ?_
    · rintro _ _ τ S' _ ⟨sub, _⟩
      exact sub _ _ hst
    · rintro done l rest τ S' e ⟨sub, ⟨T, hT, mT, lT⟩, v4, v5, rfl⟩
      have hst' := sub _ _ hst
      have hl : l ∈ L := by rw [← e]; simp
      have zl := hL.ok l hl
      have hdl : done.length < 20 := by have := congrArg List.length e; simp only [List.length_append, List.length_cons] at this; omega
      have skip : ¬ ((ln L r).2 < l.2 ∧ Gt s (met (ln L r) l)) → (∀ t, t ∈ T ↔ ∃ l' ∈ done ++ [l], (ln L r).2 < l'.2 ∧ t = met (ln L r) l' ∧ Gt s t) := fun c t => by
        rw [mT]
        constructor
        · rintro ⟨l', h1, h2⟩; exact ⟨l', List.mem_append_left _ h1, h2⟩
        · rintro ⟨l', h1, h2, h3, h4⟩
          rcases List.mem_append.mp h1 with h1 | h1
          · exact ⟨l', h1, h2, h3, h4⟩
          · rw [List.mem_singleton.mp h1] at h2 h3
            subst h3
            exact absurd ⟨h2, h4⟩ c
      have take : (ln L r).2 < l.2 → Gt s (met (ln L r) l) → (∀ t, t ∈ T ++ [met (ln L r) l] ↔ ∃ l' ∈ done ++ [l], (ln L r).2 < l'.2 ∧ t = met (ln L r) l' ∧ Gt s t) := fun c1 c2 t => by
        rw [List.mem_append, mT, List.mem_singleton]
        constructor
        · rintro (⟨l', h1, h2⟩ | rfl)
          · exact ⟨l', List.mem_append_left _ h1, h2⟩
          · exact ⟨l, by simp, c1, rfl, c2⟩
        · rintro ⟨l', h1, h2, h3, h4⟩
          rcases List.mem_append.mp h1 with h1 | h1
          · exact .inl ⟨l', h1, h2, h3, h4⟩
          · rw [List.mem_singleton.mp h1] at h3
            exact .inr h3
      walk_at "f"
      refine ⟨_, _, rfl, zr.2.le (by decide), zl.2.le (by decide), ?_⟩
      refine cnd_dec (fun c => ?_) (fun c => ?_)
      · have ne : (ln L r).2 ≠ l.2 := by grind
        walk_at "f"
        refine ⟨_, _, rfl, zr, zl, ?_⟩
        rw [meet_ne ne]
        unfold eMt
        walk_at "d"
        have zm := zr.met zl ne
        cases s with
        | none =>
          walk_at "f"
          refine ⟨⟨_, rfl⟩, small1000 (by first | omega | (rw [List.length_map]; omega)), sub.own nf, ⟨T ++ [met (ln L r) l], by rw [List.map_append]; rfl, take c (fun v hv => (by cases hv)), ?_⟩, _, _, rfl⟩
          simp only [List.length_append, List.length_cons, List.length_nil]; omega
        | some v =>
          walk_at "f"
          refine ⟨v, _, rfl, (hs v rfl).le (by decide), zm.le (by decide), ?_⟩
          refine cnd_dec (fun c2 => ?_) (fun c2 => ?_)
          · walk_at "f"
            refine ⟨⟨_, rfl⟩, small1000 (by first | omega | (rw [List.length_map]; omega)), sub.own nf, ⟨T ++ [met (ln L r) l], by rw [List.map_append]; rfl, take c (fun v' hv => by cases hv; exact c2), ?_⟩, _, _, rfl⟩
            simp only [List.length_append, List.length_cons, List.length_nil]; omega
          · refine ⟨sub, ⟨T, hT, skip (fun z => c2 (z.2 v rfl)), ?_⟩, _, _, rfl⟩
            simp only [List.length_append, List.length_cons, List.length_nil]; omega
      · refine ⟨sub, ⟨T, hT, skip (fun z => c z.1), ?_⟩, _, _, rfl⟩
        simp only [List.length_append, List.length_cons, List.length_nil]; omega
    · rintro τ S' ⟨sub, ⟨T, hT, mT, lT⟩, v4, v5, rfl⟩
      walk_at "d"
      refine ⟨_, .refl _, q S' f T sub nf hT (fun t => ?_) (by omega)⟩
      rw [mT]
      unfold DL.Passes
      constructor
      · rintro ⟨l, hl, h2, h3, h4⟩
        obtain ⟨j, hj, rfl⟩ := mem_ln.mp hl
        exact ⟨j, hj, h2, h3, h4⟩
      · rintro ⟨j, hj, h2⟩
        exact ⟨_, ln_mem hj, h2⟩
def sp_leaders : Sp2 := fun ds S Q _ => ∃ (p : Addr) (L : List Ln), ds = [.ref p] ∧ LA S p L ∧ ∀ S' f rows, Sub S S' → S f = none → S' f = some (.lst (rows.map eR)) → IsRow L rows → Q (.ref f) S'
theorem st_leaders (x0 : DL.D) : start2 N_leaders [x0] = [some x0, none, none, none] := rfl
set_option maxHeartbeats 8000000 in
theorem ok_leaders (T : Txt K mg) : Fn P w K mg base 7 "leaders" sp_leaders := by
  refine fn_intro2 T.f_leaders sc_leaders (fun ds S Q E h => ?_) (fun cdv A outer s H E f hr => ⟨_, (ss_cons (s_if (t_eq hr (qv 0 (pv 0)) (q_lst a_nil))
 (ss_one (s_ret (q_lst a_nil)))
 ss_nil)
 (ss_cons (s_set 1 sc_leaders.nd rfl (by first | exact .inl rfl | exact .inr rfl) (.inl rfl) (q_lst (a_cons (q_tup (a_cons (q_call (ok_first_leader T) (hr.mono (by decide)) (by rfl) (a_cons (qv 0 (pv 0)) a_nil)) (a_cons q_non a_nil))) a_nil)))
 (ss_cons (s_set 2 sc_leaders.nd rfl (by first | exact .inl rfl | exact .inr rfl) (.inl rfl) (q_call (ok_passed_at T) (hr.mono (by decide)) (by rfl) (a_cons (qv 0 (pv 0)) (a_cons (q_ixk 0 (q_ixk 0 (qv 1 (pv 1)))) (a_cons q_non a_nil)))))
 (ss_cons (s_while .never (t_ne hr (qv 2 (pv 2)) (q_lst a_nil))
 (ss_cons (s_set 3 sc_leaders.nd rfl (by first | exact .inl rfl | exact .inr rfl) (.inl rfl) (q_call (ok_earliest T) (hr.mono (by decide)) (by rfl) (a_cons (qv 2 (pv 2)) a_nil)))
 (ss_cons (s_expr (q_append (qv 1 (pv 1)) (a_cons (q_tup (a_cons (q_call (ok_ahead_of_all T) (hr.mono (by decide)) (by rfl) (a_cons (qv 0 (pv 0)) (a_cons (qv 3 (pv 3)) a_nil))) (a_cons (qv 3 (pv 3)) a_nil))) a_nil)))
 (ss_one (s_set 2 sc_leaders.nd rfl (by first | exact .inl rfl | exact .inr rfl) (.inl rfl) (q_call (ok_passed_at T) (hr.mono (by decide)) (by rfl) (a_cons (qv 0 (pv 0)) (a_cons (q_ixk 0 (q_ixg (fun _ _ => rfl) (qv 1 (pv 1)) (q_neg q_int))) (a_cons (qv 3 (pv 3)) a_nil)))))))))
 (ss_one (s_ret (qv 1 (pv 1)))))))), fun ds S Q E h => ?_⟩)
  · obtain ⟨_, _, rfl, _⟩ := h
    rfl
  · obtain ⟨p, L, rfl, hL, q⟩ := h
    have hst := hL.st
    have hsz := hL.sz
    rw [st_leaders]
    walk_at "d"
    intro p0 n0
    refine eq_refs (α := Ln) (ys := []) (by rw [ups_ne (hL.ne n0)]; exact hst) ups_same ?_
    walk_at "d"
    refine cnd_dec (fun e => ?_) (fun e => ?_)
    · intro f nf
      obtain ⟨_, nf⟩ := ups_no nf
      exact ⟨_, .refl _, q _ f [] ((Sub.drop n0).own nf) nf ups_same (.inl ⟨e, rfl⟩)⟩
    · have h0 : 0 < L.length := List.length_pos_iff.mpr e
      have hL1 := hL.new (o := .lst []) n0
      refine ⟨p, L, rfl, hL1, h0, fun r hr => ?_⟩
      walk_at "d"
      intro f nf
      obtain ⟨hf0, nf⟩ := ups_no nf
      have hL2 := hL1.upd (o := .lst [.tup [.int (r : Int), .non]]) (hL.ne nf)
      walk_at "d"
      refine ⟨p, L, r, none, rfl, hL2, hr.1, fun v hv => (by cases hv), fun S3 tt T s3 ntt hT mT lT => ?_⟩
      obtain ⟨htf, ntt⟩ := ups_no ntt
      obtain ⟨ht0, ntt⟩ := ups_no ntt
      refine ⟨fun m τ S' => Sub S S' ∧ ∃ (pre : Rw) (r : Nat) (s : Option Rat) (tt : Addr) (T : List Rat) (v3 : Option DL.D), tt ≠ f ∧ S' f = some (.lst ((pre ++ [(r, s)]).map eR)) ∧ S' tt = some (.lst (T.map eQ)) ∧ (∀ t, t ∈ T ↔ Passes L r s t) ∧ T.length ≤ 20 ∧ DL.Pre (IsTop L) (pre ++ [(r, s)]) r s ∧ r < L.length ∧ (∀ v, s = some v → Nz 1210 v) ∧
        (∀ t, Ge s t → (∀ v, Passes L r s v → t < v) → IsTop L t r) ∧ pre.length + stp L (ln L r).2 ≤ L.length ∧ m = stp L (ln L r).2 ∧ τ = [some (.ref p), some (.ref f), some (.ref tt), v3],
        ⟨_, (((Sub.drop n0).own nf).trans s3), [], r, none, tt, T, _, htf, s3 _ _ ups_same, hT, mT, lT, .start, hr.1, fun v hv => (by cases hv), fun t _ hv => ear_top hr hv, by have := stp_le L (ln L r).2; simpa using this, rfl, rfl⟩, ?_⟩
      rintro m τ S' ⟨sub, pre, r, s, tt, T, v3, htf, hf, hT, mT, lT, hpre, hr, hs, hcur, hlen, rfl, rfl⟩
      walk_at "d"
      intro p1 n1
      refine ne_refs (α := Rat) (ys := []) (by rw [ups_ne (ne_of_st hT n1)]; exact hT) ups_same ?_
      walk_at "d"
      refine cnd_dec (fun e => ?_) (fun e => ?_)
      · subst e
        refine ⟨_, .refl _, q _ f _ (sub.trans (Sub.drop n1)) nf (by rw [ups_ne (ne_of_st hf n1)]; exact hf) (.inr ⟨by assumption, hpre.fin fun t ht => hcur t ht fun v hv => ?_⟩)⟩
        exact absurd ((mT v).mpr hv) (by simp)
      · have hT1 : ups S' p1 (.lst []) tt = some (.lst (T.map eQ)) := by rw [ups_ne (ne_of_st hT n1)]; exact hT
        have zT : ∀ t ∈ T, Nz 1210 t := fun t ht => by
          obtain ⟨j, hj, hlt, rfl, _⟩ := (mT t).mp ht
          exact (hL.at hr).met (hL.at hj) (by grind)
        refine ⟨tt, T, rfl, hT1, List.length_pos_iff.mpr e, zT, fun u hu hmin => ?_⟩
        have hLs := (hL.sub sub).new (o := .lst []) n1
        have hf1 : ups S' p1 (.lst []) f = some (.lst ((pre ++ [(r, s)]).map eR)) := by rw [ups_ne (ne_of_st hf n1)]; exact hf
        walk_at "d"
        refine ⟨⟨_, hf1⟩, p, L, u, rfl, hLs, h0, (zT u hu).le (by decide), fun r' hr' => ?_⟩
        walk_at "d"
        have hp := (mT u).mp hu
        have gtu : Gt s u := by obtain ⟨_, _, _, _, h⟩ := hp; exact h
        have before : ∀ t, Ge s t → t < u → IsTop L t r := fun t ht hlt => hcur t ht fun v hv => by
          have := hmin v ((mT v).mpr hv); grind
        have hne := pass_other hp hr'
        obtain ⟨t1, ht1, hlt1⟩ := gt_between gtu
        have steep := top_steep hlt1 (before t1 ht1 hlt1) hr' hne
        have hst2 := stp_lt hr'.1 steep
        rw [hf1]
        walk_at "d"
        refine ⟨small1000 (by simp only [List.length_append, List.length_cons, List.length_nil]; omega), ?_⟩
        have em : List.map eR (pre ++ [(r, s)]) ++ [D.tup [D.int (r' : Int), eQ u]] = ((pre ++ [(r, s)]) ++ [(r', some u)]).map eR := by rw [List.map_append (l₁ := pre ++ [(r, s)])]; rfl
        rw [em, atI_lastmap]
        walk_at "d"
        have hpf : p ≠ f := by intro z; subst z; have := hst.symm.trans nf; cases this
        refine ⟨p, L, r', some u, rfl, hLs.upd hpf, hr'.1, fun v hv => (by cases hv; exact zT u hu), fun S4 tt' T' s4 ntt' hT' mT' lT' => ?_⟩
        obtain ⟨htf', _⟩ := ups_no ntt'
        refine ⟨_, hst2, ((sub.trans (Sub.drop n1)).own nf).trans s4, pre ++ [(r, s)], r', some u, tt', T', _, htf', s4 _ _ ups_same, hT', mT', lT', hpre.step gtu before hne, hr'.1, fun v hv => (by cases hv; exact zT u hu), fun t ht hv => stay_top hr' rfl ht hv, ?_, rfl, rfl⟩
        simp only [List.length_append, List.length_cons, List.length_nil]; omega
def sp_cover : Sp2 := fun ds S Q _ => ∃ (p : Addr) (L : List Ln) (r : Nat), ds = [.ref p, .int (r : Int)] ∧ LA S p L ∧ r < L.length ∧ ∀ rows, IsRow L rows → Q (eCv (cvr L rows r)) S
theorem st_cover (x0 x1 : DL.D) : start2 N_cover [x0, x1] = [some x0, some x1, none, none, none, none] := rfl
set_option maxHeartbeats 8000000 in
theorem ok_cover (T : Txt K mg) : Fn P w K mg base 8 "cover" sp_cover := by
  refine fn_intro2 T.f_cover sc_cover (fun ds S Q E h => ?_) (fun cdv A outer s H E f hr => ⟨_, (ss_cons (s_setLc [4, 5] (own := [("leader", 4), ("since", 5)]) 2 rfl sc_cover.nd rfl rfl (sw_true rfl rfl rfl (by decide +kernel)) (i_val (q_call (ok_leaders T) (hr.mono (by decide)) (by rfl) (a_cons (qv 0 (pv 0)) a_nil))) (blkOk_by (N := N_cover) (sc := defScope s_cover) (by decide +kernel)) rfl (by decide) (fun _ _ _ _ _ => (g_tup (n := 2) rfl (gs_cons (g_name (i := 4) sc_cover.nd rfl (.inl rfl) (.inr rfl)) (gs_cons (g_name (i := 5) sc_cover.nd rfl (.inl rfl) (.inr rfl)) gs_nil)))) (fun _ _ _ _ _ => ts_nil) (fun _ _ _ _ _ => (qv 4 (pv 4))))
 (ss_cons (s_if (t_in hr (qv 1 (pv 1)) (qv 2 (pv 2)))
 (ss_one (s_ret q_non))
 ss_nil)
 (ss_cons (s_set 3 sc_cover.nd rfl (by first | exact .inl rfl | exact .inr rfl) (.inl rfl) q_int)
 (ss_cons (s_while .never (PW.pt (w_and (t_lt (q_add (qv 3 (pv 3)) q_int) (q_len T.b_len (by rfl) (a_cons (qv 2 (pv 2)) a_nil))) (w_and1 (t_not (t_val (q_call (ok_is_less T) (hr.mono (by decide)) (by rfl) (a_cons (q_ixk 1 (q_ixg (fun _ _ => rfl) (qv 0 (pv 0)) (qv 1 (pv 1)))) (a_cons (q_ixk 1 (q_ixg (fun _ _ => rfl) (qv 0 (pv 0)) (q_ixg (fun _ _ => rfl) (qv 2 (pv 2)) (q_add (qv 3 (pv 3)) q_int)))) a_nil))))))))
 (ss_one (s_set 3 sc_cover.nd rfl (by first | exact .inl rfl | exact .inr rfl) (.inl rfl) (q_add (qv 3 (pv 3)) q_int))))
 (ss_one (s_ret (q_tup (a_cons (q_ixg (fun _ _ => rfl) (qv 2 (pv 2)) (qv 3 (pv 3))) (a_cons (q_ixg (fun _ _ => rfl) (qv 2 (pv 2)) (q_min2 rfl T.b_min (by rfl) (a_cons (q_add (qv 3 (pv 3)) q_int) (a_cons (q_sub (q_len T.b_len (by rfl) (a_cons (qv 2 (pv 2)) a_nil)) q_int) a_nil)))) a_nil))))))))), fun ds S Q E h => ?_⟩)
  · obtain ⟨_, _, _, rfl, _⟩ := h
    rfl
  · obtain ⟨p, L, r, rfl, hL, hr, q⟩ := h
    have hsz := hL.sz
    rw [st_cover]
    walk_at "d"
    refine ⟨p, L, rfl, hL, fun S1 f rows s1 nf hf hrow => ?_⟩
    have q := q rows hrow
    have hrl := hrow.len
    walk_at "f"
    refine lc_map (e := eR) (fun x => some (.int (x.1 : Int))) (by omega) (fun _ s => s _ _ hf) (fun x hx S3 s3 N Y hN hY => ?_) (fun g ng => ?_)
    · walk_at "d"
      exact hY _ rfl _ (.refl _)
    rw [show rows.filterMap (fun x => some (DL.D.int (x.1 : Int))) = (rows.map (·.1)).map eN by rw [List.filterMap_eq_map', List.map_map]; rfl]
    have hsub : Sub S (ups S1 g (.lst ((rows.map (·.1)).map eN))) := s1.trans (Sub.drop ng)
    have hg : ups S1 g (.lst ((rows.map (·.1)).map eN)) g = some (.lst ((rows.map (·.1)).map eN)) := ups_same
    have hLg := hL.sub hsub
    generalize ups S1 g (.lst ((rows.map (·.1)).map eN)) = S2 at *
    have hst := hLg.st
    have zr := hL.at hr
    unfold cvr at q
    have hlt : ∀ x ∈ rows.map (·.1), x < L.length := fun x hx => by
      obtain ⟨y, hy, rfl⟩ := List.mem_map.mp hx
      exact hrow.rise.2 y hy
    have hpos : r ∉ rows.map (·.1) → 0 < (rows.map (·.1)).length := fun _ => by
      rcases hrow with ⟨rfl, _⟩ | ⟨_, r0, rest, rfl, _⟩
      · simp at hr
      · simp
    have hln : (rows.map (·.1)).length = rows.length := List.length_map ..
    generalize rows.map (·.1) = R at *
    have hRl : R.length ≤ 20 := by omega
    clear hln
    walk_at "d"
    refine in_ref (α := Nat) hg ?_
    walk_at "d"
    refine cnd_dec (fun c => ?_) (fun c => ?_)
    · rw [if_pos c] at q
      exact ⟨_, hsub, q⟩
    · rw [if_neg c] at q
      have hp := hpos c
      refine ⟨fun m τ S' => S2 = S' ∧ ∃ i, i < R.length ∧ m = R.length - i ∧ cvp L (ln L r).2 R = cvp L (ln L r).2 (R.drop i) ∧ ∃ v4 v5, τ = [some (.ref p), some (.int (r : Int)), some (.ref g), some (.int (i : Int)), v4, v5], ⟨_, rfl, 0, hp, rfl, rfl, _, _, rfl⟩, ?_⟩
      rintro m τ S' ⟨rfl, i, hi, rfl, he, v4, v5, rfl⟩
      have ei : R[i]? = some R[i] := List.getElem?_eq_getElem hi
      have ai : atI (R.map eN) (i : Int) = some (eN R[i]) := atI_nat (by rw [List.getElem?_map, ei]; rfl)
      walk_at "f"
      refine cnd_dec (fun c2 => ?_) (fun c2 => ?_)
      · have ej : R[i + 1]? = some R[i + 1] := List.getElem?_eq_getElem c2
        have aj : atI (R.map eN) ((i + 1 : Nat) : Int) = some (eN R[i + 1]) := atI_nat (by rw [List.getElem?_map, ej]; rfl)
        have hj : R[i + 1] < L.length := hlt _ (List.getElem_mem c2)
        have zj := hL.at hj
        have hd : R.drop i = R[i] :: R[i + 1] :: R.drop (i + 2) := by rw [List.drop_eq_getElem_cons hi, List.drop_eq_getElem_cons c2]
        walk_at "f"
        refine ⟨_, _, rfl, zr.2.le (by decide), zj.2.le (by decide), ?_⟩
        refine cnd_dec (fun c3 => ?_) (fun c3 => ?_)
        · walk_at "f"
          have e2 : (if (R.length : Int) - 1 < ((i + 1 : Nat) : Int) then (R.length : Int) - 1 else ((i + 1 : Nat) : Int)) = ((i + 1 : Nat) : Int) := if_neg (by omega)
          try rw [e2, aj]
          walk_at "d"
          rw [he, hd, show cvp L (ln L r).2 (R[i] :: R[i + 1] :: R.drop (i + 2)) = (R[i], R[i + 1]) by show (if _ then _ else _) = _; rw [if_pos c3]] at q
          exact ⟨_, hsub, q⟩
        · refine ⟨R.length - (i + 1), by omega, rfl, i + 1, c2, rfl, ?_, _, _, rfl⟩
          try rw [he]
          try rw [hd]
          show (if (ln L r).2 < (ln L R[i + 1]).2 then (R[i], R[i + 1]) else cvp L (ln L r).2 (R[i + 1] :: R.drop (i + 2))) = _
          rw [if_neg c3, List.drop_eq_getElem_cons c2]
      · have e2 : (if (R.length : Int) - 1 < ((i + 1 : Nat) : Int) then (R.length : Int) - 1 else ((i + 1 : Nat) : Int)) = (i : Int) := by rw [if_pos (by omega)]; omega
        walk_at "f"
        try rw [e2, ai]
        walk_at "d"
        have hd : R.drop i = [R[i]] := by rw [List.drop_eq_getElem_cons hi, List.drop_eq_nil_of_le (by omega)]
        rw [he, hd] at q
        exact ⟨_, hsub, q⟩
def sp_are_joint : Sp2 := fun ds S Q _ => ∃ (p : Addr) (L : List Ln) (r a b : Nat), ds = [.ref p, .int (r : Int), .int (a : Int), .int (b : Int)] ∧ LA S p L ∧ r < L.length ∧ a < L.length ∧ b < L.length ∧ Q (.bl (decide (Jnt L r a b))) S
theorem st_are_joint (x0 x1 x2 x3 : DL.D) : start2 N_are_joint [x0, x1, x2, x3] = [some x0, some x1, some x2, some x3] := rfl
set_option maxHeartbeats 8000000 in
theorem ok_are_joint (T : Txt K mg) : Fn P w K mg base 5 "are_joint" sp_are_joint := by
  refine fn_intro2 T.f_are_joint sc_are_joint (fun ds S Q E h => ?_) (fun cdv A outer s H E f hr => ⟨_, (ss_cons (s_if (PW.pt (w_or (t_not (t_val (q_call (ok_is_less T) (hr.mono (by decide)) (by rfl) (a_cons (q_ixk 1 (q_ixg (fun _ _ => rfl) (qv 0 (pv 0)) (qv 2 (pv 2)))) (a_cons (q_ixk 1 (q_ixg (fun _ _ => rfl) (qv 0 (pv 0)) (qv 1 (pv 1)))) a_nil))))) (w_or1 (t_not (t_val (q_call (ok_is_less T) (hr.mono (by decide)) (by rfl) (a_cons (q_ixk 1 (q_ixg (fun _ _ => rfl) (qv 0 (pv 0)) (qv 1 (pv 1)))) (a_cons (q_ixk 1 (q_ixg (fun _ _ => rfl) (qv 0 (pv 0)) (qv 3 (pv 3)))) a_nil))))))))
 (ss_one (s_ret q_bl))
 ss_nil)
 (ss_one (s_ret (q_not (q_call (ok_is_less T) (hr.mono (by decide)) (by rfl) (a_cons (q_ixk 1 (q_call (ok_meeting T) (hr.mono (by decide)) (by rfl) (a_cons (q_ixg (fun _ _ => rfl) (qv 0 (pv 0)) (qv 2 (pv 2))) (a_cons (q_ixg (fun _ _ => rfl) (qv 0 (pv 0)) (qv 1 (pv 1))) a_nil)))) (a_cons (q_ixk 1 (q_call (ok_meeting T) (hr.mono (by decide)) (by rfl) (a_cons (q_ixg (fun _ _ => rfl) (qv 0 (pv 0)) (qv 3 (pv 3))) (a_cons (q_ixg (fun _ _ => rfl) (qv 0 (pv 0)) (qv 1 (pv 1))) a_nil)))) a_nil))))))), fun ds S Q E h => ?_⟩)
  · obtain ⟨_, _, _, _, _, rfl, _⟩ := h
    rfl
  · obtain ⟨p, L, r, a, b, rfl, hL, hr, ha, hb, q⟩ := h
    have hst := hL.st
    have zr := hL.at hr
    have za := hL.at ha
    have zb := hL.at hb
    rw [st_are_joint]
    walk_at "f"
    refine ⟨_, _, rfl, za.2.le (by decide), zr.2.le (by decide), ?_⟩
    refine cnd_dec (fun c => ?_) (fun c => ?_)
    · walk_at "f"
      refine ⟨_, _, rfl, zr.2.le (by decide), zb.2.le (by decide), ?_⟩
      refine cnd_dec (fun c2 => ?_) (fun c2 => ?_)
      · have na : (ln L a).2 ≠ (ln L r).2 := by grind
        have nb : (ln L b).2 ≠ (ln L r).2 := by grind
        walk_at "f"
        refine ⟨_, _, rfl, za, zr, ?_⟩
        rw [meet_ne na]
        unfold eMt
        walk_at "f"
        refine ⟨_, _, rfl, zb, zr, ?_⟩
        rw [meet_ne nb]
        unfold eMt
        walk_at "d"
        refine ⟨_, _, rfl, (za.met zr na).le (by decide), (zb.met zr nb).le (by decide), ?_⟩
        refine ⟨_, .refl _, ?_⟩
        rwa [show (!decide (met (ln L a) (ln L r) < met (ln L b) (ln L r))) = decide (Jnt L r a b) by rw [← decide_not]; exact decide_eq_decide.mpr ⟨fun h => ⟨c, c2, h⟩, fun h => h.2.2⟩]
      · refine ⟨_, .refl _, ?_⟩
        rwa [decide_eq_false (fun h : Jnt L r a b => c2 h.2.1)] at q
    · refine ⟨_, .refl _, ?_⟩
      rwa [decide_eq_false (fun h : Jnt L r a b => c h.1)] at q
def sp_is_always_ahead : Sp2 := fun ds S Q _ => ∃ (p : Addr) (L : List Ln) (a r : Nat), ds = [.ref p, .int (a : Int), .int (r : Int)] ∧ LA S p L ∧ a < L.length ∧ r < L.length ∧ Q (.bl (decide (Alw L a r))) S
theorem st_is_always_ahead (x0 x1 x2 : DL.D) : start2 N_is_always_ahead [x0, x1, x2] = [some x0, some x1, some x2] := rfl
set_option maxHeartbeats 8000000 in
theorem ok_is_always_ahead (T : Txt K mg) : Fn P w K mg base 6 "is_always_ahead" sp_is_always_ahead := by
  refine fn_intro2 T.f_is_always_ahead sc_is_always_ahead (fun ds S Q E h => ?_) (fun cdv A outer s H E f hr => ⟨_, (ss_one (s_ret (q_and (q_eq hr (q_ixk 1 (q_ixg (fun _ _ => rfl) (qv 0 (pv 0)) (qv 1 (pv 1)))) (q_ixk 1 (q_ixg (fun _ _ => rfl) (qv 0 (pv 0)) (qv 2 (pv 2))))) (q_one (q_call (ok_is_ahead T) (hr.mono (by decide)) (by rfl) (a_cons (qv 0 (pv 0)) (a_cons (qv 1 (pv 1)) (a_cons (qv 2 (pv 2)) (a_cons (q_tup (a_cons q_int (a_cons q_int a_nil))) a_nil))))))))), fun ds S Q E h => ?_⟩)
  · obtain ⟨_, _, _, _, rfl, _⟩ := h
    rfl
  · obtain ⟨p, L, a, r, rfl, hL, ha, hr, q⟩ := h
    have hst := hL.st
    rw [st_is_always_ahead]
    walk_at "f"
    refine cnd_dec (fun c => ?_) (fun c => ?_)
    · refine ⟨p, L, a, r, 0, rfl, hL, ha, hr, zero_nz.le (by decide), ?_⟩
      refine ⟨_, .refl _, ?_⟩
      rwa [show decide (Ahd L a r 0) = decide (Alw L a r) from decide_eq_decide.mpr ⟨fun h => ⟨c, h⟩, fun h => h.2⟩]
    · refine ⟨_, .refl _, ?_⟩
      rwa [decide_eq_false (fun h : Alw L a r => c h.1)] at q
def sp_is_cover : Sp2 := fun ds S Q _ => ∃ (p : Addr) (L : List Ln) (r : Nat) (i j : Int), ds = [.ref p, .int (r : Int), .int i, .int j] ∧ LA S p L ∧ r < L.length ∧ ∀ c : Bool, (c = true ↔ IsCov L r i j) → Q (.bl c) S
theorem st_is_cover (x0 x1 x2 x3 : DL.D) : start2 N_is_cover [x0, x1, x2, x3] = [some x0, some x1, some x2, some x3, none] := rfl
set_option maxHeartbeats 8000000 in
theorem ok_is_cover (T : Txt K mg) : Fn P w K mg base 7 "is_cover" sp_is_cover := by
  refine fn_intro2 T.f_is_cover sc_is_cover (fun ds S Q E h => ?_) (fun cdv A outer s H E f hr => ⟨_, (ss_cons (s_for .never rfl (i_val (q_tup (a_cons (qv 2 (pv 2)) (a_cons (qv 3 (pv 3)) a_nil)))) (g_name (i := 4) sc_is_cover.nd rfl (by first | exact .inl rfl | exact .inr rfl) (.inl rfl))
 (ss_one (s_if (PW.pt (w_or (t_eq hr (qv 4 (pv 4)) (qv 1 (pv 1))) (w_or1 (t_not (t_ch_lelt q_int (qv 4 (pv 4)) (q_len T.b_len (by rfl) (a_cons (qv 0 (pv 0)) a_nil)))))))
 (ss_one (s_ret q_bl))
 ss_nil)))
 (ss_cons (s_if (PW.pt (w_or (t_val (q_call (ok_is_always_ahead T) (hr.mono (by decide)) (by rfl) (a_cons (qv 0 (pv 0)) (a_cons (qv 2 (pv 2)) (a_cons (qv 1 (pv 1)) a_nil))))) (w_or1 (t_val (q_call (ok_is_always_ahead T) (hr.mono (by decide)) (by rfl) (a_cons (qv 0 (pv 0)) (a_cons (qv 3 (pv 3)) (a_cons (qv 1 (pv 1)) a_nil))))))))
 (ss_one (s_ret q_bl))
 ss_nil)
 (ss_one (s_ret (q_or (q_call (ok_are_joint T) (hr.mono (by decide)) (by rfl) (a_cons (qv 0 (pv 0)) (a_cons (qv 1 (pv 1)) (a_cons (qv 2 (pv 2)) (a_cons (qv 3 (pv 3)) a_nil))))) (q_one (q_call (ok_are_joint T) (hr.mono (by decide)) (by rfl) (a_cons (qv 0 (pv 0)) (a_cons (qv 1 (pv 1)) (a_cons (qv 3 (pv 3)) (a_cons (qv 2 (pv 2)) a_nil))))))))))), fun ds S Q E h => ?_⟩)
  · obtain ⟨_, _, _, _, _, rfl, _⟩ := h
    rfl
  · obtain ⟨p, L, r, i, j, rfl, hL, hr, q⟩ := h
    have hst := hL.st
    rw [st_is_cover]
    walk_at "f"
    refine loop_of ?_
    walk_at "f"
    have no : ∀ k : Int, (k = i ∨ k = j) → ¬ Rn L r k → Q (.bl false) S := fun k hk hn => q false ⟨fun z => (by cases z), fun z => by
      rcases hk with rfl | rfl
      · exact absurd z.1 hn
      · exact absurd z.2.1 hn⟩
    refine cnd_dec (fun c1 => ⟨_, .refl _, no i (.inl rfl) fun z => z.1 c1⟩) (fun c1 => ?_)
    refine cnd_dec (fun c2 => ?_) (fun c2 => ⟨_, .refl _, no i (.inl rfl) fun z => c2 z.2.1⟩)
    refine cnd_dec (fun c3 => ?_) (fun c3 => ⟨_, .refl _, no i (.inl rfl) fun z => c3 z.2.2⟩)
    walk_at "f"
    refine cnd_dec (fun d1 => ⟨_, .refl _, no j (.inr rfl) fun z => z.1 d1⟩) (fun d1 => ?_)
    refine cnd_dec (fun d2 => ?_) (fun d2 => ⟨_, .refl _, no j (.inr rfl) fun z => d2 z.2.1⟩)
    refine cnd_dec (fun d3 => ?_) (fun d3 => ⟨_, .refl _, no j (.inr rfl) fun z => d3 z.2.2⟩)
    have ri : Rn L r i := ⟨c1, c2, c3⟩
    have rj : Rn L r j := ⟨d1, d2, d3⟩
    obtain ⟨a, rfl⟩ := Int.eq_ofNat_of_zero_le c2
    obtain ⟨b, rfl⟩ := Int.eq_ofNat_of_zero_le d2
    have ha : a < L.length := by omega
    have hb : b < L.length := by omega
    have key : ∀ c : Bool, (c = true ↔ (Alw L a r ∨ Alw L b r ∨ Jnt L r a b ∨ Jnt L r b a)) → Q (.bl c) S := fun c hc => q c (hc.trans ⟨fun h => ⟨ri, rj, cov_iff.mpr h⟩, fun h => cov_iff.mp h.2.2⟩)
    clear q no
    walk_at "d"
    refine ⟨p, L, a, r, rfl, hL, ha, hr, ?_⟩
    refine cnd_dec (fun e1 => ⟨_, .refl _, key true ⟨fun _ => .inl e1, fun _ => rfl⟩⟩) (fun e1 => ?_)
    refine ⟨p, L, b, r, rfl, hL, hb, hr, ?_⟩
    refine cnd_dec (fun e2 => ⟨_, .refl _, key true ⟨fun _ => .inr (.inl e2), fun _ => rfl⟩⟩) (fun e2 => ?_)
    refine ⟨p, L, r, a, b, rfl, hL, hr, ha, hb, ?_⟩
    refine cnd_dec (fun e3 => ⟨_, .refl _, key true ⟨fun _ => .inr (.inr (.inl e3)), fun _ => rfl⟩⟩) (fun e3 => ?_)
    refine ⟨p, L, r, b, a, rfl, hL, hr, hb, ha, ?_⟩
    refine ⟨_, .refl _, key _ ?_⟩
    rw [decide_eq_true_eq]
    grind
def sp_order_at : Sp2 := fun ds S Q _ => ∃ (p : Addr) (L : List Ln) (t : Rat), ds = [.ref p, eQ t] ∧ LA S p L ∧ Nz 4000 t ∧ ∀ S' f O, Sub S S' → S f = none → S' f = some (.lst (O.map eN)) → IsOrd L t L.length O → Q (.ref f) S'
theorem st_order_at (x0 x1 : DL.D) : start2 N_order_at [x0, x1] = [some x0, some x1, none, none, none] := rfl
set_option maxHeartbeats 8000000 in
theorem ok_order_at (T : Txt K mg) : Fn P w K mg base 6 "order_at" sp_order_at := by
  refine fn_intro2 T.f_order_at sc_order_at (fun ds S Q E h => ?_) (fun cdv A outer s H E f hr => ⟨_, (ss_cons (s_set 2 sc_order_at.nd rfl (by first | exact .inl rfl | exact .inr rfl) (.inl rfl) (q_lst a_nil))
 (ss_cons (s_for .never rfl (i_rng1 T.b_range (by rfl) (a_cons (q_len T.b_len (by rfl) (a_cons (qv 0 (pv 0)) a_nil)) a_nil)) (g_name (i := 3) sc_order_at.nd rfl (by first | exact .inl rfl | exact .inr rfl) (.inl rfl))
 (ss_cons (s_set 4 sc_order_at.nd rfl (by first | exact .inl rfl | exact .inr rfl) (.inl rfl) (q_len T.b_len (by rfl) (a_cons (qv 2 (pv 2)) a_nil)))
 (ss_cons (s_while .never (PW.pt (w_and (t_gt (qv 4 (pv 4)) q_int) (w_and1 (t_val (q_call (ok_is_ahead T) (hr.mono (by decide)) (by rfl) (a_cons (qv 0 (pv 0)) (a_cons (qv 3 (pv 3)) (a_cons (q_ixg (fun _ _ => rfl) (qv 2 (pv 2)) (q_sub (qv 4 (pv 4)) q_int)) (a_cons (qv 1 (pv 1)) a_nil)))))))))
 (ss_one (s_set 4 sc_order_at.nd rfl (by first | exact .inl rfl | exact .inr rfl) (.inl rfl) (q_sub (qv 4 (pv 4)) q_int))))
 (ss_one (s_expr (q_insert (qv 2 (pv 2)) (a_cons (qv 4 (pv 4)) (a_cons (qv 3 (pv 3)) a_nil))))))))
 (ss_one (s_ret (qv 2 (pv 2)))))), fun ds S Q E h => ?_⟩)
  · obtain ⟨_, _, _, rfl, _⟩ := h
    rfl
  · obtain ⟨p, L, t, rfl, hL, ht, q⟩ := h
    have hst := hL.st
    have hsz := hL.sz
    rw [st_order_at]
    walk_at "d"
    intro f nf
    have hpf := hL.ne nf
    walk_at "f"
    refine ⟨by omega, ?_⟩
    refine loop_r0 (fun i τ S' => Sub S S' ∧ (∃ O, S' f = some (.lst (O.map eN)) ∧ IsOrd L t i O) ∧ ∃ v3 v4, τ = [some (.ref p), some (eQ t), some (.ref f), v3, v4]) ⟨Sub.drop nf, ⟨[], ups_same, .nil⟩, _, _, rfl⟩ ?_ ?_
    · rintro n τ S1 hn ⟨sub, ⟨O, hf, hO⟩, v3, v4, rfl⟩
      have hLn := hO.len
      have hL1 := hL.sub sub
      walk_at "d"
      rw [hf]
      walk_at "d"
      refine ⟨fun m τ S' => S1 = S' ∧ m ≤ O.length ∧ (∀ i ∈ O.drop m, Ahd L n i t) ∧ τ = [some (.ref p), some (eQ t), some (.ref f), some (.int (n : Int)), some (.int (m : Int))], ⟨O.length, rfl, Nat.le_refl _, by simp, rfl⟩, ?_⟩
      rintro m τ S' ⟨rfl, hm, hd, rfl⟩
      have hcast : ((m : Int)).toNat = m := Int.toNat_natCast m
      have emo : ∀ x : Nat, m = x + 1 → ((m : Int) - 1) = (x : Int) := fun x h => by omega
      have put : (m = 0 ∨ ∃ j, O[m - 1]? = some j ∧ Ahd L j n t) → Sub S (ups S1 f (.lst ((O.take m ++ [n] ++ O.drop m).map eN))) ∧ (∃ P : List Nat, some (DL.O.lst ((O.take m ++ [n] ++ O.drop m).map eN)) = some (.lst (P.map eN)) ∧ IsOrd L t (n + 1) P) := fun h1 => ⟨sub.own nf, _, rfl, ord_split hO hm hd h1⟩
      walk_at "d"
      refine cnd_dec (fun c => ?_) (fun c => ?_)
      · obtain ⟨x, rfl⟩ : ∃ x, m = x + 1 := ⟨m - 1, by omega⟩
        have hx : x < O.length := by omega
        have ex : O[x]? = some O[x] := List.getElem?_eq_getElem hx
        have ox : O[x] < L.length := by have := (hO.mem _).mp (List.getElem_mem hx); omega
        rw [hf]
        walk_at "d"
        rw [emo x rfl, atI_nat (xs := O.map eN) (j := x) (v := eN O[x]) (by rw [List.getElem?_map, ex]; rfl)]
        walk_at "d"
        refine ⟨p, L, n, O[x], t, rfl, hL1, hn, ox, ht, ?_⟩
        refine cnd_dec (fun c2 => ?_) (fun c2 => ?_)
        · refine ⟨x, by omega, rfl, by omega, fun i hi => ?_, by first | rfl | (rw [emo x rfl])⟩
          rw [List.drop_eq_getElem_cons hx] at hi
          rcases List.mem_cons.mp hi with rfl | hi
          · exact c2
          · exact hd i hi
        · have hne : O[x] ≠ n := by have := (hO.mem _).mp (List.getElem_mem hx); omega
          have pp := put (.inr ⟨O[x], by simpa using ex, (ahd_total hne).resolve_right c2⟩)
          walk_at "d"
          refine ⟨⟨_, hf⟩, ?_⟩
          rw [hf]
          walk_at "d"
          refine ⟨small1000 (by omega), by omega, ?_⟩
          rw [map_ins (f := eN)]
          exact ⟨pp.1, pp.2, _, _, rfl⟩
      · have m0 : m = 0 := by omega
        have pp := put (.inl m0)
        refine ⟨⟨_, hf⟩, ?_⟩
        rw [hf]
        walk_at "d"
        refine ⟨small1000 (by omega), by omega, ?_⟩
        rw [map_ins (f := eN)]
        exact ⟨pp.1, pp.2, _, _, rfl⟩
    · rintro τ S1 ⟨sub, ⟨O, hf, hO⟩, v3, v4, rfl⟩
      walk_at "d"
      exact ⟨_, .refl _, q S1 f O sub nf hf hO⟩
def sp_nearest : Sp2 := fun ds S Q _ => ∃ (p : Addr) (L : List Ln) (t : Rat), ds = [.ref p, eQ t] ∧ LA S p L ∧ Nz 3000 t ∧ ∀ O, IsOrd L t L.length O → Q (eTO (nearL L t (prs O))) S
theorem st_nearest (x0 x1 : DL.D) : start2 N_nearest [x0, x1] = [some x0, some x1, none, none, none, none, none] := rfl
set_option maxHeartbeats 8000000 in
theorem ok_nearest (T : Txt K mg) : Fn P w K mg base 7 "nearest" sp_nearest := by
  refine fn_intro2 T.f_nearest sc_nearest (fun ds S Q E h => ?_) (fun cdv A outer s H E f hr => ⟨_, (ss_cons (s_set 2 sc_nearest.nd rfl (by first | exact .inl rfl | exact .inr rfl) (.inl rfl) (q_call (ok_order_at T) (hr.mono (by decide)) (by rfl) (a_cons (qv 0 (pv 0)) (a_cons (qv 1 (pv 1)) a_nil))))
 (ss_cons (s_set 3 sc_nearest.nd rfl (by first | exact .inl rfl | exact .inr rfl) (.inl rfl) q_non)
 (ss_cons (s_for .never rfl (i_zip T.b_zip (by rfl) (a_cons (qv 2 (pv 2)) (a_cons (q_slG (qv 2 (pv 2)) (o_some q_int) o_none) a_nil))) (g_tup (n := 2) rfl (gs_cons (g_name (i := 4) sc_nearest.nd rfl (by first | exact .inl rfl | exact .inr rfl) (.inl rfl)) (gs_cons (g_name (i := 5) sc_nearest.nd rfl (by first | exact .inl rfl | exact .inr rfl) (.inl rfl)) gs_nil)))
 (ss_cons (s_set 6 sc_nearest.nd rfl (by first | exact .inl rfl | exact .inr rfl) (.inl rfl) (q_call (ok_difference_of T) (hr.mono (by decide)) (by rfl) (a_cons (q_call (ok_place_at T) (hr.mono (by decide)) (by rfl) (a_cons (q_ixg (fun _ _ => rfl) (qv 0 (pv 0)) (qv 4 (pv 4))) (a_cons (qv 1 (pv 1)) a_nil))) (a_cons (q_call (ok_place_at T) (hr.mono (by decide)) (by rfl) (a_cons (q_ixg (fun _ _ => rfl) (qv 0 (pv 0)) (qv 5 (pv 5))) (a_cons (qv 1 (pv 1)) a_nil))) a_nil))))
 (ss_one (s_if (PW.pt (w_or (t_is (qv 3 (pv 3)) q_non) (w_or1 (t_val (q_call (ok_is_less T) (hr.mono (by decide)) (by rfl) (a_cons (qv 6 (pv 6)) (a_cons (q_ixk 2 (qv 3 (pv 3))) a_nil)))))))
 (ss_one (s_set 3 sc_nearest.nd rfl (by first | exact .inl rfl | exact .inr rfl) (.inl rfl) (q_tup (a_cons (qv 4 (pv 4)) (a_cons (qv 5 (pv 5)) (a_cons (qv 6 (pv 6)) a_nil))))))
 ss_nil))))
 (ss_one (s_ret (qv 3 (pv 3))))))), fun ds S Q E h => ?_⟩)
  · obtain ⟨_, _, _, rfl, _⟩ := h
    rfl
  · obtain ⟨p, L, t, rfl, hL, ht, q⟩ := h
    have hsz := hL.sz
    rw [st_nearest]
    walk_at "d"
    refine ⟨p, L, t, rfl, hL, ht.le (by decide), fun S1 f O s1 nf hf hO => ?_⟩
    have hOl := hO.len
    have hL1 := hL.sub s1
    have q := q O hO
    have oL : ∀ o ∈ O, o < L.length := fun o ho => (hO.mem o).mp ho
    walk_at "f"
    intro g ng
    have e1 := ne_of_st hf ng
    walk_at "f"
    rw [zip_prs]
    have hL2 := hL1.new (o := .lst ((O.drop 1).map eN)) ng
    have hf2 : ups S1 g (.lst ((O.drop 1).map eN)) f = some (.lst (O.map eN)) := by rw [ups_ne e1]; exact hf
    have hg2 : ups S1 g (.lst ((O.drop 1).map eN)) g = some (.lst ((O.drop 1).map eN)) := ups_same
    have s2 : Sub S (ups S1 g (.lst ((O.drop 1).map eN))) := s1.trans (Sub.drop ng)
    generalize ups S1 g (.lst ((O.drop 1).map eN)) = S2 at *
    have hst2 := hL2.st
    refine loop_inv (α := Nat × Nat) (fun d r τ S' => S2 = S' ∧ ∃ v4 v5 v6, τ = [some (.ref p), some (eQ t), some (.ref f), some (eTO (nearL L t d)), v4, v5, v6]) ⟨rfl, _, _, _, rfl⟩ ?_ ?_ ?_
    · rintro d r τ S' _ ⟨rfl, _⟩
      exact ⟨hf2, hg2⟩
    · rintro d x r τ S' e ⟨rfl, v4, v5, v6, rfl⟩
      have hx : x ∈ prs O := by rw [← e]; simp
      have o1 := oL _ (prs_mem hx).1
      have o2 := oL _ (prs_mem hx).2
      rw [nearL_snoc]
      have zg := Nz.gap (p := x) hL.ok o1 o2 ht
      walk_at "f"
      refine ⟨_, t, rfl, (hL.at o1).le (by decide), ht.le (by decide), ?_⟩
      walk_at "f"
      refine ⟨_, t, rfl, (hL.at o2).le (by decide), ht.le (by decide), ?_⟩
      refine ⟨_, _, rfl, ((hL.at o1).at ht).le (by decide), ((hL.at o2).at ht).le (by decide), ?_⟩
      cases en : nearL L t d with
      | none =>
        walk_at "f"
        exact ⟨_, _, _, rfl⟩
      | some y =>
        obtain ⟨hm, hc⟩ := nearL_mem _ _ en
        have hm2 := prs_mem (O := O) (p := (y.a, y.b)) (by rw [← e]; exact List.mem_append_left _ hm)
        have zx : Nz 7300 y.c := by rw [hc]; exact Nz.gap hL.ok (oL _ hm2.1) (oL _ hm2.2) ht
        walk_at "d"
        refine ⟨_, _, rfl, zg.le (by decide), zx.le (by decide), ?_⟩
        refine cnd_dec (fun c => ?_) (fun c => ?_)
        · have c' : gap L t x < y.c := c
          walk_at "f"
          exact ⟨_, _, _, by rw [nearF_t c']; rfl⟩
        · have c' : ¬ gap L t x < y.c := c
          exact ⟨rfl, _, _, _, by rw [nearF_f c']; rfl⟩
    · rintro τ S' ⟨rfl, v4, v5, v6, rfl⟩
      walk_at "d"
      exact ⟨_, s2, q⟩
def sp_change_times : Sp2 := fun ds S Q _ => ∃ (p : Addr) (L : List Ln), ds = [.ref p] ∧ LA S p L ∧ ∀ S' f M, Sub S S' → S f = none → S' f = some (.lst (M.map eQ)) → IsMeet L M → Q (.ref f) S'
theorem st_change_times (x0 : DL.D) : start2 N_change_times [x0] = [some x0, none, none, none, none, none] := rfl
set_option maxHeartbeats 8000000 in
theorem ok_change_times (T : Txt K mg) : Fn P w K mg base 6 "change_times" sp_change_times := by
  refine fn_intro2 T.f_change_times sc_change_times (fun ds S Q E h => ?_) (fun cdv A outer s H E f hr => ⟨_, (ss_cons (s_set 1 sc_change_times.nd rfl (by first | exact .inl rfl | exact .inr rfl) (.inl rfl) (q_lst a_nil))
 (ss_cons (s_for .never rfl (i_rng1 T.b_range (by rfl) (a_cons (q_len T.b_len (by rfl) (a_cons (qv 0 (pv 0)) a_nil)) a_nil)) (g_name (i := 2) sc_change_times.nd rfl (by first | exact .inl rfl | exact .inr rfl) (.inl rfl))
 (ss_one (s_for .never rfl (i_rng1 T.b_range (by rfl) (a_cons (q_len T.b_len (by rfl) (a_cons (qv 0 (pv 0)) a_nil)) a_nil)) (g_name (i := 3) sc_change_times.nd rfl (by first | exact .inl rfl | exact .inr rfl) (.inl rfl))
 (ss_cons (s_set 4 sc_change_times.nd rfl (by first | exact .inl rfl | exact .inr rfl) (.inl rfl) (q_call (ok_passing_time T) (hr.mono (by decide)) (by rfl) (a_cons (q_ixg (fun _ _ => rfl) (qv 0 (pv 0)) (qv 2 (pv 2))) (a_cons (q_ixg (fun _ _ => rfl) (qv 0 (pv 0)) (qv 3 (pv 3))) a_nil))))
 (ss_one (s_if (t_isnot (qv 4 (pv 4)) q_non)
 (ss_one (s_expr (q_call (ok_put_in T) (hr.mono (by decide)) (by rfl) (a_cons (qv 1 (pv 1)) (a_cons (qv 4 (pv 4)) (a_cons (q_tup (a_cons (qv 2 (pv 2)) (a_cons (qv 3 (pv 3)) a_nil))) a_nil))))))
 ss_nil))))))
 (ss_one (s_ret (q_lc [4, 5] (own := [("time", 4), ("pairs", 5)]) rfl sc_change_times.nd (i_val (qv 1 (pv 1))) (blkOk_by (N := N_change_times) (sc := defScope s_change_times) (by decide +kernel)) rfl (by decide) (fun _ _ _ _ _ => (g_tup (n := 2) rfl (gs_cons (g_name (i := 4) sc_change_times.nd rfl (.inl rfl) (.inr rfl)) (gs_cons (g_name (i := 5) sc_change_times.nd rfl (.inl rfl) (.inr rfl)) gs_nil)))) (fun _ _ _ _ _ => ts_nil) (fun _ _ _ _ _ => (qv 4 (pv 4)))))))), fun ds S Q E h => ?_⟩)
  · obtain ⟨_, _, rfl, _⟩ := h
    rfl
  · obtain ⟨p, L, rfl, hL, q⟩ := h
    have hst := hL.st
    have hsz := hL.sz
    rw [st_change_times]
    walk_at "d"
    intro f nf
    have hpf := hL.ne nf
    have s0 : Sub S (ups S f (.lst [])) := Sub.drop nf
    have hM0 : GrpM (ups S f (.lst [])) f [] := ⟨ups_same, fun _ h => (by cases h)⟩
    have hF0 : GrpF S f [] := ⟨by simp, fun b hb => by simp at hb; subst hb; exact nf⟩
    walk_at "f"
    generalize ups S f (.lst []) = S1 at *
    refine ⟨by omega, ?_⟩
    refine loop_r0 (fun i τ S' => Sub S S' ∧ (∃ E, GrpM S' f E ∧ GrpF S f E ∧ IsGrp (tmA L) (pref L.length i 0) (toC E)) ∧ ∃ v4 v5 v6 v7, τ = [some (.ref p), some (.ref f), v4, v5, v6, v7]) ⟨s0, ⟨[], hM0, hF0, .nil⟩, _, _, _, _, rfl⟩ ?_ ?_
    · rintro i τ S2 hi' ⟨s2, ⟨E, hM, hF, hG⟩, v4, v5, v6, v7, rfl⟩
      have hst2 := (hL.sub s2).st
      walk_at "f"
      refine ⟨by omega, ?_⟩
      refine loop_r0 (fun j τ S' => Sub S S' ∧ (∃ E, GrpM S' f E ∧ GrpF S f E ∧ IsGrp (tmA L) (pref L.length i j) (toC E)) ∧ ∃ v5 v6 v7, τ = [some (.ref p), some (.ref f), some (.int (i : Int)), v5, v6, v7]) ⟨s2, ⟨E, hM, hF, hG⟩, _, _, _, rfl⟩ ?_ ?_
      · rintro j τ S3 hj ⟨s3, ⟨E, hM, hF, hG⟩, v5, v6, v7, rfl⟩
        have hL3 := hL.sub s3
        have hst3 := hL3.st
        walk_at "f"
        refine ⟨ln L i, ln L j, rfl, hL.at hi', hL.at hj, ?_⟩
        rw [pref_succ]
        have pl := pref_len L.length i j
        have pb : i * L.length + j ≤ 420 := by
          have : i * L.length ≤ 20 * 20 := Nat.mul_le_mul (by omega) hsz
          omega
        have gl := hG.len
        rw [toC_len, pl] at gl
        have zE := hG.nz (n := L.length) (fun p hp => by rcases pref_mem hp (by omega) with h | h <;> omega) fun p t h1 h2 e => tmA_nz hL.ok h1 h2 e
        have zp := hG.psl
        have skip : tmA L (i, j) = none → Sub S S3 ∧ (∃ E, GrpM S3 f E ∧ GrpF S f E ∧ IsGrp (tmA L) (pref L.length i j ++ [(i, j)]) (toC E)) := fun e => ⟨s3, E, hM, hF, hG.skip e⟩
        by_cases c : (ln L i).2 < (ln L j).2
        · have zm : Nz 1210 (met (ln L i) (ln L j)) := (hL.at hi').met (hL.at hj) (fun z => by grind)
          rw [show pst (ln L i) (ln L j) = some (met (ln L i) (ln L j)) from if_pos c]
          walk_at "d"
          refine ⟨f, E, met (ln L i) (ln L j), (i, j), S, rfl, hM, hF, s3, by omega, zE, fun x hx => by have := zp x hx; omega, zm, hG.inc, fun S4 E4 s4 hM4 hF4 put => ?_⟩
          exact ⟨s4, ⟨E4, hM4, hF4, hG.put (if_pos c) put⟩, _, _, _, rfl⟩
        · rw [show pst (ln L i) (ln L j) = none from if_neg c]
          walk_at "d"
          obtain ⟨k1, k2⟩ := skip (if_neg c)
          exact ⟨k1, k2, _, _, _, rfl⟩
      · rintro τ S3 ⟨s3, ⟨E, hM, hF, hG⟩, v5, v6, v7, rfl⟩
        rw [pref_row] at hG
        exact ⟨s3, ⟨E, hM, hF, hG⟩, _, _, _, _, rfl⟩
    · rintro τ S2 ⟨s2, ⟨E, hM, hF, hG⟩, v4, v5, v6, v7, rfl⟩
      walk_at "d"
      have hst2 := hM.st
      have gl := hG.len
      rw [toC_len, pref_len] at gl
      have : L.length * L.length ≤ 20 * 20 := Nat.mul_le_mul hsz hsz
      walk_at "f"
      refine lc_map (α := GI) (e := eG) (fun x => some (eQ x.t)) (by omega) (fun _ s => s _ _ hst2) (fun x hx S3 s3 N Y hN hY => ?_) (fun g ng => ?_)
      · walk_at "d"
        exact hY _ rfl _ (.refl _)
      · refine ⟨_, .refl _, q _ g ((toC E).map (·.1)) (s2.trans (Sub.drop ng)) (s2.miss ng) ?_ (grp_meet hG hsz)⟩
        rw [ups_same]
        unfold toC
        rw [List.filterMap_eq_map', List.map_map, List.map_map]
        rfl
def sp_rank_row : Sp2 := fun ds S Q _ => ∃ (p : Addr) (L : List Ln) (k : Nat), ds = [.ref p, .int (k : Int)] ∧ LA S p L ∧ ∀ S' f rows, Sub S S' → S f = none → S' f = some (.lst (rows.map eR)) → IsRk L k rows → Q (.ref f) S'
theorem st_rank_row (x0 x1 : DL.D) : start2 N_rank_row [x0, x1] = [some x0, some x1, none, none, none, none, none] := rfl
set_option maxHeartbeats 8000000 in
theorem ok_rank_row (T : Txt K mg) : Fn P w K mg base 7 "rank_row" sp_rank_row := by
  refine fn_intro2 T.f_rank_row sc_rank_row (fun ds S Q E h => ?_) (fun cdv A outer s H E f hr => ⟨_, (ss_cons (s_if (t_ge (qv 1 (pv 1)) (q_len T.b_len (by rfl) (a_cons (qv 0 (pv 0)) a_nil)))
 (ss_one (s_ret (q_lst a_nil)))
 ss_nil)
 (ss_cons (s_set 2 sc_rank_row.nd rfl (by first | exact .inl rfl | exact .inr rfl) (.inl rfl) (q_call (ok_change_times T) (hr.mono (by decide)) (by rfl) (a_cons (qv 0 (pv 0)) a_nil)))
 (ss_cons (s_set 3 sc_rank_row.nd rfl (by first | exact .inl rfl | exact .inr rfl) (.inl rfl) (q_con T.q_NOUGHT (by rfl)))
 (ss_cons (s_if (t_ne hr (qv 2 (pv 2)) (q_lst a_nil))
 (ss_one (s_set 3 sc_rank_row.nd rfl (by first | exact .inl rfl | exact .inr rfl) (.inl rfl) (q_call (ok_difference_of T) (hr.mono (by decide)) (by rfl) (a_cons (q_ixk 0 (qv 2 (pv 2))) (a_cons (q_con T.q_ONE (by rfl)) a_nil)))))
 ss_nil)
 (ss_cons (s_set 4 sc_rank_row.nd rfl (by first | exact .inl rfl | exact .inr rfl) (.inl rfl) (q_lst (a_cons (q_tup (a_cons (q_ixg (fun _ _ => rfl) (q_call (ok_order_at T) (hr.mono (by decide)) (by rfl) (a_cons (qv 0 (pv 0)) (a_cons (qv 3 (pv 3)) a_nil))) (qv 1 (pv 1))) (a_cons q_non a_nil))) a_nil)))
 (ss_cons (s_for .never rfl (i_val (qv 2 (pv 2))) (g_name (i := 5) sc_rank_row.nd rfl (by first | exact .inl rfl | exact .inr rfl) (.inl rfl))
 (ss_cons (s_set 6 sc_rank_row.nd rfl (by first | exact .inl rfl | exact .inr rfl) (.inl rfl) (q_ixg (fun _ _ => rfl) (q_call (ok_order_at T) (hr.mono (by decide)) (by rfl) (a_cons (qv 0 (pv 0)) (a_cons (qv 5 (pv 5)) a_nil))) (qv 1 (pv 1))))
 (ss_one (s_if (t_ne hr (qv 6 (pv 6)) (q_ixk 0 (q_ixg (fun _ _ => rfl) (qv 4 (pv 4)) (q_neg q_int))))
 (ss_one (s_expr (q_append (qv 4 (pv 4)) (a_cons (q_tup (a_cons (qv 6 (pv 6)) (a_cons (qv 5 (pv 5)) a_nil))) a_nil))))
 ss_nil))))
 (ss_one (s_ret (qv 4 (pv 4)))))))))), fun ds S Q E h => ?_⟩)
  · obtain ⟨_, _, _, rfl, _⟩ := h
    rfl
  · obtain ⟨p, L, k, rfl, hL, q⟩ := h
    have hsz := hL.sz
    have hst := hL.st
    rw [st_rank_row]
    walk_at "f"
    refine cnd_dec (fun c => ?_) (fun c => ?_)
    · intro f nf
      exact ⟨_, .refl _, q _ f [] (Sub.drop nf) nf ups_same (isRk_nil hsz (by omega))⟩
    have hk : k < L.length := by omega
    refine ⟨p, L, rfl, hL, fun S1 m M s1 nm hm hM => ?_⟩
    have hML := hM.len
    have hL1 := hL.sub s1
    have zb := bef_nz hM hL.ok
    walk_at "d"
    intro g ng
    refine ne_refs (α := Rat) (xs := M) (ys := []) (by rw [ups_ne (ne_of_st hm ng)]; exact hm) ups_same ?_
    walk_at "d"
    have hL2 := hL1.new (o := .lst []) ng
    have s2 := s1.trans (Sub.drop (o := .lst []) ng)
    have hm2 := Sub.drop (o := .lst []) ng _ _ hm
    generalize ups S1 g (.lst []) = S2 at *
    refine cnd_dec (fun e => ?_) (fun e => ?_)
    · have e0 : DL.D.tup [.int 0, .int 1] = eQ (bef M) := by rw [e]; rfl
      rw [e0]
      clear e
      refine ⟨p, L, bef M, rfl, hL2, zb.le (by decide), fun S3 f O s3 nf hf hO => ?_⟩
      obtain rfl := hO.eq
      have ek := rk_at (t := bef M) hk
      walk_at "f"
      intro g2 ng2
      have hm3 := s3 _ _ hm2
      have ng0 := (s2.trans s3).miss ng2
      have s3 := (s2.trans s3).own (o := .lst [.tup [eN (rk L (bef M) k), .non]]) ng0
      have hmg := ne_of_st hm3 ng2
      have hg3 : ups S3 g2 (.lst [.tup [eN (rk L (bef M) k), .non]]) g2 = some (.lst ([(rk L (bef M) k, none)].map eR)) := ups_same
      have hm3 : ups S3 g2 (.lst [.tup [eN (rk L (bef M) k), .non]]) m = some (.lst (M.map eQ)) := by rw [ups_ne hmg]; exact hm3
      have hL3 := hL.sub s3
      generalize ups S3 g2 (.lst [.tup [eN (rk L (bef M) k), .non]]) = S3 at *
      walk_at "f"
      refine loop_inv (α := Rat) (e := eQ) (xs := M) (fun d r τ S' => Sub S S' ∧ S' m = some (.lst (M.map eQ)) ∧ S' g2 = some (.lst ((rkF L k (rk L (bef M) k) d).map eR)) ∧ ∃ v5 v6, τ = [some (.ref p), some (.int (k : Int)), some (.ref m), some (eQ (bef M)), some (.ref g2), v5, v6]) ⟨s3, hm3, hg3, _, _, rfl⟩ (fun _ _ _ _ _ h => h.2.1) ?_ ?_
      · rintro d t r τ S3 e ⟨s3, hm3, hg3, v5, v6, rfl⟩
        have ht : t ∈ M := by rw [← e]; simp
        have dl : d.length ≤ M.length := by rw [← e]; simp
        have zt := hM.nz hL.ok ht
        obtain ⟨⟨pre, y, ey⟩, ll⟩ := rkF_end (L := L) (k := k) (r0 := rk L (bef M) k) d
        rw [ey] at hg3 ll
        walk_at "d"
        refine ⟨p, L, t, rfl, hL.sub s3, zt.le (by decide), fun S4 f O s4 nf hf hO => ?_⟩
        obtain rfl := hO.eq
        have hg4 := s4 _ _ hg3
        have ek := rk_at (t := t) hk
        rw [rkF_snoc, ey]
        walk_at "f"
        rw [atI_lastmap]
        walk_at "d"
        have nf0 := s3.miss nf
        refine cnd_dec (fun c => ?_) (fun c => ?_)
        · refine ⟨s3.trans s4, s4 _ _ hm3, ?_, _, _, rfl⟩
          unfold rkS
          rw [lastR_snoc, if_neg (by simp only [ne_eq, Decidable.not_not]; omega)]
          exact hg4
        · walk_at "f"
          refine ⟨⟨_, rfl⟩, small1000 (by rw [List.length_append] at ll ⊢; simp only [List.length_cons, List.length_nil] at ll ⊢; omega), (s3.trans s4).own ng0, by first | exact s4 _ _ hm3 | (rw [ups_ne hmg]; exact s4 _ _ hm3), ?_, _, _, rfl⟩
          unfold rkS
          rw [lastR_snoc, if_pos (by omega)]
          exact congrArg (fun z => some (DL.O.lst z)) (map_snoc (f := eR) (xs := pre ++ [y]) (x := (rk L t k, some t)))
      · rintro τ S3 ⟨s3, hm3, hg3, v5, v6, rfl⟩
        walk_at "d"
        exact ⟨_, .refl _, q S3 g2 _ s3 ng0 hg3 (isRk_of hM hk)⟩
    · obtain ⟨t, r, rfl⟩ : ∃ t r, M = t :: r := by
        cases M with
        | nil => exact absurd rfl e
        | cons t r => exact ⟨t, r, rfl⟩
      rw [hm2]
      walk_at "d"
      refine ⟨t, 1, rfl, (hM.nz hL.ok (by simp)).le (by decide), one_nz.le (by decide), ?_⟩
      have e0 : eQ (t - 1) = eQ (bef (t :: r)) := rfl
      rw [e0]
      generalize t :: r = M at *
      refine ⟨p, L, bef M, rfl, hL2, zb.le (by decide), fun S3 f O s3 nf hf hO => ?_⟩
      obtain rfl := hO.eq
      have ek := rk_at (t := bef M) hk
      walk_at "f"
      intro g2 ng2
      have hm3 := s3 _ _ hm2
      have ng0 := (s2.trans s3).miss ng2
      have s3 := (s2.trans s3).own (o := .lst [.tup [eN (rk L (bef M) k), .non]]) ng0
      have hmg := ne_of_st hm3 ng2
      have hg3 : ups S3 g2 (.lst [.tup [eN (rk L (bef M) k), .non]]) g2 = some (.lst ([(rk L (bef M) k, none)].map eR)) := ups_same
      have hm3 : ups S3 g2 (.lst [.tup [eN (rk L (bef M) k), .non]]) m = some (.lst (M.map eQ)) := by rw [ups_ne hmg]; exact hm3
      have hL3 := hL.sub s3
      generalize ups S3 g2 (.lst [.tup [eN (rk L (bef M) k), .non]]) = S3 at *
      walk_at "f"
      refine loop_inv (α := Rat) (e := eQ) (xs := M) (fun d r τ S' => Sub S S' ∧ S' m = some (.lst (M.map eQ)) ∧ S' g2 = some (.lst ((rkF L k (rk L (bef M) k) d).map eR)) ∧ ∃ v5 v6, τ = [some (.ref p), some (.int (k : Int)), some (.ref m), some (eQ (bef M)), some (.ref g2), v5, v6]) ⟨s3, hm3, hg3, _, _, rfl⟩ (fun _ _ _ _ _ h => h.2.1) ?_ ?_
      · rintro d t r τ S3 e ⟨s3, hm3, hg3, v5, v6, rfl⟩
        have ht : t ∈ M := by rw [← e]; simp
        have dl : d.length ≤ M.length := by rw [← e]; simp
        have zt := hM.nz hL.ok ht
        obtain ⟨⟨pre, y, ey⟩, ll⟩ := rkF_end (L := L) (k := k) (r0 := rk L (bef M) k) d
        rw [ey] at hg3 ll
        walk_at "d"
        refine ⟨p, L, t, rfl, hL.sub s3, zt.le (by decide), fun S4 f O s4 nf hf hO => ?_⟩
        obtain rfl := hO.eq
        have hg4 := s4 _ _ hg3
        have ek := rk_at (t := t) hk
        rw [rkF_snoc, ey]
        walk_at "f"
        rw [atI_lastmap]
        walk_at "d"
        have nf0 := s3.miss nf
        refine cnd_dec (fun c => ?_) (fun c => ?_)
        · refine ⟨s3.trans s4, s4 _ _ hm3, ?_, _, _, rfl⟩
          unfold rkS
          rw [lastR_snoc, if_neg (by simp only [ne_eq, Decidable.not_not]; omega)]
          exact hg4
        · walk_at "f"
          refine ⟨⟨_, rfl⟩, small1000 (by rw [List.length_append] at ll ⊢; simp only [List.length_cons, List.length_nil] at ll ⊢; omega), (s3.trans s4).own ng0, by first | exact s4 _ _ hm3 | (rw [ups_ne hmg]; exact s4 _ _ hm3), ?_, _, _, rfl⟩
          unfold rkS
          rw [lastR_snoc, if_pos (by omega)]
          exact congrArg (fun z => some (DL.O.lst z)) (map_snoc (f := eR) (xs := pre ++ [y]) (x := (rk L t k, some t)))
      · rintro τ S3 ⟨s3, hm3, hg3, v5, v6, rfl⟩
        walk_at "d"
        exact ⟨_, .refl _, q S3 g2 _ s3 ng0 hg3 (isRk_of hM hk)⟩
def sp_law : Sp2 := fun ds S Q _ => ∃ sc : List Int, ds = [.fl (sc.map DL.D.int)] ∧ ∀ S', Q (.bl true) S'
theorem st_law (x0 : DL.D) : start2 N_law [x0] = [some x0, none, none, none, none, none, none, none, none, none, none, none] := rfl
set_option maxHeartbeats 8000000 in
theorem ok_law (T : Txt K mg) {f : Addr} {fd : FuncData} (F : Fun K "law" "law" s_law f fd) : FnOk P w K mg base CX0 9 f fd ["_law_script"] (dnSp K sp_law) := by
  refine fn_core F sc_law (fun ds S Q E h => ?_) (fun cdv A outer s H E hr => ⟨_, (ss_cons (s_set 1 sc_law.nd rfl (by first | exact .inl rfl | exact .inr rfl) (.inl rfl) (q_lst (a_cons q_int (a_cons q_int (a_cons (qv 0 (pv 0)) a_nil)))))
 (ss_cons (s_set 2 sc_law.nd rfl (by first | exact .inl rfl | exact .inr rfl) (.inl rfl) (q_call (ok_l_lines T) (hr.mono (by decide)) (by rfl) (a_cons (qv 1 (pv 1)) (a_cons q_int a_nil))))
 (ss_cons (s_setLc [10, 11] (own := [("_law_start", 10), ("_law_slope", 11)]) 3 rfl sc_law.nd rfl rfl (sw_true rfl rfl rfl (by decide +kernel)) (i_val (qv 2 (pv 2))) (blkOk_by (N := N_law) (sc := defScope s_law) (by decide +kernel)) rfl (by decide) (fun _ _ _ _ _ => (g_tup (n := 2) rfl (gs_cons (g_name (i := 10) sc_law.nd rfl (.inl rfl) (.inr rfl)) (gs_cons (g_name (i := 11) sc_law.nd rfl (.inl rfl) (.inr rfl)) gs_nil)))) (fun _ _ _ _ _ => ts_nil) (fun _ _ _ _ _ => (q_tup (a_cons (qv 10 (pv 10)) (a_cons (q_call (ok_l_below T) (hr.mono (by decide)) (by rfl) (a_cons (qv 11 (pv 11)) a_nil)) a_nil)))))
 (ss_cons (s_if (t_ne hr (q_call (ok_leaders T) (hr.mono (by decide)) (by rfl) (a_cons (qv 3 (pv 3)) a_nil)) (q_call (ok_l_turned_row T) (hr.mono (by decide)) (by rfl) (a_cons (q_call (ok_leaders T) (hr.mono (by decide)) (by rfl) (a_cons (qv 2 (pv 2)) a_nil)) a_nil)))
 (ss_one (s_ret q_bl))
 ss_nil)
 (ss_cons (s_for .never rfl (i_rng1 T.b_range (by rfl) (a_cons q_int a_nil)) (g_name (i := 4) sc_law.nd rfl (by first | exact .inl rfl | exact .inr rfl) (.inl rfl))
 (ss_cons (s_set 5 sc_law.nd rfl (by first | exact .inl rfl | exact .inr rfl) (.inl rfl) (q_call (ok_l_take T) (hr.mono (by decide)) (by rfl) (a_cons (qv 1 (pv 1)) (a_cons (q_add (q_len T.b_len (by rfl) (a_cons (qv 2 (pv 2)) a_nil)) q_int) a_nil))))
 (ss_one (s_if (t_ne hr (q_call (ok_rank_row T) (hr.mono (by decide)) (by rfl) (a_cons (qv 3 (pv 3)) (a_cons (qv 5 (pv 5)) a_nil))) (q_call (ok_l_turned_row T) (hr.mono (by decide)) (by rfl) (a_cons (q_call (ok_rank_row T) (hr.mono (by decide)) (by rfl) (a_cons (qv 2 (pv 2)) (a_cons (qv 5 (pv 5)) a_nil))) a_nil)))
 (ss_one (s_ret q_bl))
 ss_nil))))
 (ss_cons (s_for .never rfl (i_rng1 T.b_range (by rfl) (a_cons (q_len T.b_len (by rfl) (a_cons (qv 2 (pv 2)) a_nil)) a_nil)) (g_name (i := 5) sc_law.nd rfl (by first | exact .inl rfl | exact .inr rfl) (.inl rfl))
 (ss_cons (s_set 6 sc_law.nd rfl (by first | exact .inl rfl | exact .inr rfl) (.inl rfl) (q_call (ok_cover T) (hr.mono (by decide)) (by rfl) (a_cons (qv 2 (pv 2)) (a_cons (qv 5 (pv 5)) a_nil))))
 (ss_cons (s_if (t_ne hr (q_is (qv 6 (pv 6)) q_non) (q_is (q_call (ok_cover T) (hr.mono (by decide)) (by rfl) (a_cons (qv 3 (pv 3)) (a_cons (qv 5 (pv 5)) a_nil))) q_non))
 (ss_one (s_ret q_bl))
 ss_nil)
 (ss_one (s_if (PW.pt (w_and (t_isnot (qv 6 (pv 6)) q_non) (w_and1 (t_not (t_val (q_call (ok_is_cover T) (hr.mono (by decide)) (by rfl) (a_cons (qv 3 (pv 3)) (a_cons (qv 5 (pv 5)) (a_cons (q_ixk 0 (qv 6 (pv 6))) (a_cons (q_ixk 1 (qv 6 (pv 6))) a_nil))))))))))
 (ss_one (s_ret q_bl))
 ss_nil)))))
 (ss_cons (s_set 7 sc_law.nd rfl (by first | exact .inl rfl | exact .inr rfl) (.inl rfl) (q_call (ok_l_time T) (hr.mono (by decide)) (by rfl) (a_cons (qv 1 (pv 1)) (a_cons (qv 2 (pv 2)) a_nil))))
 (ss_cons (s_set 8 sc_law.nd rfl (by first | exact .inl rfl | exact .inr rfl) (.inl rfl) (q_call (ok_l_time T) (hr.mono (by decide)) (by rfl) (a_cons (qv 1 (pv 1)) (a_cons (qv 2 (pv 2)) a_nil))))
 (ss_cons (s_if (t_val (q_call (ok_l_less T) (hr.mono (by decide)) (by rfl) (a_cons (qv 8 (pv 8)) (a_cons (qv 7 (pv 7)) a_nil))))
 (ss_one (s_par 7 8 rfl sc_law.nd rfl rfl (by decide) rfl rfl (a_cons (qv 8 (pv 8)) (a_cons (qv 7 (pv 7)) a_nil)) (by rfl)))
 ss_nil)
 (ss_cons (s_if (t_not (t_val (q_call (ok_l_changes_right T) (hr.mono (by decide)) (by rfl) (a_cons (qv 2 (pv 2)) (a_cons (qv 3 (pv 3)) (a_cons (qv 7 (pv 7)) (a_cons (qv 8 (pv 8)) a_nil)))))))
 (ss_one (s_ret q_bl))
 ss_nil)
 (ss_cons (s_for .never rfl (i_val (q_tup (a_cons (qv 7 (pv 7)) (a_cons (qv 8 (pv 8)) a_nil)))) (g_name (i := 9) sc_law.nd rfl (by first | exact .inl rfl | exact .inr rfl) (.inl rfl))
 (ss_one (s_if (t_not (t_val (q_call (ok_l_level T) (hr.mono (by decide)) (by rfl) (a_cons (qv 2 (pv 2)) (a_cons (qv 9 (pv 9)) a_nil)))))
 (ss_cons (s_if (t_ne hr (q_call (ok_order_at T) (hr.mono (by decide)) (by rfl) (a_cons (qv 3 (pv 3)) (a_cons (q_call (ok_l_below T) (hr.mono (by decide)) (by rfl) (a_cons (qv 9 (pv 9)) a_nil)) a_nil))) (q_call (ok_order_at T) (hr.mono (by decide)) (by rfl) (a_cons (qv 2 (pv 2)) (a_cons (qv 9 (pv 9)) a_nil))))
 (ss_one (s_ret q_bl))
 ss_nil)
 (ss_one (s_if (t_ne hr (q_call (ok_nearest T) (hr.mono (by decide)) (by rfl) (a_cons (qv 3 (pv 3)) (a_cons (q_call (ok_l_below T) (hr.mono (by decide)) (by rfl) (a_cons (qv 9 (pv 9)) a_nil)) a_nil))) (q_call (ok_nearest T) (hr.mono (by decide)) (by rfl) (a_cons (qv 2 (pv 2)) (a_cons (qv 9 (pv 9)) a_nil))))
 (ss_one (s_ret q_bl))
 ss_nil)))
 ss_nil)))
 (ss_one (s_ret q_bl))))))))))))), fun ds S Q E h => ?_⟩)
  · obtain ⟨sc, rfl, _⟩ := h
    rfl
  · obtain ⟨sc, rfl, q⟩ := h
    rw [st_law]
    walk_at "d"
    intro a na
    refine ⟨a, sc, 6, rfl, ⟨_, _, ups_same⟩, by decide, fun S1 p L fr1 hp1 np hL1 hl => ?_⟩
    have hst1 := hL1.st
    have hsz := hL1.sz
    obtain ⟨M, hM⟩ := meet_ex hsz
    walk_at "f"
    refine lc_map (α := Ln) (e := eL) (fun l => some (eL (mrL l))) (by omega) (fun _ s => s _ _ hst1) (fun l hl S4 s4 N Y hN hY => ?_) (fun p' np' => ?_)
    · walk_at "d"
      refine ⟨l.2, rfl, ?_⟩
      exact hY _ rfl _ (.refl _)
    have e1 : L.filterMap (fun l => some (eL (mrL l))) = (mir L).map eL := by
      unfold mir
      rw [List.filterMap_eq_map', List.map_map]; rfl
    rw [e1]
    have hp2 := hp1.new (o := .lst ((mir L).map eL)) np'
    have hL2 := hL1.new (o := .lst ((mir L).map eL)) np'
    have hA2 : LA (ups S1 p' (.lst ((mir L).map eL))) p' (mir L) := ⟨ups_same, mir_ok hL1.ok, by rw [mir_len]; exact hsz⟩
    generalize ups S1 p' (.lst ((mir L).map eL)) = S2 at *
    have hpa := hL2.penB hp2
    have hpa' := hA2.penB hp2
    walk_at "d"
    refine ⟨p', mir L, rfl, hA2, fun S3 f rows' s3 nf hf hrow' => ?_⟩
    refine ⟨p, L, rfl, hL2.sub s3, fun S4 g rows s4 ng hg hrow => ?_⟩
    refine ⟨g, rows, rfl, hg, by have := isRow_len hrow; omega, isRow_snc hrow, fun S5 h s5 nh hh => ?_⟩
    have er : rows' = turnR rows := hrow'.uniq (isRow_mir hM hrow)
    have s25 := (s3.trans s4).trans s5
    have hp5 := hp2.sub s25
    have hL5 := hL2.sub s25
    have hA5 := hA2.sub s25
    refine ne_refs (α := Nat × Option Rat) (s5 _ _ (s4 _ _ hf)) hh ?_
    rw [decide_eq_true er]
    walk_at "d"
    refine loop_r0 (n := 2) (fun i τ S' => PenB S' a sc ∧ LA S' p L ∧ LA S' p' (mir L) ∧ ∃ v4 v5, τ = [some (.fl (sc.map DL.D.int)), some (.ref a), some (.ref p), some (.ref p'), v4, v5, none, none, none, none, none, none]) ⟨hp5, hL5, hA5, _, _, rfl⟩ ?_ ?_
    · rintro i τ S6 hi ⟨hp6, hL6, hA6, v4, v5, rfl⟩
      have hst6 := hL6.st
      walk_at "f"
      refine ⟨a, sc, _, rfl, hp6, by omega, (Sz.lit (m := 10) (by omega)).le (by decide), fun k x y k0 k1 => ?_⟩
      have hp7 : PenB (ups S6 a (penP sc x y)) a sc := penB_again
      have hL7 := hL6.upd (o := penP sc x y) hpa
      have hA7 := hA6.upd (o := penP sc x y) hpa'
      generalize ups S6 a (penP sc x y) = S7 at *
      obtain ⟨k, rfl⟩ := Int.eq_ofNat_of_zero_le k0
      walk_at "d"
      refine ⟨p', mir L, k, rfl, hA7, fun S8 f2 rows2 s8 nf2 hf2 hrk2 => ?_⟩
      refine ⟨p, L, k, rfl, hL7.sub s8, fun S9 g2 rows3 s9 ng2 hg2 hrk3 => ?_⟩
      refine ⟨g2, rows3, rfl, hg2, (isRk_nz hL1.ok hrk3).2, isRk_snc hrk3, fun S10 h2 s10 nh2 hh2 => ?_⟩
      have er2 : rows2 = turnR rows3 := hrk2.uniq (isRk_mir hsz hrk3)
      refine ne_refs (α := Nat × Option Rat) (s10 _ _ (s9 _ _ hf2)) hh2 ?_
      rw [decide_eq_true er2]
      walk_at "d"
      have s710 := (s8.trans s9).trans s10
      exact ⟨hp7.sub s710, hL7.sub s710, hA7.sub s710, _, _, rfl⟩
    · rintro τ S6 ⟨hp6, hL6, hA6, v4, v5, rfl⟩
      have hst6 := hL6.st
      walk_at "f"
      refine ⟨by omega, ?_⟩
      refine loop_r0 (fun k τ S' => S6 = S' ∧ ∃ v5 v6, τ = [some (.fl (sc.map DL.D.int)), some (.ref a), some (.ref p), some (.ref p'), v4, v5, v6, none, none, none, none, none]) ⟨rfl, _, _, rfl⟩ ?_ ?_
      · rintro k τ S7 hk ⟨rfl, v5, v6, rfl⟩
        walk_at "d"
        refine ⟨p, L, k, rfl, hL6, hk, fun rows2 hrow2 => ?_⟩
        walk_at "d"
        refine ⟨p', mir L, k, rfl, hA6, by rw [mir_len]; exact hk, fun rows3 hrow3 => ?_⟩
        have en := cvr_mir (L := L) (r := k) (hrow3.uniq (isRow_mir hM hrow2))
        walk_at "d"
        rw [en, decide_eq_true rfl]
        walk_at "d"
        cases ec : cvr L rows2 k with
        | none =>
          walk_at "d"
          exact ⟨_, _, rfl⟩
        | some z =>
          obtain ⟨hcv, z1, z2⟩ := cvr_is hrow2 hk ec
          rw [show eCv (some z) = DL.D.tup [.int (z.1 : Int), .int (z.2 : Int)] from rfl]
          walk_at "d"
          refine ⟨p', mir L, k, z.1, z.2, rfl, hA6, by rw [mir_len]; exact hk, fun c hcov => ?_⟩
          obtain rfl : c = true := hcov.mpr (isCov_mir hM hk z1 z2 hcv)
          walk_at "d"
          exact ⟨_, _, rfl⟩
      · rintro τ S7 ⟨rfl, v5, v6, rfl⟩
        walk_at "d"
        refine ⟨a, p, sc, L, rfl, hp6, hL6, fun t x y zt => ?_⟩
        have hL7 := hL6.upd (o := penP sc x y) hpa
        walk_at "d"
        refine ⟨a, p, sc, L, rfl, penB_again, hL7, fun u x y zu => ?_⟩
        have hL8 := hL6.upd (o := penP sc x y) hpa
        have hA8 := hA6.upd (o := penP sc x y) hpa'
        walk_at "d"
        generalize ups S6 a (penP sc x y) = S8 at *
        refine ⟨_, _, rfl, zu.le (by decide), zt.le (by decide), ?_⟩
        refine cnd_dec (fun c => ?_) (fun c => ?_)
        have hlo := zu
        have hhi := zt
        clear c
        generalize u = lo at hlo ⊢
        generalize t = hi at hhi ⊢
        rotate_left
        have hlo := zt
        have hhi := zu
        clear c
        generalize t = lo at hlo ⊢
        generalize u = hi at hhi ⊢
        all_goals
          walk_at "d"
          refine ⟨p, p', L, lo, hi, rfl, hL8, hA8, hl, hlo, hhi, fun S9 s9 => ?_⟩
          have hL9 := hL8.sub s9
          have hA9 := hA8.sub s9
          walk_at "d"
          refine loop_inv (α := Rat) (e := eQ) (xs := [lo, hi]) (fun _ _ τ S' => Sub S9 S' ∧ ∃ v9, τ = [some (.fl (sc.map DL.D.int)), some (.ref a), some (.ref p), some (.ref p'), v4, v5, v6, some (eQ lo), some (eQ hi), v9, none, none]) ⟨.refl _, _, rfl⟩ (fun _ _ _ _ _ _ => trivial) ?_ ?_
          · rintro dn t r τ S10 et ⟨s10, v9, rfl⟩
            have zt : Nz 1300 t := by
              have ht : t ∈ [lo, hi] := by rw [← et]; simp
              simp only [List.mem_cons, List.not_mem_nil, or_false] at ht
              rcases ht with rfl | rfl <;> assumption
            walk_at "d"
            refine ⟨p, L, t, rfl, hL9.sub s10, hl, zt, fun c S11 s11 hc => ?_⟩
            walk_at "d"
            cases c with
            | true =>
              walk_at "d"
              exact ⟨s10.trans s11, _, rfl⟩
            | false =>
              have lev := hc rfl
              walk_at "d"
              have s911 := s10.trans s11
              refine ⟨t, rfl, ?_⟩
              refine ⟨p', mir L, -t, rfl, hA9.sub s911, zt.neg.le (by decide), fun S12 f2 O s12 nf2 hf2 hO => ?_⟩
              obtain rfl := hO.eq
              have s912 := s911.trans s12
              refine ⟨p, L, t, rfl, hL9.sub s912, zt.le (by decide), fun S13 g2 O2 s13 ng2 hg2 hO2 => ?_⟩
              obtain rfl := hO2.eq
              have s913 := s912.trans s13
              refine ne_refs (α := Nat) (s13 _ _ hf2) hg2 ?_
              rw [decide_eq_true (ord_mir lev)]
              walk_at "d"
              refine ⟨t, rfl, ?_⟩
              refine ⟨p', mir L, -t, rfl, hA9.sub s913, zt.neg.le (by decide), fun O3 hO3 => ?_⟩
              obtain rfl := hO3.eq
              refine ⟨p, L, t, rfl, hL9.sub s913, zt.le (by decide), fun O4 hO4 => ?_⟩
              obtain rfl := hO4.eq
              refine ne_rep (α := Option (Tri Nat Nat Rat)) (rep_enc _) (rep_enc _) ?_
              rw [decide_eq_true (nearO_mir lev)]
              walk_at "d"
              exact ⟨s913, _, rfl⟩
          · rintro τ S10 ⟨s10, v9, rfl⟩
            walk_at "d"
            exact ⟨_, .refl _, q _⟩
end
end Claim
open PySem PySem.W PyProof.Rows
set_option maxHeartbeats 0 in
theorem PySem.Challenge.cw_leadtimes_k47_whole_mirrored_in_time_holds : PySem.Challenge.rw_leadtimes_k47_whole_mirrored_in_time.Holds := by
  w_on; o_law; k_head; (case hw => w_witness2)
  k_fill
  refine L2.walk_of (l := PySem.Challenge.rw_leadtimes_k47_whole_mirrored_in_time) (n := 63) (k := 9) (x := "_law_script") (CX := fun _ => L2.CX0) (sp := fun w => DL.dnSp _ Claim.sp_law) rfl (by decide) rfl ⟨rfl, by decide, by decide⟩ (fun w h Y => PySem.W.kIn_of Y) ?F (fun _ _ a ns hl hO hS => DL.script_at hO hS fun _ => ⟨ns, rfl, fun _ => rfl⟩) (fun _ _ _ _ _ h => h)
  case F =>
    intro w mg fa h KX G hmg
    have T : Claim.Txt _ mg := {
      b_abs := PySem.W.mg_none_of KX G (by k_is)
      b_bool := PySem.W.mg_none_of KX G (by k_is)
      b_int := PySem.W.mg_none_of KX G (by k_is)
      b_isinstance := PySem.W.mg_none_of KX G (by k_is)
      b_len := PySem.W.mg_none_of KX G (by k_is)
      b_min := PySem.W.mg_none_of KX G (by k_is)
      b_range := PySem.W.mg_none_of KX G (by k_is)
      b_set := PySem.W.mg_none_of KX G (by k_is)
      b_sorted := PySem.W.mg_none_of KX G (by k_is)
      b_zip := PySem.W.mg_none_of KX G (by k_is)
      q_NOUGHT := by refine' DL.con_pair KX G ?a ?l; (case a => k_is); (case l => k_is)
      q_ONE := by refine' DL.con_pair KX G ?a ?l; (case a => k_is); (case l => k_is)
      f_l_below := by refine' DL.fun_at KX G ?a ?l ?c ?k (fun _ _ _ _ _ _ us hl => match us, hl with | [_], _ => rfl); (case a => k_is); (case l => k_is); (case c => k_is); (case k => k_is)
      f_is_less := by refine' DL.fun_at KX G ?a ?l ?c ?k (fun _ _ _ _ _ _ us hl => match us, hl with | [_, _], _ => rfl); (case a => k_is); (case l => k_is); (case c => k_is); (case k => k_is)
      f_common := by refine' DL.fun_at KX G ?a ?l ?c ?k (fun _ _ _ _ _ _ us hl => match us, hl with | [_, _], _ => rfl); (case a => k_is); (case l => k_is); (case c => k_is); (case k => k_is)
      f_is_whole := by refine' DL.fun_at KX G ?a ?l ?c ?k (fun _ _ _ _ _ _ us hl => match us, hl with | [_], _ => rfl); (case a => k_is); (case l => k_is); (case c => k_is); (case k => k_is)
      f_number_of := by refine' DL.fun_at KX G ?a ?l ?c ?k (fun _ _ _ _ _ _ us hl => match us, hl with | [_, _], _ => rfl); (case a => k_is); (case l => k_is); (case c => k_is); (case k => k_is)
      f_difference_of := by refine' DL.fun_at KX G ?a ?l ?c ?k (fun _ _ _ _ _ _ us hl => match us, hl with | [_, _], _ => rfl); (case a => k_is); (case l => k_is); (case c => k_is); (case k => k_is)
      f_quotient_of := by refine' DL.fun_at KX G ?a ?l ?c ?k (fun _ _ _ _ _ _ us hl => match us, hl with | [_, _], _ => rfl); (case a => k_is); (case l => k_is); (case c => k_is); (case k => k_is)
      f_meeting := by refine' DL.fun_at KX G ?a ?l ?c ?k (fun _ _ _ _ _ _ us hl => match us, hl with | [_, _], _ => rfl); (case a => k_is); (case l => k_is); (case c => k_is); (case k => k_is)
      f_passing_time := by refine' DL.fun_at KX G ?a ?l ?c ?k (fun _ _ _ _ _ _ us hl => match us, hl with | [_, _], _ => rfl); (case a => k_is); (case l => k_is); (case c => k_is); (case k => k_is)
      f_put_in := by refine' DL.fun_at KX G ?a ?l ?c ?k (fun _ _ _ _ _ _ us hl => match us, hl with | [_, _, _], _ => rfl); (case a => k_is); (case l => k_is); (case c => k_is); (case k => k_is)
      f_changes := by refine' DL.fun_at KX G ?a ?l ?c ?k (fun _ _ _ _ _ _ us hl => match us, hl with | [_, _, _], _ => rfl); (case a => k_is); (case l => k_is); (case c => k_is); (case k => k_is)
      f_l_changes_right := by refine' DL.fun_at KX G ?a ?l ?c ?k (fun _ _ _ _ _ _ us hl => match us, hl with | [_, _, _, _], _ => rfl); (case a => k_is); (case l => k_is); (case c => k_is); (case k => k_is)
      f_l_less := by refine' DL.fun_at KX G ?a ?l ?c ?k (fun _ _ _ _ _ _ us hl => match us, hl with | [_, _], _ => rfl); (case a => k_is); (case l => k_is); (case c => k_is); (case k => k_is)
      f_l_lowest := by refine' DL.fun_at KX G ?a ?l ?c ?k (fun _ _ _ _ _ _ us hl => match us, hl with | [_, _], _ => rfl); (case a => k_is); (case l => k_is); (case c => k_is); (case k => k_is)
      f_l_spot := by refine' DL.fun_at KX G ?a ?l ?c ?k (fun _ _ _ _ _ _ us hl => match us, hl with | [_, _], _ => rfl); (case a => k_is); (case l => k_is); (case c => k_is); (case k => k_is)
      f_l_level := by refine' DL.fun_at KX G ?a ?l ?c ?k (fun _ _ _ _ _ _ us hl => match us, hl with | [_, _], _ => rfl); (case a => k_is); (case l => k_is); (case c => k_is); (case k => k_is)
      f_l_take := by refine' DL.fun_at KX G ?a ?l ?c ?k (fun _ _ _ _ _ _ us hl => match us, hl with | [_, _], _ => rfl); (case a => k_is); (case l => k_is); (case c => k_is); (case k => k_is)
      f_l_number := by refine' DL.fun_at KX G ?a ?l ?c ?k (fun _ _ _ _ _ _ us hl => match us, hl with | [_, _], _ => rfl); (case a => k_is); (case l => k_is); (case c => k_is); (case k => k_is)
      f_l_through := by refine' DL.fun_at KX G ?a ?l ?c ?k (fun _ _ _ _ _ _ us hl => match us, hl with | [_, _, _], _ => rfl); (case a => k_is); (case l => k_is); (case c => k_is); (case k => k_is)
      f_l_lines := by refine' DL.fun_at KX G ?a ?l ?c ?k (fun _ _ _ _ _ _ us hl => match us, hl with | [_, _], _ => rfl); (case a => k_is); (case l => k_is); (case c => k_is); (case k => k_is)
      f_l_met := by refine' DL.fun_at KX G ?a ?l ?c ?k (fun _ _ _ _ _ _ us hl => match us, hl with | [_, _, _], _ => rfl); (case a => k_is); (case l => k_is); (case c => k_is); (case k => k_is)
      f_l_time := by refine' DL.fun_at KX G ?a ?l ?c ?k (fun _ _ _ _ _ _ us hl => match us, hl with | [_, _], _ => rfl); (case a => k_is); (case l => k_is); (case c => k_is); (case k => k_is)
      f_l_turned_row := by refine' DL.fun_at KX G ?a ?l ?c ?k (fun _ _ _ _ _ _ us hl => match us, hl with | [_], _ => rfl); (case a => k_is); (case l => k_is); (case c => k_is); (case k => k_is)
      f_product_of := by refine' DL.fun_at KX G ?a ?l ?c ?k (fun _ _ _ _ _ _ us hl => match us, hl with | [_, _], _ => rfl); (case a => k_is); (case l => k_is); (case c => k_is); (case k => k_is)
      f_sum_of := by refine' DL.fun_at KX G ?a ?l ?c ?k (fun _ _ _ _ _ _ us hl => match us, hl with | [_, _], _ => rfl); (case a => k_is); (case l => k_is); (case c => k_is); (case k => k_is)
      f_place_at := by refine' DL.fun_at KX G ?a ?l ?c ?k (fun _ _ _ _ _ _ us hl => match us, hl with | [_, _], _ => rfl); (case a => k_is); (case l => k_is); (case c => k_is); (case k => k_is)
      f_is_ahead := by refine' DL.fun_at KX G ?a ?l ?c ?k (fun _ _ _ _ _ _ us hl => match us, hl with | [_, _, _, _], _ => rfl); (case a => k_is); (case l => k_is); (case c => k_is); (case k => k_is)
      f_ahead_of_all := by refine' DL.fun_at KX G ?a ?l ?c ?k (fun _ _ _ _ _ _ us hl => match us, hl with | [_, _], _ => rfl); (case a => k_is); (case l => k_is); (case c => k_is); (case k => k_is)
      f_earliest := by refine' DL.fun_at KX G ?a ?l ?c ?k (fun _ _ _ _ _ _ us hl => match us, hl with | [_], _ => rfl); (case a => k_is); (case l => k_is); (case c => k_is); (case k => k_is)
      f_first_leader := by refine' DL.fun_at KX G ?a ?l ?c ?k (fun _ _ _ _ _ _ us hl => match us, hl with | [_], _ => rfl); (case a => k_is); (case l => k_is); (case c => k_is); (case k => k_is)
      f_passed_at := by refine' DL.fun_at KX G ?a ?l ?c ?k (fun _ _ _ _ _ _ us hl => match us, hl with | [_, _, _], _ => rfl); (case a => k_is); (case l => k_is); (case c => k_is); (case k => k_is)
      f_leaders := by refine' DL.fun_at KX G ?a ?l ?c ?k (fun _ _ _ _ _ _ us hl => match us, hl with | [_], _ => rfl); (case a => k_is); (case l => k_is); (case c => k_is); (case k => k_is)
      f_cover := by refine' DL.fun_at KX G ?a ?l ?c ?k (fun _ _ _ _ _ _ us hl => match us, hl with | [_, _], _ => rfl); (case a => k_is); (case l => k_is); (case c => k_is); (case k => k_is)
      f_are_joint := by refine' DL.fun_at KX G ?a ?l ?c ?k (fun _ _ _ _ _ _ us hl => match us, hl with | [_, _, _, _], _ => rfl); (case a => k_is); (case l => k_is); (case c => k_is); (case k => k_is)
      f_is_always_ahead := by refine' DL.fun_at KX G ?a ?l ?c ?k (fun _ _ _ _ _ _ us hl => match us, hl with | [_, _, _], _ => rfl); (case a => k_is); (case l => k_is); (case c => k_is); (case k => k_is)
      f_is_cover := by refine' DL.fun_at KX G ?a ?l ?c ?k (fun _ _ _ _ _ _ us hl => match us, hl with | [_, _, _, _], _ => rfl); (case a => k_is); (case l => k_is); (case c => k_is); (case k => k_is)
      f_order_at := by refine' DL.fun_at KX G ?a ?l ?c ?k (fun _ _ _ _ _ _ us hl => match us, hl with | [_, _], _ => rfl); (case a => k_is); (case l => k_is); (case c => k_is); (case k => k_is)
      f_nearest := by refine' DL.fun_at KX G ?a ?l ?c ?k (fun _ _ _ _ _ _ us hl => match us, hl with | [_, _], _ => rfl); (case a => k_is); (case l => k_is); (case c => k_is); (case k => k_is)
      f_change_times := by refine' DL.fun_at KX G ?a ?l ?c ?k (fun _ _ _ _ _ _ us hl => match us, hl with | [_], _ => rfl); (case a => k_is); (case l => k_is); (case c => k_is); (case k => k_is)
      f_rank_row := by refine' DL.fun_at KX G ?a ?l ?c ?k (fun _ _ _ _ _ _ us hl => match us, hl with | [_, _], _ => rfl); (case a => k_is); (case l => k_is); (case c => k_is); (case k => k_is)
      f_law := by refine' DL.fun_at KX G ?a ?l ?c ?k (fun _ _ _ _ _ _ us hl => match us, hl with | [_], _ => rfl); (case a => k_is); (case l => k_is); (case c => k_is); (case k => k_is)
    }
    exact DL.law_at T.f_law hmg (fun _ _ _ _ _ _ _ _ => .of_eq rfl) (fun base f fd F => Claim.ok_law T F)
