import PyProof.Rows.All
import Wide.All
import OpenK.AllK
import Wide.FinOn
import HandS.ForMost
import HandS.Wide
import HandS.IsInst
import HandS.More
import HandS.Deep
import HandS.Style
import HandS.Zip
import HandS.TupSets
import HandS.TupAny
import HandS.Keys
import HandS.Small
import HandS.Conv
import HandS.Exc
import HandS.ExcOwn
import HandS.ExcIs
import HandS.ExcInit
import HandS.ExcField
import HandS.WordsExc
import KE.KExcIs
import HandS.Text
import HandS.Codes
import HandS.Iter
import HandS.SetFor
import HandS.Remove
import HandS.Replace
import PyProof.StrOps2
import HandS.DictEq
import HandS.DictTup
import HandS.NoneIn
import KE.KDictKeyed
import HandS.TupLen
import KE.SortData
import HandS.ReplaceLit
import PyProof.ToksMono
import PyProof.ReprRoads
import PyProof.ReprLen
import HandS.HeadEnd
import HandS.Head0
import HandS.Head1
import HandS.Head2
import HandS.HeadEnd
import HandS.HeadHook1
import Wide.Once
import PySem.Challenge.RW_leadtimes_k30_no_logs
set_option Elab.async false
set_option linter.all false
set_option maxRecDepth 100000
set_option autoImplicit false
set_option maxHeartbeats 4000000
/-! A layer of data over the hand layer: tuples are values, lists stand in a store. -/
namespace DL
open PySem PySem.Spec PyProof.Rows L2
/-- data: a tuple is a value; a list that nobody writes (fl) is one, too; a list that may be written is told by its address -/
inductive D where
  | non | bl (b : Bool) | int (i : Int) | str (x : Str) | ty (n : String) | ref (a : Addr) | tup (ds : List D) | fl (ds : List D) | exc (x : Str) (f : Option (Str × Int))
/-- a class: its name, and its objects' fields in the order in which they are first written -/
structure Kls where
  name : Str
  fields : List Str
/-- what stands in the store -/
inductive O where
  | lst (ds : List D) | ins (k : Kls) (ds : List D) | dic (kvs : List (Key × D)) | fdc (o : Obj) (kvs : List (Key × D)) | dct (kvs : List (List Key × D)) | fdt (o : Obj) (kvs : List (List Key × D)) | ndc (ks : List ((Int × Int) × (Int × Int)))
abbrev Sto := Addr → Option O
/-- of a list that stands -/
def getO : Option O → (List D → Prop) → Prop
  | some (.lst xs), k => k xs
  | _, _ => False
theorem getO_get {o : Option O} {k : List D → Prop} (h : getO o k) : ∃ xs, o = some (.lst xs) ∧ k xs := by
  unfold getO at h
  split at h
  · exact ⟨_, rfl, h⟩
  · exact h.elim
theorem getO_of {o : Option O} {k : List D → Prop} {xs : List D} (e : o = some (.lst xs)) (h : k xs) : getO o k := by subst e; exact h
def onS {α : Type} : Option α → (α → Prop) → Prop
  | some x, k => k x
  | none, _ => False
theorem onS_get {α : Type} {o : Option α} {k : α → Prop} (h : onS o k) : ∃ x, o = some x ∧ k x := by
  cases o with
  | none => exact h.elim
  | some x => exact ⟨x, rfl, h⟩
theorem onS_of {α : Type} {o : Option α} {k : α → Prop} {x : α} (e : o = some x) (h : k x) : onS o k := by subst e; exact h
def ups (S : Sto) (a : Addr) (o : O) : Sto := fun b => if b = a then some o else S b
theorem ups_same {S : Sto} {a : Addr} {o : O} : ups S a o a = some o := by unfold ups; rw [if_pos rfl]
theorem ups_ne {S : Sto} {a b : Addr} {o : O} (h : b ≠ a) : ups S a o b = S b := by unfold ups; rw [if_neg h]
theorem ups_ups {S : Sto} {a : Addr} {o u : O} : ups (ups S a o) a u = ups S a u := by
  funext b; unfold ups; split <;> rfl
/-- all that stands in the one stands in the other -/
def Sub (S S' : Sto) : Prop := ∀ a o, S a = some o → S' a = some o
theorem Sub.refl (S : Sto) : Sub S S := fun _ _ h => h
theorem Sub.trans {S S1 S2 : Sto} (a : Sub S S1) (b : Sub S1 S2) : Sub S S2 := fun c o h => b c o (a c o h)
theorem ne_of_st {S : Sto} {a b : Addr} {o : O} (h : S a = some o) (h' : S b = none) : a ≠ b := by
  intro e; subst e; rw [h] at h'; cases h'
theorem Sub.new {S S' : Sto} {p : Addr} {o : O} (h : Sub S S') (n : S p = none) : Sub S (ups S' p o) := fun a u e => by
  rw [ups_ne (ne_of_st e n)]; exact h a u e
theorem Sub.none {S S' : Sto} {p : Addr} (h : Sub S S') (n : S' p = none) : S p = none := by
  cases q : S p with
  | none => rfl
  | some o => rw [h p o q] at n; cases n
theorem Sub.upd {S S' : Sto} {p : Addr} {o : O} (h : Sub S S') : Sub (ups S p o) (ups S' p o) := fun a u e => by
  by_cases ha : a = p
  · subst ha; rw [ups_same] at e ⊢; exact e
  · rw [ups_ne ha] at e ⊢; exact h a u e
/-- a list that nobody writes: known to its object, or of the module -/
def FrzL (K : PySem.W.Frag) (H : Hp) (a : Addr) (xs : List V) : Prop :=
  (∃ o, H a = some (.frz o (.lst xs))) ∨
    ∃ (o : Obj) (its : Array Value) (n : Nat), K.lookup a = some o ∧ o.cls = .type "list" ∧ o.dict = none ∧ o.data = .seq its n ∧ its.size ≤ sizeLine ∧ Vals xs its.toList
theorem FrzL.sq {K : PySem.W.Frag} {H : Hp} {a : Addr} {xs : List V} (h : FrzL K H a xs) : SqL K H a xs := by
  rcases h with h | h
  · exact .inl (.inr h)
  · exact .inr h
/-- a class of the module, by its name -/
def cA (K : PySem.W.Frag) (x : Str) : Addr := match PySem.W.nsIn K mainGlobals x with
  | some (some (.ref a)) => a
  | _ => 0
/-- something stands at a -/
def anyO (a : Addr) : HO := .ext fun h => ∃ o, h.get? a = some o
/-- the dict of an exception that nobody writes any more: no field, or one -/
def XDict (H : Hp) : Option Addr → Option (Str × Int) → Prop
  | none, none => True
  | some d, some (n, i) => ∃ od, H d = some (.frz od (.xd [(n, .int i)]))
  | _, _ => False
/-- an exception that was caught, of the class x, with its field -/
def ExcAt (K : PySem.W.Frag) (H : Hp) (a : Addr) (x : Str) (f : Option (Str × Int)) : Prop :=
  ∃ oe : Obj, H a = some (.frz oe (anyO a)) ∧ oe.cls = .ref (cA K x) ∧ (∃ vs, oe.data = .fields vs) ∧ XDict H oe.dict f
mutual
/-- d stands for v -/
inductive Dv (K : PySem.W.Frag) (H : Hp) : D → V → Prop
  | non : Dv K H .non .non
  | bl (b : Bool) : Dv K H (.bl b) (.bl b)
  | int (i : Int) : Dv K H (.int i) (.int i)
  | str (x : Str) : Dv K H (.str x) (.str x)
  | ty (n : String) : Dv K H (.ty n) (.ty n)
  | ref (a : Addr) : Dv K H (.ref a) (.ref a)
  | tup {p : Addr} {vs : List V} {ds : List D} : SqT K H p vs → Dvs K H ds vs → Dv K H (.tup ds) (.ref p)
  | fl {p : Addr} {vs : List V} {ds : List D} : FrzL K H p vs → Dvs K H ds vs → Dv K H (.fl ds) (.ref p)
  | exc {a : Addr} {x : Str} {f : Option (Str × Int)} : ExcAt K H a x f → Dv K H (.exc x f) (.ref a)
inductive Dvs (K : PySem.W.Frag) (H : Hp) : List D → List V → Prop
  | nil : Dvs K H [] []
  | cons {d : D} {v : V} {ds : List D} {vs : List V} : Dv K H d v → Dvs K H ds vs → Dvs K H (d :: ds) (v :: vs)
end
/-- the tuples, and the lists that nobody writes, stand as they stood -/
structure Good0 (K : PySem.W.Frag) (H H' : Hp) : Prop where
  tp : ∀ a xs, SqT K H a xs → SqT K H' a xs
  fz : ∀ a xs, FrzL K H a xs → FrzL K H' a xs
  xe : ∀ a x f, ExcAt K H a x f → ExcAt K H' a x f
/-- .. and what is locked -/
structure Good (K : PySem.W.Frag) (H H' : Hp) : Prop extends Good0 K H H' where
  fd : ∀ a o u, H a = some (.frz o u) → H' a = some (.frz o u)
theorem XDict.by {H H' : Hp} (g : ∀ a o u, H a = some (.frz o u) → H' a = some (.frz o u)) : ∀ {d : Option Addr} {f : Option (Str × Int)}, XDict H d f → XDict H' d f
  | none, none, _ => trivial
  | some _, some (_, _), ⟨od, q⟩ => ⟨od, g _ _ _ q⟩
  | none, some _, h => h.elim
  | some _, none, h => h.elim
theorem ExcAt.by {K : PySem.W.Frag} {H H' : Hp} (g : ∀ a o u, H a = some (.frz o u) → H' a = some (.frz o u)) {a : Addr} {x : Str} {f : Option (Str × Int)} : ExcAt K H a x f → ExcAt K H' a x f := fun ⟨oe, h1, h2, h3, h4⟩ => by
  exact ⟨oe, g _ _ _ h1, h2, h3, h4.by g⟩
theorem Good.refl {K : PySem.W.Frag} (H : Hp) : Good K H H := ⟨⟨fun _ _ h => h, fun _ _ h => h, fun _ _ _ h => h⟩, fun _ _ _ h => h⟩
theorem Good.trans {K : PySem.W.Frag} {H H1 H2 : Hp} (a : Good K H H1) (b : Good K H1 H2) : Good K H H2 := ⟨⟨fun p xs h => b.tp p xs (a.tp p xs h), fun p xs h => b.fz p xs (a.fz p xs h), fun p x f h => b.xe p x f (a.xe p x f h)⟩, fun p o u h => b.fd p o u (a.fd p o u h)⟩
mutual
theorem Dv.keep0 {K : PySem.W.Frag} {H H' : Hp} (g : Good0 K H H') : ∀ (d : D) (v : V), Dv K H d v → Dv K H' d v
  | .non, _, h => by cases h; exact .non
  | .bl b, _, h => by cases h; exact .bl b
  | .int b, _, h => by cases h; exact .int b
  | .str b, _, h => by cases h; exact .str b
  | .ty b, _, h => by cases h; exact .ty b
  | .ref b, _, h => by cases h; exact .ref b
  | .tup ds, _, h => by
    cases h with
    | tup h1 h2 => exact .tup (g.tp _ _ h1) (Dvs.keep0 g ds _ h2)
  | .fl ds, _, h => by
    cases h with
    | fl h1 h2 => exact .fl (g.fz _ _ h1) (Dvs.keep0 g ds _ h2)
  | .exc x f, _, h => by
    cases h with
    | exc h1 => exact .exc (g.xe _ _ _ h1)
theorem Dvs.keep0 {K : PySem.W.Frag} {H H' : Hp} (g : Good0 K H H') : ∀ (ds : List D) (vs : List V), Dvs K H ds vs → Dvs K H' ds vs
  | [], _, h => by cases h; exact .nil
  | d :: ds, _, h => by
    cases h with
    | cons h1 h2 => exact .cons (Dv.keep0 g d _ h1) (Dvs.keep0 g ds _ h2)
end
theorem Dv.keep {K : PySem.W.Frag} {H H' : Hp} (g : Good K H H') (d : D) (v : V) (h : Dv K H d v) : Dv K H' d v := Dv.keep0 g.toGood0 d v h
theorem Dvs.keep {K : PySem.W.Frag} {H H' : Hp} (g : Good K H H') (ds : List D) (vs : List V) (h : Dvs K H ds vs) : Dvs K H' ds vs := Dvs.keep0 g.toGood0 ds vs h
theorem Dvs.length {K : PySem.W.Frag} {H : Hp} : ∀ {ds : List D} {vs : List V}, Dvs K H ds vs → ds.length = vs.length
  | [], _, h => by cases h; rfl
  | _ :: ds, _, h => by
    cases h with
    | cons h1 h2 => rw [List.length_cons, List.length_cons, Dvs.length h2]
theorem Dvs.at {K : PySem.W.Frag} {H : Hp} : ∀ {ds : List D} {vs : List V} {i : Nat} {d : D}, Dvs K H ds vs → ds[i]? = some d → ∃ v, vs[i]? = some v ∧ Dv K H d v
  | [], _, _, _, _, e => by simp at e
  | _ :: ds, _, 0, d, h, e => by
    cases h with
    | cons h1 h2 =>
      obtain rfl := Option.some.inj e
      exact ⟨_, rfl, h1⟩
  | _ :: ds, _, i + 1, d, h, e => by
    cases h with
    | cons h1 h2 => exact Dvs.at (i := i) h2 e
theorem Dvs.at' {K : PySem.W.Frag} {H : Hp} : ∀ {ds : List D} {vs : List V} {i : Nat} {v : V}, Dvs K H ds vs → vs[i]? = some v → ∃ d, ds[i]? = some d ∧ Dv K H d v
  | [], _, _, _, h, e => by cases h; simp at e
  | _ :: ds, _, 0, v, h, e => by
    cases h with
    | cons h1 h2 =>
      obtain rfl := Option.some.inj e
      exact ⟨_, rfl, h1⟩
  | _ :: ds, _, i + 1, v, h, e => by
    cases h with
    | cons h1 h2 => exact Dvs.at' (i := i) h2 e
theorem Dvs.append {K : PySem.W.Frag} {H : Hp} : ∀ {ds es : List D} {vs us : List V}, Dvs K H ds vs → Dvs K H es us → Dvs K H (ds ++ es) (vs ++ us)
  | [], _, _, _, h, k => by cases h; exact k
  | _ :: ds, _, _, _, h, k => by
    cases h with
    | cons h1 h2 => exact .cons h1 (Dvs.append h2 k)
theorem Dvs.set {K : PySem.W.Frag} {H : Hp} {d : D} {v : V} (r : Dv K H d v) : ∀ {ds : List D} {vs : List V} (i : Nat), Dvs K H ds vs → Dvs K H (ds.set i d) (vs.set i v)
  | [], _, _, h => by cases h; exact .nil
  | _ :: ds, _, 0, h => by
    cases h with
    | cons h1 h2 => exact .cons r h2
  | _ :: ds, _, i + 1, h => by
    cases h with
    | cons h1 h2 => exact .cons h1 (Dvs.set r i h2)
theorem Dvs.take {K : PySem.W.Frag} {H : Hp} : ∀ {ds : List D} {vs : List V} (n : Nat), Dvs K H ds vs → Dvs K H (ds.take n) (vs.take n)
  | _, _, 0, _ => by simpa using Dvs.nil
  | [], _, _ + 1, h => by cases h; exact .nil
  | _ :: ds, _, n + 1, h => by
    cases h with
    | cons h1 h2 => exact .cons h1 (Dvs.take n h2)
theorem Dvs.drop {K : PySem.W.Frag} {H : Hp} : ∀ {ds : List D} {vs : List V} (n : Nat), Dvs K H ds vs → Dvs K H (ds.drop n) (vs.drop n)
  | _, _, 0, h => h
  | [], _, _ + 1, h => by cases h; exact .nil
  | _ :: ds, _, n + 1, h => by
    cases h with
    | cons h1 h2 => exact Dvs.drop n h2
theorem Dvs.dropLast {K : PySem.W.Frag} {H : Hp} {ds : List D} {vs : List V} (h : Dvs K H ds vs) : Dvs K H ds.dropLast vs.dropLast := by
  rw [List.dropLast_eq_take, List.dropLast_eq_take, h.length]
  exact h.take _
theorem Dvs.eraseIdx {K : PySem.W.Frag} {H : Hp} : ∀ {ds : List D} {vs : List V} (i : Nat), Dvs K H ds vs → Dvs K H (ds.eraseIdx i) (vs.eraseIdx i)
  | [], _, _, h => by cases h; exact .nil
  | _ :: ds, _, 0, h => by
    cases h with
    | cons h1 h2 => exact h2
  | _ :: ds, _, i + 1, h => by
    cases h with
    | cons h1 h2 => exact .cons h1 (Dvs.eraseIdx i h2)
theorem Dvs.reverse {K : PySem.W.Frag} {H : Hp} : ∀ {ds : List D} {vs : List V}, Dvs K H ds vs → Dvs K H ds.reverse vs.reverse
  | [], _, h => by cases h; exact .nil
  | _ :: ds, _, h => by
    cases h with
    | cons h1 h2 =>
      rw [List.reverse_cons, List.reverse_cons]
      exact (Dvs.reverse h2).append (.cons h1 .nil)
theorem Dvs.ints {K : PySem.W.Frag} {H : Hp} : ∀ (ns : List Int), Dvs K H (ns.map D.int) (ns.map V.int)
  | [] => .nil
  | n :: ns => .cons (.int n) (Dvs.ints ns)
theorem Dvs.ints_of {K : PySem.W.Frag} {H : Hp} : ∀ {ns : List Int} {vs : List V}, Dvs K H (ns.map D.int) vs → vs = ns.map V.int
  | [], _, h => by cases h; rfl
  | n :: ns, _, h => by
    cases h with
    | cons h1 h2 =>
      cases h1
      rw [Dvs.ints_of h2]
      rfl
/-- fields, item by item -/
inductive Flds (K : PySem.W.Frag) (H : Hp) : List (Str × D) → List (Str × V) → Prop
  | nil : Flds K H [] []
  | cons {f : Str} {d : D} {v : V} {ds : List (Str × D)} {vs : List (Str × V)} : Dv K H d v → Flds K H ds vs → Flds K H ((f, d) :: ds) ((f, v) :: vs)
theorem Flds.keep0 {K : PySem.W.Frag} {H H' : Hp} (g : Good0 K H H') {ds : List (Str × D)} {vs : List (Str × V)} (h : Flds K H ds vs) : Flds K H' ds vs := by
  induction h with
  | nil => exact .nil
  | cons h1 _ ih => exact .cons (Dv.keep0 g _ _ h1) ih
theorem Flds.keep {K : PySem.W.Frag} {H H' : Hp} (g : Good K H H') {ds : List (Str × D)} {vs : List (Str × V)} (h : Flds K H ds vs) : Flds K H' ds vs := h.keep0 g.toGood0
/-! a dict whose keys are pairs of pairs of whole numbers, each with the value True -/
abbrev PK := (Int × Int) × (Int × Int)
def ePK (k : PK) : D := .tup [.tup [.int k.1.1, .int k.1.2], .tup [.int k.2.1, .int k.2.2]]
def hP (k : PK) : Int := reduceHash (Builtin.Tuple.tupleHashOf [reduceHash (Builtin.Tuple.tupleHashOf [hashInt k.1.1, hashInt k.1.2]), reduceHash (Builtin.Tuple.tupleHashOf [hashInt k.2.1, hashInt k.2.2])])
def NdAt (a : Addr) (xs : List (PK × Addr)) : Heap → Prop := fun h => (a == sysModules) = false ∧ xs.length ≤ 1000 ∧
  ∃ o es ep, h.get? a = some o ∧ o.ExactDict ∧ o.data = .dict es ep ∧ es.toList = xs.map (fun x => (⟨hP x.1, .ref x.2, .bool true⟩ : DictEntry)) ∧ (xs.map (·.1)).Nodup
inductive KVs {κ : Type} (K : PySem.W.Frag) (H : Hp) : List (κ × D) → List (κ × V) → Prop
  | nil : KVs K H [] []
  | cons {f : κ} {d : D} {v : V} {ds : List (κ × D)} {vs : List (κ × V)} : Dv K H d v → KVs K H ds vs → KVs K H ((f, d) :: ds) ((f, v) :: vs)
theorem KVs.keep0 {κ : Type} {K : PySem.W.Frag} {H H' : Hp} (g : Good0 K H H') {ds : List (κ × D)} {vs : List (κ × V)} (h : KVs K H ds vs) : KVs K H' ds vs := by
  induction h with
  | nil => exact .nil
  | cons h1 _ ih => exact .cons (Dv.keep0 g _ _ h1) ih
theorem KVs.keep {κ : Type} {K : PySem.W.Frag} {H H' : Hp} (g : Good K H H') {ds : List (κ × D)} {vs : List (κ × V)} (h : KVs K H ds vs) : KVs K H' ds vs := h.keep0 g.toGood0
def OOk (K : PySem.W.Frag) (H : Hp) (a : Addr) : O → Prop
  | .lst ds => ∃ vs, H a = some (.lst vs) ∧ Dvs K H ds vs
  | .ins k ds => ∃ dx gs, H a = some (.ins (cA K k.name) dx gs) ∧ Flds K H (k.fields.zip ds) gs
  | .dic kvs => ∃ ks, H a = some (.dK ks) ∧ KVs K H kvs ks
  | .fdc o kvs => ∃ ks, H a = some (.frz o (.dK ks)) ∧ KVs K H kvs ks
  | .dct kvs => ∃ ks, H a = some (.dT ks) ∧ KVs K H kvs ks
  | .fdt o kvs => ∃ ks, H a = some (.frz o (.dT ks)) ∧ KVs K H kvs ks
  | .ndc ks => ∃ xs : List (PK × Addr), xs.map (·.1) = ks ∧ H a = some (.ext (NdAt a xs)) ∧ ∀ x ∈ xs, Dv K H (ePK x.1) (.ref x.2)
/-- the store is held -/
def RelS (K : PySem.W.Frag) (S : Sto) (H : Hp) : Prop := ∀ a o, S a = some o → OOk K H a o
section
variable {K : PySem.W.Frag} {S S' : Sto} {H H' : Hp} {a p : Addr} {o : O}
theorem OOk.some (h : OOk K H a o) : H a ≠ none := by
  cases o with
  | lst ds => obtain ⟨vs, e, _⟩ := h; rw [e]; simp
  | ins C fs => obtain ⟨dx, gs, e, _⟩ := h; rw [e]; simp
  | dic kvs => obtain ⟨ks, e, _⟩ := h; rw [e]; simp
  | fdc ob kvs => obtain ⟨ks, e, _⟩ := h; rw [e]; simp
  | dct kvs => obtain ⟨ks, e, _⟩ := h; rw [e]; simp
  | fdt ob kvs => obtain ⟨ks, e, _⟩ := h; rw [e]; simp
  | ndc ks => obtain ⟨xs, _, e, _⟩ := h; rw [e]; simp
theorem OOk.keep0 (g : Good0 K H H') (e : H' a = H a) (h : OOk K H a o) : OOk K H' a o := by
  cases o with
  | lst ds => obtain ⟨vs, q, r⟩ := h; exact ⟨vs, e.trans q, Dvs.keep0 g _ _ r⟩
  | ins C fs => obtain ⟨dx, gs, q, r⟩ := h; exact ⟨dx, gs, e.trans q, r.keep0 g⟩
  | dic kvs => obtain ⟨ks, q, r⟩ := h; exact ⟨ks, e.trans q, r.keep0 g⟩
  | fdc ob kvs => obtain ⟨ks, q, r⟩ := h; exact ⟨ks, e.trans q, r.keep0 g⟩
  | dct kvs => obtain ⟨ks, q, r⟩ := h; exact ⟨ks, e.trans q, r.keep0 g⟩
  | fdt ob kvs => obtain ⟨ks, q, r⟩ := h; exact ⟨ks, e.trans q, r.keep0 g⟩
  | ndc ks => obtain ⟨xs, q0, q, r⟩ := h; exact ⟨xs, q0, e.trans q, fun x hx => Dv.keep0 g _ _ (r x hx)⟩
theorem OOk.keep (g : Good K H H') (e : H' a = H a) (h : OOk K H a o) : OOk K H' a o := h.keep0 g.toGood0 e
theorem RelS.fresh (h : RelS K S H) (n : H p = none) : S p = none := by
  cases q : S p with
  | none => rfl
  | some o => exact absurd n (h p o q).some
theorem RelS.sub (h : RelS K S' H) (s : Sub S S') : RelS K S H := fun a o e => h a o (s a o e)
theorem RelS.keep (h : RelS K S H) (g : Good K H H') (e : ∀ a, S a ≠ none → H' a = H a) : RelS K S H' := fun a o q =>
  (h a o q).keep g (e a (by rw [q]; simp))
theorem good_new {u : HO} (n : H p = none) : Good K H (upd H p u) where
  xe := fun b x f => ExcAt.by fun b ob w h => by rw [upd_ne (ne_of_none h n)]; exact h
  fd := fun b ob w h => by rw [upd_ne (ne_of_none h n)]; exact h
  tp := fun b xs h => by
    rcases h with (h | ⟨ob, h⟩) | h
    · exact .inl (.inl (by rw [upd_ne (ne_of_none h n)]; exact h))
    · exact .inl (.inr ⟨ob, by rw [upd_ne (ne_of_none h n)]; exact h⟩)
    · exact .inr h
  fz := fun b xs h => by
    rcases h with ⟨ob, h⟩ | h
    · exact .inl ⟨ob, by rw [upd_ne (ne_of_none h n)]; exact h⟩
    · exact .inr h
/-- a thing that is no tuple and no known one is written -/
theorem good_write {u u' : HO} (h0 : H a = some u) (m : Mut (some u)) : Good K H (upd H a u') where
  xe := fun b x f => ExcAt.by fun b ob w h => by rw [upd_ne (fun z => by subst z; rw [h0] at h; cases h; exact m)]; exact h
  fd := fun b ob w h => by rw [upd_ne (fun z => by subst z; rw [h0] at h; cases h; exact m)]; exact h
  tp := fun b xs h => by
    rcases h with (h | ⟨ob, h⟩) | h
    · exact .inl (.inl (by rw [upd_ne (fun z => by subst z; rw [h0] at h; cases h; exact m)]; exact h))
    · exact .inl (.inr ⟨ob, by rw [upd_ne (fun z => by subst z; rw [h0] at h; cases h; exact m)]; exact h⟩)
    · exact .inr h
  fz := fun b xs h => by
    rcases h with ⟨ob, h⟩ | h
    · exact .inl ⟨ob, by rw [upd_ne (fun z => by subst z; rw [h0] at h; cases h; exact m)]; exact h⟩
    · exact .inr h
theorem RelS.newT {u : HO} (h : RelS K S H) (n : H p = none) : RelS K S (upd H p u) :=
  h.keep (good_new n) fun b hb => upd_ne fun z => by subst z; exact hb (h.fresh n)
theorem RelS.new {u : HO} (h : RelS K S H) (n : H p = none) (ok : OOk K (upd H p u) p o) : RelS K (ups S p o) (upd H p u) := fun b q e => by
  by_cases hb : b = p
  · subst hb; rw [ups_same] at e; cases e; exact ok
  · rw [ups_ne hb] at e; exact h.newT n b q e
theorem RelS.write {u u' : HO} (h : RelS K S H) (h0 : H a = some u) (m : Mut (some u)) (ok : OOk K (upd H a u') a o) : RelS K (ups S a o) (upd H a u') := fun b q e => by
  by_cases hb : b = a
  · subst hb; rw [ups_same] at e; cases e; exact ok
  · rw [ups_ne hb] at e; exact (h b q e).keep (good_write h0 m) (upd_ne hb)
theorem Dvs.new {u : HO} {ds : List D} {vs : List V} (r : Dvs K H ds vs) (n : H p = none) : Dvs K (upd H p u) ds vs := Dvs.keep (good_new n) _ _ r
end
/-- by a truth value -/
def Cnd (b : Bool) (A B : Prop) : Prop := match b with
  | true => A
  | false => B
theorem cnd_dec {p : Prop} {_ : Decidable p} {A B : Prop} (h1 : p → A) (h2 : ¬ p → B) : Cnd (decide p) A B := by
  by_cases h : p
  · rw [decide_eq_true h]; exact h1 h
  · rw [decide_eq_false h]; exact h2 h
theorem cnd_not {b : Bool} {A B : Prop} : Cnd (!b) A B = Cnd b B A := by cases b <;> rfl
theorem cnd_by {b : Bool} {A B : Prop} (h1 : b = true → A) (h2 : b = false → B) : Cnd b A B := by
  cases b
  · exact h2 rfl
  · exact h1 rfl
theorem cnd_t {b : Bool} {A B : Prop} (e : b = true) (h : A) : Cnd b A B := by subst e; exact h
theorem cnd_f {b : Bool} {A B : Prop} (e : b = false) (h : B) : Cnd b A B := by subst e; exact h
abbrev St2 := List (Option D)
/-- the slots -/
structure Rl (K : PySem.W.Frag) (H : Hp) (τ : St2) (σ : L2.St) : Prop where
  len : τ.length = σ.length
  at_ : ∀ (i : Nat) (d : D), τ[i]? = some (some d) → ∃ v, σ[i]? = some (some v) ∧ Dv K H d v
theorem Rl.keep0 {K : PySem.W.Frag} {H H' : Hp} {τ : St2} {σ : L2.St} (g : Good0 K H H') (h : Rl K H τ σ) : Rl K H' τ σ :=
  ⟨h.len, fun i d e => let ⟨v, q, r⟩ := h.at_ i d e; ⟨v, q, Dv.keep0 g _ _ r⟩⟩
theorem Rl.keep {K : PySem.W.Frag} {H H' : Hp} {τ : St2} {σ : L2.St} (g : Good K H H') (h : Rl K H τ σ) : Rl K H' τ σ := h.keep0 g.toGood0
theorem Rl.set {K : PySem.W.Frag} {H : Hp} {τ : St2} {σ : L2.St} {d : D} {v : V} (h : Rl K H τ σ) (i : Nat) (r : Dv K H d v) : Rl K H (τ.set i (some d)) (σ.set i (some v)) := by
  refine ⟨by simp [h.len], fun j e q => ?_⟩
  by_cases hj : i = j
  · subst hj
    by_cases hl : i < τ.length
    · rw [List.getElem?_set_self hl] at q
      cases q
      exact ⟨v, List.getElem?_set_self (by rw [← h.len]; exact hl), r⟩
    · rw [List.getElem?_eq_none (by simpa using hl)] at q
      cases q
  · rw [List.getElem?_set_ne hj] at q
    rw [List.getElem?_set_ne hj]
    exact h.at_ j e q
theorem Rl.start {K : PySem.W.Frag} {H : Hp} {N : List Str} {ds : List D} {vs : List V} (r : Dvs K H ds vs) : Rl K H (ds.map some ++ List.replicate (N.length - ds.length) none) (L2.start N vs) := by
  refine ⟨by unfold L2.start; simp [r.length], fun i d e => ?_⟩
  by_cases hi : i < ds.length
  · rw [List.getElem?_append_left (by simpa using hi), List.getElem?_map] at e
    cases q : ds[i]? with
    | none => rw [q] at e; cases e
    | some x =>
      rw [q] at e
      obtain rfl : x = d := by simpa using e
      obtain ⟨v, e2, r2⟩ := r.at q
      refine ⟨v, ?_, r2⟩
      unfold L2.start
      rw [List.getElem?_append_left (by simpa [← r.length] using hi), List.getElem?_map, e2]
      rfl
  · rw [List.getElem?_append_right (by simpa using hi)] at e
    rw [List.getElem?_replicate] at e
    split at e <;> cases e
def start2 (N : List Str) (ds : List D) : St2 := ds.map some ++ List.replicate (N.length - ds.length) none
abbrev VK2 := D → Sto → Prop
abbrev TE2 := St2 → Sto → VK2 → Prop
abbrev TT2 := St2 → Sto → (Bool → Sto → Prop) → Prop
abbrev TA2 := St2 → Sto → (List D → Sto → Prop) → Prop
/-- what is wanted of an exception: its class, its own fields -/
abbrev XK2 := Str → Option (Str × Int) → Sto → Prop
structure Ends2 where
  nx : St2 → Sto → Prop
  rt : VK2
  bk : St2 → Sto → Prop := fun _ _ => False
  ct : St2 → Sto → Prop := fun _ _ => False
abbrev TS2 := Ends2 → St2 → Sto → Prop
/-- the readings of the layer below -/
def dn (K : PySem.W.Frag) (t : TE2) : TE := fun σ H Q => ∃ τ S Q2, Rl K H τ σ ∧ RelS K S H ∧ t τ S Q2 ∧ ∀ d v S' H', Good K H H' → RelS K S' H' → Dv K H' d v → Q2 d S' → Q v H'
def dnT (K : PySem.W.Frag) (t : TT2) : TT := fun σ H Q => ∃ τ S Q2, Rl K H τ σ ∧ RelS K S H ∧ t τ S Q2 ∧ ∀ b S' H', Good K H H' → RelS K S' H' → Q2 b S' → Q b H'
def dnA (K : PySem.W.Frag) (t : TA2) : TA := fun σ H Q => ∃ τ S Q2, Rl K H τ σ ∧ RelS K S H ∧ t τ S Q2 ∧ ∀ ds vs S' H', Good K H H' → RelS K S' H' → Dvs K H' ds vs → Q2 ds S' → Q vs H'
def wants (K : PySem.W.Frag) (H : Hp) (P2 : St2 → Sto → Prop) (P : L2.St → Hp → Prop) : Prop := ∀ τ S σ H', Good K H H' → Rl K H' τ σ → RelS K S H' → P2 τ S → P σ H'
structure EndsR (K : PySem.W.Frag) (H : Hp) (D2 : Ends2) (D : Ends) : Prop where
  nx : wants K H D2.nx D.nx
  rt : ∀ d v S H', Good K H H' → RelS K S H' → Dv K H' d v → D2.rt d S → D.rt v H'
  bk : wants K H D2.bk D.bk
  ct : wants K H D2.ct D.ct
theorem wants.keep {K : PySem.W.Frag} {H H' : Hp} {P2 : St2 → Sto → Prop} {P : L2.St → Hp → Prop} (g : Good K H H') (h : wants K H P2 P) : wants K H' P2 P := fun τ S σ H2 g2 => h τ S σ H2 (g.trans g2)
theorem EndsR.keep {K : PySem.W.Frag} {H H' : Hp} {D2 : Ends2} {D : Ends} (g : Good K H H') (h : EndsR K H D2 D) : EndsR K H' D2 D :=
  ⟨h.nx.keep g, fun d v S H2 g2 => h.rt d v S H2 (g.trans g2), h.bk.keep g, h.ct.keep g⟩
def dnS (K : PySem.W.Frag) (t : TS2) : TS := fun D σ H => ∃ τ S D2, Rl K H τ σ ∧ RelS K S H ∧ t D2 τ S ∧ EndsR K H D2 D
abbrev QE (X : Cx) (e : Expr) (t : TE2) : Prop := PE X e (dn X.K t)
abbrev QT (X : Cx) (e : Expr) (t : TT2) : Prop := PT X e (dnT X.K t)
abbrev QW (X : Cx) (e : Expr) (t : TT2) : Prop := PW X e (dnT X.K t)
abbrev QA (X : Cx) (es : List Expr) (t : TA2) : Prop := PA X es (dnA X.K t)
abbrev QS (X : Cx) (s : Stmt) (t : TS2) : Prop := PS X s (dnS X.K t)
abbrev QSs (X : Cx) (s : List Stmt) (t : TS2) : Prop := PSs X s (dnS X.K t)
theorem PE.wk {X : Cx} {e : Expr} {t t' : TE} (h : PE X e t) (w : ∀ σ H Q, t' σ H Q → t σ H Q) : PE X e t' := ⟨fun pins s σ H Q I q => h.run pins s σ H Q I (w _ _ _ q)⟩
theorem PT.wk {X : Cx} {e : Expr} {t t' : TT} (h : PT X e t) (w : ∀ σ H Q, t' σ H Q → t σ H Q) : PT X e t' := ⟨fun pins s σ H Q I q => h.run pins s σ H Q I (w _ _ _ q)⟩
theorem PW.wk {X : Cx} {e : Expr} {t t' : TT} (h : PW X e t) (w : ∀ σ H Q, t' σ H Q → t σ H Q) : PW X e t' := ⟨fun wh pins s σ H Q I q => h.run wh pins s σ H Q I (w _ _ _ q)⟩
theorem PA.wk {X : Cx} {e : List Expr} {t t' : TA} (h : PA X e t) (w : ∀ σ H Q, t' σ H Q → t σ H Q) : PA X e t' := ⟨fun p pins s σ H Q I q => h.run p pins s σ H Q I (w _ _ _ q)⟩
theorem PS.wk {X : Cx} {e : Stmt} {t t' : TS} (h : PS X e t) (w : ∀ D σ H, t' D σ H → t D σ H) : PS X e t' := ⟨fun pins s σ H D I q => h.run pins s σ H D I (w _ _ _ q)⟩
theorem PSs.wk {X : Cx} {e : List Stmt} {t t' : TS} (h : PSs X e t) (w : ∀ D σ H, t' D σ H → t D σ H) : PSs X e t' := ⟨fun pins s σ H D I q => h.run pins s σ H D I (w _ _ _ q)⟩
/-! ### names, constants -/
def uVar (i : Nat) : TE2 := fun τ S Q => match τ[i]? with
  | some (some d) => Q d S
  | _ => False
def uC (d : D) : TE2 := fun _ S Q => Q d S
section
variable {X : Cx} {pos : Pos}
theorem qv (i : Nat) {x : Str} (h : PE X (.Name x pos) (tVar i)) : QE X (.Name x pos) (uVar i) := PE.wk h fun σ H Q ⟨τ, S, Q2, r, rs, t, k⟩ => by
  unfold uVar at t
  split at t
  · next d e =>
    obtain ⟨v, e2, rv⟩ := r.at_ i d e
    exact ⟨v, e2, k d v S H (.refl H) rs rv t⟩
  · exact t.elim
theorem q_const {e : Expr} {v : V} {d : D} (h : PE X e (tC v)) (r : ∀ H, Dv X.K H d v) : QE X e (uC d) := PE.wk h fun σ H Q ⟨τ, S, Q2, _, rs, t, k⟩ => k d v S H (.refl H) rs (r H) t
theorem q_int {i j} : QE X (.Constant (.int i) j pos) (uC (.int i)) := q_const pe_int fun _ => .int i
theorem q_bl {b j} : QE X (.Constant (.bool b) j pos) (uC (.bl b)) := q_const pe_bl fun _ => .bl b
theorem q_non {j} : QE X (.Constant .none j pos) (uC .non) := q_const pe_non fun _ => .non
theorem q_str {x j} : QE X (.Constant (.str x) j pos) (uC (.str x)) := q_const pe_str fun _ => .str x
end
/-! ### two expressions -/
abbrev R22 := D → D → Sto → VK2 → Prop
def uOp (r : R22) (ta tb : TE2) : TE2 := fun τ S Q => ta τ S fun x S1 => tb τ S1 fun y S2 => r x y S2 Q
/-- an operator's rule of the layer below serves r -/
def Srv (K : PySem.W.Frag) (r0 : R2) (r : R22) : Prop := ∀ d e v u S H Q Q2, RelS K S H → Dv K H d v → Dv K H e u → r d e S Q2 → (∀ d v S' H', Good K H H' → RelS K S' H' → Dv K H' d v → Q2 d S' → Q v H') → r0 v u H Q
section
variable {X : Cx} {pos : Pos} {a b : Expr} {ta tb : TE2}
theorem q_two {R : TE} {r0 : R2} {r : R22} (s : Srv X.K r0 r) (hR : ∀ σ H Q, tOp r0 (dn X.K ta) (dn X.K tb) σ H Q → R σ H Q) {e : Expr} (h : PE X e R) : QE X e (uOp r ta tb) :=
  PE.wk h fun σ H Q ⟨τ, S, Q2, rl, rs, t, k⟩ => hR σ H Q ⟨τ, S, _, rl, rs, t, fun d v S1 H1 g1 rs1 dv1 t1 =>
    ⟨τ, S1, _, rl.keep g1, rs1, t1, fun e u S2 H2 g2 rs2 dv2 t2 => s d e v u S2 H2 Q Q2 rs2 (Dv.keep g2 _ _ dv1) dv2 t2 fun d v S' H' g => k d v S' H' (g1.trans (g2.trans g))⟩⟩
theorem q_op {op : Operator} {r0 : R2} {r : R22} (ho : OpR X (binaryOp op) r0) (s : Srv X.K r0 r) (ha : QE X a ta) (hb : QE X b tb) : QE X (.BinOp a op b pos) (uOp r ta tb) := q_two s (fun _ _ _ h => h) (pe_op ho ha hb)
theorem q_cmp {op : CmpOp} {r0 : R2} {r : R22} (ho : OpR X (compareOp op) r0) (s : Srv X.K r0 r) (hm : behindInMarks op b = false) (ha : QE X a ta) (hb : QE X b tb) : QE X (.Compare a [op] [b] pos) (uOp r ta tb) := q_two s (fun _ _ _ h => h) (pe_cmpR ho ha hb hm)
theorem q_ix {r0 : R2} {r : R22} (ho : IxR X r0) (s : Srv X.K r0 r) (hs : PlainIx b) (ha : QE X a ta) (hb : QE X b tb) : QE X (.Subscript a b pos) (uOp r ta tb) := q_two s (fun _ _ _ h => h) (pe_ix ho ha hb hs)
/-- a test -/
def uTest (t : TE2) : TT2 := fun τ S Q => t τ S fun x S1 => match x with
  | .bl k => Q k S1
  | _ => False
theorem test_dn {t : TE2} {T : TT} {e : Expr} (hT : ∀ σ H Q, (dn X.K t σ H fun x H' => ∃ k, x = V.bl k ∧ Q k H') → T σ H Q) (h : PT X e T) : QT X e (uTest t) := PT.wk h fun σ H Q ⟨τ, S, Q2, rl, rs, t, k⟩ =>
  hT σ H Q ⟨τ, S, _, rl, rs, t, fun d v S1 H1 g1 rs1 dv1 t1 => by
    cases d with
    | bl b =>
      cases dv1
      exact ⟨b, rfl, k b S1 H1 g1 rs1 t1⟩
    | _ => exact t1.elim⟩
theorem t_cmp {op : CmpOp} {r0 : R2} {r : R22} (ho : OpR X (compareOp op) r0) (s : Srv X.K r0 r) (hm : behindInMarks op b = false) (ha : QE X a ta) (hb : QE X b tb) : QT X (.Compare a [op] [b] pos) (uTest (uOp r ta tb)) := by
  refine test_dn ?_ (pt_cmpR ho ha hb hm)
  rintro σ H Q ⟨τ, S, Q2, rl, rs, t, k⟩
  exact ⟨τ, S, _, rl, rs, t, fun d v S1 H1 g1 rs1 dv1 t1 =>
    ⟨τ, S1, _, rl.keep g1, rs1, t1, fun e u S2 H2 g2 rs2 dv2 t2 => s d e v u S2 H2 _ Q2 rs2 (Dv.keep g2 _ _ dv1) dv2 t2 fun d v S' H' g => k d v S' H' (g1.trans (g2.trans g))⟩⟩
/-- a value that is True or False -/
theorem t_val {e : Expr} {t : TE2} (h : QE X e t) (he : ∀ whole, isTrue e X.env whole = (do let v ← whole; standAt e.pos; holding [v] (truthy v)) := by intro _; rfl) : QT X e (uTest t) :=
  test_dn (fun _ _ _ h => h) (pt_val h he)
end
end DL
/-! What the end leans on, asked of the heap's objects by lists of questions; the head by some runs of the kernel (asked in parts: a run's memory). -/
namespace DL
open PySem PySem.Spec PyProof.Rows L2
def isub (x y : Str) : Bool := x == y || (y == "LeadError" || y == "ValueError")
def exCB (K : PySem.W.Frag) (C : Addr) : Bool := decide (PySem.W.findIn K (.ref C) "__getattribute__" = some (some (.builtin "BaseException.__getattribute__"))) && (decide (PySem.W.findIn K (.ref C) "__getattr__" = some none) && (decide (PySem.W.subIn K (.ref C) (.type "BaseException") = some true) &&
  (PySem.W.hasDictIn K C && (decide (PySem.W.findIn K (.ref C) "__class__" = some (some (.builtin "object.__class__"))) && (decide (PySem.W.specialIn K (.builtin "object.__class__") "__get__" = some (some (.builtin "getset_descriptor.__get__"))) &&
    (decide (PySem.W.takesIn K (.builtin "object.__class__") = some true) && decide (PySem.W.mroIn K C (.type "object") = some true)))))))
def glB (K : PySem.W.Frag) (y : Str) : Bool := decide (PySem.W.nsIn K mainGlobals y = some (some (.ref (cA K y))))
def errB (K : PySem.W.Frag) (R Ys : List Str) : Bool := Ys.all (fun y => glB K y && decide (PySem.W.kitOne K (.type "NoneType") (.ref (cA K y)) = some false)) &&
  R.all (fun x => exCB K (cA K x) && (decide (PySem.W.kitOne K (.ref (cA K x)) (.type "ValueError") = some true) && (decide (PySem.W.exmOne K (.ref (cA K x)) (.ref (cA K "LeadError")) = some true) && Ys.all (fun y => decide (PySem.W.kitOne K (.ref (cA K x)) (.ref (cA K y)) = some (isub x y))))))
def fldB (K : PySem.W.Frag) (x n : Str) : Bool := xfB K (cA K x) && decide (PySem.W.findIn K (.ref (cA K x)) n = some none)
def oexB (K : PySem.W.Frag) (C : Addr) : Bool := (match K.lookup C with
  | some ⟨.type "type", _, .cls cd, sl⟩ => (match cd.mro, sl.toList with
    | .ref C' :: bm, [_, _, _, _, some (.builtin n), _] => C' == C && (n == "ValueError.__new__" && (!cd.hasDel && (cd.hasDict && PySem.HandSPX.refsVE bm)))
    | _, _ => false)
  | _ => false) && (decide (PySem.W.findIn K (.ref C) "__setattr__" = some (some (.builtin "object.__setattr__"))) && (decide (PySem.W.subIn K (.ref C) (.type "BaseException") = some true) && (decide (PySem.W.typeIn K (.ref C) = some (.type "type")) && PySem.W.keepIn K (.ref C))))
def leadB (K : PySem.W.Frag) : Bool := glB K "LeadError" && (decide (PySem.W.specialIn K (.ref (cA K "LeadError")) "__getattribute__" = some (some (.builtin "type.__getattribute__"))) && PySem.W.readsIn K (cA K "LeadError") (.type "type"))
def tabE (e : DictEntry) : Option (Str × Int × D) := match e.key, e.val with
  | .str x _, .int i _ => some (x, e.hash, .int i)
  | .str x _, .str y _ => some (x, e.hash, .str y)
  | _, _ => none
def tabV (K : PySem.W.Frag) (a : Addr) : Option (List (Option (Str × Int × D))) := match K.lookup a with
  | some ⟨.type c, none, .dict es _, sl⟩ => (match decide (c = "dict") && (sl.isEmpty && !(a == sysModules)) with
    | true => some (es.toList.map tabE)
    | false => none)
  | _ => none
def tabD (P : Params) (kvs : List (Str × D)) : List (Option (Str × Int × D)) := kvs.map fun p => some (p.1, PyData.keyHash P p.1, p.2)
/-- a def of the module -/
abbrev dfJ (x : Str) (st : Stmt) : He.FnD := ⟨(x, none), x, x, defArgs st, defBody st, defScope st⟩
/-- a def of a class -/
abbrev mtJ (x m q : Str) (st : Stmt) : He.FnD := ⟨(x, some m), m, q, defArgs st, defBody st, defScope st⟩
def bDef (x : Str) (K : PySem.W.Frag) : Bool := (He.Fa.glo x).ok K && (He.Fa.keep x).ok K
def bMet (x m : Str) (K : PySem.W.Frag) : Bool := (He.Fa.glo x).ok K && (He.Fa.meth x m).ok K
def bLead (K : PySem.W.Frag) : Bool := leadB K && match PySem.W.findCls K (.ref (cA K "LeadError")) (.type "type") "__init__" with
  | some (.val (.builtin n)) => decide (n = "ValueError.__init__")
  | _ => false
def bRi (x : Str) (K : PySem.W.Frag) : Bool := oexB K (cA K x) && glB K x
def bNo (x f : Str) (K : PySem.W.Frag) : Bool := decide (PySem.W.findIn K (.ref (cA K x)) f = some none)
abbrev TabT : Type := Option (List (Option (Str × Int × D)))
abbrev AlJ : Type := Bool × List He.FnV × List TabT
def obsJ (bs : List (PySem.W.Frag → Bool)) (fn : List He.FnD) (ts : List (Str × List (Str × D))) (K : PySem.W.Frag) : AlJ :=
  ((bs.all fun b => b K) && fn.all fun d => (He.Fa.code d.at_ d.qual).ok K, fn.map fun d => He.fnObs K d.at_, ts.map fun t => tabV K (cA K t.1))
def valJ (fn : List He.FnD) (ts : List (Str × List (Str × D))) (w : World) : AlJ := (true, fn.map He.FnD.val, ts.map fun t => some (tabD w.params t.2))
def SaysJ (bs : List (PySem.W.Frag → Bool)) (fn : List He.FnD) (ts : List (Str × List (Str × D))) (w : World) (K : PySem.W.Frag) : Prop := obsJ bs fn ts K = valJ fn ts w
def obJ (as : List Addr) (bs : List (PySem.W.Frag → Bool)) (fn : List He.FnD) (ts : List (Str × List (Str × D))) (s : PySem.W.SharedT) : AlJ := obsJ bs fn ts (He.frG (HandSHeadRun.getT s) as)
abbrev PartJ : Type := List (PySem.W.Frag → Bool) × List He.FnD × List (Str × List (Str × D))
def hookP (as : List Addr) (ps : List PartJ) : PySem.W.Hook where
  α := List AlJ
  obs := fun s => ps.map fun p => obsJ p.1 p.2.1 p.2.2 (He.frG s.heap.get? as)
  val := fun w => ps.map fun p => valJ p.2.1 p.2.2 w
  says := fun w h => ∃ K : PySem.W.Frag, K.In h ∧ ps.map (fun p => obsJ p.1 p.2.1 p.2.2 K) = ps.map fun p => valJ p.2.1 p.2.2 w
  of := fun _ _ e => ⟨_, He.frG_in, e⟩
  keeps := fun _ _ _ ⟨K, hK, c⟩ k => ⟨K, PySem.W.Frag.In.keeps hK k, c⟩
def obP (as : List Addr) (ps : List PartJ) (s : PySem.W.SharedT) : List AlJ := ps.map fun p => obJ as p.1 p.2.1 p.2.2 s
theorem obP_eq {as : List Addr} {ps : List PartJ} (s : PySem.W.SharedT) : obP as ps s = (hookP as ps).obs s.abs := by
  have e : HandSHeadRun.getT s = s.abs.heap.get? := funext (HandSHeadRun.getT_eq s)
  show (ps.map fun p => obsJ p.1 p.2.1 p.2.2 (He.frG (HandSHeadRun.getT s) as)) = ps.map fun p => obsJ p.1 p.2.1 p.2.2 (He.frG s.abs.heap.get? as)
  rw [e]
/-- the run, a part of the questions asked behind it -/
def RunP (r : PySem.W.OpenRow) (M : Nat) (as : List Addr) (p : PartJ) (w : World) : Prop :=
  ∀ os : OsState, (HandSHeadRun.endF (HandSHeadRun.stepQ (HandSHeadRun.denQ HandSHeadRun.tabQ) r.prog w) M r.prog w os).map (fun s => obJ as p.1 p.2.1 p.2.2 s) = some (valJ p.2.1 p.2.2 w)
def RunsP (r : PySem.W.OpenRow) (M : Nat) (as : List Addr) (w : World) : List PartJ → Prop
  | [] => True
  | p :: ps => RunP r M as p w ∧ RunsP r M as w ps
theorem RunsP.of {r : PySem.W.OpenRow} {M : Nat} {as : List Addr} {w : World} {os : OsState} {s : PySem.W.SharedT} (e : HandSHeadRun.endF (HandSHeadRun.stepQ (HandSHeadRun.denQ HandSHeadRun.tabQ) r.prog w) M r.prog w os = some s) :
    ∀ {ps : List PartJ}, RunsP r M as w ps → obP as ps s = ps.map fun p => valJ p.2.1 p.2.2 w
  | [], _ => rfl
  | p :: ps, h => by
    have h1 := h.1 os
    rw [e] at h1
    have h2 : obJ as p.1 p.2.1 p.2.2 s = valJ p.2.1 p.2.2 w := Option.some.inj h1
    show obJ as p.1 p.2.1 p.2.2 s :: obP as ps s = _
    rw [h2, RunsP.of e h.2]
    rfl
theorem runs_all {r : PySem.W.OpenRow} {q : Program} {M : Nat} {loose : List Str} {as : List Addr} {ps : List PartJ} {w : World} (h0 : HandSHeadRun.RunEq r q PySem.W.Hook.none (fun _ => ()) M loose w) (h : RunsP r M as w ps) :
    HandSHeadRun.RunEq r q (hookP as ps) (obP as ps) M loose w := fun os => by
  obtain ⟨s, hs, e⟩ := Option.map_eq_some_iff.mp (h0 os)
  have e1 := RunsP.of hs h
  rw [hs]
  show some (_, _, obP as ps s) = some (_, _, ps.map fun p => valJ p.2.1 p.2.2 w)
  rw [e1]
  have e2 := congrArg Prod.fst e
  have e3 := congrArg (fun z => z.2.1) e
  dsimp only at e2 e3
  rw [e2, e3]
theorem SaysP.at {ps : List PartJ} {w : World} {K : PySem.W.Frag} (c : ps.map (fun p => obsJ p.1 p.2.1 p.2.2 K) = ps.map fun p => valJ p.2.1 p.2.2 w) (j : Nat) {p : PartJ} (h : ps[j]? = some p := by rfl) : SaysJ p.1 p.2.1 p.2.2 w K := by
  have e := congrArg (fun l : List AlJ => l[j]?) c
  simp only [List.getElem?_map, h, Option.map_some] at e
  exact Option.some.inj e
end DL
namespace Claim
open PySem PySem.Spec PyProof.Rows L2 DL
def topS (i : Nat) : Stmt := PySem.Challenge.pw_leadtimes_k30_no_logs.main.body.getD i (.Pass ⟨0, 0, 0, 0⟩)
abbrev s_l_lowest : Stmt := topS 27
abbrev s_l_take : Stmt := topS 26
abbrev s_l_far : Stmt := topS 28
abbrev s_l_small : Stmt := topS 29
abbrev s_l_log : Stmt := topS 30
abbrev s_l_pen : Stmt := topS 25
abbrev s_is_less : Stmt := topS 12
abbrev s_fits : Stmt := topS 21
abbrev s_common : Stmt := topS 10
abbrev s_is_whole : Stmt := topS 9
abbrev s_is_number : Stmt := topS 11
abbrev s_is_small : Stmt := topS 19
abbrev s_is_deed : Stmt := topS 20
abbrev s_first_wrong : Stmt := topS 22
abbrev s_log_of : Stmt := topS 23
abbrev s_l_refused : Stmt := topS 35
abbrev s_l_no_number : Stmt := topS 31
abbrev s_l_bad : Stmt := topS 32
abbrev s_l_left : Stmt := topS 33
abbrev s_l_spoilt : Stmt := topS 34
abbrev s_law : Stmt := topS 36
abbrev si_NoLog : Stmt := inClass (topS 5) 0
end Claim
namespace HeadJ
open PySem PySem.W PySem.Calls PyProof.Rows
abbrev R : PySem.W.OpenRow := PySem.W.OpenLaw.row PySem.Challenge.rw_leadtimes_k30_no_logs
def names0 : List (PySem.Str) := ["LeadError", "NoNumber", "NoKey", "NoTime", "NoLog", "NoText", "NoRow", "is_whole", "common", "is_number", "is_less", "MOST_DEEDS", "MOST_RUNNING", "MOST_TOP", "MOST_BOTTOM", "SIZES", "is_small", "is_deed", "fits", "first_wrong", "log_of", "_law_pen", "_law_take", "_law_lowest", "_law_far", "_law_small", "_law_log", "_law_no_number", "_law_bad", "_law_left"]
def names1 : List (PySem.Str) := ["_law_spoilt", "_law_refused"]
def names : List (PySem.Str) := names0 ++ (names1)
def as0 : List (PySem.Addr) := [2, 3, 15, 22, 23, 24, 25, 28, 35, 36, 37, 40, 47, 48, 49, 52, 59, 60, 61, 64, 71, 73, 74, 76, 77, 78, 79, 80, 83, 90, 92, 93, 95, 96, 97, 98, 99, 102, 109, 110, 111, 114, 116, 117, 119, 120, 121, 123, 124, 126, 127, 128, 130, 131, 133, 134, 135, 137, 138, 140]
def as1 : List (PySem.Addr) := [141, 142, 143, 145, 146, 148, 149, 150, 152, 153, 155, 156, 157, 159, 160, 162, 163, 164, 166, 167, 169, 170, 171, 173, 174, 176, 177, 178, 180, 181, 183, 184, 185, 187, 188, 190, 191, 192, 194, 195, 197, 198, 199, 201, 202, 204, 205, 206, 208, 209, 211, 212, 213, 215, 216, 218, 219, 220, 222, 223]
def as2 : List (PySem.Addr) := [225, 226, 227, 229, 230, 232, 233, 234, 237, 238, 239, 242, 243, 244, 246, 247, 249, 250, 251, 253, 254, 256, 257]
def as : List (PySem.Addr) := as0 ++ (as1 ++ (as2))
def p0 : DL.PartJ := ([fun K => (He.Fa.free "ValueError").ok K, fun K => (He.Fa.free "abs").ok K, fun K => (He.Fa.free "bool").ok K, fun K => (He.Fa.free "enumerate").ok K, fun K => (He.Fa.free "int").ok K, fun K => (He.Fa.free "isinstance").ok K, fun K => (He.Fa.free "len").ok K, fun K => (He.Fa.free "list").ok K, fun K => (He.Fa.free "range").ok K, fun K => (He.Fa.free "repr").ok K, fun K => (He.Fa.free "str").ok K, fun K => (He.Fa.free "tuple").ok K, fun K => (He.Fa.int "MOST_BOTTOM" 12).ok K, fun K => (He.Fa.int "MOST_DEEDS" 40).ok K, fun K => (He.Fa.int "MOST_RUNNING" 8).ok K, fun K => (He.Fa.int "MOST_TOP" 1000000000).ok K, fun K => DL.errB K ["NoLog"] ["LeadError", "NoKey", "NoLog", "NoNumber", "NoRow", "NoText", "NoTime"], DL.bLead, DL.bRi "NoLog", DL.bMet "NoLog" "__init__", DL.bNo "NoLog" "at", fun K => DL.fldB K "NoLog" "at", fun K => DL.glB K "SIZES", DL.bDef "_law_lowest", DL.bDef "_law_take", DL.bDef "_law_far", DL.bDef "_law_small", DL.bDef "_law_log", DL.bDef "_law_pen", DL.bDef "is_less", DL.bDef "fits", DL.bDef "common", DL.bDef "is_whole", DL.bDef "is_number", DL.bDef "is_small", DL.bDef "is_deed", DL.bDef "first_wrong", DL.bDef "log_of", DL.bDef "_law_refused", DL.bDef "_law_no_number", DL.bDef "_law_bad", DL.bDef "_law_left", DL.bDef "_law_spoilt", DL.bDef "law"], [DL.mtJ "NoLog" "__init__" "NoLog.__init__" Claim.si_NoLog, DL.dfJ "_law_lowest" Claim.s_l_lowest, DL.dfJ "_law_take" Claim.s_l_take, DL.dfJ "_law_far" Claim.s_l_far, DL.dfJ "_law_small" Claim.s_l_small, DL.dfJ "_law_log" Claim.s_l_log, DL.dfJ "_law_pen" Claim.s_l_pen, DL.dfJ "is_less" Claim.s_is_less, DL.dfJ "fits" Claim.s_fits, DL.dfJ "common" Claim.s_common, DL.dfJ "is_whole" Claim.s_is_whole, DL.dfJ "is_number" Claim.s_is_number, DL.dfJ "is_small" Claim.s_is_small, DL.dfJ "is_deed" Claim.s_is_deed, DL.dfJ "first_wrong" Claim.s_first_wrong, DL.dfJ "log_of" Claim.s_log_of, DL.dfJ "_law_refused" Claim.s_l_refused, DL.dfJ "_law_no_number" Claim.s_l_no_number, DL.dfJ "_law_bad" Claim.s_l_bad, DL.dfJ "_law_left" Claim.s_l_left, DL.dfJ "_law_spoilt" Claim.s_l_spoilt, DL.dfJ "law" Claim.s_law], [("SIZES", [("join", DL.D.int 4), ("leave", DL.D.int 3), ("turn", DL.D.int 4)])])
def ps : List DL.PartJ := [p0]
set_option maxHeartbeats 0 in
theorem runF (w : World) : HandSHeadRun.RunEq R (PySem.W.view R.prog [36]) PySem.W.Hook.none (fun _ => ()) 2521 names (w.withFollow "special-get-raises" false) := by
  intro os; kernel_rfl
set_option maxHeartbeats 0 in
theorem runT (w : World) : HandSHeadRun.RunEq R (PySem.W.view R.prog [36]) PySem.W.Hook.none (fun _ => ()) 2521 names (w.withFollow "special-get-raises" true) := by
  intro os; kernel_rfl
theorem run (w : World) : HandSHeadRun.RunEq R (PySem.W.view R.prog [36]) PySem.W.Hook.none (fun _ => ()) 2521 names w := PySem.W.byRow2 "special-get-raises" (P := fun w => HandSHeadRun.RunEq R (PySem.W.view R.prog [36]) PySem.W.Hook.none (fun _ => ()) 2521 names w) runF runT w
set_option maxHeartbeats 0 in
theorem part0F (w : World) : DL.RunP R 2521 as p0 (w.withFollow "special-get-raises" false) := by
  intro os; kernel_rfl
set_option maxHeartbeats 0 in
theorem part0T (w : World) : DL.RunP R 2521 as p0 (w.withFollow "special-get-raises" true) := by
  intro os; kernel_rfl
theorem part0 (w : World) : DL.RunP R 2521 as p0 w := PySem.W.byRow2 "special-get-raises" (P := fun w => DL.RunP R 2521 as p0 w) part0F part0T w
end HeadJ
namespace DL
open PySem PySem.Spec PyProof.Rows L2
/-! ### operators by values -/
def rAdd : D → D → Sto → VK2 → Prop
  | .int i, .int j, S, Q => Q (.int (i + j)) S
  | .str x, .str y, S, Q => x.length + y.length ≤ sizeLine ∧ Q (.str (x ++ y)) S
  | .ref a, .ref b, S, Q => getO (S a) fun xs => getO (S b) fun ys => xs.length + ys.length ≤ sizeLine ∧ ∀ p, S p = none → Q (.ref p) (ups S p (.lst (xs ++ ys)))
  | .tup xs, .tup ys, S, Q => xs.length + ys.length ≤ sizeLine ∧ Q (.tup (xs ++ ys)) S
  | _, _, _, _ => False
def rSub : D → D → Sto → VK2 → Prop
  | .int i, .int j, S, Q => Q (.int (i - j)) S
  | _, _, _, _ => False
/-- a number of less than so many bits -/
def Sz (n : Nat) (i : Int) : Prop := i.natAbs < 2 ^ n
def MulOk (i j : Int) : Prop := (∃ m n, Sz m i ∧ Sz n j ∧ m + n < 900000) ∨ Sz 64 i ∨ Sz 64 j
def DivOk (j : Int) : Prop := j ≠ 0 ∧ Sz 9000 j
def rMul : D → D → Sto → VK2 → Prop
  | .int i, .int j, S, Q => MulOk i j ∧ Q (.int (i * j)) S
  | .ref a, .int k, S, Q => getO (S a) fun xs => (0 ≤ k ∧ k ≤ 1000 ∧ xs.length ≤ 1000) ∧ ∀ p, S p = none → Q (.ref p) (ups S p (.lst (List.replicate k.toNat xs).flatten))
  | _, _, _, _ => False
def rMod : D → D → Sto → VK2 → Prop
  | .int i, .int j, S, Q => j ≠ 0 ∧ Q (.int (i.fmod j)) S
  | _, _, _, _ => False
def rFdiv : D → D → Sto → VK2 → Prop
  | .int i, .int j, S, Q => DivOk j ∧ Q (.int (i.fdiv j)) S
  | _, _, _, _ => False
def rPow : D → D → Sto → VK2 → Prop
  | .int i, .int j, S, Q => (0 ≤ j ∧ j ≤ 1000000 ∧ i.natAbs < 2 ^ 64) ∧ Q (.int (i ^ j.toNat)) S
  | _, _, _, _ => False
def rCmpI (p : Int → Int → Bool) : D → D → Sto → VK2 → Prop
  | .int i, .int j, S, Q => Q (.bl (p i j)) S
  | _, _, _, _ => False
section
variable {X : Cx} {K : PySem.W.Frag}
theorem srv_add : Srv K (fun x y H Q => rI0 (fun i j => .int (i + j)) x y H Q ∨ (∃ i j, x = .str i ∧ y = .str j ∧ i.length + j.length ≤ sizeLine ∧ Q (.str (i ++ j)) H) ∨ rCat x y H Q ∨ rCatA K x y H Q) rAdd := by
  intro d e v u S H Q Q2 rs dv du t k
  unfold rAdd at t
  split at t
  · cases dv; cases du
    exact .inl ⟨_, _, rfl, rfl, k _ _ _ _ (.refl H) rs (.int _) t⟩
  · cases dv; cases du
    exact .inr (.inl ⟨_, _, rfl, rfl, t.1, k _ _ _ _ (.refl H) rs (.str _) t.2⟩)
  · cases dv; cases du
    obtain ⟨xs, h1, t⟩ := getO_get t
    obtain ⟨ys, h2, hl, t⟩ := getO_get t
    obtain ⟨vs, e1, r1⟩ := rs _ _ h1
    obtain ⟨us, e2, r2⟩ := rs _ _ h2
    refine .inr (.inr (.inl ⟨_, _, vs, us, rfl, rfl, e1, e2, by rw [← r1.length, ← r2.length]; exact hl, fun p np => ?_⟩))
    exact k _ _ _ _ (good_new np) (rs.new (o := .lst (xs ++ ys)) np ⟨_, upd_same, (r1.append r2).new np⟩) (.ref p) (t p (rs.fresh np))
  · cases dv with
    | tup h1 d1 =>
      cases du with
      | tup h2 d2 =>
        refine .inr (.inr (.inr ⟨_, _, _, _, rfl, rfl, h1, h2, by rw [← d1.length, ← d2.length]; exact t.1, fun e => ?_, fun e e2 => ?_, fun e e2 p np => ?_⟩))
        · subst e; cases d1; exact k _ _ _ _ (.refl H) rs (.tup h2 d2) t.2
        · subst e2; cases d2; rw [List.append_nil] at t; exact k _ _ _ _ (.refl H) rs (.tup h1 d1) t.2
        · exact k _ _ _ _ (good_new np) (rs.newT np) (.tup (SqT.of upd_same) ((d1.append d2).new np)) t.2
  · exact t.elim
theorem srv_sub : Srv K (rI0 fun i j => .int (i - j)) rSub := by
  intro d e v u S H Q Q2 rs dv du t k
  unfold rSub at t
  split at t
  · cases dv; cases du
    exact ⟨_, _, rfl, rfl, k _ _ _ _ (.refl H) rs (.int _) t⟩
  · exact t.elim
theorem Sz.le {m n : Nat} {i : Int} (h : Sz m i) (l : m ≤ n) : Sz n i := Nat.lt_of_lt_of_le h (Nat.pow_le_pow_right (by decide) l)
theorem Sz.up {n : Nat} {i : Int} (h : Sz n i) : i.natAbs < 2 ^ (n + 1) := (h.le (Nat.le_succ n))
theorem MulOk.ok {i j : Int} (h : MulOk i j) : IntMulOk i j := by
  rcases h with ⟨m, n, h1, h2, h3⟩ | h | h
  · exact (wide_mul h1.up h2.up (Nat.succ_pos m) (Nat.succ_pos n) (by omega)).ok
  · have h' : i.natAbs < 2 ^ 64 := h
    exact CMul.ok (.inl ⟨by omega, by omega⟩)
  · have h' : j.natAbs < 2 ^ 64 := h
    exact CMul.ok (.inr ⟨by omega, by omega⟩)
theorem op_mulZ : OpR X (binaryOp .Mult) (rI MulOk fun i j => .int (i * j)) := opI fun _ _ _ _ _ _ _ hc q => mul_int q hc.ok
theorem op_fdivZ : OpR X (binaryOp .FloorDiv) (rI (fun _ j => DivOk j) fun i j => .int (i.fdiv j)) := opI fun i j _ _ _ _ _ hc q => by
  refine floordiv_int hc.1 q (.inl (PyProof.noPylong_of_log2 ?_))
  have h2 : j.natAbs < 2 ^ 9000 := hc.2
  exact PySem.Flt.log2_lt_of (by decide) h2
theorem Dvs.rep {H : Hp} {ds : List D} {vs : List V} (h : Dvs K H ds vs) : ∀ n : Nat, Dvs K H (List.replicate n ds).flatten (List.replicate n vs).flatten
  | 0 => .nil
  | n + 1 => by rw [List.replicate_succ, List.replicate_succ, List.flatten_cons, List.flatten_cons]; exact h.append (Dvs.rep h n)
theorem srv_mul : Srv K (fun x y H Q => rI MulOk (fun i j => .int (i * j)) x y H Q ∨ rRep x y H Q) rMul := by
  intro d e v u S H Q Q2 rs dv du t k
  unfold rMul at t
  split at t
  · cases dv; cases du
    exact .inl ⟨_, _, rfl, rfl, t.1, k _ _ _ _ (.refl H) rs (.int _) t.2⟩
  · rename_i aa kk
    cases dv; cases du
    obtain ⟨xs, h1, ⟨k0, k1, hl⟩, t⟩ := getO_get t
    obtain ⟨vs, e1, r1⟩ := rs _ _ h1
    have : vs.length * kk.toNat ≤ 1000 * 1000 := Nat.mul_le_mul (by rw [← r1.length]; exact hl) (by omega)
    refine .inr ⟨_, _, vs, rfl, rfl, e1, by omega, by omega, Nat.le_trans this (by rw [sizeLine_eq]; exact (by decide : 1000 * 1000 ≤ 16777216)), fun p np => ?_⟩
    exact k _ _ _ _ (good_new np) (rs.new (o := .lst (List.replicate kk.toNat xs).flatten) np ⟨_, upd_same, (r1.rep _).new np⟩) (.ref p) (t p (rs.fresh np))
  · exact t.elim
theorem srv_mod : Srv K (rI (fun _ j => j ≠ 0) fun i j => .int (i.fmod j)) rMod := by
  intro d e v u S H Q Q2 rs dv du t k
  unfold rMod at t
  split at t
  · cases dv; cases du
    exact ⟨_, _, rfl, rfl, t.1, k _ _ _ _ (.refl H) rs (.int _) t.2⟩
  · exact t.elim
theorem srv_fdiv : Srv K (rI (fun _ j => DivOk j) fun i j => .int (i.fdiv j)) rFdiv := by
  intro d e v u S H Q Q2 rs dv du t k
  unfold rFdiv at t
  split at t
  · cases dv; cases du
    exact ⟨_, _, rfl, rfl, t.1, k _ _ _ _ (.refl H) rs (.int _) t.2⟩
  · exact t.elim
theorem srv_pow : Srv K (rI CPow fun i j => .int (i ^ j.toNat)) rPow := by
  intro d e v u S H Q Q2 rs dv du t k
  unfold rPow at t
  split at t
  · cases dv; cases du
    exact ⟨_, _, rfl, rfl, t.1, k _ _ _ _ (.refl H) rs (.int _) t.2⟩
  · exact t.elim
theorem srv_cmpI {p : Int → Int → Bool} : Srv K (rI0 fun i j => .bl (p i j)) (rCmpI p) := by
  intro d e v u S H Q Q2 rs dv du t k
  unfold rCmpI at t
  split at t
  · cases dv; cases du
    exact ⟨_, _, rfl, rfl, k _ _ _ _ (.refl H) rs (.bl _) t⟩
  · exact t.elim
variable {pos : Pos} {a b : Expr} {ta tb : TE2}
theorem q_add (ha : QE X a ta) (hb : QE X b tb) : QE X (.BinOp a .Add b pos) (uOp rAdd ta tb) := q_op (op_add.or (op_add_str.or (op_cat.or op_catA))) srv_add ha hb
theorem q_sub (ha : QE X a ta) (hb : QE X b tb) : QE X (.BinOp a .Sub b pos) (uOp rSub ta tb) := q_op op_sub srv_sub ha hb
theorem q_mul (ha : QE X a ta) (hb : QE X b tb) : QE X (.BinOp a .Mult b pos) (uOp rMul ta tb) := q_op (op_mulZ.or op_rep) srv_mul ha hb
theorem q_mod (ha : QE X a ta) (hb : QE X b tb) : QE X (.BinOp a .Mod b pos) (uOp rMod ta tb) := q_op op_modN srv_mod ha hb
theorem q_fdiv (ha : QE X a ta) (hb : QE X b tb) : QE X (.BinOp a .FloorDiv b pos) (uOp rFdiv ta tb) := q_op op_fdivZ srv_fdiv ha hb
theorem q_pow (ha : QE X a ta) (hb : QE X b tb) : QE X (.BinOp a .Pow b pos) (uOp rPow ta tb) := q_op op_pow srv_pow ha hb
def rLt : R22 := rCmpI fun i j => decide (i < j)
def rLe : R22 := rCmpI fun i j => decide (i ≤ j)
def rGt : R22 := rCmpI fun i j => decide (j < i)
def rGe : R22 := rCmpI fun i j => decide (j ≤ i)
theorem q_lt (ha : QE X a ta) (hb : QE X b tb) : QE X (.Compare a [.Lt] [b] pos) (uOp rLt ta tb) := q_cmp op_lt srv_cmpI (nomark _) ha hb
theorem q_le (ha : QE X a ta) (hb : QE X b tb) : QE X (.Compare a [.LtE] [b] pos) (uOp rLe ta tb) := q_cmp op_le srv_cmpI (nomark _) ha hb
theorem q_gt (ha : QE X a ta) (hb : QE X b tb) : QE X (.Compare a [.Gt] [b] pos) (uOp rGt ta tb) := q_cmp op_gt srv_cmpI (nomark _) ha hb
theorem t_lt (ha : QE X a ta) (hb : QE X b tb) : QT X (.Compare a [.Lt] [b] pos) (uTest (uOp rLt ta tb)) := t_cmp op_lt srv_cmpI (nomark _) ha hb
theorem t_gt (ha : QE X a ta) (hb : QE X b tb) : QT X (.Compare a [.Gt] [b] pos) (uTest (uOp rGt ta tb)) := t_cmp op_gt srv_cmpI (nomark _) ha hb
theorem t_ge (ha : QE X a ta) (hb : QE X b tb) : QT X (.Compare a [.GtE] [b] pos) (uTest (uOp rGe ta tb)) := t_cmp op_ge srv_cmpI (nomark _) ha hb
/-! is None, is not None; is of bools -/
def isNon : D → Bool
  | .non => true
  | _ => false
def rIs : D → D → Sto → VK2 → Prop
  | d, .non, S, Q => Q (.bl (isNon d)) S
  | .bl a, .bl b, S, Q => Q (.bl (decide (a = b))) S
  | _, _, _, _ => False
def rIsNot : D → D → Sto → VK2 → Prop
  | d, .non, S, Q => Q (.bl (!isNon d)) S
  | .bl a, .bl b, S, Q => Q (.bl (!decide (a = b))) S
  | _, _, _, _ => False
theorem isNon_dec {H : Hp} {d : D} {v : V} (dv : Dv K H d v) : decide (v = .non) = isNon d := by cases dv <;> simp [isNon]
theorem srv_isNot : Srv K (fun x y H Q => (y = .non ∧ Q (.bl (!decide (x = .non))) H) ∨ (∃ a b : Bool, x = .bl a ∧ y = .bl b ∧ Q (.bl (!decide (a = b))) H)) rIsNot := by
  intro d e v u S H Q Q2 rs dv du t k
  unfold rIsNot at t
  split at t
  · cases du
    refine .inl ⟨rfl, ?_⟩
    rw [isNon_dec dv]
    exact k _ _ _ _ (.refl H) rs (.bl _) t
  · cases du; cases dv
    exact .inr ⟨_, _, rfl, rfl, k _ _ _ _ (.refl H) rs (.bl _) t⟩
  · exact t.elim
theorem op_isNotBl' : OpR X (compareOp .IsNot) (fun x y H Q => ∃ a b : Bool, x = .bl a ∧ y = .bl b ∧ Q (.bl (!decide (a = b))) H) := by
  intro pins s σ H x y v u Q I rx ry h
  obtain ⟨a, b, rfl, rfl, q⟩ := h
  cases (show v = Value.bool a from rx)
  cases (show u = Value.bool b from ry)
  by_cases e : a = b
  · subst e
    exact wpAny_isNot_self rfl ⟨.bl false, H, I, rfl, by simpa using q⟩
  · exact wpAny_isNot_other rfl (fun z => e (Value.bool.inj z)) ⟨.bl true, H, I, rfl, by simpa [e] using q⟩
theorem t_isnot (ha : QE X a ta) (hb : QE X b tb) : QT X (.Compare a [.IsNot] [b] pos) (uTest (uOp rIsNot ta tb)) := t_cmp (op_notN.or op_isNotBl') srv_isNot (nomark _) ha hb
/-! unary minus -/
def uNeg (ta : TE2) : TE2 := fun τ S Q => ta τ S fun x S1 => match x with
  | .int i => Q (.int (-i)) S1
  | _ => False
theorem q_neg (ha : QE X a ta) : QE X (.UnaryOp .USub a pos) (uNeg ta) := PE.wk (pe_un un_neg ha) fun σ H Q ⟨τ, S, Q2, rl, rs, t, k⟩ =>
  ⟨τ, S, _, rl, rs, t, fun d v S1 H1 g1 rs1 dv1 t1 => by
    cases d with
    | int i =>
      cases dv1
      exact ⟨i, rfl, k _ _ _ _ g1 rs1 (.int _) t1⟩
    | _ => exact t1.elim⟩
end
/-! ### data as the comparison reads it -/
mutual
inductive Py (S : Sto) : D → PyData → Prop
  | non : Py S .non .none
  | bl (b : Bool) : Py S (.bl b) (.bool b)
  | int (i : Int) : Py S (.int i) (.int i)
  | str (x : Str) : Py S (.str x) (.str x)
  | tup {ds : List D} {ps : List PyData} : Pys S ds ps → Py S (.tup ds) (.tuple ps)
  | fl {ds : List D} {ps : List PyData} : Pys S ds ps → Py S (.fl ds) (.list ps)
  | lst {a : Addr} {ds : List D} {ps : List PyData} : S a = some (.lst ds) → Pys S ds ps → Py S (.ref a) (.list ps)
inductive Pys (S : Sto) : List D → List PyData → Prop
  | nil : Pys S [] []
  | cons {d : D} {p : PyData} {ds : List D} {ps : List PyData} : Py S d p → Pys S ds ps → Pys S (d :: ds) (p :: ps)
end
mutual
theorem Py.dp {K : PySem.W.Frag} {S : Sto} {H : Hp} (rs : RelS K S H) : ∀ (p : PyData) (d : D) (v : V), Py S d p → Dv K H d v → Dp K H v p
  | .none, _, _, h, dv => by cases h; cases dv; exact .non
  | .bool b, _, _, h, dv => by cases h; cases dv; exact .bl b
  | .int b, _, _, h, dv => by cases h; cases dv; exact .int b
  | .str b, _, _, h, dv => by cases h; cases dv; exact .str b
  | .tuple ps, _, _, h, dv => by
    cases h with
    | tup hs =>
      cases dv with
      | tup h1 h2 => exact .tup h1 (Pys.dp rs ps _ _ hs h2)
  | .list ps, _, _, h, dv => by
    cases h with
    | fl hs =>
      cases dv with
      | fl h1 h2 => exact .lst h1.sq (Pys.dp rs ps _ _ hs h2)
    | lst ha hs =>
      cases dv
      obtain ⟨vs, e, r⟩ := rs _ _ ha
      exact .lst (SqL.of e) (Pys.dp rs ps _ _ hs r)
  | .dict _, _, _, h, _ => by cases h
theorem Pys.dp {K : PySem.W.Frag} {S : Sto} {H : Hp} (rs : RelS K S H) : ∀ (ps : List PyData) (ds : List D) (vs : List V), Pys S ds ps → Dvs K H ds vs → DpAll K H vs ps
  | [], _, _, h, dv => by cases h; cases dv; exact .nil
  | p :: ps, _, _, h, dv => by
    cases h with
    | cons h1 h2 =>
      cases dv with
      | cons d1 d2 => exact .cons (Py.dp rs p _ _ h1 d1) (Pys.dp rs ps _ _ h2 d2)
end
/-- the answer of == -/
def EqD (S : Sto) (x y : D) (b : Bool) : Prop := ∃ p q, Py S x p ∧ Py S y q ∧ SeqAt.shaped p = true ∧ SeqAt.shaped q = true ∧ b = PyData.eqv p q
def rEq : D → D → Sto → VK2 → Prop
  | .int i, .int j, S, Q => Q (.bl (decide (i = j))) S
  | .bl i, .bl j, S, Q => Q (.bl (decide (i = j))) S
  | .str i, .str j, S, Q => Q (.bl (decide (i = j))) S
  | d, e, S, Q => ∃ b, EqD S d e b ∧ Q (.bl b) S
def rNe : D → D → Sto → VK2 → Prop
  | .int i, .int j, S, Q => Q (.bl (!decide (i = j))) S
  | .bl i, .bl j, S, Q => Q (.bl (!decide (i = j))) S
  | .str i, .str j, S, Q => Q (.bl (!decide (i = j))) S
  | d, e, S, Q => ∃ b, EqD S d e b ∧ Q (.bl (!b)) S
/-- the answer of «in» -/
def InD (S : Sto) (x y : D) (b : Bool) : Prop := ∃ p qs, Py S x p ∧ Py S y (.list qs) ∧ SeqAt.shaped p = true ∧ SeqAt.shaped (.list qs) = true ∧ b = qs.any fun z => PyData.eqv z p
def rIn : R22 := fun d e S Q => ∃ b, InD S d e b ∧ Q (.bl b) S
section
variable {X : Cx} {K : PySem.W.Frag}
theorem dec_V {α : Type} [DecidableEq α] {f : α → V} (hf : ∀ a b, f a = f b → a = b) (i j : α) : decide (f i = f j) = decide (i = j) := decide_eq_decide.mpr ⟨hf i j, fun e => by rw [e]⟩
theorem srv_eq : Srv K (fun x y H Q => L2.rEq x y H Q ∨ rEqD K x y H Q) rEq := by
  intro d e v u S H Q Q2 rs dv du t k
  unfold rEq at t
  split at t
  · cases dv; cases du
    exact .inl ⟨rfl, by rw [dec_V (f := V.int) fun _ _ e => V.int.inj e]; exact k _ _ _ _ (.refl H) rs (.bl _) t⟩
  · cases dv; cases du
    exact .inl ⟨rfl, by rw [dec_V (f := V.bl) fun _ _ e => V.bl.inj e]; exact k _ _ _ _ (.refl H) rs (.bl _) t⟩
  · cases dv; cases du
    exact .inl ⟨rfl, by rw [dec_V (f := V.str) fun _ _ e => V.str.inj e]; exact k _ _ _ _ (.refl H) rs (.bl _) t⟩
  · obtain ⟨b, ⟨p, q, h1, h2, s1, s2, rfl⟩, t⟩ := t
    exact .inr ⟨p, q, Py.dp rs _ _ _ h1 dv, Py.dp rs _ _ _ h2 du, s1, s2, k _ _ _ _ (.refl H) rs (.bl _) t⟩
theorem srv_ne : Srv K (fun x y H Q => L2.rNe x y H Q ∨ rNeD K x y H Q) rNe := by
  intro d e v u S H Q Q2 rs dv du t k
  unfold rNe at t
  split at t
  · cases dv; cases du
    exact .inl ⟨rfl, by rw [dec_V (f := V.int) fun _ _ e => V.int.inj e]; exact k _ _ _ _ (.refl H) rs (.bl _) t⟩
  · cases dv; cases du
    exact .inl ⟨rfl, by rw [dec_V (f := V.bl) fun _ _ e => V.bl.inj e]; exact k _ _ _ _ (.refl H) rs (.bl _) t⟩
  · cases dv; cases du
    exact .inl ⟨rfl, by rw [dec_V (f := V.str) fun _ _ e => V.str.inj e]; exact k _ _ _ _ (.refl H) rs (.bl _) t⟩
  · obtain ⟨b, ⟨p, q, h1, h2, s1, s2, rfl⟩, t⟩ := t
    exact .inr ⟨p, q, Py.dp rs _ _ _ h1 dv, Py.dp rs _ _ _ h2 du, s1, s2, k _ _ _ _ (.refl H) rs (.bl _) t⟩
def rInD' (K : PySem.W.Frag) : R2 := fun x y H Q => ∃ d ds, Dp K H x d ∧ Dp K H y (.list ds) ∧ SeqAt.shaped d = true ∧ SeqAt.shaped (.list ds) = true ∧ Q (.bl (ds.any fun z => PyData.eqv z d)) H
theorem room_in_sh {A : Around} {d : PyData} {n : Nat} (sd : SeqAt.shaped d = true) (hu : A.units + 65 < cLine) : A.units + 1 + min n d.depth < cLine := by
  have h1 := SeqAt.depth_of_shaped sd
  have h2 : min n d.depth ≤ d.depth := Nat.min_le_right _ _
  omega
theorem op_inD' (hu : X.A.units + 65 < cLine) : OpR X (compareOp .In) (rInD' X.K) := by
  intro pins s σ H x y v u Q I rx ry h
  obtain ⟨d, ds, hd, he, sd, se, q⟩ := h
  obtain ⟨as, r1⟩ := Dp.reads I d x v hd rx
  obtain ⟨bs, r2⟩ := Dp.reads I (.list ds) y u he ry
  exact SeqAt.in_list_reads r2 r1 (SeqAt.canLay_of_shaped se) (SeqAt.canLay_of_shaped sd) (room_in_sh sd hu) ⟨.bl _, H, I, rfl, q⟩
theorem srv_in : Srv K (rInD' K) rIn := by
  intro d e v u S H Q Q2 rs dv du t k
  obtain ⟨b, ⟨p, q, h1, h2, s1, s2, rfl⟩, t⟩ := t
  exact ⟨p, q, Py.dp rs _ _ _ h1 dv, Py.dp rs _ _ _ h2 du, s1, s2, k _ _ _ _ (.refl H) rs (.bl _) t⟩
variable {pos : Pos} {a b : Expr} {ta tb : TE2} {k : Nat}
theorem Room.u65 {A : Around} (hr : Room k A) : A.units + 65 < cLine := by have := hr.un; omega
theorem q_eq (hr : Room k X.A) (ha : QE X a ta) (hb : QE X b tb) : QE X (.Compare a [.Eq] [b] pos) (uOp rEq ta tb) := q_cmp (op_eq.or (op_eqD hr.units)) srv_eq (nomark _) ha hb
theorem t_eq (hr : Room k X.A) (ha : QE X a ta) (hb : QE X b tb) : QT X (.Compare a [.Eq] [b] pos) (uTest (uOp rEq ta tb)) := t_cmp (op_eq.or (op_eqD hr.units)) srv_eq (nomark _) ha hb
theorem t_ne (hr : Room k X.A) (ha : QE X a ta) (hb : QE X b tb) : QT X (.Compare a [.NotEq] [b] pos) (uTest (uOp rNe ta tb)) := t_cmp (op_ne.or (op_neD hr.units)) srv_ne (nomark _) ha hb
theorem q_in (hr : Room k X.A) (ha : QE X a ta) (hb : QE X b tb) (hm : behindInMarks .In b = false := by rfl) : QE X (.Compare a [.In] [b] pos) (uOp rIn ta tb) := q_cmp (op_inD' (Room.u65 hr)) srv_in hm ha hb
end
/-! ### chains of ints, and, or, not -/
def uChain (r r' : R22) (ta tb tc : TE2) : TE2 := fun τ S Q => ta τ S fun x S1 => tb τ S1 fun y S2 => r x y S2 fun z S3 => match z with
  | .bl k => Cnd k (tc τ S3 fun w S4 => r' y w S4 Q) (Q (.bl false) S3)
  | _ => False
def uAnd (t u : TT2) : TT2 := fun τ S Q => t τ S fun c S1 => Cnd c (u τ S1 Q) (Q false S1)
def uOr (t u : TT2) : TT2 := fun τ S Q => t τ S fun c S1 => Cnd c (Q true S1) (u τ S1 Q)
def uNot (t : TT2) : TT2 := fun τ S Q => t τ S fun c S1 => Q (!c) S1
def uAndV (ta tb : TE2) : TE2 := fun τ S Q => ta τ S fun x S1 => match x with
  | .bl c => Cnd c (tb τ S1 Q) (Q (.bl false) S1)
  | _ => False
def uOrV (ta tb : TE2) : TE2 := fun τ S Q => ta τ S fun x S1 => match x with
  | .bl c => Cnd c (Q (.bl true) S1) (tb τ S1 Q)
  | _ => False
def uNotV (ta : TE2) : TE2 := fun τ S Q => ta τ S fun x S1 => match x with
  | .bl c => Q (.bl (!c)) S1
  | _ => False
section
variable {X : Cx} {pos : Pos} {a b c : Expr} {ta tb tc : TE2} {tA tB : TT2} {rest : List Expr}
theorem w_and1 (ha : QT X a tA) : QW X (.BoolOp .And [a] pos) tA := pw_and1 ha
theorem w_or1 (ha : QT X a tA) : QW X (.BoolOp .Or [a] pos) tA := pw_or1 ha
theorem w_and (ha : QT X a tA) (hb : QW X (.BoolOp .And (b :: rest) pos) tB) : QW X (.BoolOp .And (a :: b :: rest) pos) (uAnd tA tB) := PW.wk (pw_and ha hb) fun σ H Q ⟨τ, S, Q2, rl, rs, t, k⟩ =>
  ⟨τ, S, _, rl, rs, t, fun c S1 H1 g1 rs1 t1 => by
    cases c with
    | true =>
      rw [if_pos rfl]
      exact ⟨τ, S1, _, rl.keep g1, rs1, t1, fun b S' H' g => k b S' H' (g1.trans g)⟩
    | false =>
      rw [if_neg Bool.false_ne_true]
      exact k _ _ _ g1 rs1 t1⟩
theorem w_or (ha : QT X a tA) (hb : QW X (.BoolOp .Or (b :: rest) pos) tB) : QW X (.BoolOp .Or (a :: b :: rest) pos) (uOr tA tB) := PW.wk (pw_or ha hb) fun σ H Q ⟨τ, S, Q2, rl, rs, t, k⟩ =>
  ⟨τ, S, _, rl, rs, t, fun c S1 H1 g1 rs1 t1 => by
    cases c with
    | false =>
      rw [if_neg Bool.false_ne_true]
      exact ⟨τ, S1, _, rl.keep g1, rs1, t1, fun b S' H' g => k b S' H' (g1.trans g)⟩
    | true =>
      rw [if_pos rfl]
      exact k _ _ _ g1 rs1 t1⟩
theorem t_not (ha : QT X a tA) : QT X (.UnaryOp .Not a pos) (uNot tA) := PT.wk (pt_not ha) fun σ H Q ⟨τ, S, Q2, rl, rs, t, k⟩ => ⟨τ, S, _, rl, rs, t, fun c S1 H1 g1 rs1 t1 => k _ _ _ g1 rs1 t1⟩
theorem q_and (ha : QE X a ta) (hb : QE X (.BoolOp .And (b :: rest) pos) tb) : QE X (.BoolOp .And (a :: b :: rest) pos) (uAndV ta tb) := PE.wk (pe_and ha hb) fun σ H Q ⟨τ, S, Q2, rl, rs, t, k⟩ =>
  ⟨τ, S, _, rl, rs, t, fun d v S1 H1 g1 rs1 dv1 t1 => by
    cases d with
    | bl c =>
      cases dv1
      refine ⟨c, rfl, ?_⟩
      cases c with
      | true =>
        rw [if_pos rfl]
        exact ⟨τ, S1, _, rl.keep g1, rs1, t1, fun b v S' H' g => k b v S' H' (g1.trans g)⟩
      | false =>
        rw [if_neg Bool.false_ne_true]
        exact k _ _ _ _ g1 rs1 (.bl false) t1
    | _ => exact t1.elim⟩
theorem q_or (ha : QE X a ta) (hb : QE X (.BoolOp .Or (b :: rest) pos) tb) : QE X (.BoolOp .Or (a :: b :: rest) pos) (uOrV ta tb) := PE.wk (pe_or ha hb) fun σ H Q ⟨τ, S, Q2, rl, rs, t, k⟩ =>
  ⟨τ, S, _, rl, rs, t, fun d v S1 H1 g1 rs1 dv1 t1 => by
    cases d with
    | bl c =>
      cases dv1
      refine ⟨c, rfl, ?_⟩
      cases c with
      | false =>
        rw [if_neg Bool.false_ne_true]
        exact ⟨τ, S1, _, rl.keep g1, rs1, t1, fun b v S' H' g => k b v S' H' (g1.trans g)⟩
      | true =>
        rw [if_pos rfl]
        exact k _ _ _ _ g1 rs1 (.bl true) t1
    | _ => exact t1.elim⟩
theorem q_one {op} (h : QE X a ta) : QE X (.BoolOp op [a] pos) ta := pe_one h
theorem q_not (ha : QE X a ta) : QE X (.UnaryOp .Not a pos) (uNotV ta) := PE.wk (pe_not ha) fun σ H Q ⟨τ, S, Q2, rl, rs, t, k⟩ =>
  ⟨τ, S, _, rl, rs, t, fun d v S1 H1 g1 rs1 dv1 t1 => by
    cases d with
    | bl c =>
      cases dv1
      exact ⟨c, rfl, k _ _ _ _ g1 rs1 (.bl _) t1⟩
    | _ => exact t1.elim⟩
/-- the store as it was ahead of an expression -/
def uFgt (t : TE2) : TE2 := fun τ S Q => t τ S fun d S' => Sub S S' ∧ Q d S
def uFgtT (t : TT2) : TT2 := fun τ S Q => t τ S fun d S' => Sub S S' ∧ Q d S
end
/-! ### tuples, lists, items -/
def uNil : TA2 := fun _ S Q => Q [] S
def uCons (ta : TE2) (tr : TA2) : TA2 := fun τ S Q => ta τ S fun x S1 => tr τ S1 fun xs S2 => Q (x :: xs) S2
def uTup (t : TA2) : TE2 := fun τ S Q => t τ S fun ds S1 => ds.length ≤ 1000 ∧ Q (.tup ds) S1
def uLst (t : TA2) : TE2 := fun τ S Q => t τ S fun ds S1 => ds.length ≤ 1000 ∧ ∀ p, S1 p = none → Q (.ref p) (ups S1 p (.lst ds))
theorem th_line {n : Nat} (h : n ≤ 1000) : n ≤ sizeLine := Nat.le_of_lt (small1000 h)
section
variable {X : Cx} {pos : Pos} {e : Expr} {es : List Expr} {ta : TE2} {t : TA2}
theorem a_nil : QA X [] uNil := PA.wk pa_nil fun σ H Q ⟨τ, S, Q2, rl, rs, t, k⟩ => k _ _ _ _ (.refl H) rs .nil t
theorem a_cons (ha : QE X e ta) (hr : QA X es t) (hs : starEach (e :: es) X.env = (false, eval e X.env) :: starEach es X.env := by rfl) : QA X (e :: es) (uCons ta t) := PA.wk (pa_cons ha hr hs) fun σ H Q ⟨τ, S, Q2, rl, rs, t, k⟩ =>
  ⟨τ, S, _, rl, rs, t, fun d v S1 H1 g1 rs1 dv1 t1 => ⟨τ, S1, _, rl.keep g1, rs1, t1, fun ds vs S2 H2 g2 rs2 dvs2 t2 => k _ _ _ _ (g1.trans g2) rs2 (.cons (Dv.keep g2 _ _ dv1) dvs2) t2⟩⟩
theorem q_tup {x1} (h : QA X es t) : QE X (.Tuple es x1 pos) (uTup t) := PE.wk (pe_tup h) fun σ H Q ⟨τ, S, Q2, rl, rs, t, k⟩ =>
  ⟨τ, S, _, rl, rs, t, fun ds vs S1 H1 g1 rs1 dvs t1 => ⟨by rw [← dvs.length]; exact th_line t1.1, fun p np => k _ _ _ _ (g1.trans (good_new np)) (rs1.newT np) (.tup (SqT.of upd_same) (dvs.new np)) t1.2⟩⟩
theorem q_lst (h : QA X es t) : QE X (.List es pos) (uLst t) := PE.wk (pe_lst h) fun σ H Q ⟨τ, S, Q2, rl, rs, t, k⟩ =>
  ⟨τ, S, _, rl, rs, t, fun ds vs S1 H1 g1 rs1 dvs t1 => ⟨by rw [← dvs.length]; exact th_line t1.1, fun p np => k _ _ _ _ (g1.trans (good_new np)) (rs1.new (o := .lst ds) np ⟨_, upd_same, dvs.new np⟩) (.ref p) (t1.2 p (rs1.fresh np))⟩⟩
end
/-- the items of a list or a tuple -/
def itemsOf (S : Sto) (d : D) : Option (List D) := match d with
  | .ref a => match S a with
    | some (.lst xs) => some xs
    | _ => none
  | .fl xs => some xs
  | .tup xs => some xs
  | _ => none
theorem items_ref {S : Sto} {a : Addr} {xs : List D} (h : S a = some (.lst xs)) : itemsOf S (.ref a) = some xs := by
  unfold itemsOf; simp only [h]
theorem ref_items {S : Sto} {a : Addr} {xs : List D} (h : itemsOf S (.ref a) = some xs) : S a = some (.lst xs) := by
  unfold itemsOf at h
  simp only at h
  split at h
  · next q => obtain rfl := Option.some.inj h; exact q
  · cases h
theorem items_sq {K : PySem.W.Frag} {S : Sto} {H : Hp} {d : D} {v : V} {xs : List D} (rs : RelS K S H) (dv : Dv K H d v) (h : itemsOf S d = some xs) : ∃ p vs, v = .ref p ∧ (SqL K H p vs ∨ SqT K H p vs) ∧ Dvs K H xs vs := by
  cases dv with
  | ref a =>
    obtain ⟨vs, e, r⟩ := rs _ _ (ref_items h)
    exact ⟨a, vs, rfl, .inl (SqL.of e), r⟩
  | tup h1 h2 => obtain rfl := Option.some.inj h; exact ⟨_, _, rfl, .inr h1, h2⟩
  | fl h1 h2 => obtain rfl := Option.some.inj h; exact ⟨_, _, rfl, .inl h1.sq, h2⟩
  | _ => cases h
def nthQ {α : Type} : List α → Nat → (α → Prop) → Prop
  | x :: _, 0, Q => Q x
  | _ :: xs, n + 1, Q => nthQ xs n Q
  | [], _, _ => False
theorem nthQ_get {α : Type} : ∀ {xs : List α} {n : Nat} {Q : α → Prop}, nthQ xs n Q → ∃ x, xs[n]? = some x ∧ Q x
  | [], _, _, h => by cases h
  | x :: _, 0, _, h => ⟨x, rfl, h⟩
  | _ :: xs, n + 1, _, h => nthQ_get (xs := xs) (n := n) h
def ixkQ (k : Nat) : D → Sto → VK2 → Prop
  | .tup xs, S, Q => nthQ xs k fun x => Q x S
  | .fl xs, S, Q => nthQ xs k fun x => Q x S
  | .ref a, S, Q => getO (S a) fun xs => nthQ xs k fun x => Q x S
  | .str z, S, Q => z.length ≤ sizeLine ∧ onS z.cps.toList[k]? fun c => Q (.str ⟨#[c]⟩) S
  | _, _, _ => False
def uIxk (k : Nat) (ta : TE2) : TE2 := fun τ S Q => ta τ S fun d S1 => ixkQ k d S1 Q
def ixgQ (i : Int) : D → Sto → VK2 → Prop
  | .tup xs, S, Q => onS (atI xs i) fun x => Q x S
  | .fl xs, S, Q => onS (atI xs i) fun x => Q x S
  | .ref a, S, Q => getO (S a) fun xs => onS (atI xs i) fun x => Q x S
  | .str z, S, Q => z.length ≤ sizeLine ∧ onS (atI z.cps.toList i) fun c => Q (.str ⟨#[c]⟩) S
  | _, _, _ => False
def rIxg : D → D → Sto → VK2 → Prop
  | d, .int i, S, Q => ixgQ i d S Q
  | _, _, _, _ => False
theorem Dvs.atI {K : PySem.W.Frag} {H : Hp} {ds : List D} {vs : List V} {i : Int} {d : D} (h : Dvs K H ds vs) (e : L2.atI ds i = some d) : ∃ v, L2.atI vs i = some v ∧ Dv K H d v := by
  unfold L2.atI at e ⊢
  rw [← h.length]
  cases q : ixN ds.length i with
  | none => rw [q] at e; cases e
  | some j =>
    rw [q] at e
    exact h.at e
section
variable {X : Cx} {pos : Pos} {a b : Expr} {ta tb : TE2} {K : PySem.W.Frag}
theorem srv_ix : Srv K (rIx K) rIxg := by
  intro d e v u S H Q Q2 rs dv du t k
  unfold rIxg at t
  split at t
  · next i =>
    cases du
    have gen : ∀ xs, itemsOf S d = some xs → onS (atI xs i) (fun x => Q2 x S) → rIx K v (.int i) H Q := by
      intro xs h1 q
      obtain ⟨x, h2, q⟩ := onS_get q
      obtain ⟨p, vs, rfl, h, r⟩ := items_sq rs dv h1
      obtain ⟨y, e2, ry⟩ := r.atI h2
      rcases h with h | h
      · exact .inl ⟨p, vs, i, y, rfl, rfl, h, e2, k _ _ _ _ (.refl H) rs ry q⟩
      · exact .inr (.inl ⟨p, vs, i, y, rfl, rfl, h, e2, k _ _ _ _ (.refl H) rs ry q⟩)
    cases d with
    | tup xs => exact gen xs rfl t
    | fl xs => exact gen xs rfl t
    | ref a =>
      obtain ⟨xs, h1, q⟩ := getO_get t
      exact gen xs (items_ref h1) q
    | str z =>
      obtain ⟨hl, t⟩ := t
      obtain ⟨c, hc, q⟩ := onS_get t
      cases dv
      exact .inr (.inr ⟨z, i, c, rfl, rfl, hl, hc, k _ _ _ _ (.refl H) rs (.str _) q⟩)
    | _ => exact t.elim
  · exact t.elim
theorem q_ixg (hs : PlainIx b) (ha : QE X a ta) (hb : QE X b tb) : QE X (.Subscript a b pos) (uOp rIxg ta tb) := q_ix ix_seq srv_ix hs ha hb
theorem q_ixk (n : Nat) {j : Nat} {p2 : Pos} (ha : QE X a ta) : QE X (.Subscript a (.Constant (.int (n : Int)) j p2) pos) (uIxk n ta) := PE.wk (pe_ix ix_seq ha pe_int (fun _ _ => rfl)) fun σ H Q ⟨τ, S, Q2, rl, rs, t, k⟩ => by
  refine ⟨τ, S, _, rl, rs, t, fun d v S1 H1 g1 rs1 dv1 t1 => ?_⟩
  show rIx X.K v (.int n) H1 Q
  have gen : ∀ xs, itemsOf S1 d = some xs → nthQ xs n (fun x => Q2 x S1) → rIx X.K v (.int n) H1 Q := fun xs h1 q => by
    obtain ⟨x, h2, q⟩ := nthQ_get q
    obtain ⟨p, vs, rfl, h, r⟩ := items_sq rs1 dv1 h1
    obtain ⟨y, e2, ry⟩ := r.at h2
    rcases h with h | h
    · exact .inl ⟨p, vs, n, y, rfl, rfl, h, atI_nat e2, k _ _ _ _ g1 rs1 ry q⟩
    · exact .inr (.inl ⟨p, vs, n, y, rfl, rfl, h, atI_nat e2, k _ _ _ _ g1 rs1 ry q⟩)
  cases d with
  | tup xs => exact gen xs rfl t1
  | fl xs => exact gen xs rfl t1
  | ref a =>
    obtain ⟨xs, h1, q⟩ := getO_get t1
    exact gen xs (items_ref h1) q
  | str z =>
    obtain ⟨hl, t1⟩ := t1
    obtain ⟨c, hc, q⟩ := onS_get t1
    cases dv1
    exact .inr (.inr ⟨z, n, c, rfl, rfl, hl, atI_nat hc, k _ _ _ _ g1 rs1 (.str _) q⟩)
  | _ => exact t1.elim
end
end DL
namespace DL
open PySem PySem.Spec PyProof.Rows L2
/-! ### calls of builtins, by values -/
abbrev RC := List D → Sto → VK2 → Prop
def SrvC (K : PySem.W.Frag) (r0 : List V → Hp → VK → Prop) (r : RC) : Prop := ∀ ds vs S H Q Q2, RelS K S H → Dvs K H ds vs → r ds S Q2 → (∀ d v S' H', Good K H H' → RelS K S' H' → Dv K H' d v → Q2 d S' → Q v H') → r0 vs H Q
def uCB (r : RC) (t : TA2) : TE2 := fun τ S Q => t τ S fun ds S1 => r ds S1 Q
/-- methods of builtin types -/
abbrev RM := D → List D → Sto → VK2 → Prop
def SrvM (K : PySem.W.Frag) (T : String) (r0 : V → List V → Hp → VK → Prop) (r : RM) : Prop := ∀ d v ds vs S H Q Q2, RelS K S H → Dv K H d v → Dvs K H ds vs → r d ds S Q2 → (∀ d v S' H', Good K H H' → RelS K S' H' → Dv K H' d v → Q2 d S' → Q v H') → r0 v vs H Q
def isL (S : Sto) (d : D) : Prop := match d with
  | .ref a => ∃ xs, S a = some (.lst xs)
  | .fl _ => True
  | _ => False
def isS (S : Sto) (d : D) : Prop := match d with
  | .str _ => True
  | _ => False
def uBM (ty : Sto → D → Prop) (r : RM) (to : TE2) (t : TA2) : TE2 := fun τ S Q => to τ S fun x S1 => ty S1 x ∧ t τ S1 fun ds S2 => r x ds S2 Q
section
variable {X : Cx} {pos p cpos apos : Pos} {x name : Str} {e o : Expr} {es : List Expr} {t : TA2} {to : TE2} {r : RC} {r0 : List V → Hp → VK → Prop} {id T : String}
theorem dnCB (s : SrvC X.K r0 r) {σ : L2.St} {H : Hp} {Q : VK} : dn X.K (uCB r t) σ H Q → tCB r0 (dnA X.K t) σ H Q := fun ⟨τ, S, Q2, rl, rs, t, k⟩ =>
  ⟨τ, S, _, rl, rs, t, fun ds vs S1 H1 g1 rs1 dvs t1 => s ds vs S1 H1 Q Q2 rs1 dvs t1 fun d v S' H' g => k d v S' H' (g1.trans g)⟩
theorem q_callB (hc : CallR X (.builtin id) r0) (s : SrvC X.K r0 r) (hm : X.mg x = none) (hv : bootBuiltins x = some (.builtin id)) (hg : Gl X x) (ha : QA X (e :: es) t) (hn : x ≠ "__name__" := by decide) (hdb : (x == ("__debug__" : Str)) = false := by decide)
    (he : starEach (e :: es) X.env = (false, eval e X.env) :: starEach es X.env := by rfl) (hpl : (backTo pos (starEach es X.env)).any (·.1) = false := by rfl) :
    QE X (.Call (.Name x p) (e :: es) [] pos) (uCB r t) := PE.wk (pe_callB hc hg hm hv ha hn hdb he hpl) fun _ _ _ => dnCB s
theorem q_callTy (hc : CallR X (.type T) r0) (s : SrvC X.K r0 r) (hm : X.mg x = none) (hv : bootBuiltins x = some (.type T)) (hg : Gl X x) (ha : QA X (e :: es) t) (hn : x ≠ "__name__" := by decide) (hdb : (x == ("__debug__" : Str)) = false := by decide)
    (he : starEach (e :: es) X.env = (false, eval e X.env) :: starEach es X.env := by rfl) (hpl : (backTo pos (starEach es X.env)).any (·.1) = false := by rfl) :
    QE X (.Call (.Name x p) (e :: es) [] pos) (uCB r t) := PE.wk (pe_callTy hc hg hm hv ha hn hdb he hpl) fun _ _ _ => dnCB s
end
def rLen : List D → Sto → VK2 → Prop
  | [.str z], S, Q => z.length ≤ sizeLine ∧ Q (.int z.length) S
  | [.tup xs], S, Q => Q (.int xs.length) S
  | [.fl xs], S, Q => Q (.int xs.length) S
  | [.ref a], S, Q => getO (S a) fun xs => Q (.int xs.length) S
  | _, _, _ => False
def rAbs : List D → Sto → VK2 → Prop
  | [.int i], S, Q => Q (.int (if i < 0 then -i else i)) S
  | _, _, _ => False
def rMax2 : List D → Sto → VK2 → Prop
  | [.int i, .int j], S, Q => Q (.int (if j > i then j else i)) S
  | _, _, _ => False
def rMin2 : List D → Sto → VK2 → Prop
  | [.int i, .int j], S, Q => Q (.int (if j < i then j else i)) S
  | _, _, _ => False
def rInt1 : List D → Sto → VK2 → Prop
  | [.int i], S, Q => Q (.int i) S
  | [.bl k], S, Q => Q (.int (if k then 1 else 0)) S
  | _, _, _ => False
def rListOf : List D → Sto → VK2 → Prop
  | [.tup xs], S, Q => ∀ p, S p = none → Q (.ref p) (ups S p (.lst xs))
  | [.fl xs], S, Q => ∀ p, S p = none → Q (.ref p) (ups S p (.lst xs))
  | [.ref a], S, Q => getO (S a) fun xs => ∀ p, S p = none → Q (.ref p) (ups S p (.lst xs))
  | _, _, _ => False
def rTupleOf : List D → Sto → VK2 → Prop
  | [.tup xs], S, Q => Q (.tup xs) S
  | [.fl xs], S, Q => Q (.tup xs) S
  | [.ref a], S, Q => getO (S a) fun xs => Q (.tup xs) S
  | _, _, _ => False
/-- the items of a list -/
def listOf (S : Sto) (d : D) : Option (List D) := match d with
  | .ref a => match S a with
    | some (.lst xs) => some xs
    | _ => none
  | .fl xs => some xs
  | _ => none
theorem list_ref {S : Sto} {a : Addr} {xs : List D} (h : S a = some (.lst xs)) : listOf S (.ref a) = some xs := by
  unfold listOf; simp only [h]
theorem ref_list {S : Sto} {a : Addr} {xs : List D} (h : listOf S (.ref a) = some xs) : S a = some (.lst xs) := by
  unfold listOf at h
  simp only at h
  split at h
  · next q => obtain rfl := Option.some.inj h; exact q
  · cases h
theorem list_sq {K : PySem.W.Frag} {S : Sto} {H : Hp} {d : D} {v : V} {xs : List D} (rs : RelS K S H) (dv : Dv K H d v) (h : listOf S d = some xs) : ∃ p vs, v = .ref p ∧ SqL K H p vs ∧ Dvs K H xs vs := by
  cases dv with
  | ref a =>
    obtain ⟨vs, e, r⟩ := rs _ _ (ref_list h)
    exact ⟨a, vs, rfl, SqL.of e, r⟩
  | fl h1 h2 => obtain rfl := Option.some.inj h; exact ⟨_, _, rfl, h1.sq, h2⟩
  | _ => cases h
def rAny2 : List D → Sto → VK2 → Prop
  | [d], S, Q => ∃ bs : List Bool, listOf S d = some (bs.map D.bl) ∧ Q (.bl (bs.any fun b => b)) S
  | _, _, _ => False
def rAll2 : List D → Sto → VK2 → Prop
  | [d], S, Q => ∃ bs : List Bool, listOf S d = some (bs.map D.bl) ∧ Q (.bl (bs.all fun b => b)) S
  | _, _, _ => False
/-- the builtin type of a thing -/
inductive Ty where
  | non | bool | int | str | tup | lst | dic
def Ty.nm : Ty → String
  | .non => "NoneType" | .bool => "bool" | .int => "int" | .str => "str" | .tup => "tuple" | .lst => "list" | .dic => "dict"
def tyO : Option O → Option Ty
  | some (.lst _) => some .lst
  | some (.dic _) => some .dic
  | _ => none
def tyOf (S : Sto) : D → Option Ty
  | .non => some .non
  | .bl _ => some .bool
  | .int _ => some .int
  | .str _ => some .str
  | .tup _ => some .tup
  | .fl _ => some .lst
  | .ref a => tyO (S a)
  | _ => none
/-- isinstance(a thing of the one, the other) -/
def isiT : Ty → Ty → Bool
  | .bool, .bool | .bool, .int | .int, .int | .str, .str | .tup, .tup | .lst, .lst | .dic, .dic => true
  | _, _ => false
def Ty.ok : Ty → Bool
  | .non => false
  | _ => true
theorem isiT_kit : ∀ T n : Ty, n.ok = true → kitB T.nm n.nm = some (isiT T n) := by
  intro T n h
  cases n <;> first | (exact absurd h (by decide)) | (cases T <;> decide +kernel)
def uIsi (n : Ty) (ta : TE2) : TE2 := fun τ S Q => ta τ S fun d S1 => onS (tyOf S1 d) fun T => Q (.bl (isiT T n)) S1
def rSorted2 : List D → Sto → VK2 → Prop
  | [d], S, Q => ∃ ns : List Int, listOf S d = some (ns.map D.int) ∧ ns.length < 64 ∧ ∀ ms : List Int, ms.Perm ns → ms.Pairwise (· ≤ ·) → ∀ p, S p = none → Q (.ref p) (ups S p (.lst (ms.map D.int)))
  | _, _, _ => False
section
variable {X : Cx} {K : PySem.W.Frag}
theorem srv_len : SrvC K (fun xs H Q => (∃ p ys, xs = [.ref p] ∧ (SqL K H p ys ∨ SqT K H p ys) ∧ Q (.int ys.length) H) ∨ ∃ z, xs = [.str z] ∧ z.length ≤ sizeLine ∧ Q (.int z.length) H) rLen := by
  intro ds vs S H Q Q2 rs dvs t k
  have gen : ∀ (d : D) (v : V) (xs : List D), Dv K H d v → itemsOf S d = some xs → Q2 (.int xs.length) S → (∃ p ys, [v] = [.ref p] ∧ (SqL K H p ys ∨ SqT K H p ys) ∧ Q (.int ys.length) H) := fun d v xs dv h q => by
    obtain ⟨p, us, rfl, hq, r⟩ := items_sq rs dv h
    exact ⟨p, us, rfl, hq, by rw [← r.length]; exact k _ _ _ _ (.refl H) rs (.int _) q⟩
  unfold rLen at t
  split at t
  · cases dvs with
    | cons h1 h2 =>
      cases h1; cases h2
      exact .inr ⟨_, rfl, t.1, k _ _ _ _ (.refl H) rs (.int _) t.2⟩
  · cases dvs with
    | cons h1 h2 => cases h2; exact .inl (gen _ _ _ h1 rfl t)
  · cases dvs with
    | cons h1 h2 => cases h2; exact .inl (gen _ _ _ h1 rfl t)
  · obtain ⟨xs, e, q⟩ := getO_get t
    cases dvs with
    | cons h1 h2 => cases h2; exact .inl (gen _ _ _ h1 (items_ref e) q)
  · exact t.elim
theorem srv_abs : SrvC K (fun xs H Q => ∃ i, xs = [.int i] ∧ Q (.int (if i < 0 then -i else i)) H) rAbs := by
  intro ds vs S H Q Q2 rs dvs t k
  unfold rAbs at t
  split at t
  · cases dvs with
    | cons h1 h2 =>
      cases h1; cases h2
      exact ⟨_, rfl, k _ _ _ _ (.refl H) rs (.int _) t⟩
  · exact t.elim
theorem srv_listOf : SrvC K (fun xs H Q => ∃ p ys, xs = [.ref p] ∧ (SqL K H p ys ∨ SqT K H p ys) ∧ ∀ l, H l = none → Q (.ref l) (upd H l (.lst ys))) rListOf := by
  intro ds vs S H Q Q2 rs dvs t k
  have gen : ∀ (d : D) (v : V) (xs : List D), Dv K H d v → itemsOf S d = some xs → (∀ p, S p = none → Q2 (.ref p) (ups S p (.lst xs))) → (∃ p ys, [v] = [.ref p] ∧ (SqL K H p ys ∨ SqT K H p ys) ∧ ∀ l, H l = none → Q (.ref l) (upd H l (.lst ys))) := fun d v xs dv h q => by
    obtain ⟨p, us, rfl, hq, r⟩ := items_sq rs dv h
    exact ⟨p, us, rfl, hq, fun l nl => k _ _ _ _ (good_new nl) (rs.new (o := .lst xs) nl ⟨_, upd_same, r.new nl⟩) (.ref l) (q l (rs.fresh nl))⟩
  unfold rListOf at t
  split at t
  · cases dvs with
    | cons h1 h2 => cases h2; exact gen _ _ _ h1 rfl t
  · cases dvs with
    | cons h1 h2 => cases h2; exact gen _ _ _ h1 rfl t
  · obtain ⟨xs, e, q⟩ := getO_get t
    cases dvs with
    | cons h1 h2 => cases h2; exact gen _ _ _ h1 (items_ref e) q
  · exact t.elim
theorem srv_tupleOf : SrvC K (fun xs H Q => ∃ p ys, xs = [.ref p] ∧ ((SqL K H p ys ∧ ∀ l, H l = none → Q (.ref l) (upd H l (.tup ys))) ∨ (SqT K H p ys ∧ Q (.ref p) H))) rTupleOf := by
  intro ds vs S H Q Q2 rs dvs t k
  have gen : ∀ (d : D) (v : V) (xs : List D), Dv K H d v → itemsOf S d = some xs → Q2 (.tup xs) S → (∃ p ys, [v] = [.ref p] ∧ ((SqL K H p ys ∧ ∀ l, H l = none → Q (.ref l) (upd H l (.tup ys))) ∨ (SqT K H p ys ∧ Q (.ref p) H))) := fun d v xs dv h q => by
    obtain ⟨p, us, rfl, hq, r⟩ := items_sq rs dv h
    refine ⟨p, us, rfl, ?_⟩
    rcases hq with hq | hq
    · exact .inl ⟨hq, fun l nl => k _ _ _ _ (good_new nl) (rs.newT nl) (.tup (SqT.of upd_same) (r.new nl)) q⟩
    · exact .inr ⟨hq, k _ _ _ _ (.refl H) rs (.tup hq r) q⟩
  unfold rTupleOf at t
  split at t
  · cases dvs with
    | cons h1 h2 => cases h2; exact gen _ _ _ h1 rfl t
  · cases dvs with
    | cons h1 h2 => cases h2; exact gen _ _ _ h1 rfl t
  · obtain ⟨xs, e, q⟩ := getO_get t
    cases dvs with
    | cons h1 h2 => cases h2; exact gen _ _ _ h1 (items_ref e) q
  · exact t.elim
variable {pos p : Pos} {e : Expr} {es : List Expr} {t : TA2} {ta tb : TE2}
theorem q_len (hm : X.mg "len" = none) (hg : Gl X "len") (ha : QA X [e] t) (he : starEach [e] X.env = (false, eval e X.env) :: starEach [] X.env := by rfl) : QE X (.Call (.Name "len" p) [e] [] pos) (uCB rLen t) :=
  q_callB (call_len_seq.or call_len_str) srv_len hm PySem.boot_len hg ha (he := he)
theorem q_abs (hm : X.mg "abs" = none) (hg : Gl X "abs") (ha : QA X [e] t) (he : starEach [e] X.env = (false, eval e X.env) :: starEach [] X.env := by rfl) : QE X (.Call (.Name "abs" p) [e] [] pos) (uCB rAbs t) :=
  q_callB call_abs srv_abs hm PyProof.Rows.boot_abs hg ha (he := he)
theorem q_list (hm : X.mg "list" = none) (hg : Gl X "list") (ha : QA X [e] t) (he : starEach [e] X.env = (false, eval e X.env) :: starEach [] X.env := by rfl) : QE X (.Call (.Name "list" p) [e] [] pos) (uCB rListOf t) :=
  q_callTy call_list_of srv_listOf hm PyProof.Rows.boot_list hg ha (he := he)
theorem q_tuple (hm : X.mg "tuple" = none) (hg : Gl X "tuple") (ha : QA X [e] t) (he : starEach [e] X.env = (false, eval e X.env) :: starEach [] X.env := by rfl) : QE X (.Call (.Name "tuple" p) [e] [] pos) (uCB rTupleOf t) :=
  q_callTy call_tuple_of srv_tupleOf hm PyProof.Rows.boot_tuple hg ha (he := he)
/-- the type of what d stands for -/
theorem tyX_of {S : Sto} {H : Hp} {d : D} {v : V} {T : Ty} (rs : RelS K S H) (dv : Dv K H d v) (h : tyOf S d = some T) : TyX K H v (.type T.nm) := by
  cases dv with
  | non => obtain rfl := Option.some.inj h; exact .base .non
  | bl b => obtain rfl := Option.some.inj h; exact .base (.bl b)
  | int i => obtain rfl := Option.some.inj h; exact .base (.int i)
  | str x => obtain rfl := Option.some.inj h; exact .base (.str x)
  | ty n => cases h
  | exc _ => cases h
  | tup h1 h2 =>
    obtain rfl := Option.some.inj h
    rcases h1 with (h1 | ⟨o, h1⟩) | ⟨o, its, n, h1, h3, _⟩
    · exact .base (.tup h1)
    · exact .fTuple h1
    · exact .kTuple h1 h3
  | fl h1 h2 =>
    obtain rfl := Option.some.inj h
    rcases h1 with ⟨o, h1⟩ | ⟨o, its, n, h1, h3, _⟩
    · exact .base (.frz h1)
    · exact .kList h1 h3
  | ref a =>
    have h : tyO (S a) = some T := h
    unfold tyO at h
    split at h
    · next q =>
      obtain rfl := Option.some.inj h
      obtain ⟨vs, e, _⟩ := rs _ _ q
      exact .base (.lst e)
    · next q =>
      obtain rfl := Option.some.inj h
      obtain ⟨vs, e, _⟩ := rs _ _ q
      exact .base (.dK e)
    · cases h
theorem q_isi (n : Ty) {x : Str} {p2 : Pos} (hm : X.mg "isinstance" = none) (hg : Gl X "isinstance") (hm2 : X.mg x = none) (hg2 : Gl X x) (hb : bootBuiltins x = some (.type n.nm)) (hn : n.ok = true) (ha : QE X e ta)
    (he : starEach [e, .Name x p2] X.env = (false, eval e X.env) :: starEach [.Name x p2] X.env := by rfl) (hpl : (backTo pos (starEach [.Name x p2] X.env)).any (·.1) = false := by rfl)
    (hs2 : starEach [.Name x p2] X.env = (false, eval (.Name x p2) X.env) :: starEach [] X.env := by rfl) (hx : x ≠ "__name__" := by decide) (hd : (x == ("__debug__" : Str)) = false := by decide) : QE X (.Call (.Name "isinstance" p) [e, .Name x p2] [] pos) (uIsi n ta) :=
  PE.wk (pe_callB call_isi hg hm PyProof.Rows.boot_isinstance (pa_cons ha (pa_cons (pe_bltn (v := .ty n.nm) hg2 hm2 hb rfl hx hd) pa_nil hs2) he) (hpl := hpl) (he := he)) fun σ H Q ⟨τ, S, Q2, rl, rs, t, k⟩ =>
    ⟨τ, S, _, rl, rs, t, fun d v S1 H1 g1 rs1 dv1 t1 => let ⟨T, hT, t1⟩ := onS_get t1; ⟨v, .ty n.nm, .type T.nm, .type n.nm, isiT T n, rfl, .ty _, tyX_of rs1 dv1 hT, kit_ty (isiT_kit T n hn), k _ _ _ _ g1 rs1 (.bl _) t1⟩⟩
end
end DL
namespace DL
open PySem PySem.Spec PyProof.Rows L2
/-! ### methods of lists -/
def rAppend2 : D → List D → Sto → VK2 → Prop
  | .ref a, [d], S, Q => getO (S a) fun xs => xs.length < sizeLine ∧ Q .non (ups S a (.lst (xs ++ [d])))
  | _, _, _, _ => False
def rInsert2 : D → List D → Sto → VK2 → Prop
  | .ref a, [.int i, d], S, Q => getO (S a) fun xs => xs.length < sizeLine ∧ (0 ≤ i ∧ i < 2 ^ 63) ∧ Q .non (ups S a (.lst (xs.take i.toNat ++ [d] ++ xs.drop i.toNat)))
  | _, _, _, _ => False
def rPop0 : D → List D → Sto → VK2 → Prop
  | .ref a, [], S, Q => getO (S a) fun xs => onS xs[xs.length - 1]? fun y => Q y (ups S a (.lst xs.dropLast))
  | _, _, _, _ => False
def rPopAt2 : D → List D → Sto → VK2 → Prop
  | .ref a, [.int i], S, Q => getO (S a) fun xs => (-(2 ^ 63) ≤ i ∧ i < 2 ^ 63) ∧ onS (seqIndex? i xs.length) fun k => onS xs[k]? fun y => Q y (ups S a (.lst (xs.eraseIdx k)))
  | _, _, _, _ => False
def rReverse2 : D → List D → Sto → VK2 → Prop
  | .ref a, [], S, Q => getO (S a) fun xs => Q .non (ups S a (.lst xs.reverse))
  | _, _, _, _ => False
def rClear2 : D → List D → Sto → VK2 → Prop
  | .ref a, [], S, Q => getO (S a) fun xs => Q .non (ups S a (.lst []))
  | _, _, _, _ => False
section
variable {X : Cx} {K : PySem.W.Frag}
theorem isL_ty {S : Sto} {H : Hp} {d : D} {v : V} (rs : RelS K S H) (dv : Dv K H d v) (h : isL S d) : tyV K "list" v H := by
  cases dv with
  | ref a =>
    obtain ⟨xs, h⟩ := h
    obtain ⟨vs, e, _⟩ := rs _ _ h
    exact .inl ⟨rfl, vs, SqL.of e⟩
  | fl h1 h2 => exact .inl ⟨rfl, _, h1.sq⟩
  | _ => exact h.elim
variable {pos p cpos apos : Pos} {x name : Str} {e o : Expr} {es : List Expr} {t : TA2} {to : TE2} {r : RM} {r0 : V → List V → Hp → VK → Prop} {id T : String} {ty : Sto → D → Prop}
theorem q_bm (pa : PlainAttrs T) (slot : Slot T name id) (hty : typeOf (.builtin id) = pure (.type "method_descriptor")) (hm : MtR X id r0) (s : SrvM X.K T r0 r)
    (tyS : ∀ {S : Sto} {H : Hp} {d : D} {v : V}, RelS X.K S H → Dv X.K H d v → ty S d → tyV X.K T v H) (ho : QE X o to) (ha : QA X (e :: es) t)
    (hbase : attributeBase o name X.env (eval o X.env) = eval o X.env)
    (hfew : ((backTo cpos (starEach (e :: es) X.env)).all (fun x => !x.1) && (backToKw cpos (keywordEach [] X.env)).all (fun x => x.1.isSome)
      && decide ((e :: es).length + ([] : List Keyword).length + (if ([] : List Keyword).isEmpty then 0 else 1) < 30)) = true)
    (hline : (apos.endLine == cpos.line) = true) (hs : starEach (e :: es) X.env = (false, eval e X.env) :: starEach es X.env) (hplain : (backTo cpos (starEach es X.env)).any (·.1) = false) :
    QE X (.Call (.Attribute o name apos) (e :: es) [] cpos) (uBM ty r to t) := PE.wk (pe_bm pa slot hty hm ho ha hbase hfew hline hs hplain) fun σ H Q ⟨τ, S, Q2, rl, rs, t, k⟩ =>
  ⟨τ, S, _, rl, rs, t, fun d v S1 H1 g1 rs1 dv1 ⟨ht, t1⟩ => ⟨tyS rs1 dv1 ht, τ, S1, _, rl.keep g1, rs1, t1, fun ds vs S2 H2 g2 rs2 dvs2 t2 =>
    s d v ds vs S2 H2 Q Q2 rs2 (Dv.keep g2 _ _ dv1) dvs2 t2 fun d v S' H' g => k d v S' H' (g1.trans (g2.trans g))⟩⟩
theorem RelS.wl {S : Sto} {H : Hp} {a : Addr} {us us' : List V} {xs' : List D} (rs : RelS K S H) (e : H a = some (.lst us)) (r : Dvs K H xs' us') : Good K H (upd H a (.lst us')) ∧ RelS K (ups S a (.lst xs')) (upd H a (.lst us')) :=
  have g := good_write (K := K) (u' := .lst us') e trivial
  ⟨g, rs.write (o := .lst xs') e trivial ⟨us', upd_same, Dvs.keep g _ _ r⟩⟩
theorem srv_append : SrvM K "list" rAppend rAppend2 := by
  intro d v ds vs S H Q Q2 rs dv dvs t k
  unfold rAppend2 at t
  split at t
  · obtain ⟨xs, h, hl, q⟩ := getO_get t
    cases dv
    cases dvs with
    | cons h1 h2 =>
      cases h2
      obtain ⟨us, e, r⟩ := rs _ _ h
      refine ⟨_, us, _, rfl, rfl, e, by rw [← r.length]; exact hl, ?_⟩
      obtain ⟨g, r2⟩ := RelS.wl rs e (r.append (.cons h1 .nil))
      exact k _ _ _ _ g r2 .non q
  · exact t.elim
theorem srv_popAt : SrvM K "list" rPopAt rPopAt2 := by
  intro d v ds vs S H Q Q2 rs dv dvs t k
  unfold rPopAt2 at t
  split at t
  · obtain ⟨xs, h, ⟨h0, h9⟩, t⟩ := getO_get t
    obtain ⟨kk, hk, t⟩ := onS_get t
    obtain ⟨y, hy, q⟩ := onS_get t
    cases dv
    cases dvs with
    | cons h1 h2 =>
      cases h1
      cases h2
      obtain ⟨us, e, r⟩ := rs _ _ h
      obtain ⟨u, hu, ru⟩ := r.at hy
      refine ⟨_, us, _, kk, u, rfl, rfl, e, h0, h9, by rw [← r.length]; exact hk, hu, ?_⟩
      have g := good_write (K := K) (u' := .lst (us.eraseIdx kk)) e trivial
      exact k _ _ _ _ g (rs.write (o := .lst (xs.eraseIdx kk)) e trivial ⟨_, upd_same, Dvs.keep g _ _ (r.eraseIdx kk)⟩) (Dv.keep g _ _ ru) q
  · exact t.elim
variable {ta tb : TE2} {e2 : Expr} {k : Nat}
theorem q_append (ho : QE X o to) (ha : QA X [e] t) (hbase : attributeBase o "append" X.env (eval o X.env) = eval o X.env := by rfl)
    (hfew : ((backTo cpos (starEach (e :: []) X.env)).all (fun x => !x.1) && (backToKw cpos (keywordEach [] X.env)).all (fun x => x.1.isSome) && decide ((e :: []).length + ([] : List Keyword).length + (if ([] : List Keyword).isEmpty then 0 else 1) < 30)) = true := by rfl)
    (hline : (apos.endLine == cpos.line) = true := by rfl) (hs : starEach (e :: []) X.env = (false, eval e X.env) :: starEach [] X.env := by rfl) (hplain : (backTo cpos (starEach [] X.env)).any (·.1) = false := by rfl) :
    QE X (.Call (.Attribute o "append" apos) [e] [] cpos) (uBM isL rAppend2 to t) := q_bm PySem.F.plainAttrs_list PySem.F.slot_list_append PySem.F.type_list_append mt_append srv_append isL_ty ho ha hbase hfew hline hs hplain
theorem q_popAt (ho : QE X o to) (ha : QA X [e] t) (hbase : attributeBase o "pop" X.env (eval o X.env) = eval o X.env := by rfl)
    (hfew : ((backTo cpos (starEach (e :: []) X.env)).all (fun x => !x.1) && (backToKw cpos (keywordEach [] X.env)).all (fun x => x.1.isSome) && decide ((e :: []).length + ([] : List Keyword).length + (if ([] : List Keyword).isEmpty then 0 else 1) < 30)) = true := by rfl)
    (hline : (apos.endLine == cpos.line) = true := by rfl) (hs : starEach (e :: []) X.env = (false, eval e X.env) :: starEach [] X.env := by rfl) (hplain : (backTo cpos (starEach [] X.env)).any (·.1) = false := by rfl) :
    QE X (.Call (.Attribute o "pop" apos) [e] [] cpos) (uBM isL rPopAt2 to t) := q_bm PySem.F.plainAttrs_list PySem.F.slot_list_pop PySem.F.type_list_pop mt_popAt srv_popAt isL_ty ho ha hbase hfew hline hs hplain
end
/-! ### slices -/
abbrev TO2 := St2 → Sto → (Option Int → Sto → Prop) → Prop
def dnO (K : PySem.W.Frag) (t : TO2) : TO := fun σ H Q => ∃ τ S Q2, Rl K H τ σ ∧ RelS K S H ∧ t τ S Q2 ∧ ∀ b S' H', Good K H H' → RelS K S' H' → Q2 b S' → Q b H'
def uNoPart : TO2 := fun _ S Q => Q none S
def uPart (ta : TE2) : TO2 := fun τ S Q => ta τ S fun d S1 => match d with
  | .int i => Q (some i) S1
  | _ => False
def cutD (xs : List D) (lo hi : Option Int) : List D := (xs.drop (HT.sIx xs.length 0 lo)).take (HT.sIx xs.length xs.length hi - HT.sIx xs.length 0 lo)
/-- a slice of a list: a new list -/
def uSlL (te : TE2) (tl th : TO2) : TE2 := fun τ S Q => te τ S fun d S1 => tl τ S1 fun lo S2 => th τ S2 fun hi S3 => onS (listOf S3 d) fun xs => ∀ p, S3 p = none → Q (.ref p) (ups S3 p (.lst (cutD xs lo hi)))
/-- a slice of whatever -/
def slQ (d : D) (lo hi : Option Int) (S : Sto) (Q : VK2) : Prop := match d with
  | .tup xs => Q (.tup (cutD xs lo hi)) S
  | .str z => z.length ≤ sizeLine ∧ Q (.str (cutS z lo hi)) S
  | d => onS (listOf S d) fun xs => ∀ p, S p = none → Q (.ref p) (ups S p (.lst (cutD xs lo hi)))
def uSlG (te : TE2) (tl th : TO2) : TE2 := fun τ S Q => te τ S fun d S1 => tl τ S1 fun lo S2 => th τ S2 fun hi S3 => slQ d lo hi S3 Q
section
variable {X : Cx} {K : PySem.W.Frag} {pos p2 : Pos} {e : Expr} {lo hi : Option Expr} {te : TE2} {tl th : TO2}
theorem cut_dvs {H : Hp} {xs : List D} {vs : List V} {lo hi : Option Int} (r : Dvs K H xs vs) : Dvs K H (cutD xs lo hi) (cutV vs lo hi) := by
  unfold cutD cutV
  rw [r.length]
  exact (r.drop _).take _
theorem cutV_whole {α : Type} {vs : List V} {lo hi : Option Int} (h : HT.sIx vs.length 0 lo = 0 ∧ HT.sIx vs.length vs.length hi = vs.length) : cutV vs lo hi = vs := by
  unfold cutV
  rw [h.1, h.2]
  simp
theorem o_none : PO X none (dnO X.K uNoPart) := ⟨fun pins s σ H Q I ⟨τ, S, Q2, rl, rs, t, k⟩ => po_none.run pins s σ H Q I (k _ _ _ (.refl H) rs t)⟩
theorem o_some (h : QE X e te) : PO X (some e) (dnO X.K (uPart te)) := ⟨fun pins s σ H Q I ⟨τ, S, Q2, rl, rs, t, k⟩ => (po_some h).run pins s σ H Q I ⟨τ, S, _, rl, rs, t, fun d v S1 H1 g1 rs1 dv1 t1 => by
  cases d with
  | int i => cases dv1; exact ⟨i, rfl, k _ _ _ g1 rs1 t1⟩
  | _ => exact t1.elim⟩⟩
theorem q_slG (he : QE X e te) (hl : PO X lo (dnO X.K tl)) (hh : PO X hi (dnO X.K th)) : QE X (.Subscript e (.Slice lo hi none p2) pos) (uSlG te tl th) := PE.wk (pe_slice (sl_list.or (sl_tupA.or sl_str)) he hl hh) fun σ H Q ⟨τ, S, Q2, rl, rs, t, k⟩ =>
  ⟨τ, S, _, rl, rs, t, fun d v S1 H1 g1 rs1 dv1 t1 => ⟨τ, S1, _, rl.keep g1, rs1, t1, fun l S2 H2 g2 rs2 t2 => ⟨τ, S2, _, (rl.keep g1).keep g2, rs2, t2, fun u S3 H3 g3 rs3 t3 => by
    have dv3 := Dv.keep (g2.trans g3) _ _ dv1
    have gg := g1.trans (g2.trans g3)
    have lst : (onS (listOf S3 d) fun xs => ∀ p, S3 p = none → Q2 (.ref p) (ups S3 p (.lst (cutD xs l u)))) → ∃ p xs, v = .ref p ∧ SqL X.K H3 p xs ∧ ∀ p', H3 p' = none → Q (.ref p') (upd H3 p' (.lst (cutV xs l u))) := fun t => by
      obtain ⟨xs, h, q⟩ := onS_get t
      obtain ⟨p, vs, rfl, hq, r⟩ := list_sq rs3 dv3 h
      refine ⟨p, vs, rfl, hq, fun p' np => ?_⟩
      exact k _ _ _ _ (gg.trans (good_new np)) (rs3.new (o := .lst (cutD xs l u)) np ⟨_, upd_same, (cut_dvs r).new np⟩) (.ref p') (q p' (rs3.fresh np))
    unfold slQ at t3
    split at t3
    · cases dv3 with
      | tup h1 h2 =>
        refine .inr (.inl ⟨_, _, rfl, h1, fun hw => ?_, fun _ p np => ?_⟩)
        · exact k _ _ _ _ gg rs3 (.tup h1 (by have := cut_dvs (lo := l) (hi := u) h2; rwa [cutV_whole (α := D) hw] at this)) t3
        · exact k _ _ _ _ (gg.trans (good_new np)) (rs3.newT np) (.tup (SqT.of upd_same) ((cut_dvs h2).new np)) t3
    · cases dv3; exact .inr (.inr ⟨_, rfl, t3.1, k _ _ _ _ gg rs3 (.str _) t3.2⟩)
    · exact .inl (lst t3)⟩⟩⟩
end
/-! ### targets -/
abbrev TG2 := D → St2 → Sto → (St2 → Sto → Prop) → Prop
abbrev TGs2 := List D → St2 → Sto → (St2 → Sto → Prop) → Prop
/-- the slots beside tch stay -/
def Beside (tch : List Nat) (σ σ' : L2.St) : Prop := σ'.length = σ.length ∧ ∀ i : Nat, i ∉ tch → σ'[i]? = σ[i]?
def dnG (K : PySem.W.Frag) (tch : List Nat) (g : TG2) : TG := fun v σ H Q => ∃ d τ S Q2, Dv K H d v ∧ Rl K H τ σ ∧ RelS K S H ∧ g d τ S Q2 ∧ ∀ τ' S' σ' H', Good K H H' → Rl K H' τ' σ' → RelS K S' H' → Beside tch σ σ' → Q2 τ' S' → Q σ' H'
def dnGs (K : PySem.W.Frag) (tch : List Nat) (g : TGs2) : TGs := fun vs σ H Q => ∃ ds τ S Q2, Dvs K H ds vs ∧ Rl K H τ σ ∧ RelS K S H ∧ g ds τ S Q2 ∧ ∀ τ' S' σ' H', Good K H H' → Rl K H' τ' σ' → RelS K S' H' → Beside tch σ σ' → Q2 τ' S' → Q σ' H'
abbrev QG (X : Cx) (tch : List Nat) (tg : Expr) (g : TG2) : Prop := PG X tg (dnG X.K tch g)
abbrev QGs (X : Cx) (tch : List Nat) (tg : List Expr) (g : TGs2) : Prop := PGs X tg (dnGs X.K tch g)
theorem PG.wk {X : Cx} {e : Expr} {t t' : TG} (h : PG X e t) (w : ∀ v σ H Q, t' v σ H Q → t v σ H Q) : PG X e t' := ⟨fun pins s σ H v u Q I r q => h.run pins s σ H v u Q I r (w _ _ _ _ q)⟩
theorem PGs.wk {X : Cx} {e : List Expr} {t t' : TGs} (h : PGs X e t) (w : ∀ v σ H Q, t' v σ H Q → t v σ H Q) : PGs X e t' := ⟨fun pins s σ H v u Q I r q => h.run pins s σ H v u Q I r (w _ _ _ _ q)⟩
def vName (i : Nat) : TG2 := fun d τ S Q => Q (τ.set i (some d)) S
def vNil : TGs2 := fun ds τ S Q => match ds with
  | [] => Q τ S
  | _ => False
def vCons (g : TG2) (gs : TGs2) : TGs2 := fun ds τ S Q => match ds with
  | d :: r => g d τ S fun τ' S' => gs r τ' S' Q
  | [] => False
def vTup (n : Nat) (gs : TGs2) : TG2 := fun d τ S Q => match d with
  | .tup ds => ds.length = n ∧ gs ds τ S Q
  | _ => False
/-- o[i] = v, o a list -/
def setQ (d : D) : D → D → Sto → (Sto → Prop) → Prop
  | .ref a, .int k, S, Q => getO (S a) fun xs => onS (ixN xs.length k) fun j => Q (ups S a (.lst (xs.set j d)))
  | _, _, _, _ => False
def vSub (to ti : TE2) : TG2 := fun d τ S Q => to τ S fun o S1 => ti τ S1 fun i S2 => setQ d o i S2 fun S3 => Q τ S3
/-- o[k] = v, k written -/
def setkQ (k : Nat) (d : D) : D → Sto → (Sto → Prop) → Prop
  | .ref a, S, Q => getO (S a) fun xs => k < xs.length ∧ Q (ups S a (.lst (xs.set k d)))
  | _, _, _ => False
def vSubk (k : Nat) (to : TE2) : TG2 := fun d τ S Q => to τ S fun o S1 => setkQ k d o S1 fun S3 => Q τ S3
section
variable {X : Cx} {pos : Pos} {tch tch' : List Nat}
theorem Beside.set {i : Nat} {σ : L2.St} {v : V} : Beside [i] σ (σ.set i (some v)) := ⟨by simp, fun j h => List.getElem?_set_ne fun e => h (by simp [e])⟩
theorem Beside.refl {σ : L2.St} : Beside tch σ σ := ⟨rfl, fun _ _ => rfl⟩
theorem Beside.trans {σ σ1 σ2 : L2.St} (a : Beside tch σ σ1) (b : Beside tch' σ1 σ2) : Beside (tch ++ tch') σ σ2 := ⟨b.1.trans a.1, fun j h => (b.2 j fun z => h (List.mem_append_right _ z)).trans (a.2 j fun z => h (List.mem_append_left _ z))⟩
theorem g_name {i : Nat} {x : Str} (hN : X.N.Nodup) (hi : X.N[i]? = some x) (hx : Loc X.env.scope x) (hf : X.fn x = true ∨ X.env.scope.names.lookup x = some .local) : QG X [i] (.Name x pos) (vName i) := PG.wk (pg_name (pos := pos) hN hi hx hf) fun v σ H Q ⟨d, τ, S, Q2, dv, rl, rs, t, k⟩ =>
  k _ _ _ _ (.refl H) (rl.set i dv) rs .set t
theorem gs_nil : QGs X [] [] vNil := PGs.wk pgs_nil fun v σ H Q ⟨ds, τ, S, Q2, dvs, rl, rs, t, k⟩ => by
  cases dvs with
  | nil => exact ⟨rfl, k _ _ _ _ (.refl H) rl rs .refl t⟩
  | cons _ _ => exact t.elim
theorem gs_cons {e : Expr} {es : List Expr} {g : TG2} {gs : TGs2} (h1 : QG X tch e g) (h2 : QGs X tch' es gs) (hs : (assignEach (e :: es) X.env).map (·.2) = assign e X.env :: (assignEach es X.env).map (·.2) := by rfl) : QGs X (tch ++ tch') (e :: es) (vCons g gs) := PGs.wk (pgs_cons h1 h2 hs) fun v σ H Q ⟨ds, τ, S, Q2, dvs, rl, rs, t, k⟩ => by
  cases dvs with
  | nil => exact t.elim
  | cons d1 d2 =>
    refine ⟨_, _, rfl, _, τ, S, _, d1, rl, rs, t, fun τ1 S1 σ1 H1 g1 rl1 rs1 b1 t1 => ?_⟩
    exact ⟨_, τ1, S1, _, Dvs.keep g1 _ _ d2, rl1, rs1, t1, fun τ2 S2 σ2 H2 g2 rl2 rs2 b2 t2 => k _ _ _ _ (g1.trans g2) rl2 rs2 (b1.trans b2) t2⟩
theorem g_tup {es : List Expr} {kk n : Nat} {gs : TGs2} (hc : X.calm = true) (h : QGs X tch es gs) (hn : (assignEach es X.env).length = n := by rfl) (hst : (assignEach es X.env).findIdx? (·.1) = none := by rfl) : QG X tch (.Tuple es kk pos) (vTup n gs) := PG.wk (pg_tup (pos := pos) (k := kk) hc h hn hst) fun v σ H Q ⟨d, τ, S, Q2, dv, rl, rs, t, k⟩ => by
  cases dv with
  | tup h1 h2 =>
    obtain ⟨hl, t⟩ := t
    exact ⟨_, _, rfl, h1, by rw [← h2.length]; exact hl, _, τ, S, Q2, h2, rl, rs, t, k⟩
  | _ => exact t.elim
theorem setQ_ok {K : PySem.W.Frag} {S : Sto} {H : Hp} {d x y : D} {v vx vy : V} {R : Sto → Prop} {Q : Hp → Prop} (rs : RelS K S H) (dv : Dv K H d v) (dx : Dv K H x vx) (dy : Dv K H y vy) (t : setQ d x y S R)
    (k : ∀ S' H', Good K H H' → RelS K S' H' → R S' → Q H') : rSetL vx vy v H Q := by
  unfold setQ at t
  split at t
  · obtain ⟨xs, h, t⟩ := getO_get t
    obtain ⟨j, hj, q⟩ := onS_get t
    cases dx; cases dy
    obtain ⟨us, e, r⟩ := rs _ _ h
    refine ⟨_, us, _, j, rfl, rfl, e, by rw [← r.length]; exact hj, ?_⟩
    obtain ⟨g, r2⟩ := RelS.wl rs e (Dvs.set dv j r)
    exact k _ _ g r2 q
  · exact t.elim
theorem g_subk (n : Nat) {o : Expr} {to : TE2} {j : Nat} {p2 : Pos} (ho : QE X o to)
    (ha : ∀ v, assign (.Subscript o (.Constant (.int (n : Int)) j p2) pos) X.env v = (do
      let ov ← holding [v] (eval o X.env)
      let iv ← holding [v, ov] (eval (.Constant (.int (n : Int)) j p2) X.env)
      standAt pos
      holding [v, ov, iv] (setItem ov iv v)
      release [v, ov, iv] []) := by intro _; rfl) : QG X [] (.Subscript o (.Constant (.int (n : Int)) j p2) pos) (vSubk n to) := PG.wk (pg_sub ho pe_int set_list ha) fun v σ H Q ⟨d, τ, S, Q2, dv, rl, rs, t, k⟩ =>
  ⟨τ, S, _, rl, rs, t, fun x vx S1 H1 g1 rs1 dx t1 => by
    refine setQ_ok (d := d) (x := x) (y := .int n) (R := fun S3 => Q2 τ S3) rs1 (Dv.keep g1 _ _ dv) dx (.int _) ?_ fun S' H' g r2 q => k _ _ _ _ (g1.trans g) ((rl.keep g1).keep g) r2 .refl q
    cases x with
    | ref a =>
      obtain ⟨xs, h, hl, q⟩ := getO_get t1
      refine getO_of h (onS_of (x := n) ?_ q)
      unfold ixN
      rw [if_pos (Int.natCast_nonneg n), if_pos (by omega), Int.toNat_natCast]
    | _ => exact t1.elim⟩
end
/-! ### statements -/
def uNext : TS2 := fun D τ S => D.nx τ S
def uSeq (t u : TS2) : TS2 := fun D τ S => t { D with nx := u D } τ S
def uDrop (te : TE2) : TS2 := fun D τ S => te τ S fun _ S1 => D.nx τ S1
def uRet (te : TE2) : TS2 := fun D τ S => te τ S D.rt
def uRetN : TS2 := fun D τ S => D.rt .non S
def uIf (c : TT2) (t u : TS2) : TS2 := fun D τ S => c τ S fun b S1 => Cnd b (t D τ S1) (u D τ S1)
def uAsg (te : TE2) (g : TG2) : TS2 := fun D τ S => te τ S fun x S1 => g x τ S1 D.nx
def uSet (i : Nat) (te : TE2) : TS2 := fun D τ S => te τ S fun x S1 => D.nx (τ.set i (some x)) S1
def uPar (i j : Nat) (ta : TA2) : TS2 := fun D τ S => ta τ S fun ds S1 => match ds with
  | [d, e] => D.nx ((τ.set i (some d)).set j (some e)) S1
  | _ => False
def uBreak : TS2 := fun D τ S => D.bk τ S
def uCont : TS2 := fun D τ S => D.ct τ S
def uWhile (c : TT2) (tb : TS2) : TS2 := fun D τ S => ∃ W : Nat → St2 → Sto → Prop, (∃ m, W m τ S) ∧ ∀ m τ S, W m τ S →
  c τ S fun b S1 => Cnd b (tb { D with nx := fun τ' S' => ∃ m', m' < m ∧ W m' τ' S', ct := fun τ' S' => ∃ m', m' < m ∧ W m' τ' S', bk := D.nx } τ S1) (D.nx τ S1)
section
variable {X : Cx} {pos : Pos} {e : Expr} {es : List Expr} {te : TE2} {st : Stmt} {rest : List Stmt} {t u : TS2} {a b : List Stmt} {tc : TT2} {tch : List Nat}
theorem ss_nil : QSs X [] uNext := PSs.wk pss_nil fun D σ H ⟨τ, S, D2, rl, rs, t, k⟩ => k.nx _ _ _ _ (.refl H) rl rs t
theorem ss_cons (h1 : QS X st t) (h2 : QSs X rest u) : QSs X (st :: rest) (uSeq t u) := PSs.wk (pss_cons h1 h2) fun D σ H ⟨τ, S, D2, rl, rs, t, k⟩ =>
  ⟨τ, S, _, rl, rs, t, ⟨fun τ1 S1 σ1 H1 g1 rl1 rs1 t1 => ⟨τ1, S1, D2, rl1, rs1, t1, k.keep g1⟩, k.rt, k.bk, k.ct⟩⟩
theorem ss_one (h1 : QS X st t) : QSs X [st] t := pss_one h1
theorem s_expr (he : QE X e te) (hs : swapsWith e none pos.line X.env = pure false := by rfl) : QS X (.Expr e pos) (uDrop te) := PS.wk (ps_expr he hs) fun D σ H ⟨τ, S, D2, rl, rs, t, k⟩ =>
  ⟨τ, S, _, rl, rs, t, fun d v S1 H1 g1 rs1 dv1 t1 => k.nx _ _ _ _ g1 (rl.keep g1) rs1 t1⟩
theorem s_ret (he : QE X e te) : QS X (.Return (some e) pos) (uRet te) := PS.wk (ps_ret he) fun D σ H ⟨τ, S, D2, rl, rs, t, k⟩ => ⟨τ, S, _, rl, rs, t, fun d v S1 H1 g1 rs1 dv1 t1 => k.rt _ _ _ _ g1 rs1 dv1 t1⟩
theorem s_if {c : Expr} (hc : QT X c tc) (ha : QSs X a t) (hb : QSs X b u) : QS X (.If c a b pos) (uIf tc t u) := PS.wk (ps_if hc ha hb) fun D σ H ⟨τ, S, D2, rl, rs, t, k⟩ =>
  ⟨τ, S, _, rl, rs, t, fun b S1 H1 g1 rs1 t1 => by
    cases b with
    | true => rw [if_pos rfl]; exact ⟨τ, S1, D2, rl.keep g1, rs1, t1, k.keep g1⟩
    | false => rw [if_neg Bool.false_ne_true]; exact ⟨τ, S1, D2, rl.keep g1, rs1, t1, k.keep g1⟩⟩
theorem s_asg {tg : Expr} {g : TG2} (he : QE X e te) (hg : QG X tch tg g) (hs : swapsWithSole [tg] e pos.line X.env = pure false := by rfl) (hw : swappedStores [tg] e X.env = pure none := by rfl)
    (h1 : (assignEach [tg] X.env).map (·.2) = [assign tg X.env] := by rfl) : QS X (.Assign [tg] e pos) (uAsg te g) := PS.wk (ps_asg he hg hs hw h1) fun D σ H ⟨τ, S, D2, rl, rs, t, k⟩ =>
  ⟨τ, S, _, rl, rs, t, fun d v S1 H1 g1 rs1 dv1 t1 => ⟨d, τ, S1, _, dv1, rl.keep g1, rs1, t1, fun τ2 S2 σ2 H2 g2 rl2 rs2 _ t2 => k.nx _ _ _ _ (g1.trans g2) rl2 rs2 t2⟩⟩
theorem s_set (i : Nat) {x : Str} {pos' : Pos} (hN : X.N.Nodup) (hi : X.N[i]? = some x) (hx : Loc X.env.scope x) (hf : X.fn x = true ∨ X.env.scope.names.lookup x = some .local) (he : QE X e te) (hs : swapsWith e (some (.Name x pos')) pos.line X.env = pure false := by rfl) :
    QS X (.Assign [.Name x pos'] e pos) (uSet i te) := PS.wk (ps_set hN hi hx he hs hf) fun D σ H ⟨τ, S, D2, rl, rs, t, k⟩ =>
  ⟨τ, S, _, rl, rs, t, fun d v S1 H1 g1 rs1 dv1 t1 => k.nx _ _ _ _ g1 ((rl.keep g1).set i dv1) rs1 t1⟩
theorem s_par (i j : Nat) {x y : Str} {ea eb : Expr} {ta : TA2} {px py pt : Pos} {kt k2 pt2} (hc : X.calm = true) (hN : X.N.Nodup) (hi : X.N[i]? = some x) (hj : X.N[j]? = some y) (hij : i ≠ j)
    (hx : X.env.scope.names.lookup x = some .local) (hy : X.env.scope.names.lookup y = some .local) (ha : QA X [ea, eb] ta)
    (hw : swappedStores [.Tuple [.Name x px, .Name y py] kt pt] (.Tuple [ea, eb] k2 pt2) X.env = pure (some [x, y]))
    (hs : swapsWithSole [.Tuple [.Name x px, .Name y py] kt pt] (.Tuple [ea, eb] k2 pt2) pos.line X.env = pure false := by rfl) :
    QS X (.Assign [.Tuple [.Name x px, .Name y py] kt pt] (.Tuple [ea, eb] k2 pt2) pos) (uPar i j ta) := PS.wk (ps_par hc hN hi hj hij hx hy ha hw hs) fun D σ H ⟨τ, S, D2, rl, rs, t, k⟩ =>
  ⟨τ, S, _, rl, rs, t, fun ds vs S1 H1 g1 rs1 dvs t1 => by
    cases dvs with
    | nil => exact t1.elim
    | cons d1 r1 =>
      cases r1 with
      | nil => exact t1.elim
      | cons d2 r2 =>
        cases r2 with
        | nil => exact ⟨_, _, rfl, k.nx _ _ _ _ g1 (((rl.keep g1).set i d1).set j d2) rs1 t1⟩
        | cons _ _ => exact t1.elim⟩
theorem s_while {c : Expr} {body : List Stmt} {tb : TS2} (hp : PassesOwn (model X.prog X.w) X.A X.env X.xe) (hc : QT X c tc) (hb : QSs X body tb) : QS X (.While c body [] pos) (uWhile tc tb) := PS.wk (ps_while hp hc hb) fun D σ H ⟨τ, S, D2, rl, rs, ⟨W, ⟨m0, w0⟩, turn⟩, k⟩ => by
  refine ⟨fun m σ' H' => ∃ τ' S', Good X.K H H' ∧ Rl X.K H' τ' σ' ∧ RelS X.K S' H' ∧ W m τ' S', ⟨m0, τ, S, .refl H, rl, rs, w0⟩, ?_⟩
  rintro m σ1 H1 ⟨τ1, S1, g1, rl1, rs1, w1⟩
  refine ⟨τ1, S1, _, rl1, rs1, turn m τ1 S1 w1, fun b S2 H2 g2 rs2 t2 => ?_⟩
  cases b with
  | true =>
    rw [if_pos rfl]
    refine ⟨fun σ' H' => ∃ τ' S', Good X.K H H' ∧ Rl X.K H' τ' σ' ∧ RelS X.K S' H' ∧ ∃ m', m' < m ∧ W m' τ' S', fun σ' H' ⟨τ', S', g', rl', rs', n'⟩ => ?_, τ1, S2, _, rl1.keep g2, rs2, t2, ?_⟩
    · obtain ⟨m', hm, w'⟩ := n'
      exact ⟨m', hm, τ', S', g', rl', rs', w'⟩
    · exact ⟨fun τ' S' σ' H' g' rl' rs' n' => ⟨τ', S', (g1.trans g2).trans g', rl', rs', n'⟩, (k.keep (g1.trans g2)).rt, (k.keep (g1.trans g2)).nx, fun τ' S' σ' H' g' rl' rs' n' => ⟨τ', S', (g1.trans g2).trans g', rl', rs', n'⟩⟩
  | false =>
    rw [if_neg Bool.false_ne_true]
    exact k.nx _ _ _ _ (g1.trans g2) (rl1.keep g2) rs2 t2
end
end DL
namespace DL
open PySem PySem.Spec PyProof.Rows L2
/-! ### what is walked -/
structure Drv (K : PySem.W.Frag) (H0 : Hp) (J : It) (ds : List D) (stay : Sto → Prop) : Prop where
  step : ∀ i S H, Good K H0 H → RelS K S H → stay S → i < ds.length → J.go i H ∧ ∀ v H2, J.yld i H v H2 → Good K H H2 ∧ RelS K S H2 ∧ ∃ d, ds[i]? = some d ∧ Dv K H2 d v
  stop : ∀ i S H, Good K H0 H → RelS K S H → stay S → ds.length ≤ i → J.stop i H
  mono : ∀ S S', Sub S S' → stay S → stay S'
abbrev TI2 := St2 → Sto → (List D → (Sto → Prop) → Sto → Prop) → Prop
def dnI (K : PySem.W.Frag) (ti : TI2) : TI := fun σ H R => ∃ τ S R2, Rl K H τ σ ∧ RelS K S H ∧ ti τ S R2 ∧ ∀ ds stay S' H' J, Good K H H' → RelS K S' H' → Drv K H' J ds stay → R2 ds stay S' → R J H'
abbrev QI (X : Cx) (tg iter : Expr) (ti : TI2) : Prop := PI X tg iter (dnI X.K ti)
theorem PI.wk {X : Cx} {tg e : Expr} {t t' : TI} (h : PI X tg e t) (w : ∀ σ H R, t' σ H R → t σ H R) : PI X tg e t' := ⟨fun pins s σ H R I q => h.run pins s σ H R I (w _ _ _ q)⟩
/-- a list or a tuple, by its value -/
def iVal (K : PySem.W.Frag) (tl : TE) : TI := fun σ H R => tl σ H fun x H1 => ∃ a, x = .ref a ∧ (((∃ xs, SqL K H1 a xs) ∧ R (Itl K a) H1) ∨ ((∃ xs, SqT K H1 a xs) ∧ R (Itt K a) H1))
theorem pi_val {X : Cx} {tg l : Expr} {tl : TE} (hl : PE X l tl) : PI X tg l (iVal X.K tl) := by
  refine ⟨fun pins s σ H R I h => ?_⟩
  refine thn (hl.run pins s σ H _ I h) fun v s1 ⟨x, H1, I1, r1, q1⟩ => ?_
  obtain ⟨a, e, q1⟩ := q1
  subst e
  cases r1
  rcases q1 with ⟨⟨xs, hq⟩, q⟩ | ⟨⟨xs, hq⟩, q⟩
  · obtain ⟨its, rv, p, hz⟩ := I1.list hq
    refine wpAny_pyIter_list p.isList ?_
    refine ⟨s1.heap.objs.size, [s1.heap.objs.size], _, _, H1, rfl, I1.kept (t' := s1.toks) fun b o e => Heap.get?_push_of_some _ e, turn_list a _, ⟨_, Heap.get?_push_size _ rfl, rfl, rfl⟩, fun b hb => ?_, q⟩
    have e : b = s1.heap.objs.size := by simpa using hb
    subst e
    exact I1.fpOk (Nat.le_refl _) (I1.hok.fresh (Nat.le_refl _))
  · obtain ⟨its, rv, p, hz⟩ := I1.tuple hq
    refine wpAny_pyIter_tuple (show s1.heap.IsTuple a its.toArray from p) ?_
    refine ⟨s1.heap.objs.size, [s1.heap.objs.size], _, _, H1, rfl, I1.kept (t' := s1.toks) fun b o e => Heap.get?_push_of_some _ e, turn_tuple a _, ⟨_, Heap.get?_push_size _ rfl, rfl, rfl⟩, fun b hb => ?_, q⟩
    have e : b = s1.heap.objs.size := by simpa using hb
    subst e
    exact I1.fpOk (Nat.le_refl _) (I1.hok.fresh (Nat.le_refl _))
def stayT : Sto → Prop := fun _ => True
def stayL (a : Addr) (ds : List D) : Sto → Prop := fun S => S a = some (.lst ds)
def stay2 (s t : Sto → Prop) : Sto → Prop := fun S => s S ∧ t S
def itQ : D → Sto → (List D → (Sto → Prop) → Sto → Prop) → Prop
  | .ref a, S, R => getO (S a) fun ds => R ds (stayL a ds) S
  | .fl ds, S, R => R ds stayT S
  | .tup ds, S, R => R ds stayT S
  | _, _, _ => False
def uIt (tl : TE2) : TI2 := fun τ S R => tl τ S fun d S1 => itQ d S1 R
def rangeD (lo : Int) (n : Nat) : List D := (List.range n).map fun (i : Nat) => D.int (lo + (i : Int))
theorem rangeD_len (lo : Int) (n : Nat) : (rangeD lo n).length = n := by unfold rangeD; simp
theorem rangeD_get {lo : Int} {n i : Nat} (h : i < n) : (rangeD lo n)[i]? = some (.int (lo + (i : Int))) := by
  unfold rangeD; rw [List.getElem?_map, List.getElem?_range h]; rfl
theorem rangeD_at {lo : Int} {n i : Nat} {x : D} (h : (rangeD lo n)[i]? = some x) : i < n ∧ x = .int (lo + (i : Int)) := by
  have hi : i < n := by
    have := (List.getElem?_eq_some_iff.mp h).1
    rwa [rangeD_len] at this
  rw [rangeD_get hi] at h
  exact ⟨hi, (Option.some.inj h).symm⟩
def rngQ1 : List D → Sto → (List D → (Sto → Prop) → Sto → Prop) → Prop
  | [.int j], S, R => (-(2 ^ 62) ≤ j ∧ j < 2 ^ 62) ∧ R (rangeD 0 j.toNat) stayT S
  | _, _, _ => False
def uRng1 (ta : TA2) : TI2 := fun τ S R => ta τ S fun ds S1 => rngQ1 ds S1 R
def rngQ2 : List D → Sto → (List D → (Sto → Prop) → Sto → Prop) → Prop
  | [.int i, .int j], S, R => (-(2 ^ 62) ≤ i ∧ i < 2 ^ 62 ∧ -(2 ^ 62) ≤ j ∧ j < 2 ^ 62) ∧ R (rangeD i (j - i).toNat) stayT S
  | _, _, _ => False
def uRng2 (ta : TA2) : TI2 := fun τ S R => ta τ S fun ds S1 => rngQ2 ds S1 R
def enumD (n : Nat) : List D → List D
  | [] => []
  | d :: ds => .tup [.int (n : Int), d] :: enumD (n + 1) ds
theorem enumD_len : ∀ (ds : List D) (n : Nat), (enumD n ds).length = ds.length
  | [], _ => rfl
  | d :: ds, n => by show (enumD (n + 1) ds).length + 1 = _; rw [enumD_len ds (n + 1)]; rfl
theorem enumD_get : ∀ (ds : List D) (n i : Nat) (d : D), ds[i]? = some d → (enumD n ds)[i]? = some (.tup [.int ((n + i : Nat) : Int), d])
  | [], _, _, _, h => by simp at h
  | d :: ds, n, 0, e, h => by obtain rfl := Option.some.inj h; rfl
  | d :: ds, n, i + 1, e, h => by
    have := enumD_get ds (n + 1) i e h
    rw [show n + (i + 1) = n + 1 + i by omega]
    exact this
def enumQ : List D → Sto → (List D → (Sto → Prop) → Sto → Prop) → Prop
  | [.ref a], S, R => getO (S a) fun xs => R (enumD 0 xs) (stayL a xs) S
  | _, _, _ => False
def uEnum (ta : TA2) : TI2 := fun τ S R => ta τ S fun ds S1 => enumQ ds S1 R
def zipD (xs ys : List D) : List D := (xs.zip ys).map fun (p : D × D) => D.tup [p.1, p.2]
def zipQ : List D → Sto → (List D → (Sto → Prop) → Sto → Prop) → Prop
  | [.ref a, .ref b], S, R => getO (S a) fun xs => getO (S b) fun ys => R (zipD xs ys) (stay2 (stayL a xs) (stayL b ys)) S
  | _, _, _ => False
def uZip (ta : TA2) : TI2 := fun τ S R => ta τ S fun ds S1 => zipQ ds S1 R
section
variable {X : Cx} {K : PySem.W.Frag} {tg : Expr} {H0 : Hp}
theorem drv_list {a : Addr} {ds : List D} : Drv K H0 (Itl K a) ds (stayL a ds) where
  step := fun i S H g rs st hi => by
    obtain ⟨vs, e, r⟩ := rs _ _ (show S a = some (.lst ds) from st)
    obtain ⟨v, hv, rv⟩ := r.at (List.getElem?_eq_getElem hi)
    refine ⟨⟨vs, v, SqL.of e, hv⟩, fun x H2 y => ?_⟩
    obtain ⟨e1, y⟩ := y
    subst e1
    have := y vs (SqL.of e)
    rw [hv] at this
    obtain rfl := Option.some.inj this
    exact ⟨.refl _, rs, _, List.getElem?_eq_getElem hi, rv⟩
  stop := fun i S H g rs st hi => by
    obtain ⟨vs, e, r⟩ := rs _ _ (show S a = some (.lst ds) from st)
    exact ⟨vs, SqL.of e, by rw [← r.length]; exact hi⟩
  mono := fun S S' s st => s _ _ st
theorem drv_fl {a : Addr} {ds : List D} {vs : List V} (h : FrzL K H0 a vs) (r0 : Dvs K H0 ds vs) : Drv K H0 (Itl K a) ds stayT where
  step := fun i S H g rs st hi => by
    have r := Dvs.keep g _ _ r0
    have hq := (g.fz _ _ h).sq
    obtain ⟨v, hv, rv⟩ := r.at (List.getElem?_eq_getElem hi)
    refine ⟨⟨vs, v, hq, hv⟩, fun x H2 y => ?_⟩
    obtain ⟨e1, y⟩ := y
    subst e1
    have := y vs hq
    rw [hv] at this
    obtain rfl := Option.some.inj this
    exact ⟨.refl _, rs, _, List.getElem?_eq_getElem hi, rv⟩
  stop := fun i S H g rs st hi => ⟨vs, (g.fz _ _ h).sq, by rw [← r0.length]; exact hi⟩
  mono := fun _ _ _ st => st
theorem drv_tup {a : Addr} {ds : List D} {vs : List V} (h : SqT K H0 a vs) (r0 : Dvs K H0 ds vs) : Drv K H0 (Itt K a) ds stayT where
  step := fun i S H g rs st hi => by
    have r := Dvs.keep g _ _ r0
    have hq := g.tp _ _ h
    obtain ⟨v, hv, rv⟩ := r.at (List.getElem?_eq_getElem hi)
    refine ⟨⟨vs, v, hq, hv⟩, fun x H2 y => ?_⟩
    obtain ⟨e1, y⟩ := y
    subst e1
    have := y vs hq
    rw [hv] at this
    obtain rfl := Option.some.inj this
    exact ⟨.refl _, rs, _, List.getElem?_eq_getElem hi, rv⟩
  stop := fun i S H g rs st hi => ⟨vs, g.tp _ _ h, by rw [← r0.length]; exact hi⟩
  mono := fun _ _ _ st => st
theorem drv_range {lo : Int} {n : Nat} : Drv K H0 (Itr lo n) (rangeD lo n) stayT where
  step := fun i S H g rs st hi => by
    rw [rangeD_len] at hi
    refine ⟨hi, fun x H2 y => ?_⟩
    obtain ⟨e1, y⟩ := y
    subst e1 y
    exact ⟨.refl _, rs, _, rangeD_get hi, .int _⟩
  stop := fun i S H g rs st hi => by rw [rangeD_len] at hi; exact hi
  mono := fun _ _ _ st => st
theorem drv_enum {a : Addr} {ds : List D} : Drv K H0 (Ite K a) (enumD 0 ds) (stayL a ds) where
  step := fun i S H g rs st hi => by
    rw [enumD_len] at hi
    obtain ⟨vs, e, r⟩ := rs _ _ (show S a = some (.lst ds) from st)
    obtain ⟨v, hv, rv⟩ := r.at (List.getElem?_eq_getElem hi)
    refine ⟨⟨vs, v, SqL.of e, hv⟩, fun x H2 y => ?_⟩
    obtain ⟨T, z, rfl, nT, rfl, y⟩ := y
    have := y vs (SqL.of e)
    rw [hv] at this
    obtain rfl := Option.some.inj this
    refine ⟨good_new nT, rs.newT nT, _, enumD_get ds 0 i _ (List.getElem?_eq_getElem hi), .tup (SqT.of upd_same) ?_⟩
    rw [Nat.zero_add]
    exact .cons (.int _) (.cons (Dv.keep (good_new nT) _ _ rv) .nil)
  stop := fun i S H g rs st hi => by
    rw [enumD_len] at hi
    obtain ⟨vs, e, r⟩ := rs _ _ (show S a = some (.lst ds) from st)
    exact ⟨vs, SqL.of e, by rw [← r.length]; exact hi⟩
  mono := fun S S' s st => s _ _ st
variable {l a b : Expr} {tl : TE2} {ta : TA2} {p pos tpos : Pos} {elts : List Expr} {kk : Nat}
theorem i_val (hl : QE X l tl) : QI X tg l (uIt tl) := PI.wk (pi_val hl) fun σ H R ⟨τ, S, R2, rl, rs, t, k⟩ =>
  ⟨τ, S, _, rl, rs, t, fun d v S1 H1 g1 rs1 dv1 t1 => by
    cases d with
    | ref a =>
      obtain ⟨ds, h, q⟩ := getO_get t1
      cases dv1
      obtain ⟨vs, e, r⟩ := rs1 _ _ h
      exact ⟨a, rfl, .inl ⟨⟨vs, SqL.of e⟩, k _ _ _ _ _ g1 rs1 drv_list q⟩⟩
    | fl ds =>
      cases dv1 with
      | fl h1 h2 => exact ⟨_, rfl, .inl ⟨⟨_, h1.sq⟩, k _ _ _ _ _ g1 rs1 (drv_fl h1 h2) t1⟩⟩
    | tup ds =>
      cases dv1 with
      | tup h1 h2 => exact ⟨_, rfl, .inr ⟨⟨_, h1⟩, k _ _ _ _ _ g1 rs1 (drv_tup h1 h2) t1⟩⟩
    | _ => exact t1.elim⟩
theorem i_rng1 (hm : X.mg "range" = none) (hg : Gl X "range") (ha : QA X [a] ta) (hs : starEach [a] X.env = [(false, eval a X.env)] := by rfl) : QI X tg (.Call (.Name "range" p) [a] [] pos) (uRng1 ta) := PI.wk (pi_range1 hg hm ha hs) fun σ H R ⟨τ, S, R2, rl, rs, t, k⟩ =>
  ⟨τ, S, _, rl, rs, t, fun ds vs S1 H1 g1 rs1 dvs t1 => by
    unfold rngQ1 at t1
    split at t1
    · cases dvs with
      | cons h1 h2 =>
        cases h1; cases h2
        exact ⟨_, rfl, t1.1.1, t1.1.2, k _ _ _ _ _ g1 rs1 drv_range t1.2⟩
    · exact t1.elim⟩
theorem i_enum (hm : X.mg "enumerate" = none) (hg : Gl X "enumerate") (ha : QA X [a] ta) (hs : starEach [a] X.env = [(false, eval a X.env)] := by rfl) : QI X (.Tuple elts kk tpos) (.Call (.Name "enumerate" p) [a] [] pos) (uEnum ta) := PI.wk (pi_enum hg hm ha hs) fun σ H R ⟨τ, S, R2, rl, rs, t, k⟩ =>
  ⟨τ, S, _, rl, rs, t, fun ds vs S1 H1 g1 rs1 dvs t1 => by
    unfold enumQ at t1
    split at t1
    · obtain ⟨xs, h, q⟩ := getO_get t1
      cases dvs with
      | cons h1 h2 =>
        cases h1; cases h2
        obtain ⟨us, e, r⟩ := rs1 _ _ h
        exact ⟨_, us, rfl, SqL.of e, k _ _ _ _ _ g1 rs1 drv_enum q⟩
    · exact t1.elim⟩
end
/-! ### for -/
/-- a walk over so many things, by what stands ahead of each turn -/
def LoopP (stay : Sto → Prop) (g : TG2) (tb : TS2) (ds : List D) (D : Ends2) (τ : St2) (S : Sto) : Prop := ∃ W : Nat → St2 → Sto → Prop, W 0 τ S ∧ (∀ i τ S, i ≤ ds.length → W i τ S → stay S) ∧
  (∀ (i : Nat) (x : DL.D) (τ : St2) (S : Sto), ds[i]? = some x → W i τ S → g x τ S fun τ' S' => tb { D with nx := W (i + 1), ct := W (i + 1), bk := D.nx } τ' S') ∧ ∀ τ S, W ds.length τ S → D.nx τ S
def uFor (ti : TI2) (g : TG2) (tb : TS2) : TS2 := fun D τ S => ti τ S fun ds stay S1 => LoopP stay g tb ds D τ S1
section
variable {X : Cx} {pos : Pos} {tch : List Nat}
theorem s_for {tg iter : Expr} {body : List Stmt} {ti : TI2} {g : TG2} {tb : TS2} (hp : PassesOwn (model X.prog X.w) X.A X.env X.xe) (hc : X.calm = true) (hi : QI X tg iter ti) (hg : QG X tch tg g) (hb : QSs X body tb)
    (hs : ∀ x, foldedSetIterable iter X.env x = pure x := by intro _; rfl) : QS X (.For tg iter body [] pos) (uFor ti g tb) := PS.wk (ps_for hp hc hi hg hb hs) fun D σ H ⟨τ, S, D2, rl, rs, t, k⟩ => by
  refine ⟨τ, S, _, rl, rs, t, fun ds stay S1 H1 J g1 rs1 drv ⟨W, w0, hst, hstep, hend⟩ => ?_⟩
  refine ⟨fun i m σ' H' => m = ds.length - i ∧ i ≤ ds.length ∧ ∃ τ' S', Good X.K H1 H' ∧ Rl X.K H' τ' σ' ∧ RelS X.K S' H' ∧ W i τ' S', ⟨ds.length, by simp, Nat.zero_le _, τ, S1, .refl _, rl.keep g1, rs1, w0⟩, ?_⟩
  rintro i m σ2 H2 ⟨rfl, hi, τ2, S2, g2, rl2, rs2, w2⟩
  by_cases hlt : i < ds.length
  · obtain ⟨go, yl⟩ := drv.step i S2 H2 g2 rs2 (hst i τ2 S2 hi w2) hlt
    refine .inr ⟨go, fun σ' H' => ∃ τ' S', Good X.K H1 H' ∧ Rl X.K H' τ' σ' ∧ RelS X.K S' H' ∧ W (i + 1) τ' S', fun σ' H' h => ⟨ds.length - (i + 1), by omega, rfl, hlt, h⟩, fun x H3 y => ?_⟩
    obtain ⟨g3, rs3, d, hd, dv⟩ := yl x H3 y
    refine ⟨d, τ2, S2, _, dv, rl2.keep g3, rs3, hstep i d τ2 S2 hd w2, fun τ4 S4 σ4 H4 g4 rl4 rs4 _ t4 => ?_⟩
    refine ⟨τ4, S4, _, rl4, rs4, t4, ?_⟩
    have gg := (g2.trans g3).trans g4
    have kk := k.keep (g1.trans gg)
    exact ⟨fun τ' S' σ' H' g' rl' rs' n' => ⟨τ', S', gg.trans g', rl', rs', n'⟩, kk.rt, kk.nx, fun τ' S' σ' H' g' rl' rs' n' => ⟨τ', S', gg.trans g', rl', rs', n'⟩⟩
  · have e : i = ds.length := by omega
    subst e
    exact .inl ⟨drv.stop _ S2 H2 g2 rs2 (hst _ τ2 S2 hi w2) (Nat.le_refl _), k.nx _ _ _ _ (g1.trans g2) rl2 rs2 (hend τ2 S2 w2)⟩
end
/-! ### list comprehensions -/
def wipe2 (τ : St2) : List Nat → St2
  | [] => τ
  | v :: vs => (wipe2 τ vs).set v none
theorem wipe2_length (τ : St2) : ∀ vs : List Nat, (wipe2 τ vs).length = τ.length
  | [] => rfl
  | v :: vs => by unfold wipe2; rw [List.length_set, wipe2_length τ vs]
theorem wipe_out {σ : L2.St} {i : Nat} : ∀ {vs : List Nat}, i ∉ vs → (wipe σ vs)[i]? = σ[i]?
  | [], _ => rfl
  | v :: vs, h => by
    unfold wipe
    rw [List.getElem?_set_ne (fun e => h (by simp [e]))]
    exact wipe_out fun z => h (List.mem_cons_of_mem _ z)
theorem wipe_in {σ : L2.St} {i : Nat} : ∀ {vs : List Nat}, i ∈ vs → i < σ.length → (wipe σ vs)[i]? = some none
  | v :: vs, h, hl => by
    unfold wipe
    by_cases e : v = i
    · subst e; exact List.getElem?_set_self (by rw [wipe_length]; exact hl)
    · rw [List.getElem?_set_ne e]
      exact wipe_in (by rcases List.mem_cons.mp h with z | z; exact absurd z.symm e; exact z) hl
theorem wipe2_some {τ : St2} {i : Nat} {x : D} : ∀ {vs : List Nat}, (wipe2 τ vs)[i]? = some (some x) → τ[i]? = some (some x) ∧ i ∉ vs
  | [], h => ⟨h, by simp⟩
  | v :: vs, h => by
    unfold wipe2 at h
    by_cases hi : v = i
    · subst hi
      by_cases hv : v < (wipe2 τ vs).length
      · rw [List.getElem?_set_self hv] at h; cases h
      · rw [List.getElem?_eq_none (by simpa using hv)] at h; cases h
    · rw [List.getElem?_set_ne hi] at h
      obtain ⟨h1, h2⟩ := wipe2_some h
      exact ⟨h1, by simp only [List.mem_cons, not_or]; exact ⟨fun e => hi e.symm, h2⟩⟩
theorem Rl.wipe {K : PySem.W.Frag} {H : Hp} {τ : St2} {σ : L2.St} (h : Rl K H τ σ) (vs : List Nat) : Rl K H (wipe2 τ vs) (L2.wipe σ vs) := by
  refine ⟨by rw [wipe2_length, wipe_length, h.len], fun i d e => ?_⟩
  obtain ⟨e1, ni⟩ := wipe2_some e
  obtain ⟨v, e2, r⟩ := h.at_ i d e1
  exact ⟨v, (wipe_out ni).trans e2, r⟩
theorem wipe_beside {tch vs : List Nat} {σ σ2 : L2.St} (hs : ∀ i ∈ tch, i ∈ vs) (b : Beside tch (wipe σ vs) σ2) : wipe σ2 vs = wipe σ vs := by
  apply List.ext_getElem?
  intro i
  have hl : σ2.length = σ.length := b.1.trans (wipe_length σ vs)
  by_cases hi : i ∈ vs
  · by_cases hlt : i < σ.length
    · rw [wipe_in hi (by omega), wipe_in hi hlt]
    · rw [List.getElem?_eq_none (by rw [wipe_length]; omega), List.getElem?_eq_none (by rw [wipe_length]; omega)]
  · rw [wipe_out hi, b.2 i fun z => hi (hs i z)]
def uYes : TT2 := fun _ S Q => Q true S
/-- what a list made item by item asks -/
def LcP (stay : Sto → Prop) (g : TG2) (tt : TT2) (te : TE2) (vs : List Nat) (ds : List D) (τ : St2) (S1 : Sto) (Q : VK2) : Prop := ∀ A, S1 A = none → ∃ W : Nat → List D → Sto → Prop, W 0 [] (ups S1 A (.lst [])) ∧
  (∀ i acc S, i ≤ ds.length → W i acc S → stay S ∧ S A = some (.lst acc)) ∧
  (∀ (i : Nat) (x : D) (acc : List D) (S : Sto), ds[i]? = some x → W i acc S → g x (wipe2 τ vs) S fun τ2 S2 => tt τ2 S2 fun b S3 => Cnd b (te τ2 S3 fun y S4 => S4 A = some (.lst acc) ∧ acc.length < sizeLine ∧ W (i + 1) (acc ++ [y]) (ups S4 A (.lst (acc ++ [y])))) (W (i + 1) acc S3)) ∧
  ∀ acc S, W ds.length acc S → ∃ S0, Sub S0 S ∧ Q (.ref A) S0
def uLc (ti : TI2) (g : TG2) (tt : TT2) (te : TE2) (vs : List Nat) : TE2 := fun τ S Q => ti τ S fun ds stay S1 => LcP stay g tt te vs ds τ S1 Q
section
variable {X : Cx} {pos : Pos} {tch : List Nat}
theorem ts_nil {Y : Cx} {K : PySem.W.Frag} : PTs Y [] (dnT K uYes) := ⟨fun pins s σ H Q I ⟨τ, S, Q2, rl, rs, t, k⟩ => pts_nil.run pins s σ H Q I (k _ _ _ (.refl H) rs t)⟩
theorem lc_dn {K : PySem.W.Frag} {ti : TI2} {g : TG2} {tt : TT2} {te : TE2} {vs : List Nat} (hv : ∀ i ∈ tch, i ∈ vs) {σ : L2.St} {H : Hp} {Q : VK} : dn K (uLc ti g tt te vs) σ H Q → tLc (dnI K ti) (dnG K tch g) (dnT K tt) (dn K te) vs σ H Q := by
  rintro ⟨τ, S, Q2, rl, rs, t, k⟩
  refine ⟨τ, S, _, rl, rs, t, fun ds stay S1 H1 J g1 rs1 drv G A nA => ?_⟩
  have nS : S1 A = none := rs1.fresh nA
  obtain ⟨W, w0, hst, step, fin⟩ := G A nS
  have rlw := (rl.keep g1).wipe vs
  refine ⟨fun i m H' => m = ds.length - i ∧ i ≤ ds.length ∧ Good K H1 H' ∧ ∃ acc S', RelS K S' H' ∧ W i acc S', ⟨ds.length, by simp, Nat.zero_le _, good_new nA, [], _, rs1.new (o := .lst []) nA ⟨[], upd_same, .nil⟩, w0⟩, ?_⟩
  rintro i m H2 ⟨rfl, hi, g2, acc, S2, rs2, w2⟩
  obtain ⟨st2, sA⟩ := hst i acc S2 hi w2
  by_cases hlt : i < ds.length
  · obtain ⟨go, yl⟩ := drv.step i _ H2 g2 rs2 st2 hlt
    refine .inr ⟨go, fun H' => Good K H1 H' ∧ ∃ acc S', RelS K S' H' ∧ W (i + 1) acc S', fun H' h => ⟨ds.length - (i + 1), by omega, rfl, hlt, h⟩, fun x H3 y => ?_⟩
    obtain ⟨g3, rs3, d, hd, dv⟩ := yl x H3 y
    refine ⟨d, wipe2 τ vs, S2, _, dv, (rlw.keep (g2.trans g3)), rs3, step i d acc S2 hd w2, fun τ4 S4 σ4 H4 g4 rl4 rs4 b4 t4 => ?_⟩
    refine ⟨wipe_beside hv b4, τ4, S4, _, rl4, rs4, t4, fun b S5 H5 g5 rs5 t5 => ?_⟩
    cases b with
    | true =>
      rw [if_pos rfl]
      refine ⟨τ4, S5, _, rl4.keep g5, rs5, t5, fun z vz S6 H6 g6 rs6 dz t6 => ?_⟩
      obtain ⟨hA, hz, w6⟩ := t6
      obtain ⟨us, e, r⟩ := rs6 A _ hA
      obtain ⟨g8, rs8⟩ := RelS.wl rs6 e (r.append (.cons dz .nil))
      exact ⟨us, e, by rw [← r.length]; exact hz, ((((g2.trans g3).trans g4).trans g5).trans g6).trans g8, _, _, rs8, w6⟩
    | false =>
      rw [if_neg Bool.false_ne_true]
      exact ⟨(((g2.trans g3).trans g4).trans g5), acc, S5, rs5, t5⟩
  · have e : i = ds.length := by omega
    subst e
    obtain ⟨S0, sub, q⟩ := fin acc S2 w2
    exact .inl ⟨drv.stop _ _ H2 g2 rs2 st2 (Nat.le_refl _), k _ _ _ _ (g1.trans g2) (rs2.sub sub) (.ref A) q⟩
theorem q_lc (vs : List Nat) {elt tg iter : Expr} {ifs : List Expr} {scope : Scope} {own : List (Str × Nat)} {ti : TI2} {g : TG2} {tt : TT2} {te : TE2} (hc : X.calm = true) (hN : X.N.Nodup) (hi : QI X tg iter ti) (ok : BlkOk X.N X.env.scope scope own) (hvs : own.map (·.2) = vs) (hv : ∀ i ∈ tch, i ∈ vs)
    (hg : ∀ (s : Shared) (H : Hp) (C : Addr) (cl : List (Str × Addr)) (fp : List Addr), PG (X.blk s H scope (compEnvC scope cl C X.env) fp) tg (dnG X.K tch g)) (ht : ∀ (s : Shared) (H : Hp) (C : Addr) (cl : List (Str × Addr)) (fp : List Addr), PTs (X.blk s H scope (compEnvC scope cl C X.env) fp) ifs (dnT X.K tt))
    (he : ∀ (s : Shared) (H : Hp) (C : Addr) (cl : List (Str × Addr)) (fp : List Addr), PE (X.blk s H scope (compEnvC scope cl C X.env) fp) elt (dn X.K te)) (hs : ∀ x, foldedSetIterable iter X.env x = pure x := by intro _; rfl) :
    QE X (.ListComp elt [⟨tg, iter, ifs, 0⟩] scope pos) (uLc ti g tt te vs) := by
  subst hvs
  exact PE.wk (pe_lc hc hN hi ok hg ht he hs) fun σ H Q => lc_dn hv
theorem s_setLc (vs : List Nat) (i : Nat) {y : Str} {py : Pos} {elt tg iter : Expr} {ifs : List Expr} {scope : Scope} {own : List (Str × Nat)} {spos : Pos} {ti : TI2} {g : TG2} {tt : TT2} {te : TE2} (hc : X.calm = true) (hN : X.N.Nodup) (hy : X.N[i]? = some y) (hyl : X.env.scope.names.lookup y = some .local)
    (hsw : swapsWith (.ListComp elt [⟨tg, iter, ifs, 0⟩] scope pos) (some (.Name y py)) spos.line X.env = pure true) (hi : QI X tg iter ti) (ok : BlkOk X.N X.env.scope scope own) (hvs : own.map (·.2) = vs) (hv : ∀ i ∈ tch, i ∈ vs)
    (hg : ∀ (s : Shared) (H : Hp) (C : Addr) (cl : List (Str × Addr)) (fp : List Addr), PG (X.blk s H scope (compEnvC scope cl C X.env) fp) tg (dnG X.K tch g)) (ht : ∀ (s : Shared) (H : Hp) (C : Addr) (cl : List (Str × Addr)) (fp : List Addr), PTs (X.blk s H scope (compEnvC scope cl C X.env) fp) ifs (dnT X.K tt))
    (he : ∀ (s : Shared) (H : Hp) (C : Addr) (cl : List (Str × Addr)) (fp : List Addr), PE (X.blk s H scope (compEnvC scope cl C X.env) fp) elt (dn X.K te)) (hs : ∀ x, foldedSetIterable iter X.env x = pure x := by intro _; rfl) :
    QS X (.Assign [.Name y py] (.ListComp elt [⟨tg, iter, ifs, 0⟩] scope pos) spos) (uSet i (uLc ti g tt te vs)) := by
  subst hvs
  exact PS.wk (ps_setLc hc hN hy hyl hsw hi ok hg ht he hs) fun D σ H ⟨τ, S, D2, rl, rs, t, k⟩ =>
    lc_dn (Q := fun x H1 => D.nx (σ.set i (some x)) H1) hv ⟨τ, S, _, rl, rs, t, fun d v S1 H1 g1 rs1 dv1 t1 => k.nx _ _ _ _ g1 ((rl.keep g1).set i dv1) rs1 t1⟩
end
/-! ### functions -/
abbrev Sp2 := List D → Sto → VK2 → XK2 → Prop
/-- the field of an exception -/
def XFs (H : Hp) : Option Addr → Option (Str × Int) → Prop
  | none, none => True
  | some d, some (n, i) => H d = some (.xd [(n, .int i)])
  | _, _ => False
def dnSp (K : PySem.W.Frag) (sp : Sp2) : Sp := fun vs H Q E => ∃ ds S Q2 E2, Dvs K H ds vs ∧ RelS K S H ∧ sp ds S Q2 E2 ∧ (∀ d v S' H', Good K H H' → RelS K S' H' → Dv K H' d v → Q2 d S' → Q v H') ∧
  ∀ x dd f S' H', Good K H H' → RelS K S' H' → XFs H' dd f → E2 x f S' → E (.ref (cA K x)) dd H'
def uCall (sp : Sp2) (t : TA2) : TE2 := fun τ S Q => t τ S fun ds S1 => sp ds S1 Q fun _ _ _ => False
/-- a def of the module that raises nothing -/
structure Fn (P : Program) (w : World) (K : PySem.W.Frag) (mg : Str → Option Value) (base : Heap) (k : Nat) (x : Str) (sp : Sp2) : Prop where
  ex : ∃ f fd ps, FnOk P w K mg base CX0 k f fd ps (dnSp K sp) ∧ mg x = some (.ref f) ∧ PySem.W.keepIn K (.ref f) = true ∧ Binds K fd ps []
theorem Fn.mono {P : Program} {w : World} {K : PySem.W.Frag} {mg : Str → Option Value} {base : Heap} {j k : Nat} {x : Str} {sp : Sp2} (F : Fn P w K mg base j x sp) (h : j ≤ k) : Fn P w K mg base k x sp := by
  obtain ⟨f, fd, ps, h1, h2⟩ := F.ex
  exact ⟨f, fd, ps, h1.mono h, h2⟩
section
variable {X : Cx} {k : Nat} {x : Str} {sp : Sp2} {p pos : Pos} {e : Expr} {es : List Expr} {t : TA2}
theorem call_dn {K : PySem.W.Frag} {σ : L2.St} {H : Hp} {Q : VK} {E : XK} : dn K (uCall sp t) σ H Q → tCall (dnSp K sp) [] E (dnA K t) σ H Q := fun ⟨τ, S, Q2, rl, rs, t, k⟩ =>
  ⟨τ, S, _, rl, rs, t, fun ds vs S1 H1 g1 rs1 dvs t1 => by
    show dnSp K sp (vs ++ []) H1 Q E
    rw [List.append_nil]
    exact ⟨ds, S1, Q2, _, dvs, rs1, t1, fun d v S' H' g => k d v S' H' (g1.trans g), fun _ _ _ _ _ _ _ _ z => z.elim⟩⟩
theorem q_call (F : Fn X.prog X.w X.K X.mg X.base k x sp) (hr : Room k X.A) (hg : Gl X x) (ha : QA X (e :: es) t) (hdb : (x == ("__debug__" : Str)) = false := by decide) (he : starEach (e :: es) X.env = (false, eval e X.env) :: starEach es X.env := by rfl) (hpl : (backTo pos (starEach es X.env)).any (·.1) = false := by rfl) :
    QE X (.Call (.Name x p) (e :: es) [] pos) (uCall sp t) := by
  obtain ⟨f, fd, ps, F, hm, hk, hb⟩ := F.ex
  exact PE.wk (pe_call F hr hg hm hk hb .nil (pass0 (X := X)) ha hdb he hpl) fun σ H Q => call_dn
end
section
variable {P : Program} {w : World} {K : PySem.W.Frag} {mg : Str → Option Value} {base : Heap}
/-- THE RULE for a def -/
theorem fn_core {x : Str} {st : Stmt} {f : Addr} {fd : FuncData} {N ps : List Str} {k : Nat} {sp : Sp2} (F : Fun K x x st f fd) (S : FnScope N ps (defScope st)) (len : ∀ ds S Q E, sp ds S Q E → ds.length = ps.length)
    (hbody : ∀ (cdv : Value) (A : Around) (outer : List Env) (s : Shared) (H : Hp) (E : XK), Room k (A.deeper (envOfC x (defScope st) s.heap.objs.size f cdv)) →
      ∃ t, QSs (cxOf CX0 P w K mg base N x (defScope st) f cdv A outer s H E).nox (defBody st) t ∧ ∀ ds S Q E, sp ds S Q E → t { nx := fun _ S' => ∃ S0, Sub S0 S' ∧ Q .non S0, rt := fun d S' => ∃ S0, Sub S0 S' ∧ Q d S0 } (start2 N ds) S) : FnOk P w K mg base CX0 (k + 1) f fd ps (dnSp K sp) := by
  refine F.ok S (fun vs H Q E h => ?_) (fun cdv A outer s H vs Q E hr h => ?_)
  · obtain ⟨ds, S, Q2, E2, dvs, _, h, _⟩ := h
    rw [← dvs.length]
    exact len ds S Q2 E2 h
  · obtain ⟨t, ht, rd⟩ := hbody cdv A outer s H E hr
    obtain ⟨ds, S, Q2, E2, dvs, rs, h, k, _⟩ := h
    refine ⟨_, ht, start2 N ds, S, _, Rl.start dvs, rs, rd ds S Q2 E2 h, ?_⟩
    exact ⟨fun τ S' σ' H' g _ rs' ⟨S0, sub, q⟩ => k _ _ _ _ g (rs'.sub sub) .non q, fun d v S' H' g rs' dv ⟨S0, sub, q⟩ => k _ _ _ _ g (rs'.sub sub) dv q, fun _ _ _ _ _ _ _ z => z.elim, fun _ _ _ _ _ _ _ z => z.elim⟩
theorem fn_intro {x : Str} {st : Stmt} {f : Addr} {fd : FuncData} {N ps : List Str} {k : Nat} {sp : Sp2} (F : Fun K x x st f fd) (gm : mg x = some (.ref f)) (bd : Binds K fd ps []) (S : FnScope N ps (defScope st)) (len : ∀ ds S Q E, sp ds S Q E → ds.length = ps.length)
    (hbody : ∀ (cdv : Value) (A : Around) (outer : List Env) (s : Shared) (H : Hp) (E : XK), Room k (A.deeper (envOfC x (defScope st) s.heap.objs.size f cdv)) →
      ∃ t, QSs (cxOf CX0 P w K mg base N x (defScope st) f cdv A outer s H E).nox (defBody st) t ∧ ∀ ds S Q E, sp ds S Q E → t { nx := fun _ S' => ∃ S0, Sub S0 S' ∧ Q .non S0, rt := fun d S' => ∃ S0, Sub S0 S' ∧ Q d S0 } (start2 N ds) S) : Fn P w K mg base (k + 1) x sp :=
  ⟨f, fd, ps, fn_core F S len hbody, gm, F.kp, bd⟩
end
end DL
namespace DL
open PySem PySem.Spec PyProof.Rows L2
/-- code that the proof never comes to -/
def uNever : TS2 := fun _ _ _ => False
section
variable {X : Cx} {st : Stmt} {pos : Pos} {a b c : Expr} {ta tb tc : TE2} {tt : TT2}
theorem ts_one {Y : Cx} {K : PySem.W.Frag} {e : Expr} (h : PT Y e (dnT K tt)) : PTs Y [e] (dnT K tt) := pts_one h
theorem q_powk {i j : Int} (v : Int) (h : 0 ≤ j ∧ j ≤ 1000000 ∧ i.natAbs < 2 ^ 64) (e : i ^ j.toNat = v) {n1 n2 : Nat} {p1 p2 : Pos} : QE X (.BinOp (.Constant (.int i) n1 p1) .Pow (.Constant (.int j) n2 p2) pos) (uC (.int v)) :=
  PE.wk (q_pow (pos := pos) q_int q_int) fun σ H Q ⟨τ, S, Q2, rl, rs, t, k⟩ => ⟨τ, S, Q2, rl, rs, ⟨h, by rw [e]; exact t⟩, k⟩
end
/-- a def of the module as it stands -/
structure FunAt (K : PySem.W.Frag) (mg : Str → Option Value) (x : Str) (st : Stmt) (ps : List Str) : Prop where
  ex : ∃ f fd, Fun K x x st f fd ∧ mg x = some (.ref f) ∧ Binds K fd ps []
section
variable {P : Program} {w : World} {K : PySem.W.Frag} {mg : Str → Option Value} {base : Heap}
theorem fn_intro2 {x : Str} {st : Stmt} {N ps : List Str} {k : Nat} {sp : Sp2} (FA : FunAt K mg x st ps) (S : FnScope N ps (defScope st)) (len : ∀ ds S Q E, sp ds S Q E → ds.length = ps.length)
    (hbody : ∀ (cdv : Value) (A : Around) (outer : List Env) (s : Shared) (H : Hp) (E : XK) (f : Addr), Room k (A.deeper (envOfC x (defScope st) s.heap.objs.size f cdv)) →
      ∃ t, QSs (cxOf CX0 P w K mg base N x (defScope st) f cdv A outer s H E).nox (defBody st) t ∧ ∀ ds S Q E, sp ds S Q E → t { nx := fun _ S' => ∃ S0, Sub S0 S' ∧ Q .non S0, rt := fun d S' => ∃ S0, Sub S0 S' ∧ Q d S0 } (start2 N ds) S) : Fn P w K mg base (k + 1) x sp := by
  obtain ⟨f, fd, F, gm, bd⟩ := FA.ex
  exact fn_intro F gm bd S len fun cdv A outer s H E hr => hbody cdv A outer s H E f hr
/-! ### the end: what the top has written, and the law's own def -/
theorem fun_at {h : Heap} {x : Str} {st : Stmt} {ps : List Str} {f : Addr} {oc : Value} {od an : Option Addr} {osl : Array (Option Value)} {kV doc pm cdv ct : Value} (X : K.In h) (G : h.Ns mainGlobals mg)
    (a : PySem.W.nsIn K mainGlobals x = some (some (.ref f))) (l : K.lookup f = some ⟨oc, od, .func (PySem.W.fnOf x x (defArgs st) (defBody st) (defScope st) .none kV doc pm an cdv ct), osl⟩) (c : PySem.W.codeIn K cdv x = true) (k : PySem.W.keepIn K (.ref f) = true)
    (hb : ∀ (kV doc pm : Value) (an : Option Addr) (cdv ct : Value) (us : List Value), us.length = ps.length → bindArgs (PySem.W.fnOf x x (defArgs st) (defBody st) (defScope st) .none kV doc pm an cdv ct) ⟨us, []⟩ = pure (ps.zip us)) : FunAt K mg x st ps :=
  ⟨f, _, fun_mk l c k, PySem.W.mg_of X G a, (fun_mk l c k).binds hb⟩
end
/-! ### constants of the module -/
structure ConAt (K : PySem.W.Frag) (mg : Str → Option Value) (x : Str) (d : D) : Prop where
  ex : ∃ v u, mg x = some u ∧ RelV v u ∧ ∀ H, Dv K H d v
section
variable {X : Cx} {x : Str} {d : D} {pos : Pos}
theorem q_con (C : ConAt X.K X.mg x d) (hg : Gl X x) (hdb : (x == ("__debug__" : Str)) = false := by decide) : QE X (.Name x pos) (uC d) := by
  obtain ⟨v, u, hm, r, dv⟩ := C.ex
  exact q_const (pe_glob hg hm r hdb) dv
variable {K : PySem.W.Frag} {mg : Str → Option Value} {h : Heap}
end
end DL
namespace DL
open PySem PySem.Spec PyProof.Rows L2
/-! ### what the readings are worth, case by case -/
section
variable {S : Sto} {Q : VK2} {i j : Int} {x y : Str} {a b : Addr} {d e : DL.D} {xs ys : List DL.D} {k n : Nat} {p q : Bool} {z : Str}
theorem z_getO {f : List DL.D → Prop} : getO (some (.lst xs)) f = f xs := rfl
theorem z_onS {α : Type} {v : α} {f : α → Prop} : onS (some v) f = f v := rfl
theorem z_addI : rAdd (.int i) (.int j) S Q = Q (.int (i + j)) S := rfl
theorem z_addS : rAdd (.str x) (.str y) S Q = (x.length + y.length ≤ sizeLine ∧ Q (.str (x ++ y)) S) := rfl
theorem z_addL : rAdd (.ref a) (.ref b) S Q = getO (S a) fun xs => getO (S b) fun ys => xs.length + ys.length ≤ sizeLine ∧ ∀ p, S p = none → Q (.ref p) (ups S p (.lst (xs ++ ys))) := rfl
theorem z_addT : rAdd (.tup xs) (.tup ys) S Q = (xs.length + ys.length ≤ sizeLine ∧ Q (.tup (xs ++ ys)) S) := rfl
theorem z_slT {lo hi : Option Int} : slQ (.tup xs) lo hi S Q = Q (.tup (cutD xs lo hi)) S := rfl
theorem z_slS {lo hi : Option Int} : slQ (.str z) lo hi S Q = (z.length ≤ sizeLine ∧ Q (.str (cutS z lo hi)) S) := rfl
theorem z_slR {lo hi : Option Int} : slQ (.ref a) lo hi S Q = onS (listOf S (.ref a)) fun xs => ∀ p, S p = none → Q (.ref p) (ups S p (.lst (cutD xs lo hi))) := rfl
theorem z_slF {lo hi : Option Int} : slQ (.fl xs) lo hi S Q = onS (listOf S (.fl xs)) fun xs => ∀ p, S p = none → Q (.ref p) (ups S p (.lst (cutD xs lo hi))) := rfl
theorem z_sub : rSub (.int i) (.int j) S Q = Q (.int (i - j)) S := rfl
theorem z_mul : rMul (.int i) (.int j) S Q = (MulOk i j ∧ Q (.int (i * j)) S) := rfl
theorem z_mulL : rMul (.ref a) (.int i) S Q = getO (S a) fun xs => (0 ≤ i ∧ i ≤ 1000 ∧ xs.length ≤ 1000) ∧ ∀ p, S p = none → Q (.ref p) (ups S p (.lst (List.replicate i.toNat xs).flatten)) := rfl
theorem z_mod : rMod (.int i) (.int j) S Q = (j ≠ 0 ∧ Q (.int (i.fmod j)) S) := rfl
theorem z_fdiv : rFdiv (.int i) (.int j) S Q = (DivOk j ∧ Q (.int (i.fdiv j)) S) := rfl
theorem z_pow : rPow (.int i) (.int j) S Q = ((0 ≤ j ∧ j ≤ 1000000 ∧ i.natAbs < 2 ^ 64) ∧ Q (.int (i ^ j.toNat)) S) := rfl
theorem z_lt : rLt (.int i) (.int j) S Q = Q (.bl (decide (i < j))) S := rfl
theorem z_le : rLe (.int i) (.int j) S Q = Q (.bl (decide (i ≤ j))) S := rfl
theorem z_gt : rGt (.int i) (.int j) S Q = Q (.bl (decide (j < i))) S := rfl
theorem z_ge : rGe (.int i) (.int j) S Q = Q (.bl (decide (j ≤ i))) S := rfl
theorem z_isN : rIs d .non S Q = Q (.bl (isNon d)) S := by cases d <;> rfl
theorem z_isB : rIs (.bl p) (.bl q) S Q = Q (.bl (decide (p = q))) S := rfl
theorem z_isnN : rIsNot d .non S Q = Q (.bl (!isNon d)) S := by cases d <;> rfl
theorem z_isnB : rIsNot (.bl p) (.bl q) S Q = Q (.bl (!decide (p = q))) S := rfl
theorem z_nonN : isNon .non = true := rfl
theorem z_nonI : isNon (.int i) = false := rfl
theorem z_nonB : isNon (.bl p) = false := rfl
theorem z_nonS : isNon (.str x) = false := rfl
theorem z_nonT : isNon (.tup xs) = false := rfl
theorem z_nonR : isNon (.ref a) = false := rfl
theorem z_nonF : isNon (.fl xs) = false := rfl
theorem z_eqI : rEq (.int i) (.int j) S Q = Q (.bl (decide (i = j))) S := rfl
theorem z_eqB : rEq (.bl p) (.bl q) S Q = Q (.bl (decide (p = q))) S := rfl
theorem z_eqS : rEq (.str x) (.str y) S Q = Q (.bl (decide (x = y))) S := rfl
theorem z_neI : rNe (.int i) (.int j) S Q = Q (.bl (!decide (i = j))) S := rfl
theorem z_neB : rNe (.bl p) (.bl q) S Q = Q (.bl (!decide (p = q))) S := rfl
theorem z_neS : rNe (.str x) (.str y) S Q = Q (.bl (!decide (x = y))) S := rfl
theorem z_ixT : ixkQ k (.tup xs) S Q = nthQ xs k fun x => Q x S := rfl
theorem z_ixF : ixkQ k (.fl xs) S Q = nthQ xs k fun x => Q x S := rfl
theorem z_ixR : ixkQ k (.ref a) S Q = getO (S a) fun xs => nthQ xs k fun x => Q x S := rfl
theorem z_ixS : ixkQ k (.str z) S Q = (z.length ≤ sizeLine ∧ onS z.cps.toList[k]? fun c => Q (.str ⟨#[c]⟩) S) := rfl
theorem z_ixg : rIxg d (.int i) S Q = ixgQ i d S Q := by cases d <;> rfl
theorem z_igT : ixgQ i (.tup xs) S Q = onS (atI xs i) fun x => Q x S := rfl
theorem z_igF : ixgQ i (.fl xs) S Q = onS (atI xs i) fun x => Q x S := rfl
theorem z_igR : ixgQ i (.ref a) S Q = getO (S a) fun xs => onS (atI xs i) fun x => Q x S := rfl
theorem z_igS : ixgQ i (.str z) S Q = (z.length ≤ sizeLine ∧ onS (atI z.cps.toList i) fun c => Q (.str ⟨#[c]⟩) S) := rfl
theorem z_lenS : rLen [.str z] S Q = (z.length ≤ sizeLine ∧ Q (.int z.length) S) := rfl
theorem z_lenT : rLen [.tup xs] S Q = Q (.int xs.length) S := rfl
theorem z_lenF : rLen [.fl xs] S Q = Q (.int xs.length) S := rfl
theorem z_lenR : rLen [.ref a] S Q = getO (S a) fun xs => Q (.int xs.length) S := rfl
theorem z_abs : rAbs [.int i] S Q = Q (.int (if i < 0 then -i else i)) S := rfl
theorem z_max : rMax2 [.int i, .int j] S Q = Q (.int (if j > i then j else i)) S := rfl
theorem z_min : rMin2 [.int i, .int j] S Q = Q (.int (if j < i then j else i)) S := rfl
theorem z_intI : rInt1 [.int i] S Q = Q (.int i) S := rfl
theorem z_intB : rInt1 [.bl p] S Q = Q (.int (if p then 1 else 0)) S := rfl
theorem z_listT : rListOf [.tup xs] S Q = ∀ p, S p = none → Q (.ref p) (ups S p (.lst xs)) := rfl
theorem z_listF : rListOf [.fl xs] S Q = ∀ p, S p = none → Q (.ref p) (ups S p (.lst xs)) := rfl
theorem z_listR : rListOf [.ref a] S Q = getO (S a) fun xs => ∀ p, S p = none → Q (.ref p) (ups S p (.lst xs)) := rfl
theorem z_tupT : rTupleOf [.tup xs] S Q = Q (.tup xs) S := rfl
theorem z_tupF : rTupleOf [.fl xs] S Q = Q (.tup xs) S := rfl
theorem z_tupR : rTupleOf [.ref a] S Q = getO (S a) fun xs => Q (.tup xs) S := rfl
theorem z_any : rAny2 [d] S Q = ∃ bs : List Bool, listOf S d = some (bs.map DL.D.bl) ∧ Q (.bl (bs.any fun b => b)) S := rfl
theorem z_all : rAll2 [d] S Q = ∃ bs : List Bool, listOf S d = some (bs.map DL.D.bl) ∧ Q (.bl (bs.all fun b => b)) S := rfl
theorem z_sorted : rSorted2 [d] S Q = ∃ ns : List Int, listOf S d = some (ns.map DL.D.int) ∧ ns.length < 64 ∧ ∀ ms : List Int, ms.Perm ns → ms.Pairwise (· ≤ ·) → ∀ p, S p = none → Q (.ref p) (ups S p (.lst (ms.map DL.D.int))) := rfl
theorem z_tyN : tyOf S .non = some .non := rfl
theorem z_tyB : tyOf S (.bl p) = some .bool := rfl
theorem z_tyI : tyOf S (.int i) = some .int := rfl
theorem z_tyS : tyOf S (.str x) = some .str := rfl
theorem z_tyT : tyOf S (.tup xs) = some .tup := rfl
theorem z_tyF : tyOf S (.fl xs) = some .lst := rfl
theorem z_tyR : tyOf S (.ref a) = tyO (S a) := rfl
theorem z_tyL : tyO (some (.lst xs)) = some .lst := rfl
theorem z_tyD {kvs : List (Key × DL.D)} : tyO (some (.dic kvs)) = some .dic := rfl
theorem z_isiII : isiT .int .int = true := rfl
theorem z_isiBI : isiT .bool .int = true := rfl
theorem z_isiBB : isiT .bool .bool = true := rfl
theorem z_isiIB : isiT .int .bool = false := rfl
theorem z_isiTT : isiT .tup .tup = true := rfl
theorem z_isiLL : isiT .lst .lst = true := rfl
theorem z_isiSS : isiT .str .str = true := rfl
theorem z_isiNI : isiT .non .int = false := rfl
theorem z_isiNB : isiT .non .bool = false := rfl
theorem z_isiNT : isiT .non .tup = false := rfl
theorem z_isiNL : isiT .non .lst = false := rfl
theorem z_cndT {A B : Prop} : Cnd true A B = A := rfl
theorem z_cndF {A B : Prop} : Cnd false A B = B := rfl
theorem z_app : rAppend2 (.ref a) [d] S Q = getO (S a) fun xs => xs.length < sizeLine ∧ Q .non (ups S a (.lst (xs ++ [d]))) := rfl
theorem z_ins : rInsert2 (.ref a) [.int i, d] S Q = getO (S a) fun xs => xs.length < sizeLine ∧ (0 ≤ i ∧ i < 2 ^ 63) ∧ Q .non (ups S a (.lst (xs.take i.toNat ++ [d] ++ xs.drop i.toNat))) := rfl
theorem z_pop0 : rPop0 (.ref a) [] S Q = getO (S a) fun xs => onS xs[xs.length - 1]? fun y => Q y (ups S a (.lst xs.dropLast)) := rfl
theorem z_popAt : rPopAt2 (.ref a) [.int i] S Q = getO (S a) fun xs => (-(2 ^ 63) ≤ i ∧ i < 2 ^ 63) ∧ onS (seqIndex? i xs.length) fun k => onS xs[k]? fun y => Q y (ups S a (.lst (xs.eraseIdx k))) := rfl
theorem z_rev : rReverse2 (.ref a) [] S Q = getO (S a) fun xs => Q .non (ups S a (.lst xs.reverse)) := rfl
theorem z_clear : rClear2 (.ref a) [] S Q = getO (S a) fun xs => Q .non (ups S a (.lst [])) := rfl
theorem z_setQ {R : Sto → Prop} : setQ d (.ref a) (.int i) S R = getO (S a) fun xs => onS (ixN xs.length i) fun j => R (ups S a (.lst (xs.set j d))) := rfl
theorem z_setkQ {R : Sto → Prop} : setkQ k d (.ref a) S R = getO (S a) fun xs => k < xs.length ∧ R (ups S a (.lst (xs.set k d))) := rfl
theorem z_isLR : isL S (.ref a) = ∃ xs, S a = some (.lst xs) := rfl
theorem z_isLF : isL S (.fl xs) = True := rfl
theorem z_listOfF : listOf S (.fl xs) = some xs := rfl
theorem z_itR {R : List DL.D → (Sto → Prop) → Sto → Prop} : itQ (.ref a) S R = getO (S a) fun ds => R ds (stayL a ds) S := rfl
theorem z_itF {R : List DL.D → (Sto → Prop) → Sto → Prop} : itQ (.fl xs) S R = R xs stayT S := rfl
theorem z_itT {R : List DL.D → (Sto → Prop) → Sto → Prop} : itQ (.tup xs) S R = R xs stayT S := rfl
theorem z_rng1 {R : List DL.D → (Sto → Prop) → Sto → Prop} : rngQ1 [.int j] S R = ((-(2 ^ 62) ≤ j ∧ j < 2 ^ 62) ∧ R (rangeD 0 j.toNat) stayT S) := rfl
theorem z_rng2 {R : List DL.D → (Sto → Prop) → Sto → Prop} : rngQ2 [.int i, .int j] S R = ((-(2 ^ 62) ≤ i ∧ i < 2 ^ 62 ∧ -(2 ^ 62) ≤ j ∧ j < 2 ^ 62) ∧ R (rangeD i (j - i).toNat) stayT S) := rfl
theorem z_enum {R : List DL.D → (Sto → Prop) → Sto → Prop} : enumQ [.ref a] S R = getO (S a) fun xs => R (enumD 0 xs) (stayL a xs) S := rfl
theorem z_zip {R : List DL.D → (Sto → Prop) → Sto → Prop} : zipQ [.ref a, .ref b] S R = getO (S a) fun xs => getO (S b) fun ys => R (zipD xs ys) (stay2 (stayL a xs) (stayL b ys)) S := rfl
end
/-! ### walks -/
/-- turn by turn, written out -/
def uLoop (stay : Sto → Prop) (g : TG2) (tb : TS2) : List DL.D → Ends2 → St2 → Sto → Prop
  | [], E, τ, S => stay S ∧ E.nx τ S
  | x :: xs, E, τ, S => stay S ∧ g x τ S fun τ' S' => tb { E with nx := uLoop stay g tb xs E, ct := uLoop stay g tb xs E, bk := E.nx } τ' S'
section
variable {stay : Sto → Prop} {g : TG2} {tb : TS2} {E : Ends2} {τ : St2} {S : Sto}
theorem loop_range {lo : Int} {n : Nat} (W : Nat → St2 → Sto → Prop) (h0 : W 0 τ S) (hstay : ∀ i τ S, i ≤ n → W i τ S → stay S)
    (hstep : ∀ i τ S, i < n → W i τ S → g (.int (lo + (i : Int))) τ S fun τ' S' => tb { E with nx := W (i + 1), ct := W (i + 1), bk := E.nx } τ' S')
    (hend : ∀ τ S, W n τ S → E.nx τ S) : LoopP stay g tb (rangeD lo n) E τ S := by
  refine ⟨W, h0, fun i τ S hi w => hstay i τ S (by rwa [rangeD_len] at hi) w, fun i x τ S hx w => ?_, fun τ S w => hend τ S (by rwa [rangeD_len] at w)⟩
  obtain ⟨hi, rfl⟩ := rangeD_at hx
  exact hstep i τ S hi w
/-- by what is done -/
theorem lc_inv {α : Type} {e : α → DL.D} {xs : List α} {tt : TT2} {te : TE2} {vs : List Nat} {Q : VK2}
    (h : ∀ A, S A = none → ∃ W : List α → List DL.D → Sto → Prop, W [] [] (ups S A (.lst [])) ∧ (∀ d r acc S, d ++ r = xs → W d acc S → stay S ∧ S A = some (.lst acc)) ∧
      (∀ d x r acc S, d ++ x :: r = xs → W d acc S → g (e x) (wipe2 τ vs) S fun τ2 S2 => tt τ2 S2 fun b S3 => Cnd b (te τ2 S3 fun y S4 => S4 A = some (.lst acc) ∧ acc.length < sizeLine ∧ W (d ++ [x]) (acc ++ [y]) (ups S4 A (.lst (acc ++ [y])))) (W (d ++ [x]) acc S3)) ∧
      ∀ acc S, W xs acc S → ∃ S0, Sub S0 S ∧ Q (.ref A) S0) : LcP stay g tt te vs (xs.map e) τ S Q := fun A nA => by
  obtain ⟨W, w0, hst, hstep, hend⟩ := h A nA
  refine ⟨fun i => W (xs.take i), w0, fun i acc S _ w => hst _ (xs.drop i) acc S (List.take_append_drop i xs) w, fun i x acc S hx w => ?_, fun acc S w => hend acc S ?_⟩
  · rw [List.getElem?_map] at hx
    cases q : xs[i]? with
    | none => rw [q] at hx; cases hx
    | some y =>
      rw [q] at hx
      obtain rfl := Option.some.inj hx
      obtain ⟨hlt, rfl⟩ := List.getElem?_eq_some_iff.mp q
      have := hstep (xs.take i) (xs[i]) (xs.drop (i + 1)) acc S (by rw [← List.drop_eq_getElem_cons hlt]; exact List.take_append_drop i xs) w
      rwa [show xs.take i ++ [xs[i]] = xs.take (i + 1) by rw [List.take_append_getElem]] at this
  · rwa [List.length_map, List.take_length] at w
/-- a list made item by item, what is old stays -/
theorem lc_map {α : Type} {e : α → DL.D} {xs : List α} {tt : TT2} {te : TE2} {vs : List Nat} {Q : VK2} (f : α → Option DL.D) (hl : xs.length < 1000) (hst : ∀ S', Sub S S' → stay S')
    (hstep : ∀ x ∈ xs, ∀ S', Sub S S' → ∀ (N : Sto → Prop) (Y : DL.D → Sto → Prop), (f x = none → ∀ S2, Sub S' S2 → N S2) → (∀ y, f x = some y → ∀ S2, Sub S' S2 → Y y S2) →
      g (e x) (wipe2 τ vs) S' fun τ2 S2 => tt τ2 S2 fun b S3 => Cnd b (te τ2 S3 fun y S4 => Y y S4) (N S3))
    (hend : ∀ p, S p = none → Q (.ref p) (ups S p (.lst (xs.filterMap f)))) : LcP stay g tt te vs (xs.map e) τ S Q := by
  refine lc_inv fun A nA => ⟨fun d acc S' => acc = d.filterMap f ∧ Sub S S' ∧ S' A = some (.lst acc), ⟨rfl, (Sub.refl S).new nA, ups_same⟩, fun d r acc S' _ ⟨_, sub, hA⟩ => ⟨hst S' sub, hA⟩, ?_, ?_⟩
  · rintro d x r acc S' e ⟨rfl, sub, hA⟩
    have hx : x ∈ xs := by rw [← e]; simp
    have hd : d.length < 1000 := by have := congrArg List.length e; simp only [List.length_append, List.length_cons] at this; omega
    refine hstep x hx S' sub _ _ (fun hn S2 s2 => ⟨?_, sub.trans s2, s2 _ _ hA⟩) (fun y hy S2 s2 => ⟨s2 _ _ hA, small1000 (Nat.le_trans (List.length_filterMap_le _ _) (by omega)), ?_, ?_, ups_same⟩)
    · rw [List.filterMap_append]; simp [hn]
    · rw [List.filterMap_append]; simp [hy]
    · intro b o h
      rw [ups_ne (ne_of_st h nA)]
      exact s2 _ _ (sub _ _ h)
  · rintro acc S' ⟨rfl, sub, hA⟩
    refine ⟨ups S A (.lst (xs.filterMap f)), fun b o h => ?_, hend A nA⟩
    by_cases hb : b = A
    · subst hb; rw [ups_same] at h; cases h; exact hA
    · rw [ups_ne hb] at h; exact sub _ _ h
end
end DL
namespace DL
open PySem PySem.Spec PyProof.Rows L2
def oL : Option O → Option (List D)
  | some (.lst xs) => some xs
  | _ => none
theorem z_oL {xs : List D} : oL (some (.lst xs)) = some xs := rfl
theorem z_listOfR {S : Sto} {a : Addr} : listOf S (.ref a) = oL (S a) := rfl
/-! ### slices by a step -/
def pickV {α : Type} (xs : List α) (k : Int) : List α := (sliceRange (sliceBounds none none (some k) xs.length).1 (sliceBounds none none (some k) xs.length).2.1 (sliceBounds none none (some k) xs.length).2.2).filterMap (xs[·]?)
def uSlK (k : Int) (te : TE2) : TE2 := fun τ S Q => te τ S fun d S1 => onS (listOf S1 d) fun xs => ∀ p, S1 p = none → Q (.ref p) (ups S1 p (.lst (pickV xs k)))
def uRevL (te : TE2) : TE2 := fun τ S Q => te τ S fun d S1 => onS (listOf S1 d) fun xs => ∀ p, S1 p = none → Q (.ref p) (ups S1 p (.lst xs.reverse))
section
variable {X : Cx} {e : Expr} {te ta : TE2} {pos p1 p2 p3 p q : Pos} {j : Nat}
/-- len(set(a list of unlike ints)) -/
def uLenSetI (ta : TE2) : TE2 := fun τ S Q => ta τ S fun d S1 => ∃ ns : List Int, listOf S1 d = some (ns.map D.int) ∧ ns.Nodup ∧ ns.length ≤ 4000 ∧ Q (.int ns.length) S1
def uLenSetT (ta : TE2) : TE2 := fun τ S Q => ta τ S fun d S1 => ∃ ks : List (List Int), listOf S1 d = some (ks.map fun k => D.tup (k.map D.int)) ∧ ks.length < 64 ∧ ∀ n : List (List Int), n.Nodup → (∀ k, k ∈ n ↔ k ∈ ks) → Q (.int n.length) S1
end
/-! ### sorted of pairs of small numbers -/
@[reducible] def dP (p : Nat × Nat) : D := .tup [.int (p.1 : Int), .int (p.2 : Int)]
def lexP (p q : Nat × Nat) : Prop := p.1 < q.1 ∨ (p.1 = q.1 ∧ p.2 ≤ q.2)
theorem lexP_anti {p q : Nat × Nat} (h : lexP p q) (k : lexP q p) : p = q := by
  unfold lexP at *
  exact Prod.ext (by omega) (by omega)
def rSortedP2 : List D → Sto → VK2 → Prop
  | [d], S, Q => ∃ ps : List (Nat × Nat), listOf S d = some (ps.map dP) ∧ ps.length < 64 ∧ (∀ p ∈ ps, p.1 < 1000 ∧ p.2 < 1000) ∧ ∀ qs : List (Nat × Nat), qs.Perm ps → qs.Pairwise lexP → ∀ a, S a = none → Q (.ref a) (ups S a (.lst (qs.map dP)))
  | _, _, _ => False
theorem z_sortedP {S : Sto} {Q : VK2} {d : D} : rSortedP2 [d] S Q = ∃ ps : List (Nat × Nat), listOf S d = some (ps.map dP) ∧ ps.length < 64 ∧ (∀ p ∈ ps, p.1 < 1000 ∧ p.2 < 1000) ∧ ∀ qs : List (Nat × Nat), qs.Perm ps → qs.Pairwise lexP → ∀ a, S a = none → Q (.ref a) (ups S a (.lst (qs.map dP))) := rfl
/-- two sorted lists of the same pairs -/
theorem sortP_eq : ∀ {xs ys : List (Nat × Nat)}, xs.Perm ys → xs.Pairwise lexP → ys.Pairwise lexP → xs = ys
  | [], ys, h, _, _ => by rw [List.nil_perm.mp h]
  | x :: xs, ys, h, p, q => by
    cases ys with
    | nil => exact absurd h (by simp)
    | cons y ys =>
      have e : x = y := by
        obtain ⟨p1, p2⟩ := List.pairwise_cons.mp p
        obtain ⟨q1, q2⟩ := List.pairwise_cons.mp q
        rcases List.mem_cons.mp (h.mem_iff.mp (List.mem_cons_self)) with e | e
        · exact e
        · rcases List.mem_cons.mp (h.mem_iff.mpr (List.mem_cons_self)) with e' | e'
          · exact e'.symm
          · exact lexP_anti (p1 y e') (q1 x e)
      subst e
      rw [sortP_eq (List.Perm.cons_inv h) (List.pairwise_cons.mp p).2 (List.pairwise_cons.mp q).2]
end DL
namespace DL
open PySem PySem.Spec PyProof.Rows L2
/-! ### numbers: a fraction in lowest terms -/
@[reducible] def eQ (q : Rat) : D := .tup [.int q.num, .int (q.den : Int)]
@[reducible] def eN (i : Nat) : D := .int (i : Int)
def Nz (n : Nat) (q : Rat) : Prop := Sz n q.num ∧ Sz n (q.den : Int)
theorem Nz.le {m n : Nat} {q : Rat} (h : Nz m q) (l : m ≤ n) : Nz n q := ⟨h.1.le l, h.2.le l⟩
theorem Sz.mul {m n : Nat} {i j : Int} (h : Sz m i) (k : Sz n j) : Sz (m + n) (i * j) := by
  unfold Sz at *
  rw [Int.natAbs_mul, Nat.pow_add]
  exact Nat.mul_lt_mul'' h k
theorem Sz.add {m n : Nat} {i j : Int} (h : Sz m i) (k : Sz n j) : Sz (m + n) (i + j) := by
  unfold Sz at *
  have h1 : (i + j).natAbs ≤ i.natAbs + j.natAbs := Int.natAbs_add_le i j
  have hp : 1 ≤ 2 ^ m := Nat.one_le_two_pow
  have hq : 1 ≤ 2 ^ n := Nat.one_le_two_pow
  rw [Nat.pow_add]
  obtain ⟨p, ep⟩ : ∃ p, 2 ^ m = p + 1 := ⟨2 ^ m - 1, by omega⟩
  obtain ⟨q, eq⟩ : ∃ q, 2 ^ n = q + 1 := ⟨2 ^ n - 1, by omega⟩
  rw [ep] at h ⊢
  rw [eq] at k ⊢
  have : (p + 1) * (q + 1) = p * q + p + q + 1 := by rw [Nat.add_mul, Nat.mul_add]; omega
  have hpq : 0 ≤ p * q := Nat.zero_le _
  omega
theorem Sz.neg {m : Nat} {i : Int} (h : Sz m i) : Sz m (-i) := by unfold Sz at *; rwa [Int.natAbs_neg]
theorem Sz.sub {m n : Nat} {i j : Int} (h : Sz m i) (k : Sz n j) : Sz (m + n) (i - j) := by
  rw [Int.sub_eq_add_neg]; exact h.add k.neg
theorem Sz.of_le {m : Nat} {i j : Int} (h : Sz m j) (l : i.natAbs ≤ j.natAbs) : Sz m i := Nat.lt_of_le_of_lt l h
theorem Sz.lit {m : Nat} {i : Int} (h : i.natAbs < 2 ^ m) : Sz m i := h
theorem den_pos (q : Rat) : 0 < (q.den : Int) := Int.natCast_pos.mpr (Nat.pos_of_ne_zero q.den_nz)
theorem den_ne (q : Rat) : (q.den : Int) ≠ 0 := Int.ne_of_gt (den_pos q)
theorem quo_eq (t b : Int) : (t : Rat) / (b : Rat) = Rat.divInt t b := (Rat.divInt_eq_div t b).symm
/-- what the division by the greatest common divisor gives -/
theorem low_num {t b : Int} (hb : b ≠ 0) : t.fdiv (if b < 0 then 0 - (Int.gcd t b : Int) else (Int.gcd t b : Int)) = ((t : Rat) / (b : Rat)).num := by
  rw [quo_eq, Rat.num_divInt, Int.gcd_comm b t]
  have hg : (0 : Int) < Int.gcd t b := Int.natCast_pos.mpr (Int.gcd_pos_of_ne_zero_right t hb)
  have hd : (Int.gcd t b : Int) ∣ t := Int.gcd_dvd_left t b
  obtain ⟨c, hc⟩ := hd
  generalize (Int.gcd t b : Int) = g at *
  subst hc
  by_cases h : b < 0
  · rw [if_pos h, Int.sign_eq_neg_one_of_neg h, Int.zero_sub]
    rw [show g * c = (-g) * (-c) by rw [Int.neg_mul_neg], Int.mul_fdiv_cancel_left _ (by omega)]
    rw [show (-1 : Int) * (-g * -c) = g * (-c) by rw [Int.neg_mul, Int.one_mul, Int.neg_mul, Int.neg_neg], Int.mul_ediv_cancel_left _ (by omega)]
  · rw [if_neg h, Int.sign_eq_one_of_pos (by omega), Int.one_mul, Int.mul_fdiv_cancel_left _ (by omega), Int.mul_ediv_cancel_left _ (by omega)]
theorem low_den {t b : Int} (hb : b ≠ 0) : b.fdiv (if b < 0 then 0 - (Int.gcd t b : Int) else (Int.gcd t b : Int)) = (((t : Rat) / (b : Rat)).den : Int) := by
  rw [quo_eq, Rat.den_divInt, Int.gcd_comm b t, if_neg hb, Int.natCast_ediv]
  have hg : (0 : Int) < Int.gcd t b := Int.natCast_pos.mpr (Int.gcd_pos_of_ne_zero_right t hb)
  have hd : (Int.gcd t b : Int) ∣ b := Int.gcd_dvd_right t b
  obtain ⟨c, hc⟩ := hd
  generalize (Int.gcd t b : Int) = g at *
  subst hc
  by_cases h : g * c < 0
  · rw [if_pos h, Int.zero_sub, Int.ofNat_natAbs_of_nonpos (by omega)]
    rw [show g * c = (-g) * (-c) by rw [Int.neg_mul_neg], Int.mul_fdiv_cancel_left _ (by omega)]
    rw [show -(-g * -c) = g * (-c) by rw [Int.neg_mul, Int.neg_neg], Int.mul_ediv_cancel_left _ (by omega)]
  · rw [if_neg h, Int.natAbs_of_nonneg (by omega), Int.mul_fdiv_cancel_left _ (by omega), Int.mul_ediv_cancel_left _ (by omega)]
theorem gcd_stepN (m n : Nat) : Nat.gcd n (m % n) = Nat.gcd m n := by rw [Nat.gcd_comm n, ← Nat.gcd_rec, Nat.gcd_comm]
theorem fmod_nat (m n : Nat) : (m : Int).fmod (n : Int) = ((m % n : Nat) : Int) := by
  rw [Int.fmod_eq_emod_of_nonneg _ (Int.natCast_nonneg n), Int.natCast_emod]
theorem quo_num_le (t b : Int) : ((t : Rat) / (b : Rat)).num.natAbs ≤ t.natAbs := by
  rw [quo_eq, Rat.num_divInt, Int.natAbs_ediv_of_dvd]
  · rw [Int.natAbs_mul]
    refine Nat.le_trans (Nat.div_le_self _ _) ?_
    have : b.sign.natAbs ≤ 1 := by rw [Int.natAbs_sign]; split <;> omega
    exact Nat.le_trans (Nat.mul_le_mul_right _ this) (by omega)
  · exact Int.dvd_mul_of_dvd_right (Int.gcd_dvd_right _ _)
theorem quo_den_le {t b : Int} (hb : b ≠ 0) : ((t : Rat) / (b : Rat)).den ≤ b.natAbs := by
  rw [quo_eq, Rat.den_divInt, if_neg hb]
  exact Nat.div_le_self _ _
theorem q_self (q : Rat) : (q.num : Rat) / ((q.den : Int) : Rat) = q := by rw [quo_eq, Rat.num_divInt_den]
theorem add_quo (a b : Rat) : ((a.num * (b.den : Int) + b.num * (a.den : Int) : Int) : Rat) / ((a.den : Int) * (b.den : Int) : Int) = a + b := by
  rw [quo_eq, Rat.add_def', ← Int.natCast_mul, Rat.divInt_ofNat]
theorem sub_quo (a b : Rat) : ((a.num * (b.den : Int) - b.num * (a.den : Int) : Int) : Rat) / ((a.den : Int) * (b.den : Int) : Int) = a - b := by
  rw [quo_eq, Rat.sub_def', ← Int.natCast_mul, Rat.divInt_ofNat]
theorem mul_quo (a b : Rat) : ((a.num * b.num : Int) : Rat) / ((a.den : Int) * (b.den : Int) : Int) = a * b := by
  rw [quo_eq, Rat.mul_def', ← Int.natCast_mul, Rat.divInt_ofNat]
theorem q_nn (q : Rat) : (q.num : Rat) = q * ((q.den : Int) : Rat) := by
  have h : ((q.den : Int) : Rat) ≠ 0 := by
    have := den_ne q
    exact fun z => this (by exact_mod_cast z)
  have := q_self q
  grind
theorem den_neR (q : Rat) : ((q.den : Int) : Rat) ≠ 0 := fun z => den_ne q (by exact_mod_cast z)
theorem num_neR {q : Rat} (h : q ≠ 0) : (q.num : Rat) ≠ 0 := fun z => h (Rat.num_eq_zero.mp (by exact_mod_cast z))
theorem div_quo (a b : Rat) (hb : b ≠ 0) : ((a.num * (b.den : Int) : Int) : Rat) / ((a.den : Int) * b.num : Int) = a / b := by
  rw [Rat.intCast_mul, Rat.intCast_mul]
  have h1 := q_nn a
  have h2 := q_nn b
  have h3 := den_neR a
  have h4 := den_neR b
  have h5 := num_neR hb
  grind
theorem lt_quo (a b : Rat) : (decide (a.num * (b.den : Int) < b.num * (a.den : Int))) = decide (a < b) := decide_eq_decide.mpr (Rat.lt_iff a b).symm
theorem Nz.quo2 {n : Nat} {t b : Int} (hb : b ≠ 0) (h : Sz n t) (k : Sz n b) : Nz n ((t : Rat) / (b : Rat)) :=
  ⟨Sz.of_le h (quo_num_le t b), Sz.of_le (j := b) k (by rw [Int.natAbs_natCast]; exact quo_den_le hb)⟩
theorem Sz.add1 {n : Nat} {i j : Int} (h : Sz n i) (k : Sz n j) : Sz (n + 1) (i + j) := by
  unfold Sz at *
  rw [Nat.pow_succ]
  have := Int.natAbs_add_le i j
  omega
theorem Nz.add {m n : Nat} {a b : Rat} (h : Nz m a) (k : Nz n b) : Nz (m + n + 1) (a + b) := by
  rw [← add_quo]
  exact Nz.quo2 (Int.mul_ne_zero (den_ne a) (den_ne b)) ((h.1.mul k.2).add1 ((k.1.mul h.2).le (by omega))) ((h.2.mul k.2).le (by omega))
theorem Nz.sub {m n : Nat} {a b : Rat} (h : Nz m a) (k : Nz n b) : Nz (m + n + 1) (a - b) := by
  rw [← sub_quo, Int.sub_eq_add_neg]
  exact Nz.quo2 (Int.mul_ne_zero (den_ne a) (den_ne b)) ((h.1.mul k.2).add1 (((k.1.mul h.2).le (by omega)).neg)) ((h.2.mul k.2).le (by omega))
theorem Nz.mul {m n : Nat} {a b : Rat} (h : Nz m a) (k : Nz n b) : Nz (m + n) (a * b) := by
  rw [← mul_quo]
  exact Nz.quo2 (Int.mul_ne_zero (den_ne a) (den_ne b)) (h.1.mul k.1) (h.2.mul k.2)
theorem Nz.div {m n : Nat} {a b : Rat} (hb : b ≠ 0) (h : Nz m a) (k : Nz n b) : Nz (m + n) (a / b) := by
  rw [← div_quo a b hb]
  have : b.num ≠ 0 := fun z => hb (Rat.num_eq_zero.mp z)
  exact Nz.quo2 (Int.mul_ne_zero (den_ne a) this) (h.1.mul k.2) ((h.2.mul k.1))
theorem Nz.neg {m : Nat} {a : Rat} (h : Nz m a) : Nz m (-a) := ⟨by show Sz m (-a.num); exact h.1.neg, h.2⟩
/-! ### comparing what is encoded -/
theorem shaped_of {p : PyData} (h : p.canLay0 = true) (d : p.depth ≤ 64) : SeqAt.shaped p = true := by
  show (p.canLay0 && decide (p.depth ≤ 64)) = true
  rw [h, decide_eq_true d]; rfl
class Enc (α : Type) [DecidableEq α] where
  enc : α → D
  py : α → PyData
  isPy : ∀ S a, Py S (enc a) (py a)
  eqv : ∀ a b, PyData.eqv (py a) (py b) = decide (a = b)
  lay : ∀ a, (py a).canLay0 = true
  dep : Nat
  dep_le : ∀ a, (py a).depth ≤ dep
theorem beq_dec {α : Type} [BEq α] [LawfulBEq α] [DecidableEq α] (a b : α) : (a == b) = decide (a = b) := by
  rw [Bool.eq_iff_iff, beq_iff_eq, decide_eq_true_eq]
instance : Enc Int where
  enc := .int
  py := .int
  isPy _ a := .int a
  eqv a b := by simp only [PyData.eqv]; exact beq_dec a b
  lay a := by simp [PyData.canLay0]
  dep := 0
  dep_le _ := Nat.le_refl _
instance : Enc Bool where
  enc := .bl
  py := .bool
  isPy _ a := .bl a
  eqv a b := by simp only [PyData.eqv]; exact beq_dec a b
  lay a := by simp [PyData.canLay0]
  dep := 0
  dep_le _ := Nat.le_refl _
instance : Enc Rat where
  enc := eQ
  py q := .tuple [.int q.num, .int (q.den : Int)]
  isPy _ a := .tup (.cons (.int _) (.cons (.int _) .nil))
  eqv a b := by
    simp only [PyData.eqv, PyData.eqvAll]
    rw [Bool.and_true, beq_dec, beq_dec, ← Bool.decide_and]
    refine decide_eq_decide.mpr ⟨fun h => Rat.ext h.1 (by exact_mod_cast h.2), fun h => by rw [h]; exact ⟨rfl, rfl⟩⟩
  lay a := by simp [PyData.canLay0, PyData.canLayAll0]
  dep := 1
  dep_le a := by simp [PyData.depth, PyData.depthAll]
section
variable {α β : Type} [DecidableEq α] [Enc α] [DecidableEq β] [Enc β]
@[reducible] def eP (p : α × β) : D := .tup [Enc.enc p.1, Enc.enc p.2]
instance : Enc (α × β) where
  enc := eP
  py p := .tuple [Enc.py p.1, Enc.py p.2]
  isPy S p := .tup (.cons (Enc.isPy S p.1) (.cons (Enc.isPy S p.2) .nil))
  eqv a b := by
    simp only [PyData.eqv, PyData.eqvAll]
    rw [Bool.and_true, Enc.eqv, Enc.eqv, ← Bool.decide_and]
    exact decide_eq_decide.mpr ⟨fun h => Prod.ext h.1 h.2, fun h => by rw [h]; exact ⟨rfl, rfl⟩⟩
  lay p := by simp [PyData.canLay0, PyData.canLayAll0, Enc.lay]
  dep := max (Enc.dep α) (Enc.dep β) + 1
  dep_le p := by
    simp only [PyData.depth, PyData.depthAll]
    have h1 := Enc.dep_le p.1
    have h2 := Enc.dep_le p.2
    omega
theorem eqD {S : Sto} (a b : α) (h : Enc.dep α ≤ 64 := by decide) : EqD S (Enc.enc a) (Enc.enc b) (decide (a = b)) :=
  ⟨_, _, Enc.isPy S a, Enc.isPy S b, shaped_of (Enc.lay a) (Nat.le_trans (Enc.dep_le a) h), shaped_of (Enc.lay b) (Nat.le_trans (Enc.dep_le b) h), (Enc.eqv a b).symm⟩
theorem pys_enc {S : Sto} : ∀ (xs : List α), Pys S (xs.map Enc.enc) (xs.map Enc.py)
  | [] => .nil
  | x :: xs => .cons (Enc.isPy S x) (pys_enc xs)
theorem eqvAll_enc : ∀ xs ys : List α, PyData.eqvAll (xs.map Enc.py) (ys.map Enc.py) = decide (xs = ys)
  | [], [] => by simp [PyData.eqvAll]
  | [], _ :: _ => by simp [PyData.eqvAll]
  | _ :: _, [] => by simp [PyData.eqvAll]
  | x :: xs, y :: ys => by
    simp only [List.map_cons, PyData.eqvAll]
    rw [Enc.eqv x y, eqvAll_enc xs ys, ← Bool.decide_and]
    exact decide_eq_decide.mpr (by rw [List.cons.injEq])
theorem lay_enc : ∀ xs : List α, PyData.canLayAll0 (xs.map Enc.py) = true
  | [] => by simp [PyData.canLayAll0]
  | x :: xs => by simp [PyData.canLayAll0, Enc.lay x, lay_enc xs]
theorem depth_enc : ∀ xs : List α, PyData.depthAll (xs.map Enc.py) ≤ Enc.dep α
  | [] => by simp [PyData.depthAll]
  | x :: xs => by
    have h1 := depth_enc xs
    have h2 := Enc.dep_le x
    simp only [List.map_cons, PyData.depthAll]
    omega
theorem shaped_list (xs : List α) (h : Enc.dep α + 1 ≤ 64) : SeqAt.shaped (.list (xs.map Enc.py)) = true :=
  shaped_of (by simp only [PyData.canLay0]; exact lay_enc xs) (by simp only [PyData.depth]; have := depth_enc xs; omega)
theorem py_list {S : Sto} {d : D} {xs : List α} (h : listOf S d = some (xs.map Enc.enc)) : Py S d (.list (xs.map Enc.py)) := by
  cases d with
  | ref a => exact .lst (ref_list h) (pys_enc xs)
  | fl ds => obtain rfl := Option.some.inj h; exact .fl (pys_enc xs)
  | _ => cases h
/-- two lists of alike things -/
theorem eqL {S : Sto} {d e : D} (xs ys : List α) (h1 : listOf S d = some (xs.map Enc.enc)) (h2 : listOf S e = some (ys.map Enc.enc)) (h : Enc.dep α + 1 ≤ 64 := by decide) : EqD S d e (decide (xs = ys)) :=
  ⟨_, _, py_list h1, py_list h2, shaped_list xs h, shaped_list ys h, by simp only [PyData.eqv]; exact (eqvAll_enc xs ys).symm⟩
theorem any_enc (x : α) : ∀ xs : List α, (xs.map Enc.py).any (fun z => PyData.eqv z (Enc.py x)) = decide (x ∈ xs)
  | [] => by simp
  | y :: ys => by
    rw [List.map_cons, List.any_cons, any_enc x ys, Enc.eqv, ← Bool.decide_or]
    exact decide_eq_decide.mpr (by rw [List.mem_cons]; exact or_congr ⟨Eq.symm, Eq.symm⟩ Iff.rfl)
theorem inL {S : Sto} {e : D} (x : α) (xs : List α) (h1 : listOf S e = some (xs.map Enc.enc)) (h : Enc.dep α + 1 ≤ 64 := by decide) : InD S (Enc.enc x) e (decide (x ∈ xs)) :=
  ⟨_, _, Enc.isPy S x, py_list h1, shaped_of (Enc.lay x) (Nat.le_trans (Enc.dep_le x) (by omega)), shaped_list xs h, (any_enc x xs).symm⟩
end
/-! ### shared by the claims -/
theorem abs_nat (i : Int) : (if i < 0 then -i else i) = (i.natAbs : Int) := by split <;> omega
theorem gcd_div_ok {t b : Int} (hb : b ≠ 0) (hs : Sz 9000 b) : DivOk (Int.gcd t b : Int) := by
  refine ⟨Int.ne_of_gt (Int.natCast_pos.mpr (Int.gcd_pos_of_ne_zero_right t hb)), Sz.of_le hs ?_⟩
  rw [Int.natAbs_natCast]
  exact Nat.le_of_dvd (by omega) (Nat.gcd_dvd_right _ _)
theorem divOk_lit {j : Int} (h : j ≠ 0) (k : j.natAbs < 2 ^ 64) : DivOk j := ⟨h, (Sz.lit (m := 64) k).le (by decide)⟩
theorem fmod_lt {a m : Int} (h : 0 < m) : 0 ≤ a.fmod m ∧ a.fmod m < m := ⟨Int.fmod_nonneg_of_pos _ h, Int.fmod_lt_of_pos _ h⟩
theorem Sz.fmod {n : Nat} {a m : Int} (h : 0 < m) (s : Sz n m) : Sz n (a.fmod m) := Sz.of_le s (by have := fmod_lt (a := a) h; omega)
/-- a line: start and slope -/
@[reducible] def eL (l : Rat × Rat) : D := .tup [eQ l.1, eQ l.2]
def Lz (n : Nat) (l : Rat × Rat) : Prop := Nz n l.1 ∧ Nz n l.2
theorem Lz.le {m n : Nat} {l : Rat × Rat} (h : Lz m l) (k : m ≤ n) : Lz n l := ⟨h.1.le k, h.2.le k⟩
/-- where it is then -/
def at_ (l : Rat × Rat) (t : Rat) : Rat := l.1 + l.2 * t
/-- the pen -/
@[reducible] def penO (sc : List Int) (x y : Int) : O := .lst [.fl (sc.map D.int), .int x, .int y]
def PenA (S : Sto) (a : Addr) (sc : List Int) : Prop := ∃ x y, S a = some (penO sc x y)
theorem pen_again {S : Sto} {a : Addr} {sc : List Int} {x y : Int} : PenA (ups S a (penO sc x y)) a sc := ⟨x, y, ups_same⟩
theorem PenA.ne {S : Sto} {a p : Addr} {sc : List Int} (h : PenA S a sc) (n : S p = none) : a ≠ p := let ⟨_, _, e⟩ := h; ne_of_st e n
theorem PenA.new {S : Sto} {a p : Addr} {sc : List Int} {o : O} (h : PenA S a sc) (n : S p = none) : PenA (ups S p o) a sc := let ⟨x, y, e⟩ := h; ⟨x, y, by rw [ups_ne (ne_of_st e n)]; exact e⟩
theorem PenA.upd {S : Sto} {a p : Addr} {sc : List Int} {o : O} (h : PenA S a sc) (n : a ≠ p) : PenA (ups S p o) a sc := let ⟨x, y, e⟩ := h; ⟨x, y, by rw [ups_ne n]; exact e⟩
theorem atI_of {α : Type} {xs : List α} {i : Int} {x : α} (h0 : 0 ≤ i) (h : xs[i.toNat]? = some x) : atI xs i = some x := by
  have := atI_nat h
  rwa [show ((i.toNat : Nat) : Int) = i by omega] at this
theorem atI_map {α β : Type} {e : α → β} {xs : List α} {i : Int} (h0 : 0 ≤ i) (h1 : i < (xs.length : Int)) : ∃ x, xs[i.toNat]? = some x ∧ x ∈ xs ∧ atI (xs.map e) i = some (e x) := by
  have hl : i.toNat < xs.length := by omega
  refine ⟨xs[i.toNat], List.getElem?_eq_getElem hl, List.getElem_mem hl, atI_of h0 ?_⟩
  rw [List.getElem?_map, List.getElem?_eq_getElem hl]; rfl
theorem atI_ints {sc : List Int} {i : Int} (h0 : 0 ≤ i) (h1 : i < (sc.length : Int)) : ∃ c, atI (sc.map D.int) i = some (D.int c) := by
  obtain ⟨c, _, _, h⟩ := atI_map (e := D.int) h0 h1
  exact ⟨c, h⟩
theorem atI_get2 {a b : D} {w : Int} (h0 : 0 ≤ w) (h1 : w < 2) : atI [a, b] w = some (if w = 0 then a else b) := by
  rcases (show w = 0 ∨ w = 1 by omega) with rfl | rfl <;> rfl
theorem ups_comm {S : Sto} {a b : Addr} {o u : O} (h : a ≠ b) : ups (ups S a o) b u = ups (ups S b u) a o := by
  funext c; unfold ups; by_cases h1 : c = a <;> by_cases h2 : c = b <;> simp_all
/-- what is new is let go -/
theorem Sub.drop {S : Sto} {p : Addr} {o : O} (n : S p = Option.none) : Sub S (ups S p o) := (Sub.refl S).new n
theorem Sub.drop1 {S : Sto} {a p : Addr} {o u : O} (n : S p = Option.none) (h : a ≠ p) : Sub (ups S a u) (ups (ups S p o) a u) := by
  rw [ups_comm h.symm]
  exact Sub.drop (by rw [ups_ne h.symm]; exact n)
end DL
namespace DL
open PySem PySem.Spec PyProof.Rows L2
/-! ### answers of == as equations -/
class EncU (α : Type) [DecidableEq α] [Enc α] : Prop where
  uniq : ∀ (S : Sto) (a : α) (p : PyData), Py S (Enc.enc a) p → p = Enc.py a
  ok : Enc.dep α ≤ 60 := by decide
instance : EncU Int where
  uniq S a p h := by cases h; rfl
instance : EncU Bool where
  uniq S a p h := by cases h; rfl
instance : EncU Rat where
  uniq S a p h := by
    cases h with
    | tup h => cases h with
      | cons h1 h2 => cases h1; cases h2 with
        | cons h3 h4 => cases h3; cases h4; rfl
instance : Enc Nat where
  enc n := .int (n : Int)
  py n := .int (n : Int)
  isPy _ a := .int a
  eqv a b := by
    simp only [PyData.eqv]; rw [beq_dec]; exact decide_eq_decide.mpr (by omega)
  lay a := by simp [PyData.canLay0]
  dep := 0
  dep_le _ := Nat.le_refl _
instance : EncU Nat where
  uniq S a p h := by cases h; rfl
section
variable {α β : Type} [DecidableEq α] [Enc α] [EncU α] [DecidableEq β] [Enc β] [EncU β]
theorem prod_uniq (S : Sto) (a : α × β) (p : PyData) (h : Py S (Enc.enc a) p) : p = Enc.py a := by
  cases h with
    | tup h => cases h with
      | cons h1 h2 => cases h2 with
        | cons h3 h4 =>
          cases h4
          rw [EncU.uniq S a.1 _ h1, EncU.uniq S a.2 _ h3]; rfl
theorem eqD_iff {S : Sto} (a b : α) (c : Bool) : EqD S (Enc.enc a) (Enc.enc b) c ↔ c = decide (a = b) := by
  constructor
  · rintro ⟨p, q, h1, h2, _, _, rfl⟩
    rw [EncU.uniq S a p h1, EncU.uniq S b q h2, Enc.eqv]
  · rintro rfl
    exact eqD a b (Nat.le_trans (EncU.ok (α := α)) (by decide))
theorem eqD_ex {S : Sto} {Q : Bool → Prop} (a b : α) : (∃ c, EqD S (Enc.enc a) (Enc.enc b) c ∧ Q c) = Q (decide (a = b)) := by
  apply propext
  constructor
  · rintro ⟨c, h, q⟩; rw [eqD_iff] at h; subst h; exact q
  · intro q; exact ⟨_, (eqD_iff a b _).mpr rfl, q⟩
end
instance : EncU (Rat × Rat) where
  uniq := prod_uniq
section
variable {S : Sto} {Q : VK2}
theorem z_eqQ {a b : Rat} : rEq (.tup [.int a.num, .int (a.den : Int)]) (.tup [.int b.num, .int (b.den : Int)]) S Q = Q (.bl (decide (a = b))) S := eqD_ex (Q := fun c => Q (.bl c) S) a b
theorem z_neQ {a b : Rat} : rNe (.tup [.int a.num, .int (a.den : Int)]) (.tup [.int b.num, .int (b.den : Int)]) S Q = Q (.bl (!decide (a = b))) S := eqD_ex (Q := fun c => Q (.bl (!c)) S) a b
theorem z_eqLL {a b c d : Rat} : rEq (.tup [.tup [.int a.num, .int (a.den : Int)], .tup [.int b.num, .int (b.den : Int)]]) (.tup [.tup [.int c.num, .int (c.den : Int)], .tup [.int d.num, .int (d.den : Int)]]) S Q = Q (.bl (decide ((a, b) = (c, d)))) S := eqD_ex (Q := fun c => Q (.bl c) S) (a, b) (c, d)
theorem z_neLL {a b c d : Rat} : rNe (.tup [.tup [.int a.num, .int (a.den : Int)], .tup [.int b.num, .int (b.den : Int)]]) (.tup [.tup [.int c.num, .int (c.den : Int)], .tup [.int d.num, .int (d.den : Int)]]) S Q = Q (.bl (!decide ((a, b) = (c, d)))) S := eqD_ex (Q := fun c => Q (.bl (!c)) S) (a, b) (c, d)
end
/-! ### None or a number -/
def eO : Option Rat → D
  | none => .non
  | some q => eQ q
theorem eO_none : eO none = .non := rfl
theorem eO_some (q : Rat) : eO (some q) = eQ q := rfl
theorem isNon_eO (o : Option Rat) : isNon (eO o) = o.isNone := by cases o <;> rfl
instance : Enc (Option Rat) where
  enc := eO
  py
    | none => .none
    | some q => Enc.py q
  isPy S a := by cases a with
    | none => exact .non
    | some q => exact Enc.isPy S q
  eqv a b := by
    cases a <;> cases b
    · simp [PyData.eqv]
    · rename_i q; simp [PyData.eqv, Enc.py]
    · rename_i q; simp [PyData.eqv, Enc.py]
    · rename_i p q; simp only [Enc.eqv]; exact decide_eq_decide.mpr (by simp)
  lay a := by cases a with
    | none => simp [PyData.canLay0]
    | some q => exact Enc.lay q
  dep := 1
  dep_le a := by cases a with
    | none => simp [PyData.depth]
    | some q => exact Enc.dep_le q
instance : EncU (Option Rat) where
  uniq S a p h := by
    cases a with
    | none => cases h; rfl
    | some q => exact EncU.uniq S q p h
section
variable {S : Sto} {Q : VK2}
theorem rEq_ne {x y : D} (hx : ∀ i, x ≠ .int i) (hb : ∀ i, x ≠ .bl i) (hs : ∀ i, x ≠ .str i) : rEq x y S Q = ∃ b, EqD S x y b ∧ Q (.bl b) S := by
  cases x <;> first | rfl | exact absurd rfl (hx _) | exact absurd rfl (hb _) | exact absurd rfl (hs _)
theorem rNe_ne {x y : D} (hx : ∀ i, x ≠ .int i) (hb : ∀ i, x ≠ .bl i) (hs : ∀ i, x ≠ .str i) : rNe x y S Q = ∃ b, EqD S x y b ∧ Q (.bl (!b)) S := by
  cases x <;> first | rfl | exact absurd rfl (hx _) | exact absurd rfl (hb _) | exact absurd rfl (hs _)
theorem eO_ni (o : Option Rat) : (∀ i, eO o ≠ .int i) ∧ (∀ i, eO o ≠ .bl i) ∧ (∀ i, eO o ≠ .str i) := by
  cases o <;> (refine ⟨?_, ?_, ?_⟩ <;> intro i h <;> cases h)
theorem z_eqO {a b : Option Rat} : rEq (eO a) (eO b) S Q = Q (.bl (decide (a = b))) S := (rEq_ne (eO_ni a).1 (eO_ni a).2.1 (eO_ni a).2.2).trans (eqD_ex (Q := fun c => Q (.bl c) S) a b)
theorem z_neO {a b : Option Rat} : rNe (eO a) (eO b) S Q = Q (.bl (!decide (a = b))) S := (rNe_ne (eO_ni a).1 (eO_ni a).2.1 (eO_ni a).2.2).trans (eqD_ex (Q := fun c => Q (.bl (!c)) S) a b)
theorem z_eqQN {a : Rat} : rEq (.tup [.int a.num, .int (a.den : Int)]) .non S Q = Q (.bl false) S := z_eqO (a := some a) (b := none)
theorem z_neQN {a : Rat} : rNe (.tup [.int a.num, .int (a.den : Int)]) .non S Q = Q (.bl true) S := z_neO (a := some a) (b := none)
theorem z_eqOQ {a : Option Rat} {q : Rat} : rEq (eO a) (.tup [.int q.num, .int (q.den : Int)]) S Q = Q (.bl (decide (a = some q))) S := z_eqO (a := a) (b := some q)
theorem z_neOQ {a : Option Rat} {q : Rat} : rNe (eO a) (.tup [.int q.num, .int (q.den : Int)]) S Q = Q (.bl (!decide (a = some q))) S := z_neO (a := a) (b := some q)
theorem z_eqNN' : rEq .non .non S Q = Q (.bl true) S := z_eqO (a := none) (b := none)
theorem z_neNN' : rNe .non .non S Q = Q (.bl false) S := z_neO (a := none) (b := none)
theorem z_eqNQ {a : Rat} : rEq .non (.tup [.int a.num, .int (a.den : Int)]) S Q = Q (.bl false) S := z_eqO (a := none) (b := some a)
theorem z_neNQ {a : Rat} : rNe .non (.tup [.int a.num, .int (a.den : Int)]) S Q = Q (.bl true) S := z_neO (a := none) (b := some a)
theorem z_eqNO {a : Option Rat} : rEq .non (eO a) S Q = Q (.bl (decide (none = a))) S := z_eqO (a := none) (b := a)
theorem z_neNO {a : Option Rat} : rNe .non (eO a) S Q = Q (.bl (!decide (none = a))) S := z_neO (a := none) (b := a)
theorem z_eqQO {a : Option Rat} {q : Rat} : rEq (.tup [.int q.num, .int (q.den : Int)]) (eO a) S Q = Q (.bl (decide (some q = a))) S := z_eqO (a := some q) (b := a)
theorem z_neQO {a : Option Rat} {q : Rat} : rNe (.tup [.int q.num, .int (q.den : Int)]) (eO a) S Q = Q (.bl (!decide (some q = a))) S := z_neO (a := some q) (b := a)
theorem z_eqON {a : Option Rat} : rEq (eO a) .non S Q = Q (.bl (decide (a = none))) S := z_eqO (a := a) (b := none)
theorem z_neON {a : Option Rat} : rNe (eO a) .non S Q = Q (.bl (!decide (a = none))) S := z_neO (a := a) (b := none)
end
/-! ### lines by their numbers -/
abbrev Ln := Rat × Rat
def LOk (L : List Ln) : Prop := ∀ l ∈ L, Lz 300 l
def ln (L : List Ln) (i : Nat) : Ln := L.getD i (0, 0)
structure LA (S : Sto) (a : Addr) (L : List Ln) : Prop where
  st : S a = some (.lst (L.map eL))
  ok : LOk L
  sz : L.length ≤ 20
section
variable {S S' : Sto} {a p : Addr} {L : List Ln} {o : O} {i : Nat}
theorem LA.new (h : LA S a L) (n : S p = none) : LA (ups S p o) a L := ⟨by rw [ups_ne (ne_of_st h.st n)]; exact h.st, h.ok, h.sz⟩
theorem LA.upd (h : LA S a L) (n : a ≠ p) : LA (ups S p o) a L := ⟨by rw [ups_ne n]; exact h.st, h.ok, h.sz⟩
theorem LA.sub (h : LA S a L) (s : Sub S S') : LA S' a L := ⟨s _ _ h.st, h.ok, h.sz⟩
theorem LA.ne (h : LA S a L) (n : S p = none) : a ≠ p := ne_of_st h.st n
theorem LA.pen {b : Addr} {sc : List Int} (h : LA S a L) (hp : PenA S b sc) : a ≠ b := by
  rintro rfl
  obtain ⟨x, y, e⟩ := hp
  have := h.st.symm.trans e
  cases L with
  | nil => cases this
  | cons l L => cases L with
    | nil => cases this
    | cons m L => injection this with h1; injection h1 with h2; injection h2 with h3 h4; cases h3
theorem ln_mem (h : i < L.length) : ln L i ∈ L := by
  unfold ln; rw [List.getD_eq_getElem?_getD, List.getElem?_eq_getElem h]; exact List.getElem_mem h
theorem ln_get (h : i < L.length) : L[i]? = some (ln L i) := by
  unfold ln; rw [List.getD_eq_getElem?_getD, List.getElem?_eq_getElem h]; rfl
theorem LOk.at (h : LOk L) (k : i < L.length) : Lz 300 (ln L i) := h _ (ln_mem k)
theorem LA.at (h : LA S a L) (k : i < L.length) : Lz 300 (ln L i) := h.ok.at k
theorem atL (h : i < L.length) : atI (L.map eL) (i : Int) = some (eL (ln L i)) := atI_nat (by rw [List.getElem?_map, ln_get h]; rfl)
theorem LOk.snoc {l : Ln} (h : LOk L) (k : Lz 300 l) : LOk (L ++ [l]) := fun x hx => by
  rcases List.mem_append.mp hx with h' | h'
  · exact h x h'
  · rw [List.mem_singleton.mp h']; exact k
theorem LOk.nil : LOk [] := fun _ h => by cases h
theorem map_snoc {α β : Type} {f : α → β} {xs : List α} {x : α} : xs.map f ++ [f x] = (xs ++ [x]).map f := by rw [List.map_append]; rfl
end
/-- where nothing else than at a is written -/
def Fr (S S' : Sto) (a : Addr) : Prop := ∀ b o, b ≠ a → S b = some o → S' b = some o
theorem Fr.refl (S : Sto) (a : Addr) : Fr S S a := fun _ _ _ h => h
theorem Fr.trans {S S1 S2 : Sto} {a : Addr} (h : Fr S S1 a) (k : Fr S1 S2 a) : Fr S S2 a := fun b o n e => k b o n (h b o n e)
theorem Fr.wr {S S1 : Sto} {a : Addr} {o : O} (h : Fr S S1 a) : Fr S (DL.ups S1 a o) a := fun b u n e => by rw [ups_ne n]; exact h b u n e
theorem Fr.new {S S1 : Sto} {a p : Addr} {o : O} (h : Fr S S1 a) (n : S1 p = none) : Fr S (DL.ups S1 p o) a := fun b u nb e => by
  have := h b u nb e
  rw [ups_ne (ne_of_st this n)]; exact this
theorem Fr.own {S S1 : Sto} {a p : Addr} {o : O} (h : Fr S S1 a) (n : S p = none) : Fr S (DL.ups S1 p o) a := fun b u nb e => by
  rw [ups_ne (ne_of_st e n)]; exact h b u nb e
theorem Fr.sub {S S1 S2 : Sto} {a : Addr} (h : Fr S S1 a) (k : Sub S1 S2) : Fr S S2 a := fun b o n e => k b o (h b o n e)
theorem LA.fr {S S' : Sto} {a p : Addr} {L : List Ln} (h : LA S a L) (k : Fr S S' p) (n : a ≠ p) : LA S' a L := ⟨k _ _ n h.st, h.ok, h.sz⟩
/-! ### walks over ranges -/
section
variable {stay : Sto → Prop} {g : TG2} {tb : TS2} {E : Ends2} {τ : St2} {S : Sto}
theorem loop_r0 {n : Nat} (W : Nat → St2 → Sto → Prop) (h0 : W 0 τ S)
    (hstep : ∀ i τ S, i < n → W i τ S → g (.int (i : Int)) τ S fun τ' S' => tb { E with nx := W (i + 1), ct := W (i + 1), bk := E.nx } τ' S')
    (hend : ∀ τ S, W n τ S → E.nx τ S) : LoopP stayT g tb (rangeD 0 n) E τ S :=
  loop_range W h0 (fun _ _ _ _ _ => trivial) (fun i τ S hi w => by rw [Int.zero_add]; exact hstep i τ S hi w) hend
end
/-! ### meeting, ahead -/
def met (l m : Ln) : Rat := (m.1 - l.1) / (l.2 - m.2)
theorem sub_ne {a b : Rat} (h : a ≠ b) : a - b ≠ 0 := by intro e; apply h; grind
theorem Lz.met {l m : Ln} (h : Lz 300 l) (k : Lz 300 m) (n : l.2 ≠ m.2) : Nz 1210 (met l m) :=
  (Nz.div (sub_ne n) (k.1.sub h.1) (h.2.sub k.2)).le (by decide)
theorem at_met {l m : Ln} (n : l.2 ≠ m.2) : at_ l (met l m) = at_ m (met l m) := by
  have h := sub_ne n
  unfold at_ met
  grind
theorem met_comm {l m : Ln} (n : l.2 ≠ m.2) : met l m = met m l := by
  have h := sub_ne n
  have h' := sub_ne (Ne.symm n)
  unfold met
  grind
theorem Lz.at {l : Ln} {t : Rat} {n : Nat} (h : Lz 300 l) (k : Nz n t) : Nz (n + 601) (at_ l t) := ((h.1.add (h.2.mul k)).le (by omega))
abbrev Mt := Option (Option Rat)
/-- none: always; some none: never -/
def eMt : Mt → D
  | none => .tup [.str "always"]
  | some none => .tup [.str "never"]
  | some (some t) => .tup [.str "at", eQ t]
instance : Enc Mt where
  enc := eMt
  py
    | none => .tuple [.str "always"]
    | some none => .tuple [.str "never"]
    | some (some t) => .tuple [.str "at", Enc.py t]
  isPy S a := by cases a with
    | none => exact .tup (.cons (.str _) .nil)
    | some q => cases q with
      | none => exact .tup (.cons (.str _) .nil)
      | some q => exact .tup (.cons (.str _) (.cons (Enc.isPy S q) .nil))
  eqv a b := by
    have h1 : (("always" : Str) == ("never" : Str)) = false := by decide +kernel
    have h2 : (("never" : Str) == ("always" : Str)) = false := by decide +kernel
    rcases a with _ | _ | a <;> rcases b with _ | _ | b <;> simp [PyData.eqv, PyData.eqvAll, h1, h2, Enc.eqv]
  lay a := by
    have h1 : PyData.strOk (Str.ofString "always") = true := by decide +kernel
    have h2 : PyData.strOk (Str.ofString "never") = true := by decide +kernel
    have h3 : PyData.strOk (Str.ofString "at") = true := by decide +kernel
    rcases a with _ | _ | a <;> simp [PyData.canLay0, PyData.canLayAll0, Enc.lay, h1, h2, h3]
  dep := 3
  dep_le a := by
    rcases a with _ | _ | a
    · simp [PyData.depth, PyData.depthAll]
    · simp [PyData.depth, PyData.depthAll]
    · have := Enc.dep_le a
      simp only [PyData.depth, PyData.depthAll]
      have e : Enc.dep Rat = 1 := rfl
      omega
instance : EncU Mt where
  uniq S a p h := by
    rcases a with _ | _ | t
    · cases h with
      | tup h => cases h with
        | cons h1 h2 => cases h1; cases h2; rfl
    · cases h with
      | tup h => cases h with
        | cons h1 h2 => cases h1; cases h2; rfl
    · cases h with
      | tup h => cases h with
        | cons h1 h2 => cases h1; cases h2 with
          | cons h3 h4 => cases h4; rw [EncU.uniq S t _ h3]; rfl
theorem eMt_ni (o : Mt) : (∀ i, eMt o ≠ .int i) ∧ (∀ i, eMt o ≠ .bl i) ∧ (∀ i, eMt o ≠ .str i) := by
  rcases o with _ | _ | t <;> (refine ⟨?_, ?_, ?_⟩ <;> intro i h <;> cases h)
theorem z_neMt {S : Sto} {Q : VK2} {a b : Mt} : rNe (eMt a) (eMt b) S Q = Q (.bl (!decide (a = b))) S := (rNe_ne (eMt_ni a).1 (eMt_ni a).2.1 (eMt_ni a).2.2).trans (eqD_ex (Q := fun c => Q (.bl (!c)) S) a b)
theorem ups_no {S : Sto} {a p : Addr} {o : O} (h : ups S a o p = none) : p ≠ a ∧ S p = none := by
  by_cases e : p = a
  · subst e; rw [ups_same] at h; cases h
  · rw [ups_ne e] at h; exact ⟨e, h⟩
def Ahd (L : List Ln) (i j : Nat) (t : Rat) : Prop :=
  at_ (ln L j) t < at_ (ln L i) t ∨ (at_ (ln L i) t = at_ (ln L j) t ∧ ((ln L j).2 < (ln L i).2 ∨ ((ln L i).2 = (ln L j).2 ∧ i < j)))
instance (L : List Ln) (i j : Nat) (t : Rat) : Decidable (Ahd L i j t) := by unfold Ahd; infer_instance
end DL
namespace DL
open PySem PySem.Spec PyProof.Rows L2
theorem zs_never : ((Str.ofString "never" : Str) = Str.ofString "at") = False := eq_false (by decide +kernel)
theorem zs_always : ((Str.ofString "always" : Str) = Str.ofString "at") = False := eq_false (by decide +kernel)
theorem zs_at : ((Str.ofString "at" : Str) = Str.ofString "at") = True := eq_true rfl
def nxt (L : List Ln) (i j : Nat) (t : Rat) : Option Rat := if (ln L i).2 ≠ (ln L j).2 ∧ t < met (ln L i) (ln L j) then some (met (ln L i) (ln L j)) else none
theorem nxt_comm {L : List Ln} {i j : Nat} {t : Rat} : nxt L j i t = nxt L i j t := by
  unfold nxt
  by_cases e : (ln L i).2 = (ln L j).2
  · rw [if_neg (by simp [e]), if_neg (by simp [e])]
  · rw [met_comm (Ne.symm e)]
    simp only [ne_eq, e, Ne.symm e, not_false_eq_true, true_and]
/-! ### who is ahead, by the meeting -/
theorem at_gap (l m : Ln) (e : l.2 ≠ m.2) (t : Rat) : at_ l t - at_ m t = (l.2 - m.2) * (t - met l m) := by
  have h := sub_ne e
  unfold at_ met
  grind
section
variable {L : List Ln} {i j k : Nat} {t u : Rat}
theorem mul_pos_r {a b : Rat} (ha : 0 < a) (hb : 0 < b) : 0 < a * b := Rat.mul_pos ha hb
theorem ahd_eq (e : (ln L i).2 = (ln L j).2) : Ahd L i j t ↔ ((ln L j).1 < (ln L i).1 ∨ ((ln L i).1 = (ln L j).1 ∧ i < j)) := by
  unfold Ahd at_
  rw [e]
  constructor
  · rintro (h | ⟨h, h2⟩)
    · left; grind
    · right
      refine ⟨by grind, ?_⟩
      rcases h2 with h2 | ⟨_, h2⟩
      · grind
      · exact h2
  · rintro (h | ⟨h, h2⟩)
    · left; grind
    · right; exact ⟨by grind, .inr ⟨rfl, h2⟩⟩
theorem ahd_lt (e : (ln L i).2 ≠ (ln L j).2) (h : t < met (ln L i) (ln L j)) : Ahd L i j t ↔ (ln L i).2 < (ln L j).2 := by
  have g := at_gap _ _ e t
  unfold Ahd
  generalize at_ (ln L i) t = x at *
  generalize at_ (ln L j) t = y at *
  generalize (ln L i).2 = a at *
  generalize (ln L j).2 = b at *
  have h' : 0 < met (ln L i) (ln L j) - t := by grind
  generalize met (ln L i) (ln L j) = m at *
  constructor
  · rintro (h1 | ⟨h1, h2⟩)
    · by_cases c : a < b
      · exact c
      · have : 0 < (a - b) * (m - t) := mul_pos_r (by grind) h'
        grind
    · by_cases c : a < b
      · exact c
      · have : 0 < (a - b) * (m - t) := mul_pos_r (by grind) h'
        grind
  · intro c
    have : 0 < (b - a) * (m - t) := mul_pos_r (by grind) h'
    left; grind
theorem ahd_ge (e : (ln L i).2 ≠ (ln L j).2) (h : ¬ t < met (ln L i) (ln L j)) : Ahd L i j t ↔ (ln L j).2 < (ln L i).2 := by
  have g := at_gap _ _ e t
  unfold Ahd
  generalize at_ (ln L i) t = x at *
  generalize at_ (ln L j) t = y at *
  generalize (ln L i).2 = a at *
  generalize (ln L j).2 = b at *
  generalize met (ln L i) (ln L j) = m at *
  by_cases z : t = m
  · subst z
    have : x = y := by grind
    subst this
    constructor
    · rintro (h1 | ⟨h1, h2⟩)
      · grind
      · rcases h2 with h2 | ⟨h2, _⟩
        · exact h2
        · exact absurd h2 e
    · intro c
      exact .inr ⟨rfl, .inl c⟩
  · have h' : 0 < t - m := by grind
    constructor
    · rintro (h1 | ⟨h1, h2⟩)
      · by_cases c : b < a
        · exact c
        · have : 0 < (b - a) * (t - m) := mul_pos_r (by grind) h'
          grind
      · by_cases c : b < a
        · exact c
        · have : 0 < (b - a) * (t - m) := mul_pos_r (by grind) h'
          grind
    · intro c
      have : 0 < (a - b) * (t - m) := mul_pos_r (by grind) h'
      left; grind
theorem ahd_trans (h : Ahd L i j t) (h2 : Ahd L j k t) : Ahd L i k t := by unfold Ahd at *; grind
theorem ahd_irr (h : Ahd L i i t) : False := by unfold Ahd at h; grind
theorem ahd_total (h : i ≠ j) : Ahd L i j t ∨ Ahd L j i t := by
  unfold Ahd
  rcases Nat.lt_or_gt_of_ne h with h | h <;> grind
theorem ahd_asymm (h : Ahd L i j t) (h2 : Ahd L j i t) : False := ahd_irr (ahd_trans h h2)
end
/-! ### rising lists of times -/
def Inc (M : List Rat) : Prop := M.Pairwise (· < ·)
theorem ins_at : ∀ {M : List Rat} (h : Inc M) (t : Rat) (ht : t ∉ M), Inc (M.take (M.filter fun x => decide (x < t)).length ++ [t] ++ M.drop (M.filter fun x => decide (x < t)).length) ∧
    ∀ x, x ∈ M.take (M.filter fun x => decide (x < t)).length ++ [t] ++ M.drop (M.filter fun x => decide (x < t)).length ↔ x = t ∨ x ∈ M
  | [], _, t, _ => by simp [Inc]
  | m :: M, h, t, ht => by
    obtain ⟨h1, h2⟩ := List.pairwise_cons.mp h
    by_cases c : m < t
    · rw [List.filter_cons_of_pos (by simpa using c), List.length_cons, List.take_succ_cons, List.drop_succ_cons]
      obtain ⟨i1, i2⟩ := ins_at h2 t (fun z => ht (List.mem_cons_of_mem _ z))
      refine ⟨?_, fun x => ?_⟩
      · rw [List.cons_append, List.cons_append]
        refine List.pairwise_cons.mpr ⟨fun x hx => ?_, i1⟩
        rcases (i2 x).mp hx with rfl | hx
        · exact c
        · exact h1 x hx
      · rw [List.cons_append, List.cons_append, List.mem_cons, i2, List.mem_cons]
        grind
    · have hm : t < m := by
        have : t ≠ m := fun z => ht (by simp [z])
        grind
      have hf : (m :: M).filter (fun x => decide (x < t)) = [] := by
        rw [List.filter_eq_nil_iff]
        intro x hx
        rcases List.mem_cons.mp hx with rfl | hx
        · simpa using c
        · have := h1 x hx
          simp only [decide_eq_true_eq]
          grind
      rw [hf]
      refine ⟨?_, fun x => by simp⟩
      show Inc (t :: m :: M)
      refine List.pairwise_cons.mpr ⟨fun x hx => ?_, h⟩
      rcases List.mem_cons.mp hx with rfl | hx
      · exact hm
      · have := h1 x hx
        grind
/-- the meetings of the pairs gone through -/
structure MI (L : List Ln) (i j : Nat) (M : List Rat) : Prop where
  inc : Inc M
  mem : ∀ t, t ∈ M ↔ ∃ a b, (a < i ∨ (a = i ∧ b < j)) ∧ b < a ∧ a < L.length ∧ (ln L a).2 ≠ (ln L b).2 ∧ t = met (ln L a) (ln L b)
  len : M.length ≤ 20 * i + j
structure IsMeet (L : List Ln) (M : List Rat) : Prop where
  inc : Inc M
  mem : ∀ t, t ∈ M ↔ ∃ a b, a < L.length ∧ b < L.length ∧ (ln L a).2 ≠ (ln L b).2 ∧ t = met (ln L a) (ln L b)
  len : M.length ≤ 400
section
variable {L : List Ln} {i j : Nat} {M : List Rat} {t : Rat}
theorem MI.start : MI L 0 0 [] := ⟨.nil, fun t => ⟨fun h => (nomatch h), fun ⟨a, b, h, h2, _⟩ => by omega⟩, by simp⟩
theorem MI.put (h : MI L i j M) (hj : j < i) (hi : i < L.length) (e : (ln L i).2 ≠ (ln L j).2) (k : met (ln L i) (ln L j) ∉ M) : MI L i (j + 1) (M.take (M.filter fun x => decide (x < met (ln L i) (ln L j))).length ++ [met (ln L i) (ln L j)] ++ M.drop (M.filter fun x => decide (x < met (ln L i) (ln L j))).length) := by
  obtain ⟨h1, h2⟩ := ins_at h.inc _ k
  refine ⟨h1, fun t => ?_, ?_⟩
  · rw [h2]
    constructor
    · rintro (rfl | ht)
      · exact ⟨i, j, by omega, hj, hi, e, rfl⟩
      · obtain ⟨a, b, h1, h2⟩ := (h.mem t).mp ht
        exact ⟨a, b, by omega, h2⟩
    · rintro ⟨a, b, h1, h2, h3, h4, h5⟩
      by_cases hb : a = i ∧ b = j
      · obtain ⟨rfl, rfl⟩ := hb; exact .inl h5
      · exact .inr ((h.mem t).mpr ⟨a, b, by omega, h2, h3, h4, h5⟩)
  · have := h.len
    simp only [List.length_append, List.length_take, List.length_drop, List.length_cons, List.length_nil]
    omega
theorem MI.next (h : MI L i i M) (hi : i ≤ 20) : MI L (i + 1) 0 M := by
  refine ⟨h.inc, fun t => ?_, by have := h.len; omega⟩
  rw [h.mem]
  constructor
  · rintro ⟨a, b, h1, h2⟩; exact ⟨a, b, by omega, h2⟩
  · rintro ⟨a, b, h1, h2, h3⟩; exact ⟨a, b, by omega, h2, h3⟩
theorem IsMeet.nz (h : IsMeet L M) (k : LOk L) (ht : t ∈ M) : Nz 1210 t := by
  obtain ⟨a, b, h1, h2, h3, rfl⟩ := (h.mem t).mp ht
  exact (k.at h1).met (k.at h2) h3
theorem MI.nz (h : MI L i j M) (k : LOk L) (ht : t ∈ M) : Nz 1210 t := by
  obtain ⟨a, b, h1, h2, h3, h4, rfl⟩ := (h.mem t).mp ht
  exact (k.at h3).met (k.at (by omega)) h4
end
/-- rising lists of the same times -/
theorem inc_ext : ∀ {M N : List Rat}, Inc M → Inc N → (∀ t, t ∈ M ↔ t ∈ N) → M = N
  | [], [], _, _, _ => rfl
  | [], n :: N, _, _, h => by have := (h n).mpr (by simp); cases this
  | m :: M, [], _, _, h => by have := (h m).mp (by simp); cases this
  | m :: M, n :: N, hm, hn, h => by
    obtain ⟨m1, m2⟩ := List.pairwise_cons.mp hm
    obtain ⟨n1, n2⟩ := List.pairwise_cons.mp hn
    have e : m = n := by
      rcases List.mem_cons.mp ((h m).mp (by simp)) with e | e
      · exact e
      · rcases List.mem_cons.mp ((h n).mpr (by simp)) with e' | e'
        · exact e'.symm
        · have := m1 n e'; have := n1 m e; grind
    subst e
    rw [inc_ext m2 n2 fun t => ?_]
    constructor
    · intro ht
      rcases List.mem_cons.mp ((h t).mp (List.mem_cons_of_mem _ ht)) with e | e
      · subst e; have := m1 t ht; grind
      · exact e
    · intro ht
      rcases List.mem_cons.mp ((h t).mpr (List.mem_cons_of_mem _ ht)) with e | e
      · subst e; have := n1 t ht; grind
      · exact e
/-! ### probes -/
def mi (M : List Rat) (i : Nat) : Rat := M.getD i 0
section
variable {M : List Rat} {i : Nat} {t : Rat}
theorem mi_get (h : i < M.length) : M[i]? = some (mi M i) := by
  unfold mi; rw [List.getD_eq_getElem?_getD, List.getElem?_eq_getElem h]; rfl
theorem atQ (h : i < M.length) : atI (M.map eQ) (i : Int) = some (eQ (mi M i)) := atI_nat (by rw [List.getElem?_map, mi_get h]; rfl)
end
theorem z_succ (k : Nat) : ((k : Int) + 1) = ((k + 1 : Nat) : Int) := rfl
theorem Sub.own {S S' : Sto} {p : Addr} {o : O} (h : Sub S S') (n : S p = Option.none) : Sub S (ups S' p o) := fun b u e => by
  rw [ups_ne (ne_of_st e n)]; exact h b u e
/-! ### lists compared -/
section
variable {α : Type} [DecidableEq α] [Enc α] {S : Sto} {Q : VK2} {a b : Addr} {xs ys : List α}
theorem eq_refs (h1 : S a = some (.lst (xs.map Enc.enc))) (h2 : S b = some (.lst (ys.map Enc.enc))) (q : Q (.bl (decide (xs = ys))) S) (h : Enc.dep α + 1 ≤ 64 := by decide) : rEq (.ref a) (.ref b) S Q := ⟨_, eqL xs ys (list_ref h1) (list_ref h2) h, q⟩
theorem in_ref {x : α} (h1 : S a = some (.lst (xs.map Enc.enc))) (q : Q (.bl (decide (x ∈ xs))) S) (h : Enc.dep α + 1 ≤ 64 := by decide) : rIn (Enc.enc x) (.ref a) S Q := ⟨_, inL x xs (list_ref h1) h, q⟩
end
theorem PenA.sub {S S' : Sto} {a : Addr} {sc : List Int} (h : PenA S a sc) (s : Sub S S') : PenA S' a sc := let ⟨x, y, e⟩ := h; ⟨x, y, s _ _ e⟩
end DL
namespace DL
open PySem PySem.Spec PyProof.Rows L2
/-! ### who is ahead of all -/
def IsTop (L : List Ln) (t : Rat) (r : Nat) : Prop := r < L.length ∧ ∀ j, j < L.length → j ≠ r → Ahd L r j t
theorem IsTop.uniq {L : List Ln} {t : Rat} {r r' : Nat} (h : IsTop L t r) (k : IsTop L t r') : r = r' := by
  by_cases e : r = r'
  · exact e
  · exact (ahd_asymm (h.2 r' k.1 (Ne.symm e)) (k.2 r h.1 e)).elim
/-- ahead ahead of all meetings -/
def Ear (L : List Ln) (i j : Nat) : Prop := (ln L i).2 < (ln L j).2 ∨ ((ln L i).2 = (ln L j).2 ∧ ((ln L j).1 < (ln L i).1 ∨ ((ln L i).1 = (ln L j).1 ∧ i < j)))
instance (L : List Ln) (i j : Nat) : Decidable (Ear L i j) := by unfold Ear; infer_instance
theorem ahd_steep {L : List Ln} {i j : Nat} {t u : Rat} (h : t < u) (a : Ahd L i j t) (b : Ahd L j i u) : (ln L i).2 < (ln L j).2 := by
  by_cases e : (ln L i).2 = (ln L j).2
  · rw [ahd_eq e] at a
    rw [ahd_eq e.symm] at b
    grind
  · by_cases c : t < met (ln L i) (ln L j)
    · exact (ahd_lt e c).mp a
    · have a' := (ahd_ge e c).mp a
      have b' := (ahd_ge (Ne.symm e) (by rw [met_comm (Ne.symm e)]; grind)).mp b
      exact b'
/-! ### rows -/
abbrev Rw := List (Nat × Option Rat)
def Ge (s : Option Rat) (t : Rat) : Prop := ∀ v, s = some v → v ≤ t
def Gt (s : Option Rat) (t : Rat) : Prop := ∀ v, s = some v → v < t
def Seg (P : Rat → Nat → Prop) (s : Option Rat) (r : Nat) : Rw → Prop
  | [] => ∀ t, Ge s t → P t r
  | (r', some u) :: rest => Gt s u ∧ (∀ t, Ge s t → t < u → P t r) ∧ r ≠ r' ∧ Seg P (some u) r' rest
  | (_, none) :: _ => False
def RowOf (P : Rat → Nat → Prop) (rows : Rw) : Prop := ∃ r rest, rows = (r, none) :: rest ∧ Seg P none r rest
def Pre (P : Rat → Nat → Prop) (rows : Rw) (r : Nat) (s : Option Rat) : Prop := ∀ rest, Seg P s r rest → RowOf P (rows ++ rest)
section
variable {P : Rat → Nat → Prop} {rows : Rw} {r r' : Nat} {s : Option Rat} {u : Rat}
theorem Pre.start : Pre P [(r, none)] r none := fun rest h => ⟨r, rest, rfl, h⟩
theorem Pre.step (h : Pre P rows r s) (h1 : Gt s u) (h2 : ∀ t, Ge s t → t < u → P t r) (h3 : r ≠ r') : Pre P (rows ++ [(r', some u)]) r' (some u) := fun rest k => by
  rw [List.append_assoc]
  exact h _ ⟨h1, h2, h3, k⟩
theorem ge_exists (s : Option Rat) : ∃ t, Ge s t := by
  cases s with
  | none => exact ⟨0, fun v h => by cases h⟩
  | some v => exact ⟨v, fun w h => by cases h; exact Rat.le_refl⟩
theorem gt_between {s : Option Rat} {u : Rat} (h : Gt s u) : ∃ t, Ge s t ∧ t < u := by
  cases s with
  | none => exact ⟨u - 1, fun v h => (by cases h), by grind⟩
  | some v => exact ⟨v, fun w h => (by cases h; exact Rat.le_refl), h v rfl⟩
theorem ge_refl (u : Rat) : Ge (some u) u := fun v h => by cases h; exact Rat.le_refl
theorem Seg.head (h : ∀ {t r r'}, P t r → P t r' → r = r') : ∀ {rest rest' : Rw}, Seg P s r rest → Seg P s r' rest' → r = r'
  | [], [], a, b => by
    obtain ⟨t, ht⟩ := ge_exists s
    exact h (a t ht) (b t ht)
  | [], (_, some u) :: _, a, b => by
    obtain ⟨t, ht, hu⟩ := gt_between b.1
    exact h (a t ht) (b.2.1 t ht hu)
  | (_, some u) :: _, [], a, b => by
    obtain ⟨t, ht, hu⟩ := gt_between a.1
    exact h (a.2.1 t ht hu) (b t ht)
  | (_, some u) :: _, (_, some w) :: _, a, b => by
    have : Gt s (min u w) := fun v hv => by have := a.1 v hv; have := b.1 v hv; grind
    obtain ⟨t, ht, hu⟩ := gt_between this
    exact h (a.2.1 t ht (by grind)) (b.2.1 t ht (by grind))
  | (_, none) :: _, _, a, _ => a.elim
  | _, (_, none) :: _, _, b => b.elim
theorem Seg.at0 (h : Seg P (some u) r rows) : P u r := by
  cases rows with
  | nil => exact h u (ge_refl u)
  | cons x xs => cases x with
    | mk a b => cases b with
      | none => exact h.elim
      | some w => exact h.2.1 u (ge_refl u) (h.1 u rfl)
theorem Seg.uniq (h : ∀ {t r r'}, P t r → P t r' → r = r') : ∀ {rest rest' : Rw} {s : Option Rat} {r : Nat}, Seg P s r rest → Seg P s r rest' → rest = rest'
  | [], [], _, _, _, _ => rfl
  | [], (r', some u) :: _, s, r, a, b => by
    exact absurd (h (a u (fun v hv => by have := b.1 v hv; grind)) (Seg.at0 b.2.2.2)) b.2.2.1
  | (r', some u) :: _, [], s, r, a, b => by
    exact absurd (h (b u (fun v hv => by have := a.1 v hv; grind)) (Seg.at0 a.2.2.2)) a.2.2.1
  | (r1, some u) :: rest, (r2, some w) :: rest', s, r, a, b => by
    have e : u = w := by
      by_cases c : u < w
      · exact absurd (h (b.2.1 u (fun v hv => by have := a.1 v hv; grind) c) (Seg.at0 a.2.2.2)) a.2.2.1
      · by_cases c : w < u
        · exact absurd (h (a.2.1 w (fun v hv => by have := b.1 v hv; grind) c) (Seg.at0 b.2.2.2)) b.2.2.1
        · grind
    subst e
    have e : r1 = r2 := h (Seg.at0 a.2.2.2) (Seg.at0 b.2.2.2)
    subst e
    rw [Seg.uniq h a.2.2.2 b.2.2.2]
  | (_, none) :: _, _, _, _, a, _ => a.elim
  | [], (_, none) :: _, _, _, _, b => b.elim
  | (_, some _) :: _, (_, none) :: _, _, _, _, b => b.elim
theorem RowOf.uniq {a b : Rw} (h : ∀ {t r r'}, P t r → P t r' → r = r') (x : RowOf P a) (y : RowOf P b) : a = b := by
  obtain ⟨r, rest, rfl, x⟩ := x
  obtain ⟨r', rest', rfl, y⟩ := y
  obtain rfl := Seg.head (P := P) h x y
  rw [Seg.uniq (P := P) h x y]
end
def IsRow (L : List Ln) (rows : Rw) : Prop := (L = [] ∧ rows = []) ∨ (L ≠ [] ∧ RowOf (IsTop L) rows)
theorem IsRow.uniq {L : List Ln} {a b : Rw} (x : IsRow L a) (y : IsRow L b) : a = b := by
  rcases x with ⟨e, rfl⟩ | ⟨n, x⟩ <;> rcases y with ⟨e', rfl⟩ | ⟨n', y⟩
  · rfl
  · exact absurd e n'
  · exact absurd e' n
  · exact x.uniq (fun h k => h.uniq k) y
theorem Seg.rise {L : List Ln} : ∀ {rest : Rw} {s : Option Rat} {r : Nat}, Seg (IsTop L) s r rest → List.Pairwise (fun (a b : Nat × Option Rat) => (ln L a.1).2 < (ln L b.1).2) ((r, s) :: rest) ∧ ∀ x ∈ (r, s) :: rest, x.1 < L.length
  | [], s, r, h => by
    obtain ⟨t, ht⟩ := ge_exists s
    refine ⟨List.pairwise_singleton _ _, fun x hx => ?_⟩
    rw [List.mem_singleton.mp hx]
    exact (h t ht).1
  | (r', some u) :: rest, s, r, h => by
    obtain ⟨i1, i2⟩ := Seg.rise h.2.2.2
    obtain ⟨t, ht, hu⟩ := gt_between h.1
    have a := h.2.1 t ht hu
    have b := Seg.at0 h.2.2.2
    have st := ahd_steep hu (a.2 r' b.1 (Ne.symm h.2.2.1)) (b.2 r a.1 h.2.2.1)
    refine ⟨List.pairwise_cons.mpr ⟨fun x hx => ?_, i1⟩, fun x hx => ?_⟩
    · rcases List.mem_cons.mp hx with rfl | hx
      · exact st
      · have := (List.pairwise_cons.mp i1).1 x hx
        show (ln L r).2 < (ln L x.1).2
        grind
    · rcases List.mem_cons.mp hx with rfl | hx
      · exact a.1
      · exact i2 x hx
  | (_, none) :: _, _, _, h => h.elim
theorem IsRow.rise {L : List Ln} {rows : Rw} (h : IsRow L rows) : List.Pairwise (fun (a b : Nat × Option Rat) => (ln L a.1).2 < (ln L b.1).2) rows ∧ ∀ x ∈ rows, x.1 < L.length := by
  rcases h with ⟨_, rfl⟩ | ⟨_, r, rest, rfl, h⟩
  · exact ⟨.nil, fun _ h => by cases h⟩
  · exact h.rise
/-- unlike numbers below n are at most n -/
theorem nodup_le : ∀ (n : Nat) (xs : List Nat), xs.Nodup → (∀ x ∈ xs, x < n) → xs.length ≤ n
  | 0, [], _, _ => Nat.le_refl _
  | 0, x :: _, _, h => absurd (h x (by simp)) (by omega)
  | n + 1, xs, nd, h => by
    have := nodup_le n (xs.filter (· != n)) (nd.filter _) (fun x hx => by
      obtain ⟨h1, h2⟩ := List.mem_filter.mp hx
      have := h x h1
      have : x ≠ n := by simpa using h2
      omega)
    have e : xs.length ≤ (xs.filter (· != n)).length + 1 := by
      clear this h
      induction xs with
      | nil => simp
      | cons y ys ih =>
        obtain ⟨n1, n2⟩ := List.nodup_cons.mp nd
        by_cases c : y = n
        · subst c
          have : ys.filter (· != y) = ys := List.filter_eq_self.mpr fun z hz => by
            have : z ≠ y := fun e => n1 (e ▸ hz)
            simpa using this
          rw [List.filter_cons_of_neg (by simp), this, List.length_cons]
          exact Nat.le_refl _
        · rw [List.filter_cons_of_pos (by simpa using c), List.length_cons, List.length_cons]
          have := ih n2
          omega
    omega
theorem IsRow.nd {L : List Ln} {rows : Rw} (h : IsRow L rows) : (rows.map (·.1)).Nodup := by
  unfold List.Nodup
  rw [List.pairwise_map]
  exact h.rise.1.imp fun {a b} h e => by rw [e] at h; exact absurd h (by grind)
theorem IsRow.len {L : List Ln} {rows : Rw} (h : IsRow L rows) : rows.length ≤ L.length := by
  have := nodup_le L.length (rows.map (·.1)) h.nd (fun x hx => by
    obtain ⟨y, hy, rfl⟩ := List.mem_map.mp hx
    exact h.rise.2 y hy)
  rwa [List.length_map] at this
instance : EncU (Nat × Option Rat) where
  uniq := prod_uniq
end DL
namespace DL
open PySem PySem.Spec PyProof.Rows L2
/-! ### rows read, the front -/
def rd (r : Nat) (rest : Rw) (t : Rat) : Nat := rest.foldl (fun acc x => match x.2 with
  | some u => if t < u then acc else x.1
  | none => acc) r
/-- those whose place none is greater than -/
def fr (L : List Ln) (t : Rat) (i : Nat) : Bool := !(L.any fun l => decide (at_ (ln L i) t < at_ l t))
end DL
namespace DL
open PySem PySem.Spec PyProof.Rows L2
/-! ### rows of any numbers -/
instance : EncU (Int × Option Rat) where
  uniq := prod_uniq
/-- a slice -/
def cutG {α : Type} (xs : List α) (lo hi : Option Int) : List α := (xs.drop (HT.sIx xs.length 0 lo)).take (HT.sIx xs.length xs.length hi - HT.sIx xs.length 0 lo)
theorem cutD_map {α : Type} {e : α → D} {xs : List α} {lo hi : Option Int} : cutD (xs.map e) lo hi = (cutG xs lo hi).map e := by
  unfold cutD cutG; rw [List.length_map, List.map_take, List.map_drop]
theorem cutG_1 {α : Type} {xs : List α} : cutG xs (some 1) none = xs.drop 1 := by
  show (xs.drop (HT.sIx xs.length 0 (some ((1 : Nat) : Int)))).take (HT.sIx xs.length xs.length none - HT.sIx xs.length 0 (some ((1 : Nat) : Int))) = _
  rw [HT.sIx_nat, HT.sIx_none]
  by_cases h : 1 ≤ xs.length
  · rw [Nat.min_eq_left h, List.take_of_length_le (by rw [List.length_drop]; omega)]
  · rw [Nat.min_eq_right (by omega), List.drop_eq_nil_of_le (by omega), List.drop_eq_nil_of_le (by omega)]; simp
theorem atM {α : Type} {e : α → D} {xs : List α} {i : Nat} (h : i < xs.length) : ∃ x, xs[i]? = some x ∧ atI (xs.map e) (i : Int) = some (e x) := by
  refine ⟨xs[i], List.getElem?_eq_getElem h, atI_nat ?_⟩
  rw [List.getElem?_map, List.getElem?_eq_getElem h]; rfl
end DL
namespace DL
open PySem PySem.Spec PyProof.Rows L2
/-! ### covers -/
def Cov (L : List Ln) (r a b : Nat) : Prop := ∀ t, Ahd L a r t ∨ Ahd L b r t
theorem Cov.symm {L : List Ln} {r a b : Nat} (h : Cov L r a b) : Cov L r b a := fun t => (h t).symm
def eCv : Option (Nat × Nat) → D
  | none => .non
  | some p => .tup [.int (p.1 : Int), .int (p.2 : Int)]
/-! ### probes hit each stretch -/
theorem ahd_same {L : List Ln} {i j : Nat} {t u : Rat} (h : (ln L i).2 ≠ (ln L j).2 → (met (ln L i) (ln L j) ≤ t ↔ met (ln L i) (ln L j) ≤ u)) : Ahd L i j t ↔ Ahd L i j u := by
  by_cases e : (ln L i).2 = (ln L j).2
  · rw [ahd_eq e, ahd_eq e]
  · have := h e
    by_cases c : t < met (ln L i) (ln L j)
    · rw [ahd_lt e c, ahd_lt e (by grind)]
    · rw [ahd_ge e c, ahd_ge e (by grind)]
/-! ### covers looked at -/
def Alw (L : List Ln) (a r : Nat) : Prop := (ln L a).2 = (ln L r).2 ∧ Ahd L a r 0
def Jnt (L : List Ln) (r a b : Nat) : Prop := (ln L a).2 < (ln L r).2 ∧ (ln L r).2 < (ln L b).2 ∧ ¬ met (ln L a) (ln L r) < met (ln L b) (ln L r)
instance (L : List Ln) (a r : Nat) : Decidable (Alw L a r) := by unfold Alw; infer_instance
instance (L : List Ln) (r a b : Nat) : Decidable (Jnt L r a b) := by unfold Jnt; infer_instance
/-- a number of a runner -/
def Rn (L : List Ln) (r : Nat) (i : Int) : Prop := i ≠ (r : Int) ∧ 0 ≤ i ∧ i < (L.length : Int)
instance (L : List Ln) (r : Nat) (i : Int) : Decidable (Rn L r i) := by unfold Rn; infer_instance
theorem isNon_eCv (c : Option (Nat × Nat)) : isNon (eCv c) = c.isNone := by cases c <;> rfl
instance : EncU (Nat × Nat) where
  uniq := prod_uniq
instance : Enc (Option (Nat × Nat)) where
  enc := eCv
  py
    | none => .none
    | some q => Enc.py q
  isPy S a := by cases a with
    | none => exact .non
    | some q => exact Enc.isPy S q
  eqv a b := by
    cases a <;> cases b
    · simp [PyData.eqv]
    · rename_i q; simp [PyData.eqv, Enc.py]
    · rename_i q; simp [PyData.eqv, Enc.py]
    · rename_i p q; simp only [Enc.eqv]; exact decide_eq_decide.mpr (by simp)
  lay a := by cases a with
    | none => simp [PyData.canLay0]
    | some q => exact Enc.lay q
  dep := 1
  dep_le a := by cases a with
    | none => simp [PyData.depth]
    | some q => exact Enc.dep_le q
instance : EncU (Option (Nat × Nat)) where
  uniq S a p h := by
    cases a with
    | none => cases h; rfl
    | some q => exact EncU.uniq S q p h
theorem eCv_ni (o : Option (Nat × Nat)) : (∀ i, eCv o ≠ .int i) ∧ (∀ i, eCv o ≠ .bl i) ∧ (∀ i, eCv o ≠ .str i) := by
  cases o <;> (refine ⟨?_, ?_, ?_⟩ <;> intro i h <;> cases h)
theorem z_neCv {S : Sto} {Q : VK2} {a b : Option (Nat × Nat)} : rNe (eCv a) (eCv b) S Q = Q (.bl (!decide (a = b))) S := (rNe_ne (eCv_ni a).1 (eCv_ni a).2.1 (eCv_ni a).2.2).trans (eqD_ex (Q := fun c => Q (.bl (!c)) S) a b)
end DL
namespace DL
open PySem PySem.Spec PyProof.Rows L2
theorem nodup_sub {α : Type} [DecidableEq α] : ∀ {xs ys : List α}, xs.Nodup → (∀ x ∈ xs, x ∈ ys) → xs.length ≤ ys.length
  | [], _, _, _ => Nat.zero_le _
  | x :: xs, ys, h, s => by
    obtain ⟨h1, h2⟩ := List.nodup_cons.mp h
    have hx : x ∈ ys := s x (by simp)
    have := nodup_sub (ys := ys.erase x) h2 fun z hz => (List.mem_erase_of_ne (fun e : z = x => h1 (by rw [← e]; exact hz))).mpr (s z (List.mem_cons_of_mem _ hz))
    rw [List.length_erase_of_mem hx] at this
    have hp := List.length_pos_of_mem hx
    rw [List.length_cons]
    omega
end DL
namespace DL
open PySem PySem.Spec PyProof.Rows L2
/-! ### another pen -/
@[reducible] def penP (sc : List Int) (x y : Int) : O := .lst [.int x, .int y, .fl (sc.map D.int)]
def PenB (S : Sto) (a : Addr) (sc : List Int) : Prop := ∃ x y, S a = some (penP sc x y)
section
variable {S S' : Sto} {a p : Addr} {sc : List Int} {o : O} {x y : Int} {L : List Ln}
theorem penB_again : PenB (ups S a (penP sc x y)) a sc := ⟨x, y, ups_same⟩
theorem PenB.ne (h : PenB S a sc) (n : S p = none) : a ≠ p := let ⟨_, _, e⟩ := h; ne_of_st e n
theorem PenB.new (h : PenB S a sc) (n : S p = none) : PenB (ups S p o) a sc := let ⟨x, y, e⟩ := h; ⟨x, y, by rw [ups_ne (ne_of_st e n)]; exact e⟩
theorem PenB.upd (h : PenB S a sc) (n : a ≠ p) : PenB (ups S p o) a sc := let ⟨x, y, e⟩ := h; ⟨x, y, by rw [ups_ne n]; exact e⟩
theorem PenB.sub (h : PenB S a sc) (s : Sub S S') : PenB S' a sc := let ⟨x, y, e⟩ := h; ⟨x, y, s _ _ e⟩
end
/-! ### orders -/
structure IsOrd (L : List Ln) (t : Rat) (n : Nat) (O : List Nat) : Prop where
  pw : O.Pairwise fun i j => Ahd L i j t
  mem : ∀ i, i ∈ O ↔ i < n
theorem pw_ext {α : Type} {R : α → α → Prop} (as : ∀ a b, R a b → R b a → False) : ∀ {xs ys : List α}, xs.Pairwise R → ys.Pairwise R → (∀ z, z ∈ xs ↔ z ∈ ys) → xs = ys
  | [], [], _, _, _ => rfl
  | [], y :: ys, _, _, h => by have := (h y).mpr (by simp); cases this
  | x :: xs, [], _, _, h => by have := (h x).mp (by simp); cases this
  | x :: xs, y :: ys, hx, hy, h => by
    obtain ⟨x1, x2⟩ := List.pairwise_cons.mp hx
    obtain ⟨y1, y2⟩ := List.pairwise_cons.mp hy
    have e : x = y := by
      rcases List.mem_cons.mp ((h x).mp (by simp)) with e | e
      · exact e
      · rcases List.mem_cons.mp ((h y).mpr (by simp)) with e' | e'
        · exact e'.symm
        · exact (as _ _ (x1 y e') (y1 x e)).elim
    subst e
    rw [pw_ext as x2 y2 fun z => ?_]
    constructor
    · intro hz
      rcases List.mem_cons.mp ((h z).mp (List.mem_cons_of_mem _ hz)) with e | e
      · subst e; exact (as _ _ (x1 z hz) (x1 z hz)).elim
      · exact e
    · intro hz
      rcases List.mem_cons.mp ((h z).mpr (List.mem_cons_of_mem _ hz)) with e | e
      · subst e; exact (as _ _ (y1 z hz) (y1 z hz)).elim
      · exact e
theorem IsOrd.uniq {L : List Ln} {t : Rat} {n : Nat} {O O' : List Nat} (h : IsOrd L t n O) (k : IsOrd L t n O') : O = O' := pw_ext (fun _ _ a b => ahd_asymm a b) h.pw k.pw fun z => by rw [h.mem, k.mem]
theorem IsOrd.nil {L : List Ln} {t : Rat} : IsOrd L t 0 [] := ⟨.nil, fun i => ⟨fun h => (by cases h), fun h => (by omega)⟩⟩
theorem IsOrd.nd {L : List Ln} {t : Rat} {n : Nat} {O : List Nat} (h : IsOrd L t n O) : O.Nodup := h.pw.imp fun {a b} x e => by subst e; exact ahd_irr x
theorem IsOrd.len {L : List Ln} {t : Rat} {n : Nat} {O : List Nat} (h : IsOrd L t n O) : O.length = n := by
  have h1 := nodup_le n O h.nd fun x hx => (h.mem x).mp hx
  have h2 := nodup_sub (xs := List.range n) (ys := O) List.nodup_range fun x hx => (h.mem x).mpr (List.mem_range.mp hx)
  rw [List.length_range] at h2
  omega
/-- one more, put where those behind begin -/
theorem IsOrd.ins {L : List Ln} {t : Rat} {n k : Nat} {O : List Nat} (h : IsOrd L t n O) (h1 : ∀ i ∈ O.take k, Ahd L i n t) (h2 : ∀ i ∈ O.drop k, Ahd L n i t) : IsOrd L t (n + 1) (O.take k ++ [n] ++ O.drop k) := by
  have hp := h.pw
  rw [← List.take_append_drop k O] at hp
  obtain ⟨p1, p2, p3⟩ := List.pairwise_append.mp hp
  constructor
  · rw [List.append_assoc]
    refine List.pairwise_append.mpr ⟨p1, List.pairwise_cons.mpr ⟨h2, p2⟩, fun a ha b hb => ?_⟩
    rcases List.mem_cons.mp hb with rfl | hb
    · exact h1 a ha
    · exact p3 a ha b hb
  · intro i
    have : i ∈ O ↔ i ∈ O.take k ∨ i ∈ O.drop k := by rw [← List.mem_append, List.take_append_drop]
    have hm := h.mem i
    simp only [List.mem_append, List.mem_singleton]
    constructor
    · rintro ((a | a) | a)
      · have := hm.mp (this.mpr (.inl a)); omega
      · omega
      · have := hm.mp (this.mpr (.inr a)); omega
    · intro a
      by_cases e : i = n
      · exact .inl (.inr e)
      · rcases this.mp (hm.mpr (by omega)) with b | b
        · exact .inl (.inl b)
        · exact .inr b
/-- the law's way: those not behind, the new one, those behind -/
theorem ord_filter {L : List Ln} {t : Rat} {n : Nat} {O : List Nat} (h : IsOrd L t n O) : IsOrd L t (n + 1) (O.filter (fun o => !decide (Ahd L n o t)) ++ [n] ++ O.filter fun o => decide (Ahd L n o t)) := by
  constructor
  · rw [List.append_assoc]
    refine List.pairwise_append.mpr ⟨h.pw.filter _, List.pairwise_cons.mpr ⟨fun b hb => by simpa using (List.mem_filter.mp hb).2, h.pw.filter _⟩, fun a ha b hb => ?_⟩
    obtain ⟨a1, a2⟩ := List.mem_filter.mp ha
    have a2 : ¬ Ahd L n a t := by simpa using a2
    have ha' : Ahd L a n t := (ahd_total (L := L) (t := t) (i := a) (j := n) (by have := (h.mem a).mp a1; omega)).resolve_right a2
    rcases List.mem_cons.mp hb with rfl | hb
    · exact ha'
    · exact ahd_trans ha' (by simpa using (List.mem_filter.mp hb).2)
  · intro i
    have hm := h.mem i
    simp only [List.mem_append, List.mem_singleton, List.mem_filter]
    constructor
    · rintro ((a | a) | a)
      · have := hm.mp a.1; omega
      · omega
      · have := hm.mp a.1; omega
    · intro a
      by_cases e : i = n
      · exact .inl (.inr e)
      · have := hm.mpr (by omega)
        by_cases c : Ahd L n i t
        · exact .inr ⟨this, by simpa using c⟩
        · exact .inl (.inl ⟨this, by simpa using c⟩)
end DL
namespace DL
open PySem PySem.Spec PyProof.Rows L2
/-! ### nested data, as == reads it -/
class PyV (α : Type) [DecidableEq α] where
  py : α → PyData
  eqv : ∀ a b, PyData.eqv (py a) (py b) = decide (a = b)
  lay : ∀ a, (py a).canLay0 = true
  dep : Nat
  dep_le : ∀ a, (py a).depth ≤ dep
/-- no None -/
class PyN (α : Type) [DecidableEq α] [PyV α] : Prop where
  nn : ∀ a : α, PyData.eqv .none (PyV.py a) = false ∧ PyData.eqv (PyV.py a) .none = false
structure Tri (α β γ : Type) where
  a : α
  b : β
  c : γ
deriving DecidableEq
instance (priority := 2000) pyvEnc {α : Type} [DecidableEq α] [Enc α] : PyV α where
  py := Enc.py
  eqv := Enc.eqv
  lay := Enc.lay
  dep := Enc.dep α
  dep_le := Enc.dep_le
section
variable {α β γ : Type} [DecidableEq α] [DecidableEq β] [DecidableEq γ]
section
variable [PyV α] [PyV β] [PyV γ]
theorem pyv_all : ∀ xs ys : List α, PyData.eqvAll (xs.map PyV.py) (ys.map PyV.py) = decide (xs = ys)
  | [], [] => by simp [PyData.eqvAll]
  | [], _ :: _ => by simp [PyData.eqvAll]
  | _ :: _, [] => by simp [PyData.eqvAll]
  | x :: xs, y :: ys => by
    simp only [List.map_cons, PyData.eqvAll]
    rw [PyV.eqv x y, pyv_all xs ys, ← Bool.decide_and]
    exact decide_eq_decide.mpr (by rw [List.cons.injEq])
theorem pyv_lay : ∀ xs : List α, PyData.canLayAll0 (xs.map PyV.py) = true
  | [] => by simp [PyData.canLayAll0]
  | x :: xs => by simp [PyData.canLayAll0, PyV.lay x, pyv_lay xs]
theorem pyv_dep : ∀ xs : List α, PyData.depthAll (xs.map PyV.py) ≤ PyV.dep α
  | [] => by simp [PyData.depthAll]
  | x :: xs => by
    have h1 := pyv_dep xs
    have h2 := PyV.dep_le x
    simp only [List.map_cons, PyData.depthAll]
    omega
instance : PyV (List α) where
  py xs := .list (xs.map PyV.py)
  eqv a b := by simp only [PyData.eqv]; exact pyv_all a b
  lay a := by simp only [PyData.canLay0]; exact pyv_lay a
  dep := PyV.dep α + 1
  dep_le a := by simp only [PyData.depth]; have := pyv_dep a; omega
instance : PyV (α × β) where
  py p := .tuple [PyV.py p.1, PyV.py p.2]
  eqv a b := by
    simp only [PyData.eqv, PyData.eqvAll]
    rw [Bool.and_true, PyV.eqv, PyV.eqv, ← Bool.decide_and]
    exact decide_eq_decide.mpr ⟨fun h => Prod.ext h.1 h.2, fun h => by rw [h]; exact ⟨rfl, rfl⟩⟩
  lay p := by simp [PyData.canLay0, PyData.canLayAll0, PyV.lay]
  dep := max (PyV.dep α) (PyV.dep β) + 1
  dep_le p := by
    simp only [PyData.depth, PyData.depthAll]
    have h1 := PyV.dep_le p.1
    have h2 := PyV.dep_le p.2
    omega
instance : PyV (Tri α β γ) where
  py p := .tuple [PyV.py p.a, PyV.py p.b, PyV.py p.c]
  eqv x y := by
    simp only [PyData.eqv, PyData.eqvAll]
    rw [Bool.and_true, PyV.eqv, PyV.eqv, PyV.eqv, ← Bool.decide_and, ← Bool.decide_and]
    exact decide_eq_decide.mpr (by cases x; cases y; simp)
  lay p := by simp [PyData.canLay0, PyData.canLayAll0, PyV.lay]
  dep := max (PyV.dep α) (max (PyV.dep β) (PyV.dep γ)) + 1
  dep_le p := by
    simp only [PyData.depth, PyData.depthAll]
    have h1 := PyV.dep_le p.a
    have h2 := PyV.dep_le p.b
    have h3 := PyV.dep_le p.c
    omega
instance : PyN (List α) where
  nn a := by constructor <;> simp only [PyV.py, PyData.eqv]
instance : PyN (α × β) where
  nn a := by constructor <;> simp only [PyV.py, PyData.eqv]
instance : PyN (Tri α β γ) where
  nn a := by constructor <;> simp only [PyV.py, PyData.eqv]
instance (priority := low) [PyN α] : PyV (Option α) where
  py
    | none => .none
    | some a => PyV.py a
  eqv a b := by
    cases a <;> cases b
    · simp [PyData.eqv]
    · simp only [(PyN.nn _).1]; simp
    · simp only [(PyN.nn _).2]; simp
    · simp only [PyV.eqv]; exact decide_eq_decide.mpr (by simp)
  lay a := by cases a with
    | none => simp [PyData.canLay0]
    | some q => exact PyV.lay q
  dep := PyV.dep α
  dep_le a := by cases a with
    | none => simp [PyData.depth]
    | some q => exact PyV.dep_le q
end
/-- d stands for a -/
abbrev Rep [PyV α] (S : Sto) (d : D) (a : α) : Prop := Py S d (PyV.py a)
section
variable {S : Sto} {Q : VK2} {d e : D}
theorem rNe_of {c : Bool} (h : EqD S d e c) (q : Q (.bl (!c)) S) : rNe d e S Q := by
  obtain ⟨p, r, h1, h2, s1, s2, rfl⟩ := h
  unfold rNe
  split
  · cases h1; cases h2; simp only [PyData.eqv] at q; rwa [show decide (_ = _) = (_ == _) from (Bool.beq_eq_decide_eq _ _).symm]
  · cases h1; cases h2; simp only [PyData.eqv] at q; rwa [show decide (_ = _) = (_ == _) from (Bool.beq_eq_decide_eq _ _).symm]
  · cases h1; cases h2; simp only [PyData.eqv] at q; rwa [show decide (_ = _) = (_ == _) from (Bool.beq_eq_decide_eq _ _).symm]
  · exact ⟨_, ⟨p, r, h1, h2, s1, s2, rfl⟩, q⟩
theorem rep_enc [Enc α] (a : α) : Rep S (Enc.enc a) a := Enc.isPy S a
theorem rep_pair [PyV α] [PyV β] {a : α} {b : β} (h1 : Rep S d a) (h2 : Rep S e b) : Rep S (.tup [d, e]) (a, b) := .tup (.cons h1 (.cons h2 .nil))
theorem pys_map [PyV α] {δ : Type} {f : δ → D} {g : δ → α} : ∀ {xs : List δ}, (∀ x ∈ xs, Rep S (f x) (g x)) → Pys S (xs.map f) ((xs.map g).map PyV.py)
  | [], _ => .nil
  | x :: xs, h => .cons (h x (by simp)) (pys_map fun y hy => h y (List.mem_cons_of_mem _ hy))
theorem rep_list [PyV α] {δ : Type} {f : δ → D} {g : δ → α} {a : Addr} {xs : List δ} (h : S a = some (.lst (xs.map f))) (k : ∀ x ∈ xs, Rep S (f x) (g x)) : Rep S (.ref a) (xs.map g) := .lst h (pys_map k)
theorem rep_lst [Enc α] {a : Addr} {xs : List α} (h : S a = some (.lst (xs.map Enc.enc))) : Rep S (.ref a) xs := .lst h (pys_enc xs)
end
/-! ### threes -/
section
variable [Enc α] [Enc β] [Enc γ]
@[reducible] def eT (x : Tri α β γ) : D := .tup [Enc.enc x.a, Enc.enc x.b, Enc.enc x.c]
instance : Enc (Tri α β γ) where
  enc := eT
  py p := .tuple [Enc.py p.a, Enc.py p.b, Enc.py p.c]
  isPy S p := .tup (.cons (Enc.isPy S p.a) (.cons (Enc.isPy S p.b) (.cons (Enc.isPy S p.c) .nil)))
  eqv x y := by
    simp only [PyData.eqv, PyData.eqvAll]
    rw [Bool.and_true, Enc.eqv, Enc.eqv, Enc.eqv, ← Bool.decide_and, ← Bool.decide_and]
    exact decide_eq_decide.mpr (by cases x; cases y; simp)
  lay p := by simp [PyData.canLay0, PyData.canLayAll0, Enc.lay]
  dep := max (Enc.dep α) (max (Enc.dep β) (Enc.dep γ)) + 1
  dep_le p := by
    simp only [PyData.depth, PyData.depthAll]
    have h1 := Enc.dep_le p.a
    have h2 := Enc.dep_le p.b
    have h3 := Enc.dep_le p.c
    omega
def eTO : Option (Tri α β γ) → D
  | none => .non
  | some x => eT x
theorem eTO_none : eTO (none : Option (Tri α β γ)) = .non := rfl
theorem eTO_some (x : Tri α β γ) : eTO (some x) = .tup [Enc.enc x.a, Enc.enc x.b, Enc.enc x.c] := rfl
theorem isNon_eTO (o : Option (Tri α β γ)) : isNon (eTO o) = o.isNone := by cases o <;> rfl
instance : Enc (Option (Tri α β γ)) where
  enc := eTO
  py
    | none => .none
    | some q => Enc.py q
  isPy S a := by cases a with
    | none => exact .non
    | some q => exact Enc.isPy S q
  eqv a b := by
    cases a <;> cases b
    · simp [PyData.eqv]
    · rename_i q; simp [PyData.eqv, Enc.py]
    · rename_i q; simp [PyData.eqv, Enc.py]
    · rename_i p q; simp only [Enc.eqv]; exact decide_eq_decide.mpr (by simp)
  lay a := by cases a with
    | none => simp [PyData.canLay0]
    | some q => exact Enc.lay q
  dep := Enc.dep (Tri α β γ)
  dep_le a := by cases a with
    | none => simp [PyData.depth]
    | some q => exact Enc.dep_le q
end
end
/-! ### neighbours -/
def prs (O : List Nat) : List (Nat × Nat) := O.zip (O.drop 1)
theorem prs_mem {O : List Nat} {p : Nat × Nat} (h : p ∈ prs O) : p.1 ∈ O ∧ p.2 ∈ O := by
  have := List.of_mem_zip (a := p.1) (b := p.2) h
  exact ⟨this.1, List.mem_of_mem_drop this.2⟩
theorem snoc_ind {α : Type} {P : List α → Prop} (h0 : P []) (h1 : ∀ xs x, P xs → P (xs ++ [x])) : ∀ xs, P xs := fun xs => by
  rw [← List.reverse_reverse xs]
  induction xs.reverse with
  | nil => exact h0
  | cons x r ih => rw [List.reverse_cons]; exact h1 _ _ ih
section
variable {S : Sto}
theorem enc_nat (n : Nat) : Enc.enc n = D.int (n : Int) := rfl
theorem enc_int (n : Int) : Enc.enc n = D.int n := rfl
theorem enc_bl (n : Bool) : Enc.enc n = D.bl n := rfl
theorem enc_rat (q : Rat) : Enc.enc q = D.tup [.int q.num, .int (q.den : Int)] := rfl
theorem enc_opt (q : Option Rat) : Enc.enc q = eO q := rfl
theorem cut3_2 {a b c : D} : cutD [a, b, c] none (some 2) = [a, b] := rfl
end
/-! ### papers -/
abbrev Ppr := Tri Nat Nat (Option Rat)
def pprs (L : List Ln) (t : Rat) (O : List Nat) : List Ppr := (prs O).map fun p => ⟨p.1, p.2, nxt L p.1 p.2 t⟩
theorem nxt_nz {L : List Ln} (h : LOk L) {i j : Nat} (hi : i < L.length) (hj : j < L.length) {t u : Rat} (e : nxt L i j t = some u) : Nz 1210 u := by
  unfold nxt at e
  split at e
  · next c => cases e; exact (h.at hi).met (h.at hj) c.1
  · cases e
/-! ### right papers -/
abbrev PprI := Tri Int Int (Option Rat)
@[reducible] def eI3 (x : PprI) : D := .tup [.int x.a, .int x.b, eO x.c]
def okT (t : Rat) : Option Rat → Bool
  | none => true
  | some u => decide (t < u)
/-- change, till -/
def okC : Option Rat → Option Rat → Bool
  | none, _ => true
  | some _, none => false
  | some v, some u => !decide (v < u)
def Rnn (n : Nat) (i j : Int) : Prop := i ≠ j ∧ (0 ≤ i ∧ i < (n : Int)) ∧ (0 ≤ j ∧ j < (n : Int))
instance (n : Nat) (i j : Int) : Decidable (Rnn n i j) := by unfold Rnn; infer_instance
def rtB (L : List Ln) (t : Rat) (x : PprI) : Bool := decide (Rnn L.length x.a x.b) && (okT t x.c && (decide (Ahd L x.a.toNat x.b.toNat t) && okC (nxt L x.a.toNat x.b.toNat t) x.c))
end DL
namespace DL
open PySem PySem.Spec PyProof.Rows L2
/-! ### pairs by times -/
abbrev Pr := Nat × Nat
@[reducible] def eP2 (p : Pr) : D := .tup [.int (p.1 : Int), .int (p.2 : Int)]
def pref (n i j : Nat) : List Pr := ((List.range i).flatMap fun a => (List.range n).map fun b => (a, b)) ++ (List.range j).map fun b => (i, b)
def allP (n : Nat) : List Pr := pref n n 0
theorem pref_mem {n i j : Nat} {p : Pr} (h : p ∈ pref n i j) (hj : j ≤ n) : (p.1 < i ∧ p.2 < n) ∨ (p.1 = i ∧ p.2 < j) := by
  unfold pref at h
  rcases List.mem_append.mp h with h | h
  · obtain ⟨a, ha, h⟩ := List.mem_flatMap.mp h
    obtain ⟨b, hb, rfl⟩ := List.mem_map.mp h
    exact .inl ⟨List.mem_range.mp ha, List.mem_range.mp hb⟩
  · obtain ⟨b, hb, rfl⟩ := List.mem_map.mp h
    exact .inr ⟨rfl, List.mem_range.mp hb⟩
theorem allP_mem {n : Nat} {p : Pr} : p ∈ allP n ↔ p.1 < n ∧ p.2 < n := by
  constructor
  · intro h
    rcases pref_mem h (Nat.zero_le _) with h | h
    · exact h
    · omega
  · rintro ⟨h1, h2⟩
    unfold allP pref
    refine List.mem_append_left _ (List.mem_flatMap.mpr ⟨p.1, List.mem_range.mpr h1, List.mem_map.mpr ⟨p.2, List.mem_range.mpr h2, rfl⟩⟩)
abbrev Grp := List (Rat × List Pr)
structure IsGrp (tm : Pr → Option Rat) (ps : List Pr) (C : Grp) : Prop where
  inc : Inc (C.map (·.1))
  mem : ∀ t, t ∈ C.map (·.1) ↔ ∃ p ∈ ps, tm p = some t
  grp : ∀ x ∈ C, x.2 = ps.filter fun p => decide (tm p = some x.1)
  len : C.length ≤ ps.length
section
variable {tm : Pr → Option Rat} {ps : List Pr} {C C' : Grp} {p : Pr} {t : Rat} {k : Nat}
theorem IsGrp.nil : IsGrp tm [] [] := ⟨.nil, fun t => ⟨fun h => (by cases h), fun ⟨_, h, _⟩ => (by cases h)⟩, fun _ h => (by cases h), Nat.le_refl _⟩
theorem IsGrp.uniq (h : IsGrp tm ps C) (k : IsGrp tm ps C') : C = C' := by
  have e := inc_ext h.inc k.inc fun t => by rw [h.mem, k.mem]
  apply List.ext_getElem?
  intro i
  have e2 := congrArg (·[i]?) e
  simp only [List.getElem?_map] at e2
  cases h1 : C[i]? with
  | none =>
    rw [h1] at e2
    cases h2 : C'[i]? with
    | none => rfl
    | some y => rw [h2] at e2; cases e2
  | some x =>
    rw [h1] at e2
    cases h2 : C'[i]? with
    | none => rw [h2] at e2; cases e2
    | some y =>
      rw [h2] at e2
      have e3 : x.1 = y.1 := Option.some.inj e2
      have g1 := h.grp x (List.mem_of_getElem? h1)
      have g2 := k.grp y (List.mem_of_getElem? h2)
      rw [e3] at g1
      exact congrArg some (Prod.ext e3 (g1.trans g2.symm))
theorem inc_ins {M : List Rat} (h : Inc M) (h1 : ∀ x ∈ M.take k, x < t) (h2 : ∀ x ∈ M.drop k, t < x) : Inc (M.take k ++ [t] ++ M.drop k) := by
  have h' : Inc (M.take k ++ M.drop k) := by rw [List.take_append_drop]; exact h
  obtain ⟨a1, a2, a3⟩ := List.pairwise_append.mp h'
  refine List.pairwise_append.mpr ⟨List.pairwise_append.mpr ⟨a1, List.pairwise_singleton _ _, fun x hx y hy => ?_⟩, a2, fun x hx y hy => ?_⟩
  · rw [List.mem_singleton.mp hy]; exact h1 x hx
  · rcases List.mem_append.mp hx with hx | hx
    · exact a3 x hx y hy
    · rw [List.mem_singleton.mp hx]; exact h2 y hy
theorem IsGrp.ins (h : IsGrp tm ps C) (e : tm p = some t) (h1 : ∀ x ∈ C.take k, x.1 < t) (h2 : ∀ x ∈ C.drop k, t < x.1) : IsGrp tm (ps ++ [p]) (C.take k ++ [(t, [p])] ++ C.drop k) := by
  have hm : ∀ x, x ∈ C.take k ++ [(t, [p])] ++ C.drop k ↔ x ∈ C ∨ x = (t, [p]) := fun x => by
    rw [List.mem_append, List.mem_append, List.mem_singleton]
    constructor
    · rintro ((h | h) | h)
      · exact .inl (List.mem_of_mem_take h)
      · exact .inr h
      · exact .inl (List.mem_of_mem_drop h)
    · rintro (h | h)
      · rw [← List.take_append_drop k C] at h
        rcases List.mem_append.mp h with h | h
        · exact .inl (.inl h)
        · exact .inr h
      · exact .inl (.inr h)
  have hne : ∀ x ∈ C, x.1 ≠ t := fun x hx => by
    rw [← List.take_append_drop k C] at hx
    rcases List.mem_append.mp hx with hx | hx
    · have := h1 x hx; grind
    · have := h2 x hx; grind
  have hno : ∀ q ∈ ps, tm q ≠ some t := fun q hq z => by
    obtain ⟨x, hx, hx2⟩ := List.mem_map.mp ((h.mem t).mpr ⟨q, hq, z⟩)
    exact hne x hx hx2
  refine ⟨?_, fun u => ?_, fun x hx => ?_, ?_⟩
  · rw [List.map_append, List.map_append, List.map_take, List.map_drop]
    refine inc_ins h.inc (fun x hx => ?_) fun x hx => ?_
    · rw [← List.map_take] at hx; obtain ⟨y, hy, rfl⟩ := List.mem_map.mp hx; exact h1 y hy
    · rw [← List.map_drop] at hx; obtain ⟨y, hy, rfl⟩ := List.mem_map.mp hx; exact h2 y hy
  · constructor
    · intro hu
      obtain ⟨x, hx, rfl⟩ := List.mem_map.mp hu
      rcases (hm x).mp hx with hx | rfl
      · obtain ⟨q, hq, hq2⟩ := (h.mem x.1).mp (List.mem_map.mpr ⟨x, hx, rfl⟩)
        exact ⟨q, List.mem_append_left _ hq, hq2⟩
      · exact ⟨p, by simp, e⟩
    · rintro ⟨q, hq, hq2⟩
      rcases List.mem_append.mp hq with hq | hq
      · obtain ⟨x, hx, rfl⟩ := List.mem_map.mp ((h.mem u).mpr ⟨q, hq, hq2⟩)
        exact List.mem_map.mpr ⟨x, (hm x).mpr (.inl hx), rfl⟩
      · rw [List.mem_singleton.mp hq, e] at hq2
        cases hq2
        exact List.mem_map.mpr ⟨(t, [p]), (hm _).mpr (.inr rfl), rfl⟩
  · rcases (hm x).mp hx with hx | rfl
    · rw [h.grp x hx, List.filter_append]
      have : ¬ tm p = some x.1 := fun z => hne x hx (by rw [e] at z; exact (Option.some.inj z).symm)
      simp [this]
    · rw [List.filter_append, List.filter_eq_nil_iff.mpr fun q hq => by simpa using hno q hq]
      simp [e]
  · have hl := h.len
    simp only [List.length_append, List.length_take, List.length_drop, List.length_cons, List.length_nil]
    omega
theorem IsGrp.app (h : IsGrp tm ps C) (e : tm p = some t) (hk : k < C.length) (ht : C[k].1 = t) : IsGrp tm (ps ++ [p]) (C.set k (t, C[k].2 ++ [p])) := by
  have ef : (C.set k (t, C[k].2 ++ [p])).map (·.1) = C.map (·.1) := by
    rw [List.map_set]
    have : (t : Rat) = (C.map (·.1))[k]'(by rw [List.length_map]; exact hk) := by rw [List.getElem_map]; exact ht.symm
    show (C.map (·.1)).set k t = _
    rw [this, List.set_getElem_self]
  refine ⟨by rw [ef]; exact h.inc, fun u => ?_, fun x hx => ?_, ?_⟩
  · rw [ef, h.mem]
    constructor
    · rintro ⟨q, hq, hq2⟩; exact ⟨q, List.mem_append_left _ hq, hq2⟩
    · rintro ⟨q, hq, hq2⟩
      rcases List.mem_append.mp hq with hq | hq
      · exact ⟨q, hq, hq2⟩
      · rw [List.mem_singleton.mp hq, e] at hq2
        cases hq2
        rw [← h.mem, ← ht]
        exact List.mem_map.mpr ⟨C[k], List.getElem_mem hk, rfl⟩
  · obtain ⟨i, hi, rfl⟩ := List.getElem_of_mem hx
    rw [List.length_set] at hi
    rw [List.getElem_set]
    split
    · next ek =>
      subst ek
      rw [List.filter_append, h.grp _ (List.getElem_mem hk), ht]
      simp [e]
    · next ek =>
      rw [h.grp _ (List.getElem_mem hi), List.filter_append]
      have : ¬ tm p = some (C[i].1) := fun z => by
        rw [e] at z
        have z : t = C[i].1 := Option.some.inj z
        have inc := h.inc
        have pw := List.pairwise_iff_getElem.mp inc
        have l1 : (C.map (·.1)).length = C.length := List.length_map ..
        rcases Nat.lt_or_gt_of_ne ek with hlt | hlt
        · have := pw k i (by omega) (by omega) hlt
          rw [List.getElem_map, List.getElem_map] at this
          grind
        · have := pw i k (by omega) (by omega) hlt
          rw [List.getElem_map, List.getElem_map] at this
          grind
      simp [this]
  · rw [List.length_set, List.length_append]; have := h.len; omega
end
/-! ### such lists in the store -/
structure GI where
  t : Rat
  a : Addr
  ps : List Pr
@[reducible] def eG (x : GI) : D := .tup [eQ x.t, .ref x.a]
def toC (E : List GI) : Grp := E.map fun x => (x.t, x.ps)
structure GrpM (S : Sto) (f : Addr) (E : List GI) : Prop where
  st : S f = some (.lst (E.map eG))
  at_ : ∀ x ∈ E, S x.a = some (.lst (x.ps.map eP2))
structure GrpF (S : Sto) (f : Addr) (E : List GI) : Prop where
  nd : (f :: E.map (·.a)).Nodup
  fr : ∀ b ∈ f :: E.map (·.a), S b = none
section
variable {S S' S0 : Sto} {f a p : Addr} {E : List GI} {o : O}
theorem GrpM.sub (h : GrpM S f E) (s : Sub S S') : GrpM S' f E := ⟨s _ _ h.st, fun x hx => s _ _ (h.at_ x hx)⟩
theorem GrpM.rep (h : GrpM S f E) : Rep S (.ref f) (toC E) := rep_list h.st fun x hx => rep_pair (rep_enc x.t) (rep_lst (h.at_ x hx))
end
def tmW (L : List Ln) (lo hi : Rat) (p : Pr) : Option Rat := if (ln L p.1).2 < (ln L p.2).2 ∧ lo < met (ln L p.1) (ln L p.2) ∧ ¬ hi < met (ln L p.1) (ln L p.2) then some (met (ln L p.1) (ln L p.2)) else none
def Put (C : Grp) (t : Rat) (p : Pr) (C' : Grp) : Prop :=
  (∃ k, C' = C.take k ++ [(t, [p])] ++ C.drop k ∧ (∀ x ∈ C.take k, x.1 < t) ∧ ∀ x ∈ C.drop k, t < x.1) ∨ ∃ (k : Nat) (hk : k < C.length), C[k].1 = t ∧ C' = C.set k (t, C[k].2 ++ [p])
theorem IsGrp.put {tm : Pr → Option Rat} {ps : List Pr} {C C' : Grp} {p : Pr} {t : Rat} (h : IsGrp tm ps C) (e : tm p = some t) (k : Put C t p C') : IsGrp tm (ps ++ [p]) C' := by
  rcases k with ⟨k, rfl, h1, h2⟩ | ⟨k, hk, h1, rfl⟩
  · exact h.ins e h1 h2
  · exact h.app e hk h1
section
variable {S S' S0 : Sto} {f a b : Addr} {E : List GI} {o : O} {t : Rat} {p : Pr} {k : Nat}
theorem GrpF.ins (h : GrpF S0 f E) (nb : S0 b = none) (hb : b ∉ f :: E.map (·.a)) {ps : List Pr} : GrpF S0 f (E.take k ++ [(⟨t, b, ps⟩ : GI)] ++ E.drop k) := by
  have hp : (f :: (E.take k ++ [(⟨t, b, ps⟩ : GI)] ++ E.drop k).map (·.a)).Perm (b :: f :: E.map (·.a)) := by
    rw [List.map_append, List.map_append, List.append_assoc, List.map_cons, List.map_nil]
    have e : f :: (List.map (·.a) (E.take k) ++ ([b] ++ List.map (·.a) (E.drop k))) = (f :: List.map (·.a) (E.take k)) ++ b :: List.map (·.a) (E.drop k) := rfl
    have e2 : b :: f :: E.map (·.a) = b :: ((f :: List.map (·.a) (E.take k)) ++ List.map (·.a) (E.drop k)) := by
      rw [List.cons_append, ← List.map_append, List.take_append_drop]
    rw [e, e2]
    exact List.perm_middle
  refine ⟨hp.nodup_iff.mpr (List.nodup_cons.mpr ⟨hb, h.nd⟩), fun c hc => ?_⟩
  rcases List.mem_cons.mp (hp.mem_iff.mp hc) with rfl | hc
  · exact nb
  · exact h.fr c hc
theorem GrpM.ins (h : GrpM S f E) (nb : S b = none) (hf : ∀ x ∈ E, x.a ≠ f) {ps : List Pr} : GrpM (ups (ups (ups S b (.lst [])) f (.lst ((E.take k ++ [(⟨t, b, ps⟩ : GI)] ++ E.drop k).map eG))) b (.lst (ps.map eP2))) f (E.take k ++ [(⟨t, b, ps⟩ : GI)] ++ E.drop k) := by
  have hfb : f ≠ b := ne_of_st h.st nb
  refine ⟨by rw [ups_ne hfb, ups_same], fun x hx => ?_⟩
  have : x ∈ E ∨ x = (⟨t, b, ps⟩ : GI) := by
    rcases List.mem_append.mp hx with hx | hx
    · rcases List.mem_append.mp hx with hx | hx
      · exact .inl (List.mem_of_mem_take hx)
      · exact .inr (List.mem_singleton.mp hx)
    · exact .inl (List.mem_of_mem_drop hx)
  rcases this with hx | rfl
  · have e1 := ne_of_st (h.at_ x hx) nb
    rw [ups_ne e1, ups_ne (hf x hx), ups_ne e1]
    exact h.at_ x hx
  · exact ups_same
theorem GrpF.ne (h : GrpF S0 f E) : ∀ x ∈ E, x.a ≠ f := fun x hx e => (List.nodup_cons.mp h.nd).1 (e ▸ List.mem_map.mpr ⟨x, hx, rfl⟩)
theorem GrpF.app (h : GrpF S0 f E) (hk : k < E.length) {ps : List Pr} : GrpF S0 f (E.set k ⟨t, E[k].a, ps⟩) := by
  have e : (E.set k ⟨t, E[k].a, ps⟩).map (·.a) = E.map (·.a) := by
    rw [List.map_set]
    have : (E[k].a : Addr) = (E.map (·.a))[k]'(by rw [List.length_map]; exact hk) := by rw [List.getElem_map]
    show (E.map (·.a)).set k E[k].a = _
    rw [this, List.set_getElem_self]
  exact ⟨by rw [e]; exact h.nd, by rw [e]; exact h.fr⟩
theorem GrpM.app (h : GrpM S f E) (hF : GrpF S0 f E) (hk : k < E.length) {ps : List Pr} : GrpM (ups S E[k].a (.lst (ps.map eP2))) f (E.set k ⟨E[k].t, E[k].a, ps⟩) := by
  have hne := hF.ne E[k] (List.getElem_mem hk)
  refine ⟨?_, fun x hx => ?_⟩
  · rw [ups_ne hne.symm, List.map_set]
    have : eG ⟨E[k].t, E[k].a, ps⟩ = (E.map eG)[k]'(by rw [List.length_map]; exact hk) := by rw [List.getElem_map]
    rw [this, List.set_getElem_self]
    exact h.st
  · obtain ⟨i, hi, rfl⟩ := List.getElem_of_mem hx
    rw [List.length_set] at hi
    rw [List.getElem_set]
    split
    · exact ups_same
    · next ek =>
      have hn : E[i].a ≠ E[k].a := fun z => by
        have nd := (List.nodup_cons.mp hF.nd).2
        have l1 : (E.map (·.a)).length = E.length := List.length_map ..
        have pw := List.pairwise_iff_getElem.mp nd
        rcases Nat.lt_or_gt_of_ne ek with hlt | hlt
        · exact pw k i (by omega) (by omega) hlt (by rw [List.getElem_map, List.getElem_map]; exact z.symm)
        · exact pw i k (by omega) (by omega) hlt (by rw [List.getElem_map, List.getElem_map]; exact z)
      rw [ups_ne hn]
      exact h.at_ _ (List.getElem_mem hi)
end
theorem IsGrp.nz {tm : Pr → Option Rat} {n : Nat} {ps : List Pr} {E : List GI} (h : IsGrp tm ps (toC E)) (hp : ∀ p ∈ ps, p.1 < n ∧ p.2 < n) (k : ∀ p t, p.1 < n → p.2 < n → tm p = some t → Nz 1210 t) : ∀ x ∈ E, Nz 1210 x.t := fun x hx => by
  obtain ⟨p, hp2, e⟩ := (h.mem x.t).mp (List.mem_map.mpr ⟨(x.t, x.ps), List.mem_map.mpr ⟨x, hx, rfl⟩, rfl⟩)
  exact k p _ (hp p hp2).1 (hp p hp2).2 e
theorem grp_mk {tm : Pr → Option Rat} {ps : List Pr} {C : Grp} (inc : Inc (C.map (·.1))) (mem : ∀ t, t ∈ C.map (·.1) ↔ ∃ p ∈ ps, tm p = some t) (grp : ∀ x ∈ C, x.2 = ps.filter fun p => decide (tm p = some x.1)) : IsGrp tm ps C := by
  refine ⟨inc, mem, grp, ?_⟩
  have nd : (C.map (·.1)).Nodup := inc.imp fun {a b} h e => by subst e; grind
  have := nodup_sub (ys := ps.filterMap tm) nd fun t ht => by
    obtain ⟨p, hp, e⟩ := (mem t).mp ht
    exact List.mem_filterMap.mpr ⟨p, hp, e⟩
  have l2 := List.length_filterMap_le tm ps
  rw [List.length_map] at this
  omega
theorem GrpM.snoc {S : Sto} {f b : Addr} {E : List GI} {t : Rat} {ps : List Pr} (h : GrpM S f E) (hF : ∀ x ∈ E, x.a ≠ f) (hb : S b = some (.lst (ps.map eP2))) (hbf : b ≠ f) : GrpM (ups S f (.lst ((E ++ [(⟨t, b, ps⟩ : GI)]).map eG))) f (E ++ [(⟨t, b, ps⟩ : GI)]) := by
  refine ⟨ups_same, fun x hx => ?_⟩
  rcases List.mem_append.mp hx with hx | hx
  · rw [ups_ne (hF x hx)]; exact h.at_ x hx
  · rw [List.mem_singleton.mp hx, ups_ne hbf]; exact hb
end DL
namespace DL
open PySem PySem.Spec PyProof.Rows L2
theorem IsMeet.uniq {L : List Ln} {M N : List Rat} (h : IsMeet L M) (k : IsMeet L N) : M = N := inc_ext h.inc k.inc fun t => by rw [h.mem, k.mem]
/-! ### the order at a time -/
def ordN (L : List Ln) (t : Rat) : Nat → List Nat
  | 0 => []
  | n + 1 => (ordN L t n).filter (fun o => !decide (Ahd L n o t)) ++ [n] ++ (ordN L t n).filter fun o => decide (Ahd L n o t)
theorem ordN_ok (L : List Ln) (t : Rat) : ∀ n, IsOrd L t n (ordN L t n)
  | 0 => .nil
  | n + 1 => ord_filter (ordN_ok L t n)
def ordL (L : List Ln) (t : Rat) : List Nat := ordN L t L.length
theorem ordL_ok (L : List Ln) (t : Rat) : IsOrd L t L.length (ordL L t) := ordN_ok L t _
theorem IsOrd.eq {L : List Ln} {t : Rat} {O : List Nat} (h : IsOrd L t L.length O) : O = ordL L t := h.uniq (ordL_ok L t)
def rk (L : List Ln) (t : Rat) (k : Nat) : Nat := (ordL L t).getD k 0
/-! ### rows of a rank -/
def bef : List Rat → Rat
  | [] => 0
  | t :: _ => t - 1
def lastR (row : Rw) : Nat := (row.getLast?.map (·.1)).getD 0
def rkS (L : List Ln) (k : Nat) (row : Rw) (t : Rat) : Rw := if rk L t k ≠ lastR row then row ++ [(rk L t k, some t)] else row
def rkF (L : List Ln) (k : Nat) (r0 : Nat) (M : List Rat) : Rw := M.foldl (rkS L k) [(r0, none)]
def rkRow (L : List Ln) (k : Nat) (M : List Rat) : Rw := if L.length ≤ k then [] else rkF L k (rk L (bef M) k) M
def IsRk (L : List Ln) (k : Nat) (rows : Rw) : Prop := ∃ M, IsMeet L M ∧ rows = rkRow L k M
theorem IsRk.uniq {L : List Ln} {k : Nat} {a b : Rw} (h : IsRk L k a) (g : IsRk L k b) : a = b := by
  obtain ⟨M, hM, rfl⟩ := h
  obtain ⟨N, hN, rfl⟩ := g
  rw [hM.uniq hN]
end DL
namespace DL
open PySem PySem.Spec PyProof.Rows L2
end DL
namespace DL
open PySem PySem.Spec PyProof.Rows L2
/-- a right paper of two, till the next change or sooner -/
structure Soon (L : List Ln) (t : Rat) (i j : Nat) (c : Option Rat) : Prop where
  nz : ∀ u, c = some u → Nz 3000 u
  ok : okT t c = true
  ch : okC (nxt L i j t) c = true
theorem Soon.own {L : List Ln} {t : Rat} {i j : Nat} (h : LOk L) (hi : i < L.length) (hj : j < L.length) : Soon L t i j (nxt L i j t) := by
  refine ⟨fun u hu => (nxt_nz h hi hj hu).le (by decide), ?_, ?_⟩
  · cases e : nxt L i j t with
    | none => rfl
    | some v =>
      unfold nxt at e
      split at e
      · next c => cases e; exact decide_eq_true c.2
      · cases e
  · cases e : nxt L i j t with
    | none => rfl
    | some v => have h2 : ¬ v < v := fun z => by grind
                simp [okC, h2]
/-- papers that are all right -/
def AllR (L : List Ln) (t : Rat) (X : List PprI) : Prop := ∀ x ∈ X, rtB L t x = true ∧ ∀ u, x.c = some u → Nz 3000 u
theorem AllR.ins {L : List Ln} {t : Rat} {X : List PprI} {x : PprI} {k : Nat} (h : AllR L t X) (hx : rtB L t x = true ∧ ∀ u, x.c = some u → Nz 3000 u) : AllR L t (X.take k ++ [x] ++ X.drop k) := fun y hy => by
  rcases List.mem_append.mp hy with hy | hy
  · rcases List.mem_append.mp hy with hy | hy
    · exact h y (List.mem_of_mem_take hy)
    · rw [List.mem_singleton.mp hy]; exact hx
  · exact h y (List.mem_of_mem_drop hy)
/-- lists of papers that lie about -/
def PL (S : Sto) (a : Addr) (d : D) : Prop := ∃ (b : Addr) (ys : List PprI), d = .ref b ∧ S b = some (.lst (ys.map eI3)) ∧ ys.length ≤ 2 ∧ b ≠ a ∧ ∀ x ∈ ys, ∀ u, x.c = some u → Nz 3000 u
structure Bn (S : Sto) (a f : Addr) (sc : List Int) (X : List PprI) (S' : Sto) (ls : List D) : Prop where
  fr : Fr S S' a
  pen : PenB S' a sc
  hf : S' f = some (.lst (X.map eI3))
  fa : f ≠ a
  all : ∀ d ∈ ls, PL S' a d
section
variable {S S' S2 : Sto} {a f p : Addr} {sc : List Int} {X : List PprI} {ls : List D} {o : O}
theorem PL.sub {d : D} (h : PL S' a d) (s : Sub S' S2) : PL S2 a d := by
  obtain ⟨b, ys, e, h1, h2⟩ := h
  exact ⟨b, ys, e, s _ _ h1, h2⟩
theorem Bn.new (h : Bn S a f sc X S' ls) (n : S' p = none) : Bn S a f sc X (ups S' p o) ls :=
  ⟨h.fr.new n, h.pen.new n, by rw [ups_ne (ne_of_st h.hf n)]; exact h.hf, h.fa, fun d hd => (h.all d hd).sub (Sub.drop n)⟩
theorem Bn.add (h : Bn S a f sc X S' ls) (n : S' p = none) (ys : List PprI) (h1 : ys.length ≤ 2) (h2 : ∀ x ∈ ys, ∀ u, x.c = some u → Nz 3000 u) : Bn S a f sc X (ups S' p (.lst (ys.map eI3))) (.ref p :: ls) :=
  ⟨h.fr.new n, h.pen.new n, by rw [ups_ne (ne_of_st h.hf n)]; exact h.hf, h.fa, fun d hd => by
    rcases List.mem_cons.mp hd with rfl | hd
    · exact ⟨p, ys, rfl, ups_same, h1, fun z => PenB.ne h.pen n z.symm, h2⟩
    · exact (h.all d hd).sub (Sub.drop n)⟩
theorem Bn.wr {x y : Int} (h : Bn S a f sc X S' ls) : Bn S a f sc X (ups S' a (penP sc x y)) ls :=
  ⟨h.fr.wr, penB_again, by rw [ups_ne h.fa]; exact h.hf, h.fa, fun d hd => by
    obtain ⟨b, ys, e, h1, h2, h3, h4⟩ := h.all d hd
    exact ⟨b, ys, e, by rw [ups_ne h3]; exact h1, h2, h3, h4⟩⟩
end
section
variable {S S' : Sto} {a f p : Addr} {sc : List Int} {X : List PprI} {ls : List D} {o : O}
theorem Bn.upd (h : Bn S a f sc X S' ls) (n : ∀ d ∈ ls, d ≠ .ref p) (pf : f ≠ p) (pa : p ≠ a) (p0 : S p = none) : Bn S a f sc X (ups S' p o) ls :=
  ⟨h.fr.own p0, h.pen.upd pa.symm, by rw [ups_ne pf]; exact h.hf, h.fa, fun d hd => by
    obtain ⟨b, ys, e, h1, h2⟩ := h.all d hd
    refine ⟨b, ys, e, ?_, h2⟩
    rw [ups_ne fun z => n d hd (by rw [e, z])]; exact h1⟩
end
end DL
namespace DL
open PySem PySem.Spec PyProof.Rows L2
/-! ### rows of ranks read -/
/-! ### all pairs of an order -/
theorem nodup_flat {α β : Type} {f : α → List β} : ∀ {xs : List α}, xs.Nodup → (∀ x ∈ xs, (f x).Nodup) → (∀ x ∈ xs, ∀ y ∈ xs, x ≠ y → ∀ z, z ∈ f x → z ∈ f y → False) → (xs.flatMap f).Nodup
  | [], _, _, _ => .nil
  | x :: xs, h, h1, h2 => by
    obtain ⟨a, b⟩ := List.nodup_cons.mp h
    rw [List.flatMap_cons]
    refine List.nodup_append.mpr ⟨h1 x (by simp), nodup_flat b (fun y hy => h1 y (List.mem_cons_of_mem _ hy)) (fun y hy z hz => h2 y (List.mem_cons_of_mem _ hy) z (List.mem_cons_of_mem _ hz)), fun z hz w hw e => ?_⟩
    subst e
    obtain ⟨y, hy, hyz⟩ := List.mem_flatMap.mp hw
    exact h2 x (by simp) y (List.mem_cons_of_mem _ hy) (fun e => a (e ▸ hy)) z hz hyz
theorem nodup_map {α β : Type} {f : α → β} : ∀ {xs : List α}, xs.Nodup → (∀ x ∈ xs, ∀ y ∈ xs, f x = f y → x = y) → (xs.map f).Nodup
  | [], _, _ => .nil
  | x :: xs, h, k => by
    obtain ⟨a, b⟩ := List.nodup_cons.mp h
    rw [List.map_cons]
    refine List.nodup_cons.mpr ⟨fun z => ?_, nodup_map b fun y hy z hz => k y (List.mem_cons_of_mem _ hy) z (List.mem_cons_of_mem _ hz)⟩
    obtain ⟨y, hy, e⟩ := List.mem_map.mp z
    exact a ((k y (List.mem_cons_of_mem _ hy) x (by simp) e) ▸ hy)
theorem perm_of {α : Type} [DecidableEq α] : ∀ {xs ys : List α}, xs.Nodup → ys.Nodup → (∀ z, z ∈ xs ↔ z ∈ ys) → xs.Perm ys
  | [], [], _, _, _ => .nil
  | [], y :: ys, _, _, h => by have := (h y).mpr (by simp); cases this
  | x :: xs, ys, hx, hy, h => by
    obtain ⟨a, b⟩ := List.nodup_cons.mp hx
    have hm : x ∈ ys := (h x).mp (by simp)
    refine ((perm_of b (hy.erase x) fun z => ?_).cons x).trans (List.perm_cons_erase hm).symm
    constructor
    · intro hz
      exact (List.mem_erase_of_ne fun e => a (by rw [← e]; exact hz)).mpr ((h z).mp (List.mem_cons_of_mem _ hz))
    · intro hz
      have hne : z ≠ x := fun e => by
        subst e
        exact absurd hz (List.Nodup.not_mem_erase hy)
      rcases List.mem_cons.mp ((h z).mpr ((List.mem_erase_of_ne hne).mp hz)) with e | e
      · exact absurd e hne
      · exact e
/-! ### all that changes -/
section
variable {L : List Ln} {lo hi : Rat} {C : Grp}
theorem allP_nd (n : Nat) : (allP n).Nodup := by
  unfold allP pref
  rw [List.range_zero, List.map_nil, List.append_nil]
  refine nodup_flat List.nodup_range (fun i _ => nodup_map List.nodup_range fun a _ b _ e => (Prod.mk.inj e).2) fun i _ j _ hne z hz hz' => ?_
  obtain ⟨a, _, rfl⟩ := List.mem_map.mp hz
  obtain ⟨b, _, e⟩ := List.mem_map.mp hz'
  exact hne (Prod.mk.inj e).1.symm
end
theorem cutG_from {α : Type} {xs : List α} (k : Nat) : cutG xs (some (k : Int)) none = xs.drop k := by
  unfold cutG
  rw [HT.sIx_nat, HT.sIx_none]
  by_cases h : k ≤ xs.length
  · rw [Nat.min_eq_left h, List.take_of_length_le (by rw [List.length_drop]; omega)]
  · rw [Nat.min_eq_right (by omega), List.drop_eq_nil_of_le (by omega), List.drop_eq_nil_of_le (by omega)]; simp
theorem cutG_to {α : Type} {xs : List α} (k : Nat) : cutG xs none (some (k : Int)) = xs.take k := by
  unfold cutG
  rw [HT.sIx_nat, HT.sIx_none, List.drop_zero, Nat.sub_zero]
  by_cases h : k ≤ xs.length
  · rw [Nat.min_eq_left h]
  · rw [Nat.min_eq_right (by omega), List.take_of_length_le (by omega), List.take_of_length_le (by omega)]
def kl (p : Pr) : List Int := [(p.1 : Int), (p.2 : Int)]
end DL
namespace DL
open PySem PySem.Spec PyProof.Rows L2
/-! ### turned about -/
def fl (n : Nat) (i : Nat) : Nat := n - 1 - i
section
variable {L : List Ln} {i j k : Nat} {t u : Rat} {M : List Rat}
/-! changes -/
theorem allP_sorted (n : Nat) : (allP n).Pairwise lexP := by
  unfold allP pref
  rw [List.range_zero, List.map_nil, List.append_nil]
  have : ∀ m, ((List.range m).flatMap fun a => (List.range n).map fun b => (a, b)).Pairwise lexP := fun m => by
    induction m with
    | zero => exact .nil
    | succ m ih =>
      rw [List.range_succ, List.flatMap_append]
      refine List.pairwise_append.mpr ⟨ih, ?_, fun x hx y hy => ?_⟩
      · simp only [List.flatMap_cons, List.flatMap_nil, List.append_nil]
        rw [List.pairwise_map]
        exact List.pairwise_lt_range.imp fun {a b} h => .inr ⟨rfl, by omega⟩
      · obtain ⟨a, ha, hx⟩ := List.mem_flatMap.mp hx
        obtain ⟨b, _, rfl⟩ := List.mem_map.mp hx
        simp only [List.flatMap_cons, List.flatMap_nil, List.append_nil] at hy
        obtain ⟨c, _, rfl⟩ := List.mem_map.mp hy
        exact .inl (List.mem_range.mp ha)
  exact this n
end
end DL
namespace DL
open PySem PySem.Spec PyProof.Rows L2
/-! ### dicts as tables -/
section
variable {κ : Type} [DecidableEq κ]
def dget (kvs : List (κ × D)) (k : κ) : Option D := (kvs.find? fun kv => decide (kv.1 = k)).map (·.2)
def dput (kvs : List (κ × D)) (k : κ) (v : D) : List (κ × D) :=
  if (kvs.any fun kv => decide (kv.1 = k)) = true then kvs.map (fun kv => if kv.1 = k then (kv.1, v) else kv) else kvs ++ [(k, v)]
def ddrop (kvs : List (κ × D)) (k : κ) : List (κ × D) := kvs.filter fun kv => decide (kv.1 ≠ k)
theorem dget_pos {p : κ × D} {r : List (κ × D)} {k : κ} (e : p.1 = k) : dget (p :: r) k = some p.2 := by simp [dget, List.find?_cons, e]
theorem dget_neg {p : κ × D} {r : List (κ × D)} {k : κ} (e : ¬ p.1 = k) : dget (p :: r) k = dget r k := by simp [dget, List.find?_cons, e]
variable {K : PySem.W.Frag} {H : Hp}
theorem KVs.get {ds : List (κ × D)} {vs : List (κ × V)} (h : KVs K H ds vs) {k : κ} {d : D} (e : dget ds k = some d) : ∃ v, valV vs k = some v ∧ Dv K H d v := by
  induction h with
  | nil => cases e
  | @cons f d1 v1 ds vs h1 h2 ih =>
    by_cases hk : f = k
    · rw [dget_pos (p := (f, d1)) hk] at e
      obtain rfl := Option.some.inj e
      exact ⟨v1, valV_pos (p := (f, v1)) hk, h1⟩
    · rw [dget_neg (p := (f, d1)) hk] at e
      obtain ⟨v, q, r⟩ := ih e
      exact ⟨v, by rw [valV_neg (p := (f, v1)) hk]; exact q, r⟩
theorem KVs.getN {ds : List (κ × D)} {vs : List (κ × V)} (h : KVs K H ds vs) {k : κ} (e : dget ds k = none) : valV vs k = none := by
  induction h with
  | nil => rfl
  | @cons f d1 v1 ds vs h1 h2 ih =>
    by_cases hk : f = k
    · rw [dget_pos (p := (f, d1)) hk] at e; cases e
    · rw [dget_neg (p := (f, d1)) hk] at e
      rw [valV_neg (p := (f, v1)) hk]; exact ih e
theorem KVs.any {ds : List (κ × D)} {vs : List (κ × V)} (h : KVs K H ds vs) (k : κ) : (ds.any fun kv => decide (kv.1 = k)) = vs.any fun kv => decide (kv.1 = k) := by
  induction h with
  | nil => rfl
  | cons h1 h2 ih => rw [List.any_cons, List.any_cons, ih]
theorem KVs.length {ds : List (κ × D)} {vs : List (κ × V)} (h : KVs K H ds vs) : ds.length = vs.length := by
  induction h with
  | nil => rfl
  | cons h1 h2 ih => rw [List.length_cons, List.length_cons, ih]
theorem KVs.keys {ds : List (κ × D)} {vs : List (κ × V)} (h : KVs K H ds vs) : ds.map (·.1) = vs.map (·.1) := by
  induction h with
  | nil => rfl
  | cons h1 h2 ih => rw [List.map_cons, List.map_cons, ih]
theorem KVs.snoc {ds : List (κ × D)} {vs : List (κ × V)} (h : KVs K H ds vs) {k : κ} {d : D} {v : V} (r : Dv K H d v) : KVs K H (ds ++ [(k, d)]) (vs ++ [(k, v)]) := by
  induction h with
  | nil => exact .cons r .nil
  | cons h1 h2 ih => exact .cons h1 ih
theorem KVs.repl {ds : List (κ × D)} {vs : List (κ × V)} (h : KVs K H ds vs) {k : κ} {d : D} {v : V} (r : Dv K H d v) : KVs K H (ds.map fun kv => if kv.1 = k then (kv.1, d) else kv) (vs.map fun kv => if kv.1 = k then (kv.1, v) else kv) := by
  induction h with
  | nil => exact .nil
  | @cons f d1 v1 ds vs h1 h2 ih =>
    rw [List.map_cons, List.map_cons]
    by_cases hk : f = k
    · rw [if_pos hk, if_pos hk]; exact .cons r ih
    · rw [if_neg hk, if_neg hk]; exact .cons h1 ih
theorem KVs.put {ds : List (κ × D)} {vs : List (κ × V)} (h : KVs K H ds vs) {k : κ} {d : D} {v : V} (r : Dv K H d v) : KVs K H (dput ds k d) (putK vs k v) := by
  unfold dput putK
  rw [h.any k]
  split
  · exact h.repl r
  · exact h.snoc r
theorem KVs.drop {ds : List (κ × D)} {vs : List (κ × V)} (h : KVs K H ds vs) (k : κ) : KVs K H (ddrop ds k) (dropK vs k) := by
  unfold ddrop dropK
  induction h with
  | nil => exact .nil
  | @cons f d1 v1 ds vs h1 h2 ih =>
    rw [List.filter_cons, List.filter_cons]
    by_cases hk : f = k
    · simp only [hk, ne_eq, not_true, decide_false, Bool.false_eq_true, if_false]; exact ih
    · simp only [ne_eq, hk, not_false_eq_true, decide_true, if_true]; exact .cons h1 ih
theorem KVs.at_ {ds : List (κ × D)} {vs : List (κ × V)} (h : KVs K H ds vs) : ∀ {i : Nat} {k : κ} {v : V}, vs[i]? = some (k, v) → ∃ d, ds[i]? = some (k, d) ∧ Dv K H d v := by
  induction h with
  | nil => intro i k v e; simp at e
  | @cons f d1 v1 ds vs h1 h2 ih =>
    intro i k v e
    cases i with
    | zero => simp at e; obtain ⟨rfl, rfl⟩ := e; exact ⟨d1, rfl, h1⟩
    | succ i => exact ih (i := i) (by simpa using e)
end
/-- of a dict that stands, locked or not -/
def dOf : Option O → Option (List (Key × D))
  | some (.dic k) => some k
  | some (.fdc _ k) => some k
  | _ => none
def tOf : Option O → Option (List (List Key × D))
  | some (.dct k) => some k
  | some (.fdt _ k) => some k
  | _ => none
/-- of one that may be written -/
def wOf : Option O → Option (List (Key × D))
  | some (.dic k) => some k
  | _ => none
def keyD : D → Option Key
  | .int i => some (.inl i)
  | .str x => some (.inr x)
  | _ => none
def keysD : List (Key × D) → List D := fun kvs => kvs.map fun kv => match kv.1 with
  | .inl i => .int i
  | .inr x => .str x
/-! ### readings -/
def uDNew : TE2 := fun _ S Q => ∀ p, S p = none → Q (.ref p) (ups S p (.dic []))
def rDIx : D → D → Sto → VK2 → Prop
  | .ref a, y, S, Q => onS (dOf (S a)) fun kvs => onS (keyD y) fun k => onS (dget kvs k) fun x => Q x S
  | _, _, _, _ => False
def isDc (S : Sto) (a : Addr) : Prop := ∃ kvs, dOf (S a) = some kvs
def uDGet1 (td ty : TE2) : TE2 := fun τ S Q => td τ S fun x S1 => match x with
  | .ref a => isDc S1 a ∧ ty τ S1 fun y S2 => onS (dOf (S2 a)) fun kvs => onS (keyD y) fun k => Q ((dget kvs k).getD .non) S2
  | _ => False
def uDPop1 (td ty : TE2) : TE2 := fun τ S Q => td τ S fun x S1 => match x with
  | .ref a => isDc S1 a ∧ ty τ S1 fun y S2 => onS (wOf (S2 a)) fun kvs => onS (keyD y) fun k => onS (dget kvs k) fun v => Q v (ups S2 a (.dic (ddrop kvs k)))
  | _ => False
def rSortedDI2 : List D → Sto → VK2 → Prop
  | [.ref a], S, Q => onS (dOf (S a)) fun kvs => ∃ ks : List Int, kvs.map (·.1) = ks.map Sum.inl ∧ ks.length < 64 ∧ ∀ ys : List Int, ys.Perm ks → ys.Pairwise (· ≤ ·) → ∀ p, S p = none → Q (.ref p) (ups S p (.lst (ys.map D.int)))
  | _, _, _ => False
def rDictOf2 : List D → Sto → VK2 → Prop
  | [.ref a], S, Q => onS (dOf (S a)) fun kvs => ∀ p, S p = none → Q (.ref p) (ups S p (.dic kvs))
  | _, _, _ => False
/-- d != e, e empty -/
def rNeE2 : D → D → Sto → VK2 → Prop
  | .ref a, .ref b, S, Q => onS (dOf (S a)) fun kvs => dOf (S b) = some [] ∧ Q (.bl (!kvs.isEmpty)) S
  | _, _, _, _ => False
def setDQ (d : D) : D → D → Sto → (Sto → Prop) → Prop
  | .ref a, y, S, Q => onS (wOf (S a)) fun kvs => onS (keyD y) fun k => kvs.length < 1000 ∧ Q (ups S a (.dic (dput kvs k d)))
  | _, _, _, _ => False
def vDSub (to ti : TE2) : TG2 := fun d τ S Q => to τ S fun o S1 => ti τ S1 fun i S2 => setDQ d o i S2 fun S3 => Q τ S3
section
variable {X : Cx} {pos p apos cpos : Pos} {a b o e i : Expr} {ta tb td ty to ti : TE2} {t : TA2} {k : Nat} {K : PySem.W.Frag}
theorem q_dnew : QE X (.Dict [] [] pos) uDNew := PE.wk pe_dnewK fun σ H Q ⟨τ, S, Q2, rl, rs, t, k⟩ p np =>
  k _ _ _ _ (good_new np) (rs.new (o := .dic []) np ⟨_, upd_same, .nil⟩) (.ref p) (t p (rs.fresh np))
end
/-! ### a walk over a dict, locked -/
def itD : D → Sto → (List D → (Sto → Prop) → Sto → Prop) → Prop
  | .ref a, S, R => match S a with
    | some (.fdc o kvs) => R (keysD kvs) (fun S' => S' a = some (.fdc o kvs)) S
    | _ => False
  | _, _, _ => False
def uItD (tl : TE2) : TI2 := fun τ S R => tl τ S fun d S1 => itD d S1 R
/-! ### locked while a for goes over it -/
def uLockQ (a : Addr) (E : Ends2) (o : Obj) (kvs : List (Key × D)) : Ends2 :=
  ⟨fun τ' S' => S' a = some (.fdc o kvs) ∧ E.nx τ' (ups S' a (.dic kvs)), fun v S' => S' a = some (.fdc o kvs) ∧ E.rt v (ups S' a (.dic kvs)),
   fun τ' S' => S' a = some (.fdc o kvs) ∧ E.bk τ' (ups S' a (.dic kvs)), fun τ' S' => S' a = some (.fdc o kvs) ∧ E.ct τ' (ups S' a (.dic kvs))⟩
def uLockS (i : Nat) (t : TS2) : TS2 := fun E τ S => match τ[i]? with
  | some (some (.ref a)) => match S a with
    | some (.dic kvs) => ∀ o, t (uLockQ a E o kvs) τ (ups S a (.fdc o kvs))
    | _ => False
  | _ => False
end DL
namespace DL
open PySem PySem.Spec PyProof.Rows L2
/-! ### list(range(n)) -/
def uListRg (ta : TE2) : TE2 := fun τ S Q => ta τ S fun x S1 => match x with
  | .int n => (0 ≤ n ∧ n ≤ 1000) ∧ ∀ p, S1 p = none → Q (.ref p) (ups S1 p (.lst (rangeD 0 n.toNat)))
  | _ => False
/-! ### words for the reading -/
section
variable {a b p : Addr} {S : Sto} {Q : VK2} {y : D} {kvs : List (Key × D)} {o : Obj} {i : Int} {x : Str}
theorem z_dOf1 : dOf (some (.dic kvs)) = some kvs := rfl
theorem z_dOf2 : dOf (some (.fdc o kvs)) = some kvs := rfl
theorem z_wOf : wOf (some (.dic kvs)) = some kvs := rfl
theorem z_keyI : keyD (.int i) = some (.inl i) := rfl
theorem z_dix : rDIx (.ref a) y S Q = onS (dOf (S a)) fun kvs => onS (keyD y) fun k => onS (dget kvs k) fun x => Q x S := rfl
theorem z_sortedDI : rSortedDI2 [.ref a] S Q = onS (dOf (S a)) fun kvs => ∃ ks : List Int, kvs.map (·.1) = ks.map Sum.inl ∧ ks.length < 64 ∧ ∀ ys : List Int, ys.Perm ks → ys.Pairwise (· ≤ ·) → ∀ p, S p = none → Q (.ref p) (ups S p (.lst (ys.map D.int))) := rfl
theorem z_dictOf : rDictOf2 [.ref a] S Q = onS (dOf (S a)) fun kvs => ∀ p, S p = none → Q (.ref p) (ups S p (.dic kvs)) := rfl
theorem z_neE : rNeE2 (.ref a) (.ref b) S Q = onS (dOf (S a)) fun kvs => dOf (S b) = some [] ∧ Q (.bl (!kvs.isEmpty)) S := rfl
theorem z_setD {d : D} {R : Sto → Prop} : setDQ d (.ref a) y S R = onS (wOf (S a)) fun kvs => onS (keyD y) fun k => kvs.length < 1000 ∧ R (ups S a (.dic (dput kvs k d))) := rfl
theorem z_isDc : isDc S a = ∃ kvs, dOf (S a) = some kvs := rfl
theorem z_exs {α : Type} {x : α} : (∃ k, some x = some k) = True := eq_true ⟨x, rfl⟩
end
theorem zs_jj : ((Str.ofString "join" : Str) = Str.ofString "join") = True := eq_true rfl
theorem zs_lj : ((Str.ofString "leave" : Str) = Str.ofString "join") = False := eq_false (by decide +kernel)
theorem zs_tj : ((Str.ofString "turn" : Str) = Str.ofString "join") = False := eq_false (by decide +kernel)
theorem zs_ll : ((Str.ofString "leave" : Str) = Str.ofString "leave") = True := eq_true rfl
theorem zs_tl : ((Str.ofString "turn" : Str) = Str.ofString "leave") = False := eq_false (by decide +kernel)
/-! ### lines by number -/
abbrev Mp := List (Nat × Ln)
def eM (M : Mp) : List (Key × D) := M.map fun x => ((.inl (x.1 : Int) : Key), eL x.2)
def mget (M : Mp) (r : Nat) : Option Ln := (M.find? fun x => decide (x.1 = r)).map (·.2)
def mset (M : Mp) (r : Nat) (l : Ln) : Mp := M.map fun x => if x.1 = r then (x.1, l) else x
def mdrop (M : Mp) (r : Nat) : Mp := M.filter fun x => decide (x.1 ≠ r)
def keysM (M : Mp) : List Nat := M.map (·.1)
theorem inl_iff {a b : Nat} : ((Sum.inl (a : Int) : Key) = Sum.inl (b : Int)) ↔ a = b := ⟨fun e => Int.ofNat_inj.mp (Sum.inl.inj e), fun e => by rw [e]⟩
theorem dget_eM (r : Nat) : ∀ M : Mp, dget (eM M) (.inl (r : Int)) = (mget M r).map eL
  | [] => rfl
  | x :: M => by
    unfold eM mget
    rw [List.map_cons, List.find?_cons]
    by_cases h : x.1 = r
    · rw [dget_pos (inl_iff.mpr h)]; simp [h]
    · rw [dget_neg (fun e => h (inl_iff.mp e))]; simp only [h, decide_false]; exact dget_eM r M
theorem ddrop_eM (r : Nat) (M : Mp) : ddrop (eM M) (.inl (r : Int)) = eM (mdrop M r) := by
  unfold ddrop eM mdrop
  rw [List.filter_map]
  congr 1
  refine List.filter_congr fun x _ => ?_
  show decide ((Sum.inl (x.1 : Int) : Key) ≠ Sum.inl (r : Int)) = decide (x.1 ≠ r)
  exact decide_eq_decide.mpr (not_congr inl_iff)
theorem keys_eM (M : Mp) : (eM M).map (·.1) = ((keysM M).map fun k : Nat => (k : Int)).map Sum.inl := by unfold eM keysM; rw [List.map_map, List.map_map, List.map_map]; rfl
theorem mget_mem {M : Mp} {r : Nat} {l : Ln} (h : mget M r = some l) : (r, l) ∈ M := by
  unfold mget at h
  cases q : M.find? fun x => decide (x.1 = r) with
  | none => rw [q] at h; cases h
  | some x =>
    rw [q] at h
    have e := List.find?_some q
    simp only [decide_eq_true_eq] at e
    have m := List.mem_of_find?_eq_some q
    simp only [Option.map_some, Option.some.injEq] at h
    rw [← e, ← h]; exact m
theorem mget_some {M : Mp} {r : Nat} (h : r ∈ keysM M) : ∃ l, mget M r = some l := by
  unfold mget
  cases q : M.find? fun x => decide (x.1 = r) with
  | some x => exact ⟨_, rfl⟩
  | none =>
    obtain ⟨x, hx, e⟩ := List.mem_map.mp h
    have := List.find?_eq_none.mp q x hx
    simp only [decide_eq_true_eq] at this
    exact absurd e this
/-! ### deeds -/
inductive Dd where
  | join (t p m : Rat) | leave (t : Rat) (r : Nat) | turn (t : Rat) (r : Nat) (m : Rat)
def Dd.t : Dd → Rat
  | .join t _ _ => t
  | .leave t _ => t
  | .turn t _ _ => t
def eDd : Dd → D
  | .join t p m => .tup [.str "join", eQ t, eQ p, eQ m]
  | .leave t r => .tup [.str "leave", eQ t, .int (r : Int)]
  | .turn t r m => .tup [.str "turn", eQ t, .int (r : Int), eQ m]
def stepM (s : Mp × Nat) : Dd → Mp × Nat
  | .join t p m => (s.1 ++ [(s.2, (p - m * t, m))], s.2 + 1)
  | .leave t r => (mdrop s.1 r, s.2)
  | .turn t r m => (mset s.1 r (at_ ((mget s.1 r).getD (0, 0)) t - m * t, m), s.2)
def runM (D : List Dd) : Mp × Nat := D.foldl stepM ([], 0)
theorem runM_snoc (D : List Dd) (d : Dd) : runM (D ++ [d]) = stepM (runM D) d := by unfold runM; rw [List.foldl_append]; rfl
/-- a small number -/
def Sm (q : Rat) : Prop := q.num.natAbs < 2 ^ 40 ∧ q.den ≤ 12
def SmD : Dd → Prop
  | .join t p m => Sm t ∧ Sm p ∧ Sm m
  | .leave t _ => Sm t
  | .turn t _ m => Sm t ∧ Sm m
def HasD (M : Mp) : Dd → Prop
  | .join _ _ _ => True
  | .leave _ r => r ∈ keysM M
  | .turn _ r _ => r ∈ keysM M
structure DOk (D : List Dd) : Prop where
  ok : ∀ a d b, D = a ++ d :: b → SmD d ∧ HasD (runM a).1 d ∧ (∀ x ∈ a, x.t ≤ d.t) ∧ (runM (a ++ [d])).1.length ≤ 20
  len : D.length ≤ 40
theorem DOk.nil : DOk [] := ⟨fun a d b e => by simp at e, by decide⟩
theorem DOk.pre {a b : List Dd} (h : DOk (a ++ b)) : DOk a := ⟨fun x d y e => h.ok x d (y ++ b) (by rw [e]; simp), by have := h.len; rw [List.length_append] at this; omega⟩
theorem DOk.snoc {D : List Dd} {d : Dd} (h : DOk D) (h1 : SmD d) (h2 : HasD (runM D).1 d) (h3 : ∀ x ∈ D, x.t ≤ d.t) (h4 : (runM (D ++ [d])).1.length ≤ 20) (h5 : D.length < 40) : DOk (D ++ [d]) := by
  refine ⟨fun a x b e => ?_, by rw [List.length_append, List.length_singleton]; omega⟩
  rcases List.eq_nil_or_concat b with rfl | ⟨b', y, rfl⟩
  · obtain ⟨rfl, e2⟩ := List.append_inj' e rfl
    cases e2
    exact ⟨h1, h2, h3, h4⟩
  · rw [List.concat_eq_append, ← List.cons_append, ← List.append_assoc] at e
    obtain ⟨e1, _⟩ := List.append_inj' e rfl
    exact h.ok a x b' e1
/-- the keys stand in order, below the next number -/
def KeyOk (s : Mp × Nat) : Prop := (keysM s.1).Pairwise (· < ·) ∧ ∀ k ∈ keysM s.1, k < s.2
theorem keys_mset (M : Mp) (r : Nat) (l : Ln) : keysM (mset M r l) = keysM M := by
  unfold keysM mset
  rw [List.map_map]
  refine List.map_congr_left fun x _ => ?_
  show (if x.1 = r then (x.1, l) else x).1 = x.1
  split <;> rfl
theorem keys_mdrop (M : Mp) (r : Nat) : keysM (mdrop M r) = (keysM M).filter fun k => decide (k ≠ r) := by
  unfold keysM mdrop
  rw [List.filter_map]; rfl
theorem KeyOk.step {s : Mp × Nat} {d : Dd} (h : KeyOk s) : KeyOk (stepM s d) := by
  cases d with
  | join t p m =>
    have e : keysM (stepM s (.join t p m)).1 = keysM s.1 ++ [s.2] := by unfold stepM keysM; rw [List.map_append]; rfl
    unfold KeyOk
    rw [e]
    refine ⟨List.pairwise_append.mpr ⟨h.1, by simp, fun a ha b hb => ?_⟩, fun k hk => ?_⟩
    · rw [List.mem_singleton.mp hb]; exact h.2 a ha
    · show k < s.2 + 1
      rcases List.mem_append.mp hk with z | z
      · have := h.2 k z; omega
      · rw [List.mem_singleton.mp z]; omega
  | leave t r =>
    unfold KeyOk stepM
    rw [keys_mdrop]
    exact ⟨h.1.filter _, fun k hk => h.2 k (List.mem_filter.mp hk).1⟩
  | turn t r m =>
    unfold KeyOk stepM
    rw [keys_mset]
    exact h
theorem keyOk_run : ∀ D : List Dd, KeyOk (runM D) := snoc_ind ⟨.nil, fun _ h => by cases h⟩ fun D d h => by rw [runM_snoc]; exact h.step
theorem KeyOk.new {s : Mp × Nat} (h : KeyOk s) : s.2 ∉ keysM s.1 := fun z => Nat.lt_irrefl _ (h.2 _ z)
theorem int_pw {ks : List Nat} (h : ks.Pairwise (· < ·)) : (ks.map fun k : Nat => (k : Int)).Pairwise (· ≤ ·) := List.pairwise_map.mpr (h.imp fun h => by omega)
/-- what is sorted stays -/
theorem sorted_eq {xs ys : List Int} (h : ys.Perm xs) (h1 : ys.Pairwise (· ≤ ·)) (h2 : xs.Pairwise (· ≤ ·)) : ys = xs := h.eq_of_pairwise (fun a b _ _ h1 h2 => Int.le_antisymm h1 h2) h1 h2
/-! ### sizes -/
def W2 : Nat := 27720 * 27720
def MSz (n : Nat) (M : Mp) : Prop := ∀ x ∈ M, Sm x.2.2 ∧ ∃ z : Int, x.2.1 = (z : Rat) / (W2 : Rat) ∧ z.natAbs ≤ n * 2 ^ 112
theorem Sm.nz {q : Rat} (h : Sm q) : Nz 60 q := ⟨Nat.lt_of_lt_of_le h.1 (by decide), by
  show (q.den : Int).natAbs < 2 ^ 60
  rw [Int.natAbs_natCast]
  exact Nat.lt_of_le_of_lt h.2 (by decide)⟩
theorem den12 : ∀ d : Nat, d ≤ 12 → d ≠ 0 → ∃ k, k * d = 27720 ∧ k ≤ 27720 := by
  intro d h0 h1
  have : d = 1 ∨ d = 2 ∨ d = 3 ∨ d = 4 ∨ d = 5 ∨ d = 6 ∨ d = 7 ∨ d = 8 ∨ d = 9 ∨ d = 10 ∨ d = 11 ∨ d = 12 := by omega
  rcases this with rfl | rfl | rfl | rfl | rfl | rfl | rfl | rfl | rfl | rfl | rfl | rfl
  all_goals first | exact ⟨27720, by decide, by decide⟩ | exact ⟨13860, by decide, by decide⟩ | exact ⟨9240, by decide, by decide⟩ | exact ⟨6930, by decide, by decide⟩ | exact ⟨5544, by decide, by decide⟩ | exact ⟨4620, by decide, by decide⟩ | exact ⟨3960, by decide, by decide⟩ | exact ⟨3465, by decide, by decide⟩ | exact ⟨3080, by decide, by decide⟩ | exact ⟨2772, by decide, by decide⟩ | exact ⟨2520, by decide, by decide⟩ | exact ⟨2310, by decide, by decide⟩
theorem Sm.z {q : Rat} (h : Sm q) : ∃ a : Int, q = (a : Rat) / (27720 : Rat) ∧ a.natAbs ≤ 2 ^ 55 := by
  obtain ⟨k, e, hk⟩ := den12 q.den h.2 q.den_nz
  refine ⟨q.num * (k : Int), ?_, ?_⟩
  · have h1 := q_self q
    have h2 : ((q.den : Int) : Rat) ≠ 0 := den_neR q
    have h3 : ((k : Int) : Rat) * ((q.den : Int) : Rat) = 27720 := by rw [← Rat.intCast_mul]; exact congrArg (fun x : Int => (x : Rat)) (by exact_mod_cast e)
    rw [Rat.intCast_mul]
    have h4 : (27720 : Rat) ≠ 0 := by decide
    grind
  · rw [Int.natAbs_mul, Int.natAbs_natCast]
    have : q.num.natAbs * k ≤ 2 ^ 40 * 27720 := Nat.mul_le_mul (Nat.le_of_lt h.1) hk
    have h2 : 2 ^ 40 * 27720 ≤ 2 ^ 55 := by decide
    omega
theorem Sm.int {t : Int} (ht : t.natAbs < 2 ^ 40) : Sm (t : Rat) := ⟨ht, by show (1 : Nat) ≤ 12; decide⟩
theorem prod_z {m t : Rat} (hm : Sm m) (ht : Sm t) : ∃ z : Int, m * t = (z : Rat) / (W2 : Rat) ∧ z.natAbs ≤ 2 ^ 110 := by
  obtain ⟨a, ea, ha⟩ := hm.z
  obtain ⟨b, eb, hb⟩ := ht.z
  refine ⟨a * b, ?_, ?_⟩
  · rw [ea, eb, Rat.intCast_mul]
    have : (W2 : Rat) = 27720 * 27720 := by unfold W2; norm_cast
    rw [this]
    grind
  · rw [Int.natAbs_mul]
    exact Nat.le_trans (Nat.mul_le_mul ha hb) (by decide)
theorem one_z {p : Rat} (hp : Sm p) : ∃ z : Int, p = (z : Rat) / (W2 : Rat) ∧ z.natAbs ≤ 2 ^ 110 := by
  obtain ⟨z, e, h⟩ := prod_z hp (Sm.int (t := 1) (by decide))
  exact ⟨z, by rw [← e]; simp, h⟩
theorem MSz.step {s : Mp × Nat} {d : Dd} {n : Nat} (h : MSz n s.1) (h1 : SmD d) (h2 : HasD s.1 d) : MSz (n + 1) (stepM s d).1 := by
  have up : ∀ x ∈ s.1, Sm x.2.2 ∧ ∃ z : Int, x.2.1 = (z : Rat) / (W2 : Rat) ∧ z.natAbs ≤ (n + 1) * 2 ^ 112 := fun x hx => by
    obtain ⟨a, z, e, hz⟩ := h x hx
    exact ⟨a, z, e, Nat.le_trans hz (Nat.mul_le_mul_right _ (Nat.le_succ n))⟩
  cases d with
  | join t p m =>
    intro x hx
    rcases List.mem_append.mp (show x ∈ s.1 ++ [_] from hx) with a | a
    · exact up x a
    · rw [List.mem_singleton.mp a]
      refine ⟨h1.2.2, ?_⟩
      obtain ⟨z, e, hz⟩ := one_z h1.2.1
      obtain ⟨y, e2, hy⟩ := prod_z h1.2.2 h1.1
      refine ⟨z - y, ?_, by omega⟩
      show p - m * t = _
      rw [e, e2, Rat.intCast_sub]
      grind
  | leave t r => exact fun x hx => up x (List.mem_filter.mp hx).1
  | turn t r m =>
    intro x hx
    obtain ⟨y, hy, rfl⟩ := List.mem_map.mp (show x ∈ s.1.map _ from hx)
    split
    · next e =>
      refine ⟨h1.2, ?_⟩
      obtain ⟨l, el⟩ := mget_some h2
      obtain ⟨hs, z, ez, hz⟩ := h _ (mget_mem el)
      obtain ⟨u, eu, hu⟩ := prod_z hs h1.1
      obtain ⟨w, ew, hw⟩ := prod_z h1.2 h1.1
      refine ⟨z + u - w, ?_, by omega⟩
      show at_ ((mget s.1 r).getD (0, 0)) t - m * t = _
      rw [el, Option.getD_some]
      unfold at_
      simp only at ez eu
      rw [ez, eu, ew, Rat.intCast_sub, Rat.intCast_add]
      grind
    · exact up y hy
theorem msz_run : ∀ D : List Dd, DOk D → MSz D.length (runM D).1 := snoc_ind (fun _ x h => by cases h) fun D d ih h => by
  rw [runM_snoc, List.length_append]
  obtain ⟨a, b, _⟩ := h.ok D d [] rfl
  exact (ih h.pre).step a b
theorem DOk.lz {D : List Dd} (h : DOk D) : ∀ x ∈ (runM D).1, Lz 300 x.2 := fun x hx => by
  obtain ⟨a, z, e, hz⟩ := msz_run D h x hx
  refine ⟨?_, a.nz.le (by decide)⟩
  rw [e]
  have : ((W2 : Nat) : Rat) = ((W2 : Int) : Rat) := rfl
  rw [this]
  refine (Nz.quo2 (n := 200) (by decide) ?_ (Sz.lit (by decide))).le (by decide)
  refine Nat.lt_of_le_of_lt hz ?_
  have := h.len
  exact Nat.lt_of_le_of_lt (Nat.mul_le_mul_right _ this) (by decide)
theorem DOk.room {D : List Dd} (h : DOk D) : (runM D).1.length ≤ 20 := by
  rcases List.eq_nil_or_concat D with rfl | ⟨a, d, rfl⟩
  · exact Nat.zero_le _
  · rw [List.concat_eq_append] at h ⊢; exact (h.ok a d [] rfl).2.2.2
/-! ### the deeds till a time -/
def thenD (D : List Dd) (t : Rat) : List Dd := D.takeWhile fun d => !decide (t < d.t)
theorem thenD_pre (D : List Dd) (t : Rat) : ∃ b, D = thenD D t ++ b := ⟨_, (List.takeWhile_append_dropWhile).symm⟩
theorem DOk.then {D : List Dd} (h : DOk D) (t : Rat) : DOk (thenD D t) := by
  obtain ⟨b, e⟩ := thenD_pre D t
  rw [e] at h
  exact h.pre
theorem DOk.pw {D : List Dd} (h : DOk D) : D.Pairwise fun a b => a.t ≤ b.t := by
  have : ∀ D : List Dd, DOk D → D.Pairwise fun a b => a.t ≤ b.t := snoc_ind (fun _ => .nil) fun D d ih h => List.pairwise_append.mpr ⟨ih h.pre, by simp, fun a ha b hb => by
    rw [List.mem_singleton.mp hb]; exact (h.ok D d [] rfl).2.2.1 a ha⟩
  exact this D h
end DL
namespace DL
open PySem PySem.Spec PyProof.Rows L2
/-! ### a pen of three numbers, the last one counts -/
def penC (a b c : Int) : O := .lst [.int a, .int b, .int c]
def PenC (S : Sto) (p : Addr) (n : Nat) : Prop := ∃ a b c, S p = some (penC a b c) ∧ 0 ≤ c ∧ c ≤ n
section
variable {S : Sto} {a p : Addr} {n : Nat} {x y z : Int} {o : O}
theorem penC_again (h0 : 0 ≤ z) (h1 : z ≤ n) : PenC (ups S a (penC x y z)) a n := ⟨x, y, z, ups_same, h0, h1⟩
theorem PenC.ne (h : PenC S a n) (k : S p = none) : a ≠ p := let ⟨_, _, _, e, _⟩ := h; ne_of_st e k
theorem PenC.new (h : PenC S a n) (k : S p = none) : PenC (ups S p o) a n := let ⟨x, y, z, e, r⟩ := h; ⟨x, y, z, by rw [ups_ne (ne_of_st e k)]; exact e, r⟩
theorem PenC.upd (h : PenC S a n) (k : a ≠ p) : PenC (ups S p o) a n := let ⟨x, y, z, e, r⟩ := h; ⟨x, y, z, by rw [ups_ne k]; exact e, r⟩
theorem PenC.le {m : Nat} (h : PenC S a n) (k : n ≤ m) : PenC S a m := let ⟨x, y, z, e, r1, r2⟩ := h; ⟨x, y, z, e, r1, by omega⟩
end
end DL
namespace DL
open PySem PySem.Spec PyProof.Rows L2
/-! ### runners by their place among those who run -/
def lnM (M : Mp) : List Ln := M.map (·.2)
def kN (M : Mp) (a : Nat) : Int := ((keysM M).getD a 0 : Nat)
def KM (M : Mp) : List Int := (keysM M).map fun k : Nat => (k : Int)
def OM (M : Mp) (t : Rat) : List Int := (ordL (lnM M) t).map (kN M)
theorem lnM_len (M : Mp) : (lnM M).length = M.length := by unfold lnM; simp
theorem keysM_len (M : Mp) : (keysM M).length = M.length := by unfold keysM; simp
theorem KM_range (M : Mp) : KM M = (List.range M.length).map (kN M) := by
  unfold KM kN
  refine List.ext_getElem (by simp [keysM_len]) fun i h1 h2 => ?_
  have : i < (keysM M).length := by simpa using h1
  simp only [List.getElem_map, List.getElem_range, List.getD_eq_getElem?_getD, List.getElem?_eq_getElem this, Option.getD_some]
theorem kN_get {M : Mp} {a : Nat} (h : a < M.length) : ∃ (k : Nat) (l : Ln), M[a]? = some (k, l) ∧ kN M a = (k : Int) ∧ ln (lnM M) a = l := by
  refine ⟨M[a].1, M[a].2, List.getElem?_eq_getElem h, ?_, ?_⟩
  · unfold kN keysM
    rw [List.getD_eq_getElem?_getD, List.getElem?_map, List.getElem?_eq_getElem h]; rfl
  · unfold ln lnM
    rw [List.getD_eq_getElem?_getD, List.getElem?_map, List.getElem?_eq_getElem h]; rfl
theorem mget_at : ∀ {M : Mp} {a k : Nat} {l : Ln}, (keysM M).Pairwise (· < ·) → M[a]? = some (k, l) → mget M k = some l
  | [], _, _, _, _, e => by simp at e
  | x :: M, 0, k, l, _, e => by
    obtain rfl : x = (k, l) := by simpa using e
    unfold mget; simp
  | x :: M, a + 1, k, l, h, e => by
    have h' : (keysM M).Pairwise (· < ·) := (List.pairwise_cons.mp h).2
    have hm : (k, l) ∈ M := List.mem_of_getElem? (show M[a]? = some (k, l) by simpa using e)
    have hlt : x.1 < k := (List.pairwise_cons.mp h).1 k (List.mem_map.mpr ⟨_, hm, rfl⟩)
    have ih := mget_at (a := a) h' (by simpa using e)
    unfold mget at *
    rw [List.find?_cons]
    have : decide (x.1 = k) = false := decide_eq_false (by omega)
    rw [this]
    exact ih
theorem kN_lt {M : Mp} {a b : Nat} (hk : (keysM M).Pairwise (· < ·)) (ha : a < M.length) (hb : b < M.length) : kN M a < kN M b ↔ a < b := by
  have ha' : a < (keysM M).length := by rw [keysM_len]; exact ha
  have hb' : b < (keysM M).length := by rw [keysM_len]; exact hb
  have key : ∀ {a b : Nat} (ha : a < (keysM M).length) (hb : b < (keysM M).length), a < b → kN M a < kN M b := fun {a b} ha hb h => by
    unfold kN
    rw [List.getD_eq_getElem?_getD, List.getD_eq_getElem?_getD, List.getElem?_eq_getElem ha, List.getElem?_eq_getElem hb]
    have := List.pairwise_iff_getElem.mp hk a b ha hb h
    simp only [Option.getD_some]
    omega
  constructor
  · intro h
    rcases Nat.lt_trichotomy a b with c | c | c
    · exact c
    · subst c; omega
    · have := key hb' ha' c; omega
  · exact key ha' hb'
structure LD (S : Sto) (f : Addr) (M : Mp) : Prop where
  st : dOf (S f) = some (eM M)
  ky : (keysM M).Pairwise (· < ·)
  ok : LOk (lnM M)
  sz : M.length ≤ 20
theorem LD.of {S : Sto} {f : Addr} {D : List Dd} (hD : DOk D) (h : S f = some (.dic (eM (runM D).1))) : LD S f (runM D).1 := ⟨by rw [h]; rfl, (keyOk_run D).1, fun l hl => by
  obtain ⟨x, hx, rfl⟩ := List.mem_map.mp hl
  exact hD.lz x hx, hD.room⟩
theorem dOf_sub {S S' : Sto} {f : Addr} {kvs : List (Key × D)} (s : Sub S S') (h : dOf (S f) = some kvs) : dOf (S' f) = some kvs := by
  cases q : S f with
  | none => rw [q] at h; cases h
  | some o => rw [s _ _ q, ← q]; exact h
theorem LD.sub {S S' : Sto} {f : Addr} {M : Mp} (h : LD S f M) (s : Sub S S') : LD S' f M := ⟨dOf_sub s h.st, h.ky, h.ok, h.sz⟩
theorem LD.ne {S : Sto} {f p : Addr} {M : Mp} (h : LD S f M) (n : S p = none) : f ≠ p := by
  rintro rfl
  have := h.st
  rw [n] at this; cases this
theorem LD.new {S : Sto} {f p : Addr} {M : Mp} {o : O} (h : LD S f M) (n : S p = none) : LD (ups S p o) f M := ⟨by rw [ups_ne (h.ne n)]; exact h.st, h.ky, h.ok, h.sz⟩
theorem LD.keys {S : Sto} {f : Addr} {M : Mp} (h : LD S f M) {Q : VK2} (q : ∀ p, S p = none → Q (.ref p) (ups S p (.lst ((KM M).map D.int)))) : rSortedDI2 [.ref f] S Q := by
  rw [z_sortedDI, h.st]
  refine ⟨KM M, keys_eM M, ?_, fun ys h1 h2 p np => ?_⟩
  · unfold KM; rw [List.length_map, keysM_len]; exact Nat.lt_of_le_of_lt h.sz (by decide)
  · rw [sorted_eq h1 h2 (int_pw h.ky)]; exact q p np
/-- one taken out of keys in order -/
theorem erase_filter : ∀ {R : List Nat} {k : Nat} (hk : k < R.length), R.Pairwise (· < ·) → R.eraseIdx k = R.filter fun x => decide (x ≠ R[k])
  | x :: R, 0, _, h => by
    obtain ⟨h1, h2⟩ := List.pairwise_cons.mp h
    rw [List.eraseIdx_cons_zero, List.getElem_cons_zero, List.filter_cons, if_neg (by simp)]
    refine (List.filter_eq_self.mpr fun y hy => ?_).symm
    have := h1 y hy
    exact decide_eq_true (by omega)
  | x :: R, k + 1, hk, h => by
    obtain ⟨h1, h2⟩ := List.pairwise_cons.mp h
    have hk' : k < R.length := by simpa using hk
    have := h1 _ (List.getElem_mem hk')
    rw [List.eraseIdx_cons_succ, List.getElem_cons_succ, List.filter_cons, if_pos (decide_eq_true (by omega)), erase_filter hk' h2]
end DL
namespace DL
theorem eDd_j (t p m : Rat) : eDd (.join t p m) = .tup [.str "join", eQ t, eQ p, eQ m] := rfl
theorem eDd_l (t : Rat) (r : Nat) : eDd (.leave t r) = .tup [.str "leave", eQ t, .int (r : Int)] := rfl
theorem eDd_t (t : Rat) (r : Nat) (m : Rat) : eDd (.turn t r m) = .tup [.str "turn", eQ t, .int (r : Int), eQ m] := rfl
end DL
namespace DL
open PySem PySem.Spec PyProof.Rows L2
/-- two lists of one's own beside a pen -/
structure Lg (S S' : Sto) (a f r : Addr) (n : Nat) (X R : O) : Prop where
  fr : Fr S S' a
  pen : PenC S' a n
  hf : S' f = some X
  hr : S' r = some R
  nf : S f = none
  nr : S r = none
  fa : f ≠ a
  ra : r ≠ a
  ne : f ≠ r
section
variable {S S' : Sto} {a f r p : Addr} {n m : Nat} {X R o : O} {x y z : Int}
theorem Lg.new (h : Lg S S' a f r n X R) (k : S' p = none) : Lg S (ups S' p o) a f r n X R :=
  ⟨h.fr.new k, h.pen.new k, by rw [ups_ne (ne_of_st h.hf k)]; exact h.hf, by rw [ups_ne (ne_of_st h.hr k)]; exact h.hr, h.nf, h.nr, h.fa, h.ra, h.ne⟩
theorem Lg.wr (h : Lg S S' a f r n X R) (h0 : 0 ≤ z) (h1 : z ≤ m) : Lg S (ups S' a (penC x y z)) a f r m X R :=
  ⟨h.fr.wr, penC_again h0 h1, by rw [ups_ne h.fa]; exact h.hf, by rw [ups_ne h.ra]; exact h.hr, h.nf, h.nr, h.fa, h.ra, h.ne⟩
theorem Lg.setf (h : Lg S S' a f r n X R) : Lg S (ups S' f o) a f r n o R :=
  ⟨h.fr.own h.nf, h.pen.upd (Ne.symm h.fa), ups_same, by rw [ups_ne (Ne.symm h.ne)]; exact h.hr, h.nf, h.nr, h.fa, h.ra, h.ne⟩
theorem Lg.setr (h : Lg S S' a f r n X R) : Lg S (ups S' r o) a f r n X o :=
  ⟨h.fr.own h.nr, h.pen.upd (Ne.symm h.ra), by rw [ups_ne h.ne]; exact h.hf, ups_same, h.nf, h.nr, h.fa, h.ra, h.ne⟩
theorem Lg.le (h : Lg S S' a f r n X R) (k : n ≤ m) : Lg S S' a f r m X R := { h with pen := h.pen.le k }
theorem Lg.na (h : Lg S S' a f r n X R) (k : S' p = none) : p ≠ a := fun e => h.pen.ne k e.symm
end
theorem quo_le {a b g : Int} (hg : 0 < g) (h : a ≤ b) : ((a : Rat) / (g : Rat)) ≤ (b : Rat) / (g : Rat) := by
  rw [Rat.div_def, Rat.div_def]
  refine Rat.mul_le_mul_of_nonneg_right (by exact_mod_cast h) ?_
  exact Rat.le_of_lt (Rat.inv_pos.mpr (by exact_mod_cast hg))
theorem runM_length (D : List Dd) : (keysM (runM D).1).length = (runM D).1.length := keysM_len _
theorem step_len (s : Mp × Nat) (d : Dd) : (stepM s d).1.length ≤ s.1.length + 1 := by
  cases d with
  | join t p m => show (s.1 ++ [_]).length ≤ _; rw [List.length_append, List.length_singleton]; exact Nat.le_refl _
  | leave t r => exact Nat.le_succ_of_le (List.length_filter_le _ _)
  | turn t r m => show (s.1.map _).length ≤ _; rw [List.length_map]; exact Nat.le_succ _
theorem seq_nat {j n : Nat} (h : j < n) : seqIndex? (j : Int) n = some j := by
  unfold seqIndex?
  have : ¬ ((j : Int) < 0) := by omega
  simp [this, h]
/-- the j-th of those who run -/
theorem keys_drop {D : List Dd} {j : Nat} (h : j < (keysM (runM D).1).length) (u : Rat) : keysM (runM (D ++ [Dd.leave u (keysM (runM D).1)[j]])).1 = (keysM (runM D).1).eraseIdx j := by
  rw [runM_snoc]
  show keysM (mdrop _ _) = _
  rw [keys_mdrop, erase_filter h (keyOk_run D).1]
theorem erase_map {α β : Type} (f : α → β) : ∀ (xs : List α) (j : Nat), (xs.map f).eraseIdx j = (xs.eraseIdx j).map f
  | [], _ => rfl
  | x :: xs, 0 => rfl
  | x :: xs, j + 1 => by rw [List.map_cons, List.eraseIdx_cons_succ, List.eraseIdx_cons_succ, List.map_cons, erase_map f xs j]
/-! ### a thing beside itself -/
def SelfP (S : Sto) (n : Nat) (x : DL.D) : Prop := ∃ p, Py S x p ∧ p.canLay0 = true ∧ p.depth ≤ n ∧ PyData.eqv p p = true
section
variable {S : Sto} {Q : VK2} {a b : Addr} {n : Nat} {xs : List DL.D}
theorem self_all : ∀ {xs : List DL.D}, (∀ x ∈ xs, SelfP S n x) → ∃ ps, Pys S xs ps ∧ PyData.canLayAll0 ps = true ∧ PyData.depthAll ps ≤ n ∧ PyData.eqvAll ps ps = true
  | [], _ => ⟨[], .nil, rfl, Nat.zero_le _, rfl⟩
  | x :: xs, h => by
    obtain ⟨p, h1, h2, h3, h4⟩ := h x (List.mem_cons_self ..)
    obtain ⟨ps, k1, k2, k3, k4⟩ := self_all (xs := xs) fun y hy => h y (List.mem_cons_of_mem _ hy)
    refine ⟨p :: ps, .cons h1 k1, by simp [PyData.canLayAll0, h2, k2], ?_, by simp [PyData.eqvAll, h4, k4]⟩
    simp only [PyData.depthAll]
    omega
theorem self_tup (h : ∀ x ∈ xs, SelfP S n x) : SelfP S (n + 1) (.tup xs) := by
  obtain ⟨ps, k1, k2, k3, k4⟩ := self_all h
  exact ⟨.tuple ps, .tup k1, by simpa [PyData.canLay0] using k2, by simp only [PyData.depth]; omega, by simpa only [PyData.eqv] using k4⟩
theorem self_str (x : Str) (h : (PyData.str x).canLay0 = true) : SelfP S n (.str x) := ⟨.str x, .str x, h, by simp [PyData.depth], by simp [PyData.eqv]⟩
theorem self_int (i : Int) : SelfP S n (.int i) := ⟨.int i, .int i, rfl, by simp [PyData.depth], by simp [PyData.eqv]⟩
theorem self_eQ (q : Rat) : SelfP S 5 (eQ q) := by
  refine self_tup (n := 4) fun x hx => ?_
  simp only [List.mem_cons, List.not_mem_nil, or_false] at hx
  rcases hx with rfl | rfl
  · exact self_int _
  · exact self_int _
theorem SelfP.le {m : Nat} {x : DL.D} (h : SelfP S n x) (k : n ≤ m) : SelfP S m x := let ⟨p, h1, h2, h3, h4⟩ := h; ⟨p, h1, h2, Nat.le_trans h3 k, h4⟩
theorem self_dd (d : Dd) : SelfP S 6 (eDd d) := by
  cases d with
  | join t p m =>
    refine self_tup (n := 5) fun x hx => ?_
    simp only [List.mem_cons, List.not_mem_nil, or_false] at hx
    rcases hx with rfl | rfl | rfl | rfl
    · exact self_str _ (by decide +kernel)
    · exact self_eQ _
    · exact self_eQ _
    · exact self_eQ _
  | leave t r =>
    refine self_tup (n := 5) fun x hx => ?_
    simp only [List.mem_cons, List.not_mem_nil, or_false] at hx
    rcases hx with rfl | rfl | rfl
    · exact self_str _ (by decide +kernel)
    · exact self_eQ _
    · exact self_int _
  | turn t r m =>
    refine self_tup (n := 5) fun x hx => ?_
    simp only [List.mem_cons, List.not_mem_nil, or_false] at hx
    rcases hx with rfl | rfl | rfl | rfl
    · exact self_str _ (by decide +kernel)
    · exact self_eQ _
    · exact self_int _
    · exact self_eQ _
theorem ne_self (h1 : S a = some (.lst xs)) (h2 : S b = some (.lst xs)) (h : ∀ x ∈ xs, SelfP S 40 x) (q : Q (.bl false) S) : rNe (.ref a) (.ref b) S Q := by
  obtain ⟨ps, k1, k2, k3, k4⟩ := self_all h
  have hd : (PyData.list ps).depth ≤ 64 := by simp only [PyData.depth]; omega
  have hl : (PyData.list ps).canLay0 = true := by simpa [PyData.canLay0] using k2
  have he : PyData.eqv (.list ps) (.list ps) = true := by simpa only [PyData.eqv] using k4
  exact rNe_of ⟨_, _, .lst h1 k1, .lst h2 k1, shaped_of hl hd, shaped_of hl hd, he.symm⟩ q
end
theorem eDd_1 {d : Dd} {S : Sto} {Q : VK2} : ixkQ 1 (eDd d) S Q = Q (eQ d.t) S := by cases d <;> rfl
theorem smd_t {d : Dd} (h : SmD d) : Sm d.t := by
  cases d with
  | join t p m => exact h.1
  | leave t r => exact h
  | turn t r m => exact h.1
/-- two whole numbers side by side -/
def e2 (x : Int × Int) : DL.D := .tup [.int x.1, .int x.2]
def Gd (x : Int × Int) : Prop := 0 < x.2 ∧ Sz 200 x.1 ∧ Sz 200 x.2
theorem Gd.q {q : Rat} (h : Nz 200 q) : Gd (q.num, (q.den : Int)) := ⟨den_pos q, h.1, h.2⟩
end DL
namespace DL
open PySem PySem.Spec PyProof.Rows L2
/-- the next meeting of two lines behind a time -/
def chgL (L : List Ln) (i j : Nat) (t : Rat) : Option Rat := if (ln L i).2 = (ln L j).2 then none else if t < met (ln L i) (ln L j) then some (met (ln L i) (ln L j)) else none
/-- small to the law -/
def Sml (q : Rat) : Prop := q.num.natAbs < 10 ^ 9 ∧ q.den < 13
instance (q : Rat) : Decidable (Sml q) := by unfold Sml; infer_instance
theorem Sml.sm {q : Rat} (h : Sml q) : Sm q := ⟨Nat.lt_of_lt_of_le h.1 (by decide), Nat.lt_succ_iff.mp h.2⟩
theorem LD.pen {S : Sto} {f a : Addr} {M : Mp} {sc : List Int} (h : LD S f M) (k : PenA S a sc) : f ≠ a := by
  rintro rfl
  obtain ⟨x, y, e⟩ := k
  have := h.st
  rw [e] at this
  cases this
theorem LD.fr {S S' : Sto} {f a : Addr} {M : Mp} (h : LD S f M) (k : Fr S S' a) (n : f ≠ a) : LD S' f M := by
  refine ⟨?_, h.ky, h.ok, h.sz⟩
  have e := h.st
  cases q : S f with
  | none => rw [q] at e; cases e
  | some o => rw [k f o n q, ← q]; exact e
theorem LD.wr {S : Sto} {f a : Addr} {M : Mp} {o : O} (h : LD S f M) (n : f ≠ a) : LD (ups S a o) f M := ⟨by rw [ups_ne n]; exact h.st, h.ky, h.ok, h.sz⟩
theorem PenA.fa {S : Sto} {f a : Addr} {sc : List Int} (h : PenA S a sc) (n : S f = none) : f ≠ a := fun z => h.ne n z.symm
theorem PenA.sub' {S S' : Sto} {a : Addr} {sc : List Int} (h : PenA S a sc) (s : Sub S S') : PenA S' a sc := let ⟨x, y, e⟩ := h; ⟨x, y, s _ _ e⟩
/-- a change of two lines within a stretch -/
def Pc (L : List Ln) (t : Rat) (b : Option Rat) (i j : Nat) (x : Rat) : Prop := i < j ∧ chgL L i j t = some x ∧ ∀ v, b = some v → x < v
structure CI (L : List Ln) (t : Rat) (b : Option Rat) (i j : Nat) (C : List Rat) : Prop where
  inc : Inc C
  len : C.length ≤ i * L.length + j
  mem : ∀ x, x ∈ C ↔ (∃ i' j', i' < i ∧ j' < L.length ∧ Pc L t b i' j' x) ∨ ∃ j', j' < j ∧ Pc L t b i j' x
section
variable {L : List Ln} {t : Rat} {b : Option Rat} {i j : Nat} {C : List Rat}
theorem CI.start : CI L t b 0 0 [] := ⟨.nil, Nat.zero_le _, fun x => ⟨fun h => (by cases h), fun h => h.elim (fun ⟨_, _, h, _⟩ => absurd h (Nat.not_lt_zero _)) (fun ⟨_, h, _⟩ => absurd h (Nat.not_lt_zero _))⟩⟩
theorem CI.put {u : Rat} (h : CI L t b i j C) (p : Pc L t b i j u) (hu : u ∉ C) : CI L t b i (j + 1) (C.take (C.filter fun x => decide (x < u)).length ++ [u] ++ C.drop (C.filter fun x => decide (x < u)).length) := by
  obtain ⟨h1, h2⟩ := ins_at h.inc u hu
  have hl := List.length_filter_le (fun x => decide (x < u)) C
  refine ⟨h1, ?_, fun x => ?_⟩
  · have := h.len
    simp only [List.length_append, List.length_take, List.length_drop, List.length_singleton]
    omega
  · rw [h2]
    constructor
    · rintro (rfl | hx)
      · exact .inr ⟨j, Nat.lt_succ_self _, p⟩
      · rcases (h.mem x).mp hx with a | ⟨j', h1, h2⟩
        · exact .inl a
        · exact .inr ⟨j', Nat.lt_succ_of_lt h1, h2⟩
    · rintro (a | ⟨j', h1, h2⟩)
      · exact .inr ((h.mem x).mpr (.inl a))
      · rcases Nat.lt_succ_iff_lt_or_eq.mp h1 with c | rfl
        · exact .inr ((h.mem x).mpr (.inr ⟨j', c, h2⟩))
        · have := p.2.1.symm.trans h2.2.1
          exact .inl (Option.some.inj this).symm
theorem CI.row (h : CI L t b i L.length C) : CI L t b (i + 1) 0 C := by
  refine ⟨h.inc, by have := h.len; rw [Nat.succ_mul]; omega, fun x => ⟨fun hx => ?_, fun hx => ?_⟩⟩
  · rcases (h.mem x).mp hx with ⟨i', j', h1, h2, h3⟩ | ⟨j', h1, h2⟩
    · exact .inl ⟨i', j', Nat.lt_succ_of_lt h1, h2, h3⟩
    · exact .inl ⟨i, j', Nat.lt_succ_self _, h1, h2⟩
  · rcases hx with ⟨i', j', h1, h2, h3⟩ | ⟨j', h1, _⟩
    · rcases Nat.lt_succ_iff_lt_or_eq.mp h1 with c | rfl
      · exact (h.mem x).mpr (.inl ⟨i', j', c, h2, h3⟩)
      · exact (h.mem x).mpr (.inr ⟨j', h2, h3⟩)
    · exact absurd h1 (Nat.not_lt_zero _)
theorem chg_nz {u : Rat} (h : LOk L) (hi : i < L.length) (hj : j < L.length) (e : chgL L i j t = some u) : Nz 1210 u := by
  unfold chgL at e
  split at e
  · cases e
  · next n =>
    split at e
    · cases e; exact Lz.met (h.at hi) (h.at hj) n
    · cases e
end
/-! ### times of deeds; rows of fronts -/
structure IsT (D : List Dd) (T : List Rat) : Prop where
  inc : Inc T
  mem : ∀ x, x ∈ T ↔ ∃ d ∈ D, d.t = x
  len : T.length ≤ D.length
theorem IsT.nil : IsT [] [] := ⟨.nil, fun x => ⟨fun h => (by cases h), fun ⟨_, h, _⟩ => (by cases h)⟩, Nat.le_refl _⟩
theorem IsT.new {D : List Dd} {T : List Rat} {d : Dd} (h : IsT D T) (k : d.t ∉ T) (le : ∀ x ∈ D, x.t ≤ d.t) : IsT (D ++ [d]) (T ++ [d.t]) := by
  refine ⟨?_, fun x => ⟨fun hx => ?_, fun hx => ?_⟩, by rw [List.length_append, List.length_append]; have := h.len; simp only [List.length_singleton]; omega⟩
  · refine List.pairwise_append.mpr ⟨h.inc, by simp, fun a ha b hb => ?_⟩
    rw [List.mem_singleton.mp hb]
    obtain ⟨e, he, r⟩ := (h.mem a).mp ha
    have := le e he
    rw [r] at this
    have ne : a ≠ d.t := fun z => k (z ▸ ha)
    grind
  · rcases List.mem_append.mp hx with z | z
    · obtain ⟨e, he, r⟩ := (h.mem x).mp z
      exact ⟨e, List.mem_append_left _ he, r⟩
    · rw [List.mem_singleton.mp z]; exact ⟨d, by simp, rfl⟩
  · obtain ⟨e, he, rfl⟩ := hx
    rcases List.mem_append.mp he with z | z
    · exact List.mem_append_left _ ((h.mem _).mpr ⟨e, z, rfl⟩)
    · rw [List.mem_singleton.mp z]; simp
theorem IsT.uniq {D : List Dd} {T U : List Rat} (h : IsT D T) (k : IsT D U) : T = U := inc_ext h.inc k.inc fun x => by rw [h.mem, k.mem]
abbrev Fo := List (Option Int × Option Rat)
/-- put behind the last one, if it is another one -/
def putR (row : Fo) (r : Option Int) (t : Rat) : Fo := if (row.getLastD (none, none)).1 = r then row else row ++ [(r, some t)]
theorem putR_ne {R : Fo} {r : Option Int} {t : Rat} (h : R ≠ []) : putR R r t ≠ [] := by
  unfold putR
  split
  · exact h
  · simp
theorem putR_len {R : Fo} {r : Option Int} {t : Rat} : (putR R r t).length ≤ R.length + 1 := by
  unfold putR
  split
  · exact Nat.le_succ _
  · rw [List.length_append]; exact Nat.le_refl _
instance : PyN Int where
  nn a := by constructor <;> simp only [PyV.py, Enc.py, PyData.eqv]
/-- the times of deeds and of changes, stretch by stretch -/
inductive AllP (D : List Dd) (T : List Rat) : Nat → List Rat → Prop
  | zero : AllP D T 0 []
  | succ {k : Nat} {B C : List Rat} {t : Rat} : AllP D T k B → T[k]? = some t → CI (lnM (runM (thenD D t)).1) t T[k + 1]? (runM (thenD D t)).1.length 0 C → AllP D T (k + 1) (B ++ [t] ++ C)
theorem IsT.nz {D : List Dd} {T : List Rat} (h : IsT D T) (hD : DOk D) : ∀ x ∈ T, Nz 60 x := fun x hx => by
  obtain ⟨d, hd, rfl⟩ := (h.mem x).mp hx
  obtain ⟨a, b, e⟩ := List.append_of_mem hd
  exact (smd_t (hD.ok a d b e).1).nz
theorem CI.nz {L : List Ln} {t : Rat} {b : Option Rat} {n : Nat} {C : List Rat} (h : CI L t b n 0 C) (ok : LOk L) (hn : n ≤ L.length) : ∀ x ∈ C, Nz 1210 x := fun x hx => by
  rcases (h.mem x).mp hx with ⟨i', j', h1, h2, h3⟩ | ⟨j', h1, _⟩
  · exact chg_nz ok (by omega) h2 h3.2.1
  · exact absurd h1 (Nat.not_lt_zero _)
theorem lnM_ok {D : List Dd} (h : DOk D) : LOk (lnM (runM D).1) := fun l hl => by
  obtain ⟨x, hx, rfl⟩ := List.mem_map.mp hl
  exact h.lz x hx
theorem AllP.nz {D : List Dd} {T : List Rat} {k : Nat} {B : List Rat} (h : AllP D T k B) (hT : IsT D T) (hD : DOk D) : ∀ x ∈ B, Nz 1210 x := by
  induction h with
  | zero => intro x hx; cases hx
  | succ h1 h2 h3 ih =>
    intro x hx
    rcases List.mem_append.mp hx with hx | hx
    · rcases List.mem_append.mp hx with hx | hx
      · exact ih x hx
      · rw [List.mem_singleton.mp hx]
        exact (hT.nz hD _ (List.mem_of_getElem? h2)).le (by decide)
    · exact h3.nz (lnM_ok (hD.then _)) (by rw [lnM_len]; exact Nat.le_refl _) x hx
theorem AllP.len {D : List Dd} {T : List Rat} {k : Nat} {B : List Rat} (h : AllP D T k B) (hD : DOk D) : B.length ≤ 401 * k := by
  induction h with
  | zero => exact Nat.zero_le _
  | @succ k B C t h1 h2 h3 ih =>
    have hM := (hD.then t).room
    have h4 := h3.len
    rw [lnM_len] at h4
    have h5 : (runM (thenD D t)).1.length * (runM (thenD D t)).1.length ≤ 20 * 20 := Nat.mul_le_mul hM hM
    simp only [List.length_append, List.length_singleton]
    omega
/-- what a stretch puts behind the row -/
def stepS (M : Mp) (t : Rat) (b : Option Rat) (row : Fo) (x : Nat × Option Rat) : Fo := match x.2 with
  | some s => if t < s ∧ (∀ v, b = some v → s < v) then putR row (some (kN M x.1)) s else row
  | none => row
def StrR (D : List Dd) (t : Rat) (b : Option Rat) (R R' : Fo) : Prop :=
  ((runM (thenD D t)).1 = [] ∧ R' = putR R none t) ∨
    ∃ r0 rest, IsRow (lnM (runM (thenD D t)).1) ((r0, none) :: rest) ∧ R' = rest.foldl (stepS (runM (thenD D t)).1 t b) (putR R (some (kN (runM (thenD D t)).1 (rd r0 rest t))) t)
inductive LdR (D : List Dd) (T : List Rat) : Nat → Fo → Prop
  | zero : LdR D T 0 [(none, none)]
  | succ {k : Nat} {R R' : Fo} {t : Rat} : LdR D T k R → T[k]? = some t → StrR D t T[k + 1]? R R' → LdR D T (k + 1) R'
theorem stepS_ne {M : Mp} {t : Rat} {b : Option Rat} {row : Fo} {x : Nat × Option Rat} (h : row ≠ []) : stepS M t b row x ≠ [] ∧ (stepS M t b row x).length ≤ row.length + 1 := by
  unfold stepS
  split
  · split
    · exact ⟨putR_ne h, putR_len⟩
    · exact ⟨h, Nat.le_succ _⟩
  · exact ⟨h, Nat.le_succ _⟩
theorem foldS_ne {M : Mp} {t : Rat} {b : Option Rat} : ∀ {xs : Rw} {row : Fo}, row ≠ [] → xs.foldl (stepS M t b) row ≠ [] ∧ (xs.foldl (stepS M t b) row).length ≤ row.length + xs.length
  | [], row, h => ⟨h, Nat.le_refl _⟩
  | x :: xs, row, h => by
    obtain ⟨h1, h2⟩ := stepS_ne (M := M) (t := t) (b := b) (x := x) h
    obtain ⟨i1, i2⟩ := foldS_ne (M := M) (t := t) (b := b) (xs := xs) h1
    exact ⟨i1, Nat.le_trans i2 (by rw [List.length_cons]; omega)⟩
theorem LdR.ne {D : List Dd} {T : List Rat} {k : Nat} {R : Fo} (h : LdR D T k R) (hD : DOk D) : R ≠ [] ∧ R.length ≤ 1 + 30 * k := by
  induction h with
  | zero => exact ⟨by simp, Nat.le_refl _⟩
  | @succ k R R' t h1 h2 h3 ih =>
    obtain ⟨i1, i2⟩ := ih
    rcases h3 with ⟨_, rfl⟩ | ⟨r0, rest, hr, rfl⟩
    · refine ⟨putR_ne i1, ?_⟩
      have := putR_len (R := R) (r := none) (t := t)
      omega
    · obtain ⟨j1, j2⟩ := foldS_ne (M := (runM (thenD D t)).1) (t := t) (b := T[k + 1]?) (xs := rest) (putR_ne (r := some (kN (runM (thenD D t)).1 (rd r0 rest t))) (t := t) i1)
      refine ⟨j1, ?_⟩
      have h5 := hr.len
      rw [lnM_len, List.length_cons] at h5
      have h6 := (hD.then t).room
      have h7 := putR_len (R := R) (r := some (kN (runM (thenD D t)).1 (rd r0 rest t))) (t := t)
      omega
end DL
namespace DL
open PySem PySem.Spec PyProof.Rows L2
end DL
/-! Exceptions over the data layer: raise, calls that may raise, a try whose clause keeps the exception in a name, isinstance and a field of it. -/
namespace DL
open PySem PySem.Spec PyProof.Rows L2
/-! ### what a frame's entry keeps -/
theorem inv_good {X : Cx} {pins : List (Addr × Obj)} {σ : L2.St} {H : Hp} {s : Shared} (I : Inv X pins σ H s) : Good X.K X.H_0 H where
  tp := fun b xs h => by
    rcases h with (h | ⟨ob, h⟩) | h
    · exact .inl (.inl (I.base.tups _ _ h))
    · exact .inl (.inr ⟨ob, I.base.frzs _ _ _ h⟩)
    · exact .inr h
  fz := fun b xs h => by
    rcases h with ⟨ob, h⟩ | h
    · exact .inl ⟨ob, I.base.frzs _ _ _ h⟩
    · exact .inr h
  xe := fun b x f => ExcAt.by I.base.frzs
  fd := I.base.frzs
/-- a wish about an exception, by data -/
def dnW (K : PySem.W.Frag) (W2 : St2 → XK2) : WX := fun cls d σ H => ∃ τ S x f, cls = .ref (cA K x) ∧ Rl K H τ σ ∧ RelS K S H ∧ XFs H d f ∧ W2 τ x f S
theorem takes_inv {X : Cx} {W W' : WX} (t : Takes X W) (h : ∀ pins cls d σ H s, Inv X pins σ H s → W' cls d σ H → W cls d σ H) : Takes X W' := by
  rintro u s' ⟨a, B, sI, pins, σ, H, cls, d, e, I, nb, up, sky, na, os, ag, w⟩
  exact t u s' ⟨a, B, sI, pins, σ, H, cls, d, e, I, nb, up, sky, na, os, ag, h _ _ _ _ _ _ I w⟩
/-! ### defs that may raise -/
structure FnX (P : Program) (w : World) (K : PySem.W.Frag) (mg : Str → Option Value) (base : Heap) (k : Nat) (x : Str) (sp : Sp2) : Prop where
  ex : ∃ f fd ps, FnOk P w K mg base (L2.CX P w) k f fd ps (dnSp K sp) ∧ mg x = some (.ref f) ∧ PySem.W.keepIn K (.ref f) = true ∧ Binds K fd ps []
def uCallX (sp : Sp2) (W2 : St2 → XK2) (t : TA2) : TE2 := fun τ S Q => t τ S fun ds S1 => sp ds S1 Q (W2 τ)
section
variable {X : Cx} {k : Nat} {x : Str} {sp : Sp2} {W2 : St2 → XK2} {p pos : Pos} {e : Expr} {es : List Expr} {t : TA2}
theorem q_callX (tk : Takes X (dnW X.K W2)) (F : FnX X.prog X.w X.K X.mg X.base k x sp) (hr : Room k X.A) (hg : Gl X x) (ha : QA X (e :: es) t) (hdb : (x == ("__debug__" : Str)) = false := by decide) (he : starEach (e :: es) X.env = (false, eval e X.env) :: starEach es X.env := by rfl)
    (hpl : (backTo pos (starEach es X.env)).any (·.1) = false := by rfl) : QE X (.Call (.Name x p) (e :: es) [] pos) (uCallX sp W2 t) := by
  obtain ⟨f, fd, ps, F, hm, hk, hb⟩ := F.ex
  refine PE.wk (pe_callS F hr hg hm hk hb (fun σ => passAt tk σ) ha hdb he hpl) fun σ H Q ⟨τ, S, Q2, rl, rs, t, k⟩ => ?_
  exact ⟨τ, S, _, rl, rs, t, fun ds vs S1 H1 g1 rs1 dvs t1 => ⟨ds, S1, Q2, _, dvs, rs1, t1, fun d v S' H' g => k d v S' H' (g1.trans g),
    fun y dd f S' H' g rs' xf e2 => ⟨τ, S', y, f, rfl, rl.keep (g1.trans g), rs', xf, e2⟩⟩⟩
end
/-- a def that may raise, where it doesn't -/
theorem Fn.ofX {P : Program} {w : World} {K : PySem.W.Frag} {mg : Str → Option Value} {base : Heap} {k : Nat} {x : Str} {sp sp' : Sp2} (F : FnX P w K mg base k x sp) (h : ∀ ds S Q E, sp' ds S Q E → sp ds S Q fun _ _ _ => False) : Fn P w K mg base k x sp' := by
  obtain ⟨f, fd, ps, F, hm, hk, hb⟩ := F.ex
  have key : ∀ vs H Q E, dnSp K sp' vs H Q E → dnSp K sp vs H Q fun _ _ _ => False := fun vs H Q E ⟨ds, S, Q2, E2, dvs, rs, q, k, _⟩ =>
    ⟨ds, S, Q2, _, dvs, rs, h _ _ _ _ q, k, fun _ _ _ _ _ _ _ _ z => z⟩
  refine ⟨f, fd, ps, ⟨fun vs H Q E q => F.len _ _ _ _ (key _ _ _ _ q), fun A outer s H args us vs Q E hr he hbd hv hs => ?_⟩, hm, hk, hb⟩
  refine codeAny_mono (F.run A outer s H args us vs Q _ hr he hbd hv (key _ _ _ _ hs)) fun r s' hq => ?_
  cases r with
  | error e =>
    obtain ⟨_, _, _, _, _, _, _, _, _, _, _, _, z⟩ := hq
    exact z.elim
  | ok fl => cases fl <;> exact hq
/-! ### raise -/
def uRaise (x : Str) (W2 : St2 → XK2) (t : TA2) : TS2 := fun _ τ S => t τ S fun ds S1 => ds.length ≤ 100 ∧ W2 τ x none S1
/-! ### what a caught exception is -/
/-- the classes: R those that are raised, Ys those that are asked of -/
structure ErrT (K : PySem.W.Frag) (mg : Str → Option Value) (R Ys : List Str) : Prop where
  gl : ∀ y ∈ Ys, mg y = some (.ref (cA K y))
  ec : ∀ x ∈ R, ExcC K (cA K x)
  no : ∀ y ∈ Ys, PySem.W.kitOne K (.type "NoneType") (.ref (cA K y)) = some false
  kt : ∀ x ∈ R, ∀ y ∈ Ys, PySem.W.kitOne K (.ref (cA K x)) (.ref (cA K y)) = some (isub x y)
  kv : ∀ x ∈ R, PySem.W.kitOne K (.ref (cA K x)) (.type "ValueError") = some true
  ex : ∀ x ∈ R, PySem.W.exmOne K (.ref (cA K x)) (.ref (cA K "LeadError")) = some true
section
variable {P : Program} {w : World} {K : PySem.W.Frag} {H : Hp} {h : Heap} {a : Addr} {x : Str} {f : Option (Str × Int)}
theorem ExcAt.inst (k : HOk P w H h) (e : ExcAt K H a x f) : ∃ oe od, PySem.W.InstAt h a oe (cA K x) od ∧ ∀ n i, f = some (n, i) → ∃ o u, od = some o ∧ PySem.W.lookIn n o = some (some u) ∧ RelV (.int i) u := by
  obtain ⟨oe, h1, h2, ⟨vs, h3⟩, h4⟩ := e
  have hx : ObjOk P w H h a (.frz oe (anyO a)) := k a _ h1
  have nc : PySem.W.notCls oe = true := by
    unfold PySem.W.notCls
    rw [h3]
  cases hd : oe.dict with
  | none =>
    rw [hd] at h4
    refine ⟨oe, none, ⟨hx.1, h2, nc, by rw [hd]; trivial⟩, fun n i e => ?_⟩
    subst e
    exact h4.elim
  | some d =>
    rw [hd] at h4
    cases f with
    | none => exact h4.elim
    | some p =>
      obtain ⟨n, i⟩ := p
      obtain ⟨od, q⟩ := h4
      have hq : ObjOk P w H h d (.frz od (.xd [(n, .int i)])) := k d _ q
      obtain ⟨ho, mA, hns, rel⟩ := hq
      obtain ⟨od2, ho2, hl⟩ := lookIn_ns hns
      obtain ⟨u, hu, ru⟩ := RelO.some_of (v := V.int i) (o := mA n) (by have z := rel n; simpa [List.lookup] using z)
      refine ⟨oe, some od2, ⟨hx.1, h2, nc, by rw [hd]; exact ho2⟩, fun n' i' e => ?_⟩
      cases e
      exact ⟨od2, u, rfl, by rw [hl, hu], ru⟩
/-- what isinstance asks of -/
inductive TyE (K : PySem.W.Frag) (H : Hp) : V → Value → Prop where
  | non : TyE K H .non (.type "NoneType")
  | exc {a : Addr} {x : Str} {f : Option (Str × Int)} (e : ExcAt K H a x f) (c : ExcC K (cA K x)) : TyE K H (.ref a) (.ref (cA K x))
theorem TyE.kit {X : Cx} {pins : List (Addr × Obj)} {σ : L2.St} {H : Hp} {s : Shared} {v : V} {u t : Value} (I : Inv X pins σ H s) (rx : RelV v u) (ty : TyE X.K H v t) :
    ∃ P : Heap → Prop, PySem.W.KitX X.K u t P ∧ P s.heap ∧ u ≠ .builtin "__main__.__loader__#opaque" := by
  cases ty with
  | non => cases (show u = Value.none from rx); exact ⟨_, PySem.W.kitx_none, True.intro, fun z => nomatch z⟩
  | @exc a x f e C =>
    cases (show u = Value.ref a from rx)
    obtain ⟨oe, od, J, _⟩ := e.inst I.hok
    obtain ⟨cd, hc, _⟩ := PySem.W.any_some C.hd
    exact ⟨_, PySem.W.kitx_exc (by rw [hc]; rfl) C.hg C.hk C.hs C.ha C.hn C.ht C.hm, J, fun z => nomatch z⟩
theorem call_isX {X : Cx} : CallR X (.builtin "isinstance") (fun xs H Q => ∃ (v c : V) (t u : Value) (b : Bool), xs = [v, c] ∧ ClsV c u ∧ TyE X.K H v t ∧ PySem.W.kitOne X.K t u = some b ∧ Q (.bl b) H) := by
  rintro pins s σ H xs us Q I r ⟨v, c, t, u, b, rfl, k, ty, e, q⟩
  obtain ⟨u1, u2, rfl, r1, r2⟩ := vals2 r
  obtain rfl := k.eq r2
  obtain ⟨P, Z, p, hx⟩ := ty.kit I r1
  exact PySem.W.kia_one Z I.kIn p e hx fun tk => ⟨.bl b, H, I.tok tk, rfl, q⟩
theorem call_isXT {X : Cx} : CallR X (.builtin "isinstance") (fun xs H Q => ∃ (v : V) (tp : Addr) (cs : List V) (t : Value) (us : List Value) (b : Bool), xs = [v, .ref tp] ∧ H tp = some (.tup cs) ∧ Paired ClsV cs us ∧ TyE X.K H v t ∧ PySem.W.kitAny X.K t us = some b ∧ Q (.bl b) H) := by
  rintro pins s σ H xs us Q I r ⟨v, tp, cs, t, ws, b, rfl, hT, k, ty, e, q⟩
  obtain ⟨u1, u2, rfl, r1, r2⟩ := vals2 r
  cases (show u2 = Value.ref tp from r2)
  obtain ⟨P, Z, p, hx⟩ := ty.kit I r1
  have hT2 : ObjOk X.prog X.w H s.heap tp (.tup cs) := I.hok tp _ hT
  obtain ⟨_, its, rv, o, h1, h2, n, h3⟩ := hT2
  obtain rfl := ClsV.all k rv
  obtain ⟨oc, od, dt, sl⟩ := o
  simp only at h2 h3
  subst h2 h3
  exact PySem.W.kia_tup Z I.kIn p h1 e hx fun tk => ⟨.bl b, H, I.tok tk, rfl, q⟩
end
def isE (R ys : List Str) (Q : VK2) (S : Sto) : D → Prop
  | .non => Q (.bl false) S
  | .exc x _ => x ∈ R ∧ Q (.bl (ys.any (isub x))) S
  | _ => False
def uIsE (R ys : List Str) (ta : TE2) : TE2 := fun τ S Q => ta τ S fun d S1 => isE R ys Q S1 d
section
variable {X : Cx} {R Ys : List Str} {p p2 pos pp : Pos} {e : Expr} {es : List Expr} {ta : TE2} {y : Str}
/-- the type of such a value -/
theorem isE_ty (T : ErrT X.K X.mg R Ys) {S : Sto} {H : Hp} {d : D} {v : V} {Q : VK2} {ys : List Str} (dv : Dv X.K H d v) (h : isE R ys Q S d) : ∃ t b, TyE X.K H v t ∧ Q (.bl b) S ∧ ((t = .type "NoneType" ∧ b = false) ∨ ∃ x ∈ R, t = .ref (cA X.K x) ∧ b = ys.any (isub x)) := by
  cases dv with
  | non => exact ⟨_, false, .non, h, .inl ⟨rfl, rfl⟩⟩
  | exc e => exact ⟨_, _, .exc e (T.ec _ h.1), h.2, .inr ⟨_, h.1, rfl, rfl⟩⟩
  | _ => exact h.elim
theorem q_isE (T : ErrT X.K X.mg R Ys) (hy : y ∈ Ys) (hm : X.mg "isinstance" = none) (hg : Gl X "isinstance") (hg2 : Gl X y) (ha : QE X e ta) (hd : (y == ("__debug__" : Str)) = false := by decide)
    (he : starEach [e, .Name y p2] X.env = (false, eval e X.env) :: starEach [.Name y p2] X.env := by rfl) (hpl : (backTo pos (starEach [.Name y p2] X.env)).any (·.1) = false := by rfl)
    (hs2 : starEach [.Name y p2] X.env = (false, eval (.Name y p2) X.env) :: starEach [] X.env := by rfl) : QE X (.Call (.Name "isinstance" p) [e, .Name y p2] [] pos) (uIsE R [y] ta) :=
  PE.wk (pe_callB call_isX hg hm PyProof.Rows.boot_isinstance (pa_cons ha (pa_cons (pe_glob (v := .ref (cA X.K y)) hg2 (T.gl y hy) rfl hd) pa_nil hs2) he) (hpl := hpl) (he := he)) fun σ H Q ⟨τ, S, Q2, rl, rs, t, k⟩ =>
    ⟨τ, S, _, rl, rs, t, fun d v S1 H1 g1 rs1 dv1 t1 => by
      obtain ⟨t, b, ty, q, hb⟩ := isE_ty T dv1 t1
      refine ⟨v, .ref (cA X.K y), t, _, b, rfl, .own _, ty, ?_, k _ _ _ _ g1 rs1 (.bl _) q⟩
      rcases hb with ⟨rfl, rfl⟩ | ⟨x, hx, rfl, rfl⟩
      · exact T.no y hy
      · rw [T.kt x hx y hy]; simp⟩
theorem q_isEV (T : ErrT X.K X.mg R Ys) (hm : X.mg "isinstance" = none) (hg : Gl X "isinstance") (hm2 : X.mg "ValueError" = none) (hg2 : Gl X "ValueError") (ha : QE X e ta)
    (he : starEach [e, .Name "ValueError" p2] X.env = (false, eval e X.env) :: starEach [.Name "ValueError" p2] X.env := by rfl) (hpl : (backTo pos (starEach [.Name "ValueError" p2] X.env)).any (·.1) = false := by rfl)
    (hs2 : starEach [.Name "ValueError" p2] X.env = (false, eval (.Name "ValueError" p2) X.env) :: starEach [] X.env := by rfl) : QE X (.Call (.Name "isinstance" p) [e, .Name "ValueError" p2] [] pos) (uIsE R ["ValueError"] ta) :=
  PE.wk (pe_callB call_isX hg hm PyProof.Rows.boot_isinstance (pa_cons ha (pa_cons (pe_bltn (v := .ty "ValueError") hg2 hm2 PyProof.Rows.Boot.«ValueError» rfl (by decide) (by decide)) pa_nil hs2) he) (hpl := hpl) (he := he)) fun σ H Q ⟨τ, S, Q2, rl, rs, t, k⟩ =>
    ⟨τ, S, _, rl, rs, t, fun d v S1 H1 g1 rs1 dv1 t1 => by
      obtain ⟨t, b, ty, q, hb⟩ := isE_ty T dv1 t1
      refine ⟨v, .ty "ValueError", t, _, b, rfl, .ty _, ty, ?_, k _ _ _ _ g1 rs1 (.bl _) q⟩
      rcases hb with ⟨rfl, rfl⟩ | ⟨x, hx, rfl, rfl⟩
      · exact kit_ty (by decide +kernel)
      · rw [T.kv x hx]; simp [isub]⟩
theorem kit_all {K : PySem.W.Frag} {t : Value} {f : Str → Bool} : ∀ {ys : List Str}, (∀ y ∈ ys, PySem.W.kitOne K t (.ref (cA K y)) = some (f y)) → PySem.W.kitAny K t (ys.map fun y => .ref (cA K y)) = some (ys.any f)
  | [], _ => rfl
  | y :: ys, h => by
    rw [List.map_cons]
    refine kitAny_cons (h y (List.mem_cons_self ..)) (fun e => ?_) fun e => ?_
    · rw [List.any_cons, e, Bool.false_or]
      exact kit_all fun z hz => h z (List.mem_cons_of_mem _ hz)
    · rw [List.any_cons, e, Bool.true_or]
theorem cls_all {K : PySem.W.Frag} : ∀ ys : List Str, Paired ClsV (ys.map fun y => V.ref (cA K y)) (ys.map fun y => Value.ref (cA K y))
  | [] => .nil
  | y :: ys => .cons (.own _) (cls_all ys)
theorem q_isET (T : ErrT X.K X.mg R Ys) (ys : List Str) (hy : ∀ y ∈ ys, y ∈ Ys) (hm : X.mg "isinstance" = none) (hg : Gl X "isinstance") (ha : QE X e ta) (hl : ys.length ≤ 100)
    (hes : PA X es (fun σ H Q => Q (ys.map fun y => V.ref (cA X.K y)) H)) {x1}
    (he : starEach [e, .Tuple es x1 pp] X.env = (false, eval e X.env) :: starEach [.Tuple es x1 pp] X.env := by rfl) (hpl : (backTo pos (starEach [.Tuple es x1 pp] X.env)).any (·.1) = false := by rfl)
    (hs2 : starEach [.Tuple es x1 pp] X.env = (false, eval (.Tuple es x1 pp) X.env) :: starEach [] X.env := by rfl) : QE X (.Call (.Name "isinstance" p) [e, .Tuple es x1 pp] [] pos) (uIsE R ys ta) :=
  PE.wk (pe_callB call_isXT hg hm PyProof.Rows.boot_isinstance (pa_cons ha (pa_cons (pe_tup hes) pa_nil hs2) he) (hpl := hpl) (he := he)) fun σ H Q ⟨τ, S, Q2, rl, rs, t, k⟩ =>
    ⟨τ, S, _, rl, rs, t, fun d v S1 H1 g1 rs1 dv1 t1 => by
      show (ys.map fun y => V.ref (cA X.K y)).length ≤ sizeLine ∧ _
      refine ⟨by rw [List.length_map, sizeLine_eq]; omega, fun p hp => ?_⟩
      have g2 : Good X.K H1 (upd H1 p (.tup (ys.map fun y => V.ref (cA X.K y)))) := good_new hp
      obtain ⟨t, b, ty, q, hb⟩ := isE_ty T (dv1.keep g2) t1
      refine ⟨v, p, _, t, ys.map fun y => .ref (cA X.K y), b, rfl, upd_same, ?_, ty, ?_, k _ _ _ _ (g1.trans g2) (rs1.newT hp) (.bl _) q⟩
      · exact cls_all _
      rcases hb with ⟨rfl, rfl⟩ | ⟨x, hx, rfl, rfl⟩
      · rw [kit_all (f := fun _ => false) fun y h => T.no y (hy y h)]
        simp
      · exact kit_all fun y h => T.kt x hx y (hy y h)⟩
/-- a class's name, as an argument -/
theorem pa_cls {ys : List Str} (T : ErrT X.K X.mg R Ys) (hy : y ∈ Ys) (hg2 : Gl X y) (h : PA X es (fun σ H Q => Q (ys.map fun y => V.ref (cA X.K y)) H)) (hd : (y == ("__debug__" : Str)) = false := by decide)
    (he : starEach (.Name y p2 :: es) X.env = (false, eval (.Name y p2) X.env) :: starEach es X.env := by rfl) : PA X (.Name y p2 :: es) (fun σ H Q => Q ((y :: ys).map fun y => V.ref (cA X.K y)) H) :=
  pa_cons (pe_glob (v := .ref (cA X.K y)) hg2 (T.gl y hy) rfl hd) h he
theorem pa_cls0 : PA X [] (fun σ H Q => Q (([] : List Str).map fun y => V.ref (cA X.K y)) H) := pa_nil
/-! ### its field -/
/-- the facts for a field's being read -/
structure FldE (K : PySem.W.Frag) (x n : Str) : Prop where
  xf : XfC K (cA K x)
  no : PySem.W.findIn K (.ref (cA K x)) n = some none
def fldE (x n : Str) (Q : VK2) (S : Sto) : D → Prop
  | .exc y (some (m, i)) => y = x ∧ m = n ∧ Q (.int i) S
  | _ => False
def uFldE (x n : Str) (ta : TE2) : TE2 := fun τ S Q => ta τ S fun d S1 => fldE x n Q S1 d
theorem q_fldE {x n : Str} (C : FldE X.K x n) (he : QE X e ta) (hb : attributeBase e n X.env (eval e X.env) = eval e X.env := by rfl) : QE X (.Attribute e n pos) (uFldE x n ta) := by
  refine ⟨fun pins s σ H Q I h => ?_⟩
  obtain ⟨τ, S, Q2, rl, rs, t, k⟩ := h
  refine attr_of hb (thn (he.run pins s σ H (fun v H1 => Good X.K H H1 ∧ ∃ d S1, RelS X.K S1 H1 ∧ Dv X.K H1 d v ∧ fldE x n Q2 S1 d) I ⟨τ, S, _, rl, rs, t, fun d v S1 H1 g1 rs1 dv1 t1 => ⟨g1, d, S1, rs1, dv1, t1⟩⟩) fun u s1 hh => ?_)
  obtain ⟨v, H1, I1, rx, g1, d, S1, rs1, dv1, t1⟩ := hh
  cases dv1 with
  | @exc a y f ea =>
    cases f with
    | none => exact t1.elim
    | some q =>
      obtain ⟨m, i⟩ := q
      obtain ⟨rfl, rfl, q⟩ := t1
      obtain rfl : u = Value.ref a := rx
      obtain ⟨oe, od, J, hf⟩ := ea.inst I1.hok
      obtain ⟨o, u2, rfl, hl, ru⟩ := hf _ _ rfl
      exact HandSPX.exc_get I1.kIn J C.xf.ga C.xf.gg C.xf.exC (PySem.W.findObj_own C.xf.hdC C.no rfl hl) (handed_of ru) ⟨.int i, H1, I1.tok _, ru, k _ _ _ _ g1 rs1 (.int i) q⟩
  | _ => exact t1.elim
end
/-! ### statements of a def's own body, held against its entry -/
abbrev QB (X : Cx) (s : Stmt) (t : TS2) : Prop := PS X s fun D σ H => Good X.K X.H_0 H ∧ ∃ τ S D2, Rl X.K H τ σ ∧ RelS X.K S H ∧ t D2 τ S ∧ EndsR X.K X.H_0 D2 D
abbrev QBs (X : Cx) (s : List Stmt) (t : TS2) : Prop := PSs X s fun D σ H => Good X.K X.H_0 H ∧ ∃ τ S D2, Rl X.K H τ σ ∧ RelS X.K S H ∧ t D2 τ S ∧ EndsR X.K X.H_0 D2 D
section
variable {X : Cx} {st : Stmt} {rest : List Stmt} {t u : TS2}
theorem b_of (h : QS X st t) : QB X st t := PS.wk h fun D σ H ⟨g, τ, S, D2, rl, rs, t, k⟩ => ⟨τ, S, D2, rl, rs, t, k.keep g⟩
theorem bs_of (h : QSs X rest t) : QBs X rest t := PSs.wk h fun D σ H ⟨g, τ, S, D2, rl, rs, t, k⟩ => ⟨τ, S, D2, rl, rs, t, k.keep g⟩
theorem bs_cons (h1 : QB X st t) (h2 : QBs X rest u) : QBs X (st :: rest) (uSeq t u) := PSs.wk (pss_cons h1 h2) fun D σ H ⟨g, τ, S, D2, rl, rs, t, k⟩ =>
  ⟨g, τ, S, _, rl, rs, t, ⟨fun τ1 S1 σ1 H1 g1 rl1 rs1 t1 => ⟨g1, τ1, S1, D2, rl1, rs1, t1, k⟩, k.rt, k.bk, k.ct⟩⟩
end
/-! ### the exception is kept -/
section
variable {X : Cx} {pins : List (Addr × Obj)} {σ : L2.St} {H : Hp} {s : Shared} {a : Addr} {o : HO}
/-- what stands untracked, and wasn't there at the entry, is tracked from now on; or what a dict of an exception is, is told anew -/
theorem inv_track (I : Inv X pins σ H s) (h0 : ∀ u, X.s_0.heap.get? a = some u → X.H_0 a ≠ none) (hn : H a = none ∨ ∃ fs, H a = some (.xd fs)) (hL : a ≠ X.env.locals) (hC : ∀ x c, X.env.cells.lookup x = some c → c ≠ a) (hp : ∀ p ∈ X.pn ++ pins, p.1 ≠ a)
    (ok : ObjOk X.prog X.w (upd H a o) s.heap a o) : Inv X pins σ (upd H a o) s := by
  have nT : ∀ {b u}, H b = some u → (∀ fs, u ≠ .xd fs) → b ≠ a := fun {b u} e ne z => by
    subst z
    rcases hn with hn | ⟨fs, hn⟩
    · rw [hn] at e; cases e
    · rw [hn] at e; cases e; exact ne fs rfl
  refine ⟨I.ok, I.os, I.bare, ⟨I.base.keep, I.base.slot, fun b u e n hx => ?_, I.base.there, fun b xs e => ?_, fun b u v e => ?_, fun b ps e => ?_⟩, I.loc, I.cell, ?_, fun x c e => ?_, fun p hq => ?_, fun b u e => ?_, I.len⟩
  · rw [upd_ne (fun z => by subst z; exact h0 u e n)]
    exact I.base.free b u e n hx
  · have q := I.base.tups b xs e
    rw [upd_ne (nT q fun fs z => by cases z)]
    exact q
  · have q := I.base.frzs b u v e
    rw [upd_ne (nT q fun fs z => by cases z)]
    exact q
  · obtain ⟨m, q⟩ := I.base.tbls b ps e
    exact ⟨m, by rw [upd_ne (nT q fun fs z => by cases z)]; exact q⟩
  · rw [upd_ne (Ne.symm hL)]
    exact I.free
  · rw [upd_ne (hC x c e)]
    exact I.freeC x c e
  · obtain ⟨h1, h2, h3⟩ := I.pin p hq
    exact ⟨h1, by rw [upd_ne (hp p hq)]; exact h2, h3⟩
  · by_cases hb : b = a
    · subst hb
      rw [upd_same] at e
      cases e
      exact ok
    · rw [upd_ne hb] at e
      refine (I.hok b u e).stay (fun c v _ q => q) (fun c q => ?_) fun c xs q => ?_
      · rw [upd_ne (nT q fun fs z => by cases z)]; exact q
      · rw [upd_ne (nT q fun fs z => by cases z)]; exact q
end
theorem good_xd {K : PySem.W.Frag} {H : Hp} {a : Addr} {o : HO} (hn : H a = none ∨ ∃ fs, H a = some (.xd fs)) : Good K H (upd H a o) := by
  have nT : ∀ {b u}, H b = some u → (∀ fs, u ≠ .xd fs) → b ≠ a := fun {b u} e ne z => by
    subst z
    rcases hn with hn | ⟨fs, hn⟩
    · rw [hn] at e; cases e
    · rw [hn] at e; cases e; exact ne fs rfl
  have fd : ∀ b ob w, H b = some (.frz ob w) → upd H a o b = some (.frz ob w) := fun b ob w q => by rw [upd_ne (nT q fun fs z => by cases z)]; exact q
  refine ⟨⟨fun b xs h => ?_, fun b xs h => ?_, fun b x f => ExcAt.by fd⟩, fd⟩
  · rcases h with (h | ⟨ob, h⟩) | h
    · exact .inl (.inl (by rw [upd_ne (nT h fun fs z => by cases z)]; exact h))
    · exact .inl (.inr ⟨ob, fd _ _ _ h⟩)
    · exact .inr h
  · rcases h with ⟨ob, h⟩ | h
    · exact .inl ⟨ob, fd _ _ _ h⟩
    · exact .inr h
theorem RelS.xd {K : PySem.W.Frag} {S : Sto} {H : Hp} {a : Addr} {o : HO} (rs : RelS K S H) (hn : H a = none ∨ ∃ fs, H a = some (.xd fs)) : RelS K S (upd H a o) :=
  rs.keep (good_xd hn) fun b hb => upd_ne fun z => by
    subst z
    cases q : S b with
    | none => exact hb q
    | some u =>
      have r := rs b u q
      rcases hn with hn | ⟨fs, hn⟩
      · exact r.some hn
      · cases u with
        | lst ds => obtain ⟨_, e, _⟩ := r; rw [hn] at e; cases e
        | ins C fs => obtain ⟨_, _, e, _⟩ := r; rw [hn] at e; cases e
        | dic kvs => obtain ⟨_, e, _⟩ := r; rw [hn] at e; cases e
        | fdc ob kvs => obtain ⟨_, e, _⟩ := r; rw [hn] at e; cases e
        | dct kvs => obtain ⟨_, e, _⟩ := r; rw [hn] at e; cases e
        | fdt ob kvs => obtain ⟨_, e, _⟩ := r; rw [hn] at e; cases e
        | ndc ks => obtain ⟨_, _, e, _⟩ := r; rw [hn] at e; cases e
theorem Rl.put {K : PySem.W.Frag} {H : Hp} {τ : St2} {σ : L2.St} {d : D} {v v' : V} {i j : Nat} (h : Rl K H τ σ) (r : Dv K H d v) : Rl K H ((τ.set j (some d)).set i none) (((σ.set i (some v')).set j (some v)).set i none) := by
  refine ⟨by simp [h.len], fun k e q => ?_⟩
  by_cases hi : i = k
  · subst hi
    by_cases hl : i < (τ.set j (some d)).length
    · rw [List.getElem?_set_self hl] at q; cases q
    · rw [List.getElem?_eq_none (by simpa using hl)] at q; cases q
  · rw [List.getElem?_set_ne hi] at q
    rw [List.getElem?_set_ne hi]
    obtain ⟨w, hw, rw_⟩ := (h.set j r).at_ k e q
    refine ⟨w, ?_, rw_⟩
    by_cases hj : j = k
    · subst hj
      by_cases hl : j < σ.length
      · rw [List.getElem?_set_self hl] at hw
        rw [List.getElem?_set_self (by simpa using hl)]
        exact hw
      · rw [List.getElem?_eq_none (by simpa using hl)] at hw; cases hw
    · rw [List.getElem?_set_ne hj] at hw ⊢
      rw [List.getElem?_set_ne hi]
      exact hw
def uTryE (R : List Str) (i j : Nat) (tb : (St2 → XK2) → TS2) : TS2 := fun D τ S => tb (fun τ' x f S' => x ∈ R ∧ D.nx ((τ'.set j (some (.exc x f))).set i none) S') D τ S
section
variable {X : Cx} {R Ys : List Str} {n c : Str} {i j : Nat} {body : List Stmt} {np cp ep ap hp pos : Pos} {tb : (St2 → XK2) → TS2}
/-- try: .. / except LeadError as n: c = n -/
theorem b_try (i j : Nat) (hs : X.stack = X.env :: X.outer) (hf : X.env.frame = some X.env.locals) (hex : X.ex = []) (hN : X.N.Nodup) (hi : X.N[i]? = some n) (hln : X.env.kindOf n = some .local) (hj : X.N[j]? = some c) (hlc : X.env.kindOf c = some .local)
    (T : ErrT X.K X.mg R Ys) (hLE : ("LeadError" : Str) ∈ Ys) (hg : Gl X "LeadError")
    (hsw : ∀ (a : Addr) (pn : List (Addr × Obj)), swapsWith (.Name n ep) (some (.Name c cp)) ap.line (X.suite a pn).env = pure false)
    (hv : ∀ (a : Addr) (pn : List (Addr × Obj)), PE (X.suite a pn) (.Name n ep) (tVar i))
    (hb : ∀ (W2 : St2 → XK2) (pn : List (Addr × Obj)) (xe : Value → Shared → Prop), Takes (X.tr pn xe) (dnW X.K W2) → PassesOwn (model X.prog X.w) X.A X.env xe → QSs (X.tr pn xe) body (tb W2)) :
    QB X (.Try body [.ExceptHandler (some (.Name "LeadError" np)) (some n) [.Assign [.Name c cp] (.Name n ep) ap] hp] [] [] pos) (uTryE R i j tb) := by
  refine ⟨fun pins s σ H D I h => ?_⟩
  obtain ⟨g0, τ, S, D2, rl, rs, t, k⟩ := h
  have ok := I.ok
  have hfr : X.A.frames = some (X.env :: X.outer) := by rw [ok.frames, hs]
  refine wpAny_Try_except ?_
  let W2 : St2 → XK2 := fun τ' x f S' => x ∈ R ∧ D2.nx ((τ'.set j (some (.exc x f))).set i none) S'
  refine wpAny_mono ((hb W2 (X.pn ++ pins) (fun e s₁ => wpAny (model X.prog X.w) X.A (noteFrame e X.env) (fun _ s₂ => wpAny (model X.prog X.w) X.A (setFlight e none) (fun _ s₃ =>
    wpAny (model X.prog X.w) X.A (handleBy e X.env [.ExceptHandler (some (.Name "LeadError" np)) (some n) [.Assign [.Name c cp] (.Name n ep) ap] hp]) (SP X pins D) X.xe s₃) X.xe s₂) X.xe s₁)
    (fun u s' xx => ?_) PassesOwn.looking).run [] s σ H D (I.toTry _) ⟨τ, S, D2, rl, rs, t, k.keep g0⟩) (fun f s1 hsp => ?_) (fun e s1 he => he)
  · obtain ⟨a, B, sI, pins', σ', H', cls, d, rfl, J', nb, up, sky, na, os, ag, τ', S', x, fl, rfl, rl', rs', xf, hxR, q⟩ := xx
    have J : Inv X pins σ' H' sI := J'.ofTry ok
    rw [show (X.tr (X.pn ++ pins) _).stack = X.env :: X.outer from hs] at sky
    have gE : Good X.K X.H_0 H' := inv_good J
    refine Sky.land Zc.steady hfr hf sky fun h3 fl3 up3 => ?_
    have J3 : Inv X pins σ' H' { s' with heap := h3 } := J.landed nb fl3.1 (up.trans up3) os ag
    obtain ⟨oe3, vs3, he3, hz3, hd3⟩ := fl3.there
    have nfr : a ∉ frs (X.env :: X.outer) := fun hm => by
      obtain ⟨_, o', e', hnf⟩ := fl3.2.2.1.mem hm
      rw [he3] at e'
      cases e'
      exact hnf _ hd3
    have nL : a ≠ X.env.locals := fun z => nfr (List.mem_filterMap.mpr ⟨X.env, List.mem_cons_self, by rw [hf, z]⟩)
    have nF : a ∉ X.fs := fun hm => by
      obtain ⟨e, he, q⟩ := List.mem_filterMap.mp hm
      exact nfr (List.mem_filterMap.mpr ⟨e, List.mem_cons_of_mem _ he, q⟩)
    have aI : sI.heap.get? a = none := by
      cases e : sI.heap.get? a with
      | none => rfl
      | some o =>
        have z := nb a o e (by rw [show (X.tr (X.pn ++ pins) _).stack = X.env :: X.outer from hs]; exact nfr)
        rw [fl3.2.1] at z
        cases z
    have a0 : X.s_0.heap.get? a = none := by
      cases e : X.s_0.heap.get? a with
      | none => rfl
      | some o =>
        obtain ⟨o', z⟩ := J.base.there a o e (by rw [hex]; exact fun z => nomatch z)
        rw [aI] at z
        cases z
    have aP : ∀ p ∈ X.pn ++ pins, p.1 ≠ a := fun p hp z => by
      have e := (J.pin p hp).1
      rw [z, aI] at e
      cases e
    have S3 := J3.suite he3 hd3 na nL nF
    refine wpAny_handleBy_cons (codeAny_handlers_test ?_) (by intro q; cases q)
    have LT : PySem.W.Looks (model X.prog X.w) h3 (typeOf (.ref a)) (.ref (cA X.K x)) := fun A Q E s k q => wpAny_typeOf_ref (k _ _ he3) (by rw [hz3.1]; exact q)
    have LM := PySem.W.exm_one (M := model X.prog X.w) (J3.kIn) LT (T.ex x hxR)
    refine ld_glob (X := X.suite a ((a, oe3) :: (X.pn ++ pins))) S3 hg (T.gl _ hLE) (LM.here ?_) (by decide)
    refine codeAny_handlers_suite_as ?_
    refine HandSPX.lands_againZ fl3 fun h4 fl4 up4 => ?_
    have J4 : Inv X pins σ' H' { s' with heap := h4 } := J.landed nb fl4.1 ((up.trans up3).trans up4) os ag
    obtain ⟨oe, vs, he, hz, hd⟩ := fl4.there
    have S4 := J4.suite he hd na nL nF
    refine store_ok (X := X.suite a ((a, oe) :: (X.pn ++ pins))) (v := .ref a) S4 hN hi (.inl hln) rfl (fun s5 S5 => ?_) (.inr hln)
    have hset := ps_set (X := X.suite a ((a, oe) :: (X.pn ++ pins))) (pos := ap) hN hj (.inl hlc) (hv a _) (hsw a _) (.inr hlc)
    have iσ : i < σ'.length := by rw [J.len]; exact (List.getElem?_eq_some_iff.mp hi).1
    refine wpAny_mono ((pss_one hset).run [] s5 _ H' { nx := fun σ6 H6 => σ6 = ((σ'.set i (some (.ref a))).set j (some (.ref a))) ∧ H6 = H', rt := fun _ _ => False } S5 ⟨.ref a, List.getElem?_set_self iσ, rfl, rfl⟩) (fun f s6 hsp => ?_) (fun _ _ z => False.elim z)
    have fin : ∀ {Q : Shared → Prop}, Inv (X.suite a ((a, oe) :: (X.pn ++ pins))) [] ((σ'.set i (some (.ref a))).set j (some (.ref a))) H' s6 → (∀ s7, Inv X ((a, oe) :: pins) ((((σ'.set i (some (.ref a))).set j (some (.ref a)))).set i none) H' s7 → Q s7) →
        wpAny (model X.prog X.w) X.A (do bindName X.env n .none; unbindBehindTheSuite X.env n hp) (fun _ s7 => Q s7) X.xe s6 := fun {Q} S6 hq => by
      have J6 : Inv X pins _ H' s6 := S6.unsuite ok
      refine gone_ok (J6.pins_of (pins' := (a, oe) :: pins) fun p hp => ?_) hN hi hln hq
      rcases List.mem_cons.mp hp with e | hp
      · exact S6.pin p (List.mem_append_left _ (List.mem_cons.mpr (.inl e)))
      · exact J6.pin p (List.mem_append_right _ hp)
    cases f with
    | next =>
      obtain ⟨_, _, S6, e1, e2⟩ := hsp
      rw [e1, e2] at S6
      refine fin S6 fun s7 J7 => ?_
      obtain ⟨pa, pn, pl, pf, pc⟩ := J7.pin (a, oe) (List.mem_append_right _ List.mem_cons_self)
      have J8 : Inv X pins _ H' s7 := J7.pins_of fun p hp => J7.pin p (List.mem_append_right _ (List.mem_cons_of_mem _ hp))
      have cells : ∀ y c, X.env.cells.lookup y = some c → c ≠ a := fun y c e z => by
        obtain ⟨v, o, h1, h2⟩ := J8.cell y c e
        rw [z, pa] at h1
        cases h1
        exact pc v h2
      have J9 : L2.Inv X pins ((((σ'.set i (some (.ref a))).set j (some (.ref a)))).set i none) (upd H' a (.frz oe (anyO a))) s7 := inv_track J8 (fun u e => by rw [a0] at e; cases e) (.inl na) nL cells aP ⟨pa, ⟨oe, pa⟩, ⟨oe, pa⟩, fun h1 h2 ⟨o, q⟩ k => ⟨o, k o q⟩⟩
      have g1 : Good X.K H' (upd H' a (.frz oe (anyO a))) := good_xd (.inl na)
      have done : ∀ H2, Good X.K H' H2 → RelS X.K S' H2 → ExcAt X.K H2 a x fl → Inv X pins ((((σ'.set i (some (.ref a))).set j (some (.ref a)))).set i none) H2 s7 → SP X pins D .next s7 := fun H2 g rs2 ea J => by
        exact ⟨_, H2, J, k.nx _ _ _ _ (gE.trans g) ((rl'.keep g).put (.exc ea)) rs2 q⟩
      cases d with
      | none =>
        cases fl with
        | some p => exact xf.elim
        | none =>
          refine done _ g1 (rs'.xd (.inl na)) ⟨oe, upd_same, hz.1, ⟨vs, hd⟩, ?_⟩ J9
          rw [hz.2]
          exact trivial
      | some dx =>
        cases fl with
        | none => exact xf.elim
        | some p =>
          obtain ⟨m, iv⟩ := p
          have xf : H' dx = some (.xd [(m, .int iv)]) := xf
          have ne : dx ≠ a := fun z => by rw [z, na] at xf; cases xf
          have xf2 : upd H' a (.frz oe (anyO a)) dx = some (.xd [(m, .int iv)]) := by rw [upd_ne ne]; exact xf
          have okd : ObjOk X.prog X.w (upd H' a (.frz oe (anyO a))) s7.heap dx (.xd [(m, .int iv)]) := J9.hok dx _ xf2
          obtain ⟨mA, hns, rel⟩ := okd
          obtain ⟨od, ho, _⟩ := lookIn_ns hns
          have hd2 : ∃ fs, upd H' a (.frz oe (anyO a)) dx = some (.xd fs) := ⟨_, xf2⟩
          have J10 : L2.Inv X pins ((((σ'.set i (some (.ref a))).set j (some (.ref a)))).set i none) (upd (upd H' a (.frz oe (anyO a))) dx (.frz od (.xd [(m, .int iv)]))) s7 := by
            refine inv_track J9 (fun u e z => ?_) (.inr hd2) (fun z => ?_) (fun y c e z => ?_) (fun p hp z => ?_) ⟨ho, mA, hns, rel⟩
            · have w := J9.base.free dx u e z (by rw [hex]; exact fun z => nomatch z)
              rw [xf2] at w; cases w
            · have w := J9.free
              rw [← z, xf2] at w; cases w
            · have w := J9.freeC y c e
              rw [z, xf2] at w; cases w
            · have w := (J9.pin p hp).2.1
              rw [z, xf2] at w; cases w
          have g2 := g1.trans (good_xd (K := X.K) (o := .frz od (.xd [(m, .int iv)])) (.inr hd2))
          refine done _ g2 ((rs'.xd (.inl na)).xd (.inr hd2)) ⟨oe, by rw [upd_ne (Ne.symm ne)]; exact upd_same, hz.1, ⟨vs, hd⟩, ?_⟩ J10
          rw [hz.2]
          exact ⟨od, upd_same⟩
    | brk =>
      obtain ⟨σ6, H6, S6, z⟩ := hsp
      exact z.elim
    | cont =>
      obtain ⟨σ6, H6, S6, z⟩ := hsp
      exact z.elim
    | ret u =>
      obtain ⟨v6, σ6, H6, S6, r6, z⟩ := hsp
      exact z.elim
  · cases f with
    | next =>
      obtain ⟨σ', H', J', q⟩ := hsp
      exact wpAny_execs_nil ⟨σ', H', J'.ofTry ok, q⟩
    | brk =>
      obtain ⟨σ', H', J', q⟩ := hsp
      exact ⟨σ', H', J'.ofTry ok, q⟩
    | cont =>
      obtain ⟨σ', H', J', q⟩ := hsp
      exact ⟨σ', H', J'.ofTry ok, q⟩
    | ret u =>
      obtain ⟨v, σ', H', J', r, q⟩ := hsp
      exact ⟨v, σ', H', J'.ofTry ok, r, q⟩
end
/-! ### defs -/
section
variable {P : Program} {w : World} {K : PySem.W.Frag} {mg : Str → Option Value} {base : Heap}
/-- a def whose body has such a try -/
theorem fn_coreB {x : Str} {st : Stmt} {f : Addr} {fd : FuncData} {N ps : List Str} {k : Nat} {sp : Sp2} (F : Fun K x x st f fd) (S : FnScope N ps (defScope st)) (len : ∀ ds S Q E, sp ds S Q E → ds.length = ps.length)
    (hbody : ∀ (cdv : Value) (A : Around) (outer : List Env) (s : Shared) (H : Hp) (E : XK), Room k (A.deeper (envOfC x (defScope st) s.heap.objs.size f cdv)) →
      ∃ t, QBs (cxOf CX0 P w K mg base N x (defScope st) f cdv A outer s H E).nox (defBody st) t ∧ ∀ ds S Q E, sp ds S Q E → t { nx := fun _ S' => ∃ S0, Sub S0 S' ∧ Q .non S0, rt := fun d S' => ∃ S0, Sub S0 S' ∧ Q d S0 } (start2 N ds) S) : FnOk P w K mg base CX0 (k + 1) f fd ps (dnSp K sp) := by
  refine F.ok S (fun vs H Q E h => ?_) (fun cdv A outer s H vs Q E hr h => ?_)
  · obtain ⟨ds, S, Q2, E2, dvs, _, h, _⟩ := h
    rw [← dvs.length]
    exact len ds S Q2 E2 h
  · obtain ⟨t, ht, rd⟩ := hbody cdv A outer s H E hr
    obtain ⟨ds, S, Q2, E2, dvs, rs, h, k, _⟩ := h
    refine ⟨_, ht, .refl H, start2 N ds, S, _, Rl.start dvs, rs, rd ds S Q2 E2 h, ?_⟩
    exact ⟨fun τ S' σ' H' g _ rs' ⟨S0, sub, q⟩ => k _ _ _ _ g (rs'.sub sub) .non q, fun d v S' H' g rs' dv ⟨S0, sub, q⟩ => k _ _ _ _ g (rs'.sub sub) dv q, fun _ _ _ _ _ _ _ z => z.elim, fun _ _ _ _ _ _ _ z => z.elim⟩
theorem fn_introB {x : Str} {st : Stmt} {N ps : List Str} {k : Nat} {sp : Sp2} (FA : FunAt K mg x st ps) (S : FnScope N ps (defScope st)) (len : ∀ ds S Q E, sp ds S Q E → ds.length = ps.length)
    (hbody : ∀ (cdv : Value) (A : Around) (outer : List Env) (s : Shared) (H : Hp) (E : XK) (f : Addr), Room k (A.deeper (envOfC x (defScope st) s.heap.objs.size f cdv)) →
      ∃ t, QBs (cxOf CX0 P w K mg base N x (defScope st) f cdv A outer s H E).nox (defBody st) t ∧ ∀ ds S Q E, sp ds S Q E → t { nx := fun _ S' => ∃ S0, Sub S0 S' ∧ Q .non S0, rt := fun d S' => ∃ S0, Sub S0 S' ∧ Q d S0 } (start2 N ds) S) : Fn P w K mg base (k + 1) x sp := by
  obtain ⟨f, fd, F, gm, bd⟩ := FA.ex
  exact ⟨f, fd, ps, fn_coreB F S len fun cdv A outer s H E hr => hbody cdv A outer s H E f hr, gm, F.kp, bd⟩
/-- a def that may raise -/
theorem fn_introX {x : Str} {st : Stmt} {N ps : List Str} {k : Nat} {sp : Sp2} (FA : FunAt K mg x st ps) (S : FnScope N ps (defScope st)) (len : ∀ ds S Q E, sp ds S Q E → ds.length = ps.length)
    (hbody : ∀ (cdv : Value) (A : Around) (outer : List Env) (s : Shared) (H : Hp) (E : XK) (f : Addr) (EE : XK2), Room k (A.deeper (envOfC x (defScope st) s.heap.objs.size f cdv)) →
      Takes (cxOf (L2.CX P w) P w K mg base N x (defScope st) f cdv A outer s H E) (dnW K fun _ => EE) → PassesOwn (model P w) (A.deeper (envOfC x (defScope st) s.heap.objs.size f cdv)) (envOfC x (defScope st) s.heap.objs.size f cdv) (cxOf (L2.CX P w) P w K mg base N x (defScope st) f cdv A outer s H E).xe →
      ∃ t, QSs (cxOf (L2.CX P w) P w K mg base N x (defScope st) f cdv A outer s H E) (defBody st) t ∧ ∀ ds S Q E2, (∀ x f S S0, Sub S0 S → E2 x f S0 → EE x f S) → sp ds S Q E2 → t { nx := fun _ S' => ∃ S0, Sub S0 S' ∧ Q .non S0, rt := fun d S' => ∃ S0, Sub S0 S' ∧ Q d S0 } (start2 N ds) S) : FnX P w K mg base (k + 1) x sp := by
  obtain ⟨f, fd, F, gm, bd⟩ := FA.ex
  refine ⟨f, fd, ps, F.okX S (fun vs H Q E h => ?_) (fun cdv A outer s H vs Q E hr h => ?_), gm, F.kp, bd⟩
  · obtain ⟨ds, S, Q2, E2, dvs, _, h, _⟩ := h
    rw [← dvs.length]
    exact len ds S Q2 E2 h
  · obtain ⟨ds, S, Q2, E2, dvs, rs, h, k, kE⟩ := h
    have tk : Takes (cxOf (L2.CX P w) P w K mg base N x (defScope st) f cdv A outer s H E) (dnW K fun _ y fl S' => ∀ H' dd, Good K H H' → RelS K S' H' → XFs H' dd fl → E (.ref (cA K y)) dd H') :=
      takes_inv (takes_of (E := E) rfl rfl rfl rfl) fun pins cls d σ H1 s1 I ⟨τ, S1, y, fl, e, rl, rs1, xf, q⟩ => by
        subst e
        exact q H1 d (inv_good I) rs1 xf
    obtain ⟨t, ht, rd⟩ := hbody cdv A outer s H E f _ hr tk (passes_of rfl)
    refine ⟨_, ht, start2 N ds, S, _, Rl.start dvs, rs, rd ds S Q2 E2 (fun y fl S1 S0 sub q H' dd g rs1 xf => kE _ _ _ _ _ g (rs1.sub sub) xf q) h, ?_⟩
    exact ⟨fun τ S' σ' H' g _ rs' ⟨S0, sub, q⟩ => k _ _ _ _ g (rs'.sub sub) .non q, fun d v S' H' g rs' dv ⟨S0, sub, q⟩ => k _ _ _ _ g (rs'.sub sub) dv q, fun _ _ _ _ _ _ _ z => z.elim, fun _ _ _ _ _ _ _ z => z.elim⟩
end
/-! ### the facts of the classes, by a look -/
theorem exCB_ok {K : PySem.W.Frag} {C : Addr} (h : exCB K C = true) : ExcC K C := by
  unfold exCB at h
  simp only [Bool.and_eq_true, decide_eq_true_eq] at h
  obtain ⟨h1, h2, h3, h4, h5, h6, h7, h8⟩ := h
  exact ⟨h1, h2, h3, h4, h5, h6, h7, h8⟩
section
variable {K : PySem.W.Frag} {mg : Str → Option Value} {h : Heap} {R Ys : List Str} {x n : Str}
theorem errT_ok (X : K.In h) (G : h.Ns mainGlobals mg) (e : errB K R Ys = true) : ErrT K mg R Ys := by
  unfold errB at e
  simp only [Bool.and_eq_true, List.all_eq_true, decide_eq_true_eq] at e
  obtain ⟨e1, e2⟩ := e
  exact ⟨fun y hy => PySem.W.mg_of X G (of_decide_eq_true (e1 y hy).1), fun x hx => exCB_ok (e2 x hx).1, fun y hy => (e1 y hy).2, fun x hx y hy => (e2 x hx).2.2.2 y hy, fun x hx => (e2 x hx).2.1, fun x hx => (e2 x hx).2.2.1⟩
theorem fldE_ok (e : fldB K x n = true) : FldE K x n := by
  unfold fldB at e
  simp only [Bool.and_eq_true, decide_eq_true_eq] at e
  exact ⟨xfB_ok e.1, e.2⟩
end
end DL
/-! Numbers among things. -/
namespace DL
open PySem PySem.Spec PyProof.Rows L2
/-- what is a number -/
def isNumD : D → Bool
  | .tup [.int t, .int b] => decide (0 < b) && decide (Int.gcd t b = 1)
  | _ => false
/-- a whole number's type -/
def isW (T : Ty) : Bool := isiT T .int && !isiT T .bool
/-- a thing that is told from numbers -/
def Th (S : Sto) (d : D) : Prop := (∃ T, tyOf S d = some T) ∧ ∀ x y, d = .tup [x, y] → (∃ T, tyOf S x = some T) ∧ ∃ T, tyOf S y = some T
theorem isW_int {S : Sto} {d : D} {T : Ty} (h : tyOf S d = some T) (w : isW T = true) : ∃ i, d = .int i := by
  have e : T = .int := by cases T <;> first | rfl | exact absurd w (by decide)
  subst e
  cases d with
  | int i => exact ⟨i, rfl⟩
  | ref a =>
    have h : tyO (S a) = some .int := h
    unfold tyO at h
    split at h <;> cases h
  | _ => cases h
theorem isW_not {S : Sto} {d : D} {T : Ty} (h : tyOf S d = some T) (w : isW T = false) : ∀ i, d ≠ .int i := by
  rintro i rfl
  have h : some Ty.int = some T := h
  cases h
  exact absurd w (by decide)
theorem isNum_not1 {S : Sto} {x y : D} {T : Ty} (h : tyOf S x = some T) (w : isW T = false) : isNumD (.tup [x, y]) = false := by
  unfold isNumD
  split
  · next e => cases e; exact absurd rfl (isW_not h w _)
  · rfl
theorem isNum_not2 {S : Sto} {x y : D} {T : Ty} (h : tyOf S y = some T) (w : isW T = false) : isNumD (.tup [x, y]) = false := by
  unfold isNumD
  split
  · next e => cases e; exact absurd rfl (isW_not h w _)
  · rfl
theorem notTup {S : Sto} {d : D} {T : Ty} (h : tyOf S d = some T) (w : isiT T .tup = false) : isNumD d = false := by
  cases d with
  | tup ds =>
    have h : some Ty.tup = some T := h
    cases h
    exact absurd w (by decide)
  | _ => rfl
theorem isTup {S : Sto} {d : D} {T : Ty} (h : tyOf S d = some T) (w : isiT T .tup = true) : ∃ ds, d = .tup ds := by
  have e : T = .tup := by cases T <;> first | rfl | exact absurd w (by decide)
  subst e
  cases d with
  | tup ds => exact ⟨ds, rfl⟩
  | ref a =>
    have h : tyO (S a) = some .tup := h
    unfold tyO at h
    split at h <;> cases h
  | _ => cases h
theorem notTwo {ds : List D} (h : ds.length ≠ 2) : isNumD (.tup ds) = false := by
  unfold isNumD
  split
  · next e => cases e; exact absurd rfl h
  · rfl
theorem twoOf {ds : List D} (h : ds.length = 2) : ∃ x y, ds = [x, y] := by
  match ds, h with
  | [x, y], _ => exact ⟨x, y, rfl⟩
def flatD : D → Bool
  | .non | .bl _ | .int _ | .str _ | .tup _ => true
  | _ => false
def okD : D → Bool
  | .tup [x, y] => flatD x && flatD y
  | d => flatD d
theorem flat_ty {S : Sto} {d : D} (h : flatD d = true) : ∃ T, tyOf S d = some T := by
  cases d <;> first | exact ⟨_, rfl⟩ | cases h
theorem th_ok {S : Sto} {d : D} (h : okD d = true) : Th S d := by
  refine ⟨?_, fun x y e => ?_⟩
  · cases d with
    | tup ds => exact ⟨_, rfl⟩
    | _ => exact flat_ty h
  · subst e
    have h : (flatD x && flatD y) = true := h
    rw [Bool.and_eq_true] at h
    exact ⟨flat_ty h.1, flat_ty h.2⟩
theorem isNum_eQ (q : Rat) : isNumD (eQ q) = true := by
  show (decide (0 < (q.den : Int)) && decide (Int.gcd q.num (q.den : Int) = 1)) = true
  rw [decide_eq_true (den_pos q), Bool.true_and]
  exact decide_eq_true q.reduced
theorem isE_non {R ys : List Str} {Q : VK2} {S : Sto} : isE R ys Q S .non = Q (.bl false) S := rfl
theorem isE_exc {R ys : List Str} {Q : VK2} {S : Sto} {x : Str} {f : Option (Str × Int)} : isE R ys Q S (.exc x f) = (x ∈ R ∧ Q (.bl (ys.any (isub x))) S) := rfl
theorem fldE_exc {x n y m : Str} {i : Int} {Q : VK2} {S : Sto} : fldE x n Q S (.exc y (some (m, i))) = (y = x ∧ m = n ∧ Q (.int i) S) := rfl
theorem isNon_exc {x : Str} {f : Option (Str × Int)} : isNon (.exc x f) = false := rfl
theorem Th.sub {S S' : Sto} (s : Sub S S') {d : D} (h : Th S d) : Th S' d := by
  have key : ∀ {d T}, tyOf S d = some T → tyOf S' d = some T := fun {d T} h => by
    cases d with
    | ref a =>
      have h : tyO (S a) = some T := h
      show tyO (S' a) = some T
      cases q : S a with
      | none => rw [q] at h; cases h
      | some o => rw [s a o q]; rw [q] at h; exact h
    | _ => exact h
  exact ⟨let ⟨T, e⟩ := h.1; ⟨T, key e⟩, fun x y e => let ⟨⟨T, a⟩, ⟨U, b⟩⟩ := h.2 x y e; ⟨⟨T, key a⟩, ⟨U, key b⟩⟩⟩
end DL
/-! Texts over the data layer: str, int of a text, join, split, partition, a sign in a text, a text sign by sign; isinstance of several built-in types; defs that call themselves. -/
namespace DL
open PySem PySem.Spec PyProof.Rows L2
def rStr1 : List D → Sto → VK2 → Prop
  | [.int i], S, Q => i.natAbs.log2 < 1920 ∧ Q (.str (Str.ofString (toString i))) S
  | _, _, _ => False
def rIntS : List D → Sto → VK2 → Prop
  | [.str a], S, Q => ∃ n, PySem.intText? a = some n ∧ a.length ≤ 640 ∧ Q (.int n) S
  | _, _, _ => False
/-- a text's method of one argument -/
def uM1 (r : R22) (to te : TE2) : TE2 := fun τ S Q => to τ S fun x S1 => isS S1 x ∧ te τ S1 fun y S2 => r x y S2 Q
def rJoin : R22 := fun x y S Q => match x with
  | .str a => ∃ ys : List Str, itemsOf S y = some (ys.map D.str) ∧ (ys.map (·.length)).sum + ys.length * a.length ≤ 16777216 ∧ Q (.str (Txt.join a ys)) S
  | _ => False
def rSplit : R22 := fun x y S Q => match x, y with
  | .str a, .str b => (b.length == 0) = false ∧ a.length + 2 ≤ sizeLine ∧ ∀ p, S p = none → Q (.ref p) (ups S p (.lst ((Txt.split a b).map D.str)))
  | _, _ => False
def rPart : R22 := fun x y S Q => match x, y with
  | .str a, .str b => (b.length == 0) = false ∧ a.length ≤ sizeLine ∧ Q (.tup [.str (Txt.partition a b).1, .str (Txt.partition a b).2.1, .str (Txt.partition a b).2.2]) S
  | _, _ => False
/-! ### a sign in a text -/
def rInC : R22 := fun x y S Q => match x, y with
  | .str a, .str z => ∃ c, a = ⟨#[c]⟩ ∧ Q (.bl (decide (c ∈ z.cps.toList))) S
  | _, _ => False
def rNotInC : R22 := fun x y S Q => match x, y with
  | .str a, .str z => ∃ c, a = ⟨#[c]⟩ ∧ Q (.bl (!decide (c ∈ z.cps.toList))) S
  | _, _ => False
/-! ### a thing among a tuple's -/
/-! ### a text, sign by sign -/
def sgD (x : Str) : List D := x.cps.toList.map fun c => .str ⟨#[c]⟩
def itS : D → Sto → (List D → (Sto → Prop) → Sto → Prop) → Prop
  | .str x, S, R => R (sgD x) stayT S
  | _, _, _ => False
def uItS (tl : TE2) : TI2 := fun τ S R => tl τ S fun d S1 => itS d S1 R
/-! ### isinstance of several built-in types -/
def uIsiS (ns : List Ty) (ta : TE2) : TE2 := fun τ S Q => ta τ S fun d S1 => onS (tyOf S1 d) fun T => Q (.bl (ns.any (isiT T))) S1
/-! ### a def that calls itself -/
section
variable {S : Sto} {Q : VK2} {a b z : Str} {i : Int} {y : D} {R : List D → (Sto → Prop) → Sto → Prop}
theorem z_str1 : rStr1 [.int i] S Q = (i.natAbs.log2 < 1920 ∧ Q (.str (Str.ofString (toString i))) S) := rfl
theorem z_intS : rIntS [.str a] S Q = ∃ n, PySem.intText? a = some n ∧ a.length ≤ 640 ∧ Q (.int n) S := rfl
theorem z_join : rJoin (.str a) y S Q = ∃ ys : List Str, itemsOf S y = some (ys.map D.str) ∧ (ys.map (·.length)).sum + ys.length * a.length ≤ 16777216 ∧ Q (.str (Txt.join a ys)) S := rfl
theorem z_split : rSplit (.str a) (.str b) S Q = ((b.length == 0) = false ∧ a.length + 2 ≤ sizeLine ∧ ∀ p, S p = none → Q (.ref p) (ups S p (.lst ((Txt.split a b).map D.str)))) := rfl
theorem z_part : rPart (.str a) (.str b) S Q = ((b.length == 0) = false ∧ a.length ≤ sizeLine ∧ Q (.tup [.str (Txt.partition a b).1, .str (Txt.partition a b).2.1, .str (Txt.partition a b).2.2]) S) := rfl
theorem z_inC : rInC (.str a) (.str z) S Q = ∃ c, a = ⟨#[c]⟩ ∧ Q (.bl (decide (c ∈ z.cps.toList))) S := rfl
theorem z_notinC : rNotInC (.str a) (.str z) S Q = ∃ c, a = ⟨#[c]⟩ ∧ Q (.bl (!decide (c ∈ z.cps.toList))) S := rfl
theorem z_itS : itS (.str a) S R = R (sgD a) stayT S := rfl
theorem z_isSs : isS S (.str a) = True := rfl
end
end DL
/-! Numbers as texts, and back. -/
namespace DL
open PySem PySem.Spec PyProof.Rows L2 TL
/-- the text of these signs -/
abbrev tS (l : List Nat) : Str := ⟨l.toArray⟩
theorem tS_len (l : List Nat) : (tS l).length = l.length := by simp [Str.length]
/-- the signs of a whole number -/
def numI (i : Int) : List Nat := if i < 0 then 45 :: numL i.natAbs else numL i.natAbs
theorem str_int (i : Int) : Str.ofString (toString i) = tS (numI i) := by
  refine ext_tl ?_
  rw [show tl (tS (numI i)) = numI i from rfl]
  unfold numI
  by_cases h : i < 0
  · rw [if_pos h]
    obtain ⟨n, rfl⟩ : ∃ n : Nat, i = -((n + 1 : Nat) : Int) := ⟨(-i - 1).toNat, by omega⟩
    have e : toString (-((n + 1 : Nat) : Int)) = "-" ++ toString ((n + 1 : Nat) : Int) := by
      show toString (Int.negSucc n) = _
      rfl
    rw [e, tl_ofString, String.toList_append, List.map_append, ← tl_ofString (toString _), tl_num]
    have : (-((n + 1 : Nat) : Int)).natAbs = n + 1 := by omega
    rw [this]
    rfl
  · rw [if_neg h]
    have e : i = ((i.natAbs : Nat) : Int) := by omega
    conv => lhs; rw [e]
    rw [tl_num]
/-- a number of few figures -/
def Few (q : Rat) : Prop := q.num.natAbs < 10 ^ 60 ∧ q.den < 10 ^ 60
theorem numI_len {i : Int} (h : i.natAbs < 10 ^ 60) : (numI i).length ≤ 61 := by
  have := numL_len (k := 60) (by decide) h
  unfold numI
  split
  · rw [List.length_cons]; omega
  · omega
theorem log_lt {n : Nat} (h : n < 10 ^ 60) : n.log2 < 1920 := Nat.lt_of_le_of_lt (show n.log2 ≤ 200 from by
  have : n < 2 ^ 201 := Nat.lt_of_lt_of_le h (by decide)
  by_cases z : n = 0
  · subst z; decide
  · have := (Nat.log2_lt z).mpr this; omega) (by decide)
theorem short_line {n : Nat} (h : n ≤ 1000000) : n ≤ sizeLine := by rw [sizeLine_eq]; omega
end DL
/-! Rows as texts, and back. -/
namespace DL
open PySem PySem.Spec PyProof.Rows L2 TL
abbrev dS (l : List Nat) : D := .str (tS l)
/-- a part of a row -/
inductive Pt where
  | q (r : Rat) | n (i : Nat)
def PtOk : Pt → Prop
  | .q r => Few r
  | .n i => i < 10 ^ 60
structure RwT where
  word : List Nat
  parts : List Pt
structure RwOk (r : RwT) : Prop where
  wl : r.word.length ≤ 10
  wb : 32 ∉ r.word
  wf : 10 ∉ r.word
  wc : r.word.all (· < 1114112) = true
  pl : r.parts.length ≤ 4
  po : ∀ p ∈ r.parts, PtOk p
/-- lists of words that stand -/
def WL (S : Sto) (as : List Addr) (wss : List (List (List Nat))) : Prop := as.length = wss.length ∧ ∀ (i : Nat) (a : Addr) (ws : List (List Nat)), as[i]? = some a → wss[i]? = some ws → S a = some (.lst (ws.map dS))
theorem WL.sub {S S' : Sto} {as : List Addr} {wss : List (List (List Nat))} (h : WL S as wss) (s : Sub S S') : WL S' as wss := ⟨h.1, fun i a ws h1 h2 => s _ _ (h.2 i a ws h1 h2)⟩
theorem WL.snoc {S : Sto} {as : List Addr} {wss : List (List (List Nat))} {a : Addr} {ws : List (List Nat)} (h : WL S as wss) (ha : S a = some (.lst (ws.map dS))) : WL S (as ++ [a]) (wss ++ [ws]) := by
  refine ⟨by simp [h.1], fun i b vs h1 h2 => ?_⟩
  by_cases hi : i < as.length
  · rw [List.getElem?_append_left hi] at h1
    rw [List.getElem?_append_left (by rw [← h.1]; exact hi)] at h2
    exact h.2 i b vs h1 h2
  · have hi : i = as.length := by
      have := (List.getElem?_eq_some_iff.mp h1).1
      simp at this
      omega
    rw [hi, List.getElem?_append_right (Nat.le_refl _)] at h1
    rw [hi, h.1, List.getElem?_append_right (Nat.le_refl _)] at h2
    simp at h1 h2
    subst h1 h2
    exact ha
/-- the words of the kinds of rows -/
abbrev deedL : List Nat := [100, 101, 101, 100]
abbrev psL : List Nat := [112, 97, 115, 115]
/-- a row of a book -/
inductive BR where
  | deed (k : Nat) | pass (t : Rat) (k : Nat)
def rwB : BR → RwT
  | .deed k => ⟨deedL, [.n k]⟩
  | .pass t k => ⟨psL, [.q t, .n k]⟩
def BROk : BR → Prop
  | .deed k => k < 10 ^ 60
  | .pass t k => Few t ∧ k < 10 ^ 60
theorem rwB_ok {b : BR} (h : BROk b) : RwOk (rwB b) ∧ (rwB b).word ≠ [] := by
  cases b with
  | deed k => exact ⟨⟨(by decide : deedL.length ≤ 10), (by decide : 32 ∉ deedL), (by decide : 10 ∉ deedL), rfl, by simp [rwB], fun p hp => by simp [rwB] at hp; subst hp; exact h⟩, by simp [rwB]⟩
  | pass t k =>
    refine ⟨⟨(by decide : psL.length ≤ 10), (by decide : 32 ∉ psL), (by decide : 10 ∉ psL), rfl, by simp [rwB], fun p hp => ?_⟩, by simp [rwB]⟩
    simp [rwB] at hp
    rcases hp with rfl | rfl
    · exact h.1
    · exact h.2
/-- alike, to some depth -/
def Al (S : Sto) : Nat → D → D → Prop
  | 0, d, e => d = e ∧ ((∃ i, e = .int i) ∨ ∃ x, e = .str x)
  | n + 1, d, e => (d = e ∧ ((∃ i, e = .int i) ∨ ∃ x, e = .str x)) ∨
    (∃ xs ys, d = .tup xs ∧ e = .tup ys ∧ xs.length = ys.length ∧ ys.length ≤ 900 ∧ ∀ (i : Nat) x y, xs[i]? = some x → ys[i]? = some y → Al S n x y) ∨
    ∃ p q xs ys, d = .ref p ∧ e = .ref q ∧ S p = some (.lst xs) ∧ S q = some (.lst ys) ∧ xs.length = ys.length ∧ ys.length ≤ 900 ∧ ∀ (i : Nat) x y, xs[i]? = some x → ys[i]? = some y → Al S n x y
theorem Sub.put {S S' : Sto} {p : Addr} {o : O} (h : Sub S S') (n : S p = Option.none) : Sub S (ups S' p o) := h.new n
theorem Al.sub {S S' : Sto} (s : Sub S S') : ∀ {n : Nat} {d e : D}, Al S n d e → Al S' n d e
  | 0, _, _, h => h
  | n + 1, _, _, h => by
    rcases h with h | ⟨xs, ys, h1, h2, h3, h4, h5⟩ | ⟨p, q, xs, ys, h1, h2, h3, h4, h5, h6, h7⟩
    · exact .inl h
    · exact .inr (.inl ⟨xs, ys, h1, h2, h3, h4, fun i x y a b => (h5 i x y a b).sub s⟩)
    · exact .inr (.inr ⟨p, q, xs, ys, h1, h2, s _ _ h3, s _ _ h4, h5, h6, fun i x y a b => (h7 i x y a b).sub s⟩)
end DL
/-! A dict of the module with text keys: get. -/
namespace DL
open PySem PySem.Spec PyProof.Rows L2
structure TabC (K : PySem.W.Frag) (mg : Str → Option Value) (w : World) (x : Str) (kvs : List (Str × D)) : Prop where
  ex : ∃ d es n, mg x = some (.ref d) ∧ K.lookup d = some ⟨.type "dict", none, .dict es n, #[]⟩ ∧ (d == sysModules) = false ∧ es.toList.map tabE = tabD w.params kvs
theorem tabE_some {e : DictEntry} {x : Str} {h : Int} {d : D} (q : tabE e = some (x, h, d)) : ∃ t v, e.key = .str x t ∧ e.hash = h ∧ (∀ K H, Dv K H d v) ∧ RelV v e.val := by
  unfold tabE at q
  split at q
  · next x' t i t' e1 e2 =>
    cases q
    exact ⟨t, .int i, e1, rfl, fun _ _ => .int i, by rw [e2]; exact ⟨_, rfl⟩⟩
  · next x' t i t' e1 e2 =>
    cases q
    exact ⟨t, .str i, e1, rfl, fun _ _ => .str i, by rw [e2]; exact ⟨_, rfl⟩⟩
  · cases q
theorem tab_keys {P : Params} : ∀ {l : List DictEntry} {kvs : List (Str × D)}, l.map tabE = tabD P kvs → PySem.W.KeysLit P l
  | [], _, _ => trivial
  | e :: r, [], h => by cases h
  | e :: r, (k, d) :: kvs, h => by
    have h1 : tabE e :: r.map tabE = some (k, PyData.keyHash P k, d) :: tabD P kvs := h
    injection h1 with h2 h3
    obtain ⟨t, v, e1, e2, _⟩ := tabE_some h2
    exact ⟨⟨k, t, e1, e2⟩, tab_keys h3⟩
theorem tab_find {P : Params} {z : Str} : ∀ {l : List DictEntry} {kvs : List (Str × D)}, l.map tabE = tabD P kvs → match kvs.lookup z with
    | some d => ∃ e v, l.find? (fun e => Value.isStrOf z e.key) = some e ∧ (∀ K H, Dv K H d v) ∧ RelV v e.val
    | none => l.find? (fun e => Value.isStrOf z e.key) = none
  | [], [], _ => rfl
  | [], _ :: _, h => by cases h
  | e :: r, [], h => by cases h
  | e :: r, (k, d) :: kvs, h => by
    have h1 : tabE e :: r.map tabE = some (k, PyData.keyHash P k, d) :: tabD P kvs := h
    injection h1 with h2 h3
    obtain ⟨t, v, e1, e2, e3, e4⟩ := tabE_some h2
    have hk : Value.isStrOf z e.key = (k == z) := by rw [e1]; rfl
    rw [List.lookup_cons, List.find?_cons, hk]
    by_cases c : z = k
    · subst c
      simp only [beq_self_eq_true]
      exact ⟨e, v, rfl, e3, e4⟩
    · have c1 : (z == k) = false := by simpa using c
      have c2 : (k == z) = false := by simpa using Ne.symm c
      rw [c1, c2]
      exact tab_find h3
theorem tabC_ok {K : PySem.W.Frag} {mg : Str → Option Value} {w : World} {h : Heap} {x : Str} {kvs : List (Str × D)} (X : K.In h) (G : h.Ns mainGlobals mg) (e0 : glB K x = true) (e : tabV K (cA K x) = some (tabD w.params kvs)) : TabC K mg w x kvs := by
  refine ⟨cA K x, ?_⟩
  have hm := PySem.W.mg_of X G (of_decide_eq_true e0)
  unfold tabV at e
  split at e
  · next c es n sl hl =>
    split at e
    · next hb =>
      simp only [Bool.and_eq_true, decide_eq_true_eq, Bool.not_eq_true', Array.isEmpty_iff] at hb
      obtain ⟨rfl, rfl, hs⟩ := hb
      exact ⟨es, n, hm, hl, hs, Option.some.inj e⟩
    · cases e
  · cases e
def uKGet (kvs : List (Str × D)) (te : TE2) : TE2 := fun τ S Q => te τ S fun x S1 => match x with
  | .str z => Q ((kvs.lookup z).getD .non) S1
  | _ => False
def kg2 (kvs : List (Str × D)) (y : D) (Q : VK2) (S : Sto) : D → Prop
  | .str z => Q ((kvs.lookup z).getD y) S
  | _ => False
def uKGet2 (kvs : List (Str × D)) (te tf : TE2) : TE2 := fun τ S Q => te τ S fun x S1 => tf τ S1 fun y S2 => kg2 kvs y Q S2 x
section
variable {X : Cx} {x : Str} {e f : Expr} {p apos cpos : Pos} {te tf : TE2} {kvs : List (Str × D)}
theorem kget_of {pins : List (Addr × Obj)} {σ : L2.St} {H : Hp} {s : Shared} (I : L2.Inv X pins σ H s) {d : Addr} {es : Array DictEntry} {n : Nat} (hl : X.K.lookup d = some ⟨.type "dict", none, .dict es n, #[]⟩) :
    s.TypeIs (.ref d) "dict" ∧ ∀ b, Value.ref d = .ref b → ∃ ob, s.heap.get? b = some ob ∧ ob.dict = none := by
  have h := I.kIn d _ hl
  refine ⟨⟨_, h, rfl⟩, fun b q => ?_⟩
  cases q
  exact ⟨_, h, rfl⟩
theorem tab_at {K : PySem.W.Frag} {w : World} {es : Array DictEntry} {z : Str} (h : es.toList.map tabE = tabD w.params kvs) : match kvs.lookup z with
    | some d => ∃ v u, findBy Value.isStrOf es z = some u ∧ (∀ K H, Dv K H d v) ∧ RelV v u
    | none => findBy Value.isStrOf es z = none := by
  have q := tab_find (z := z) h
  obtain ⟨l⟩ := es
  unfold findBy
  rw [List.find?_toArray]
  cases e : kvs.lookup z with
  | none =>
    rw [e] at q
    simp only at q ⊢
    rw [show l.find? (fun e => Value.isStrOf z e.key) = none from q]
    rfl
  | some d =>
    rw [e] at q
    obtain ⟨en, v, h1, h2, h3⟩ := q
    refine ⟨v, en.val, ?_, h2, h3⟩
    rw [show l.find? (fun e => Value.isStrOf z e.key) = some en from h1]
    rfl
theorem q_kget (C : TabC X.K X.mg X.w x kvs) (hg : Gl X x) (he : QE X e te) (hd : (x == ("__debug__" : Str)) = false := by decide) (m : M1 X (.Name x p) "get" apos e cpos := by exact ⟨rfl, rfl, rfl, rfl⟩) :
    QE X (.Call (.Attribute (.Name x p) "get" apos) [e] [] cpos) (uKGet kvs te) := by
  obtain ⟨d, es, n, hm, hl, hs, ht⟩ := C.ex
  refine ⟨fun pins s σ H Q I h => ?_⟩
  obtain ⟨τ, S, Q2, rl, rs, t, k⟩ := h
  refine wpAny_Call_method m.base m.few m.line PySem.F.plainAttrs_dict PySem.F.slot_dict_get PySem.F.type_dict_get (ld_glob I hg hm ?_ hd)
  obtain ⟨t1, t2⟩ := kget_of I hl
  refine ⟨t1, t2, ?_⟩
  rw [m.trees]
  refine Calls.callWith_builtin rfl (Calls.evalArgs_plain (Calls.spliced_cons (thn (he.run pins s σ H (fun v H1 => ∃ y S1, Good X.K H H1 ∧ RelS X.K S1 H1 ∧ Dv X.K H1 y v ∧ (match y with
    | .str z => Q2 ((kvs.lookup z).getD .non) S1
    | _ => False)) I ⟨τ, S, _, rl, rs, t, fun y v S1 H1 g1 rs1 dv1 t1 => ⟨y, S1, g1, rs1, dv1, t1⟩⟩) fun u s1 ⟨v, H1, I1, rv, y, S1, g1, rs1, dv1, q⟩ => Calls.spliced_nil ?_)))
  cases y with
  | str z =>
    cases dv1
    obtain ⟨tk, rfl⟩ := rv
    have hmp := PySem.W.mapOf_K (prog := X.prog) (w := X.w) I1.kIn hl (tab_keys ht)
    refine call_meetsIn PySem.F.slot_dict_get hmp.typeIs PySem.F.entry_dict_get (PySem.F.args_dict_get_2 _ _) (meets_dict_get (strKind X.prog X.w) d (PySem.strKind_is X.prog X.w z tk) hs) ⟨_, hmp, ?_⟩
    have hf := tab_at (K := X.K) (z := z) ht
    have q : Q2 ((kvs.lookup z).getD .non) S1 := q
    cases e : kvs.lookup z with
    | none =>
      rw [e] at hf q
      simp only at hf
      rw [hf]
      exact ⟨.non, H1, I1.tok _, rfl, k _ _ _ _ g1 rs1 .non q⟩
    | some dd =>
      rw [e] at hf q
      obtain ⟨v2, u, h1, h2, h3⟩ := hf
      rw [h1]
      exact ⟨v2, H1, I1.tok _, h3, k _ _ _ _ g1 rs1 (h2 _ _) q⟩
  | _ => exact q.elim
end
/-! ### xs.remove(k), whole numbers -/
def rRemove2 : RM
  | .ref a, [.int k], S, Q => ∃ ns : List Int, S a = some (.lst (ns.map D.int)) ∧ k ∈ ns ∧ Q .non (ups S a (.lst ((ns.erase k).map D.int)))
  | _, _, _, _ => False
section
variable {X : Cx} {K : PySem.W.Frag} {apos cpos : Pos} {o e : Expr} {to : TE2} {t : TA2}
theorem srv_remove : SrvM K "list" rRemI rRemove2 := by
  intro d v ds vs S H Q Q2 rs dv dvs t k
  unfold rRemove2 at t
  split at t
  · obtain ⟨ns, h, hk, q⟩ := t
    cases dv
    cases dvs with
    | cons h1 h2 =>
      cases h1
      cases h2
      obtain ⟨us, e, r⟩ := rs _ _ h
      obtain rfl := Dvs.ints_of r
      obtain ⟨j, j1, j2, j3, j4⟩ := first_at hk
      refine ⟨_, ns, _, j, rfl, rfl, e, j2, j3, ?_⟩
      rw [j4]
      exact k _ _ _ _ (good_write e trivial) (rs.write (o := .lst ((ns.erase _).map D.int)) e trivial ⟨_, upd_same, Dvs.ints _⟩) .non q
  · exact t.elim
theorem q_remove (ho : QE X o to) (ha : QA X [e] t) (hbase : attributeBase o "remove" X.env (eval o X.env) = eval o X.env := by rfl)
    (hfew : ((backTo cpos (starEach (e :: []) X.env)).all (fun x => !x.1) && (backToKw cpos (keywordEach [] X.env)).all (fun x => x.1.isSome) && decide ((e :: []).length + ([] : List Keyword).length + (if ([] : List Keyword).isEmpty then 0 else 1) < 30)) = true := by rfl)
    (hline : (apos.endLine == cpos.line) = true := by rfl) (hs : starEach (e :: []) X.env = (false, eval e X.env) :: starEach [] X.env := by rfl) (hplain : (backTo cpos (starEach [] X.env)).any (·.1) = false := by rfl) :
    QE X (.Call (.Attribute o "remove" apos) [e] [] cpos) (uBM isL rRemove2 to t) := q_bm PySem.F.plainAttrs_list PySem.F.slot_list_remove PySem.F.type_list_remove mt_remove srv_remove isL_ty ho ha hbase hfew hline hs hplain
end
section
variable {S : Sto} {Q : VK2} {a : Addr} {k : Int} {z : Str} {y : D} {kvs : List (Str × D)}
theorem z_remove : rRemove2 (.ref a) [.int k] S Q = ∃ ns : List Int, S a = some (.lst (ns.map D.int)) ∧ k ∈ ns ∧ Q .non (ups S a (.lst ((ns.erase k).map D.int))) := rfl
theorem z_kg2 : kg2 kvs y Q S (.str z) = Q ((kvs.lookup z).getD y) S := rfl
end
end DL
/-! Logs that the program takes. -/
namespace DL
open PySem PySem.Spec PyProof.Rows L2
abbrev sizesK : List (Str × D) := [("join", .int 4), ("leave", .int 3), ("turn", .int 4)]
/-- a number of few figures, as the program asks -/
def SmX (q : Rat) : Prop := q.num.natAbs < 10 ^ 9 ∧ q.den ≤ 12
theorem SmX.sm {q : Rat} (h : SmX q) : Sm q := ⟨Nat.lt_trans h.1 (by decide), h.2⟩
theorem SmX.few {q : Rat} (h : SmX q) : Few q := ⟨Nat.lt_trans h.1 (by decide), Nat.lt_of_le_of_lt h.2 (by decide)⟩
theorem SmX.quo {t b : Int} (hb : 0 < b) (hb' : b ≤ 12) (ht : t.natAbs < 10 ^ 9) : SmX ((t : Rat) / (b : Rat)) :=
  ⟨Nat.lt_of_le_of_lt (quo_num_le t b) ht, Nat.le_trans (quo_den_le (by omega)) (by omega)⟩
theorem SmX.int {t : Int} (ht : t.natAbs < 10 ^ 9) : SmX (t : Rat) := ⟨ht, by show (1 : Nat) ≤ 12; decide⟩
def SmXD : Dd → Prop
  | .join t p m => SmX t ∧ SmX p ∧ SmX m
  | .leave t _ => SmX t
  | .turn t _ m => SmX t ∧ SmX m
theorem SmXD.sm {d : Dd} (h : SmXD d) : SmD d := by
  cases d with
  | join t p m => exact ⟨h.1.sm, h.2.1.sm, h.2.2.sm⟩
  | leave t r => exact SmX.sm h
  | turn t r m => exact ⟨h.1.sm, h.2.sm⟩
theorem SmXD.t {d : Dd} (h : SmXD d) : SmX d.t := by
  cases d with
  | join t p m => exact h.1
  | leave t r => exact h
  | turn t r m => exact h.1
def isJoin : Dd → Prop
  | .join _ _ _ => True
  | _ => False
/-- a log as the program takes it -/
structure LogX (D : List Dd) : Prop where
  ok : ∀ a d b, D = a ++ d :: b → SmXD d ∧ HasD (runM a).1 d ∧ (∀ x ∈ a, x.t ≤ d.t) ∧ (isJoin d → (runM a).1.length < 8)
  len : D.length ≤ 40
theorem LogX.nil : LogX [] := ⟨fun a d b e => by simp at e, by decide⟩
theorem LogX.snoc {D : List Dd} {d : Dd} (h : LogX D) (h1 : SmXD d) (h2 : HasD (runM D).1 d) (h3 : ∀ x ∈ D, x.t ≤ d.t) (h4 : isJoin d → (runM D).1.length < 8) (h5 : D.length < 40) : LogX (D ++ [d]) := by
  refine ⟨fun a x b e => ?_, by rw [List.length_append, List.length_singleton]; omega⟩
  rcases List.eq_nil_or_concat b with rfl | ⟨b', y, rfl⟩
  · obtain ⟨rfl, e2⟩ := List.append_inj' e rfl
    cases e2
    exact ⟨h1, h2, h3, h4⟩
  · rw [List.concat_eq_append, ← List.cons_append, ← List.append_assoc] at e
    obtain ⟨e1, e2⟩ := List.append_inj' e rfl
    exact h.ok a x b' e1
theorem LogX.pre {a b : List Dd} (h : LogX (a ++ b)) : LogX a := ⟨fun x d y e => h.ok x d (y ++ b) (by rw [e]; simp), by have := h.len; rw [List.length_append] at this; omega⟩
theorem step_lenX (s : Mp × Nat) (d : Dd) : (stepM s d).1.length ≤ s.1.length + 1 ∧ (¬ isJoin d → (stepM s d).1.length ≤ s.1.length) := by
  cases d with
  | join t p m => exact ⟨by simp [stepM], fun h => absurd trivial h⟩
  | leave t r =>
    have : (mdrop s.1 r).length ≤ s.1.length := List.length_filter_le _ _
    exact ⟨by show (mdrop s.1 r).length ≤ _; omega, fun _ => this⟩
  | turn t r m =>
    have : (mset s.1 r (at_ ((mget s.1 r).getD (0, 0)) t - m * t, m)).length = s.1.length := by unfold mset; simp
    exact ⟨by show (mset s.1 r _).length ≤ _; omega, fun _ => by show (mset s.1 r _).length ≤ _; omega⟩
theorem LogX.room {D : List Dd} (h : LogX D) : (runM D).1.length ≤ 8 := by
  have key : ∀ n, ∀ D : List Dd, D.length = n → LogX D → (runM D).1.length ≤ 8 := by
    intro n
    induction n with
    | zero => intro D e _; rw [List.length_eq_zero_iff.mp e]; exact Nat.zero_le _
    | succ n ih =>
      intro D e h
      rcases List.eq_nil_or_concat D with rfl | ⟨a, d, rfl⟩
      · exact Nat.zero_le _
      · rw [List.concat_eq_append] at h e ⊢
        have h1 := ih a (by simpa using e) h.pre
        have h2 := h.ok a d [] rfl
        rw [runM_snoc]
        have h3 := step_lenX (runM a) d
        by_cases j : isJoin d
        · have := h2.2.2.2 j
          omega
        · have := h3.2 j
          omega
  exact key _ D rfl h
theorem keys_dropX {M : Mp} {r : Nat} (hk : (keysM M).Pairwise (· < ·)) : keysM (mdrop M r) = (keysM M).erase r := by
  induction M with
  | nil => rfl
  | cons x M ih =>
    have hk' : (keysM M).Pairwise (· < ·) := (List.pairwise_cons.mp hk).2
    have hx := (List.pairwise_cons.mp hk).1
    show keysM ((x :: M).filter _) = (x.1 :: keysM M).erase r
    rw [List.filter_cons, List.erase_cons]
    by_cases e : x.1 = r
    · have e1 : (x.1 == r) = true := by simpa using e
      rw [if_neg (by simpa using e), if_pos e1]
      show keysM (mdrop M r) = keysM M
      have : mdrop M r = M := List.filter_eq_self.mpr fun y hy => by
        have h2 : x.1 < y.1 := hx y.1 (List.mem_map.mpr ⟨y, hy, rfl⟩)
        rw [← e]
        exact decide_eq_true (by omega)
      rw [this]
    · have e1 : (x.1 == r) = false := by simpa using e
      rw [if_pos (by simpa using e), if_neg (by rw [e1]; exact Bool.false_ne_true)]
      show x.1 :: keysM (mdrop M r) = _
      rw [ih hk']
/-- a deed as a row -/
abbrev joinL' : List Nat := [106, 111, 105, 110]
abbrev leaveL : List Nat := [108, 101, 97, 118, 101]
abbrev turnL : List Nat := [116, 117, 114, 110]
theorem of_join : Str.ofString "join" = tS joinL' := TL.ext_tl (by rw [TL.tl_ofString]; rfl)
theorem of_leave : Str.ofString "leave" = tS leaveL := TL.ext_tl (by rw [TL.tl_ofString]; rfl)
theorem of_turn : Str.ofString "turn" = tS turnL := TL.ext_tl (by rw [TL.tl_ofString]; rfl)
theorem lk_join : List.lookup (Str.ofString "join") sizesK = some (.int 4) := by unfold sizesK; rw [of_join, of_leave, of_turn]; rfl
theorem lk_leave : List.lookup (Str.ofString "leave") sizesK = some (.int 3) := by unfold sizesK; rw [of_join, of_leave, of_turn]; rfl
theorem lk_turn : List.lookup (Str.ofString "turn") sizesK = some (.int 4) := by unfold sizesK; rw [of_join, of_leave, of_turn]; rfl
def rwD : Dd → RwT
  | .join t p m => ⟨joinL', [.q t, .q p, .q m]⟩
  | .leave t r => ⟨leaveL, [.q t, .n r]⟩
  | .turn t r m => ⟨turnL, [.q t, .n r, .q m]⟩
def fewD : Dd → Prop
  | .join t p m => Few t ∧ Few p ∧ Few m
  | .leave t r => Few t ∧ r < 10 ^ 60
  | .turn t r m => Few t ∧ r < 10 ^ 60 ∧ Few m
theorem rwD_ok {d : Dd} (h : fewD d) : RwOk (rwD d) ∧ (rwD d).word ≠ [] := by
  cases d with
  | join t p m => exact ⟨⟨(by decide : joinL'.length ≤ 10), (by decide : 32 ∉ joinL'), (by decide : 10 ∉ joinL'), rfl, by simp [rwD], fun p hp => by simp [rwD] at hp; rcases hp with rfl | rfl | rfl <;> first | exact h.1 | exact h.2.1 | exact h.2.2⟩, by simp [rwD]⟩
  | leave t r => exact ⟨⟨(by decide : leaveL.length ≤ 10), (by decide : 32 ∉ leaveL), (by decide : 10 ∉ leaveL), rfl, by simp [rwD], fun p hp => by simp [rwD] at hp; rcases hp with rfl | rfl <;> first | exact h.1 | exact h.2⟩, by simp [rwD]⟩
  | turn t r m => exact ⟨⟨(by decide : turnL.length ≤ 10), (by decide : 32 ∉ turnL), (by decide : 10 ∉ turnL), rfl, by simp [rwD], fun p hp => by simp [rwD] at hp; rcases hp with rfl | rfl | rfl <;> first | exact h.1 | exact h.2.1 | exact h.2.2⟩, by simp [rwD]⟩
end DL
/-! Counted walks. -/
namespace DL
open PySem PySem.Spec PyProof.Rows L2
section
variable {stay : Sto → Prop} {g : D → St2 → Sto → (St2 → Sto → Prop) → Prop} {tb : TS2} {E : Ends2} {τ : St2} {S : Sto}
theorem loop_enum {α : Type} {e : α → DL.D} {xs : List α} (W : List α → List α → St2 → Sto → Prop) (h0 : W [] xs τ S) (hstay : ∀ done rest τ S, done ++ rest = xs → W done rest τ S → stay S)
    (hstep : ∀ done x rest τ S, done ++ x :: rest = xs → W done (x :: rest) τ S → g (.tup [.int ((done.length : Nat) : Int), e x]) τ S fun τ' S' => tb { E with nx := W (done ++ [x]) rest, ct := W (done ++ [x]) rest, bk := E.nx } τ' S')
    (hend : ∀ τ S, W xs [] τ S → E.nx τ S) : LoopP stay g tb (enumD 0 (xs.map e)) E τ S := by
  refine ⟨fun i => W (xs.take i) (xs.drop i), ?_, fun i τ S _ w => ?_, fun i x τ S hx w => ?_, fun τ S w => ?_⟩
  · simpa using h0
  · exact hstay _ _ τ S (List.take_append_drop i xs) w
  · dsimp only at w ⊢
    cases q : xs[i]? with
    | none =>
      have h1 : xs.length ≤ i := List.getElem?_eq_none_iff.mp q
      rw [List.getElem?_eq_none (by rw [enumD_len, List.length_map]; exact h1)] at hx
      cases hx
    | some y =>
      rw [enumD_get (xs.map e) 0 i (e y) (by rw [List.getElem?_map, q]; rfl)] at hx
      obtain rfl := Option.some.inj hx
      obtain ⟨hlt, rfl⟩ := List.getElem?_eq_some_iff.mp q
      rw [List.drop_eq_getElem_cons hlt] at w
      have := hstep (xs.take i) (xs[i]) (xs.drop (i + 1)) τ S (by rw [← List.drop_eq_getElem_cons hlt]; exact List.take_append_drop i xs) w
      rw [show (xs.take i).length = i by rw [List.length_take]; omega] at this
      rw [Nat.zero_add]
      rwa [show xs.take i ++ [xs[i]] = xs.take (i + 1) by rw [List.take_append_getElem]] at this
  · dsimp only at w
    rw [enumD_len, List.length_map, List.take_length, List.drop_length] at w
    exact hend τ S w
end
/-- the last one of some -/
theorem last_snoc {α : Type} (xs : List α) (x : α) : (xs ++ [x]).getLast? = some x := by simp
theorem LogX.mem {D : List Dd} (h : LogX D) {x : Dd} (hx : x ∈ D) : SmXD x := by
  obtain ⟨a, b, rfl⟩ := List.append_of_mem hx
  exact (h.ok a x b rfl).1
def eO' : Option Dd → D
  | none => .non
  | some d => eDd d
theorem eN_ints (l : List Nat) : l.map eN = (l.map fun k : Nat => (k : Int)).map D.int := by rw [List.map_map]; rfl
theorem erase_ints (l : List Nat) (r : Nat) : ((l.map fun k : Nat => (k : Int)).erase (r : Int)).map D.int = (l.erase r).map eN := by
  rw [eN_ints]
  congr 1
  induction l with
  | nil => rfl
  | cons x l ih =>
    rw [List.map_cons, List.erase_cons, List.erase_cons]
    by_cases e : x = r
    · subst e; simp
    · have h1 : (x == r) = false := by simpa using e
      have h2 : ((x : Int) == (r : Int)) = false := by simpa using (by omega : ¬ (x : Int) = (r : Int))
      rw [h1, h2]
      simp only [Bool.false_eq_true, if_false, List.map_cons]
      rw [ih]
/-! ### deeds by their words -/
open TL
/-! ### a log under the pen -/
structure LgB (S S' : Sto) (a f r : Addr) (sc : List Int) (X R : O) : Prop where
  fr : Fr S S' a
  pen : PenB S' a sc
  hf : S' f = some X
  hr : S' r = some R
  nf : S f = none
  nr : S r = none
  fa : f ≠ a
  ra : r ≠ a
  ne : f ≠ r
section
variable {S S' S2 : Sto} {a f r p : Addr} {sc : List Int} {X R o : O} {x y : Int}
theorem LgB.new (h : LgB S S' a f r sc X R) (k : S' p = none) : LgB S (ups S' p o) a f r sc X R :=
  ⟨h.fr.new k, h.pen.new k, by rw [ups_ne (ne_of_st h.hf k)]; exact h.hf, by rw [ups_ne (ne_of_st h.hr k)]; exact h.hr, h.nf, h.nr, h.fa, h.ra, h.ne⟩
theorem LgB.go (h : LgB S S' a f r sc X R) (k : Fr S' S2 a) (k2 : PenB S2 a sc) : LgB S S2 a f r sc X R :=
  ⟨h.fr.trans k, k2, k _ _ h.fa h.hf, k _ _ h.ra h.hr, h.nf, h.nr, h.fa, h.ra, h.ne⟩
theorem LgB.wr (h : LgB S S' a f r sc X R) : LgB S (ups S' a (penP sc x y)) a f r sc X R := h.go (Fr.refl _ _).wr penB_again
theorem LgB.setf (h : LgB S S' a f r sc X R) : LgB S (ups S' f o) a f r sc o R :=
  ⟨h.fr.own h.nf, h.pen.upd (Ne.symm h.fa), ups_same, by rw [ups_ne (Ne.symm h.ne)]; exact h.hr, h.nf, h.nr, h.fa, h.ra, h.ne⟩
theorem LgB.setr (h : LgB S S' a f r sc X R) : LgB S (ups S' r o) a f r sc X o :=
  ⟨h.fr.own h.nr, h.pen.upd (Ne.symm h.ra), by rw [ups_ne h.ne]; exact h.hf, ups_same, h.nf, h.nr, h.fa, h.ra, h.ne⟩
theorem LgB.na (h : LgB S S' a f r sc X R) (k : S' p = none) : p ≠ a := fun e => h.pen.ne k e.symm
end
theorem LogX.few {D : List Dd} (h : LogX D) : ∀ d ∈ D, fewD d := by
  intro d hd
  obtain ⟨a, b, rfl⟩ := List.append_of_mem hd
  obtain ⟨h1, h2, _⟩ := h.ok a d b rfl
  have hl := h.len
  have k2 : ∀ D : List Dd, (runM D).2 ≤ D.length := snoc_ind (Nat.le_refl _) fun D d ih => by
    rw [runM_snoc, List.length_append, List.length_singleton]
    cases d with
    | join t p m => show (runM D).2 + 1 ≤ _; omega
    | leave t r => show (runM D).2 ≤ _; omega
    | turn t r m => show (runM D).2 ≤ _; omega
  have hk : ∀ r ∈ keysM (runM a).1, r < 10 ^ 60 := fun r hr => by
    have e1 := (keyOk_run a).2 r hr
    have e2 := k2 a
    rw [List.length_append] at hl
    have e3 : r < 40 := by omega
    exact Nat.lt_of_lt_of_le e3 (by decide)
  cases d with
  | join t p m => exact ⟨h1.1.few, h1.2.1.few, h1.2.2.few⟩
  | leave t r => exact ⟨SmX.few h1, hk r h2⟩
  | turn t r m => exact ⟨h1.1.few, hk r h2, h1.2.few⟩
end DL
/-! Things told to their depth. -/
namespace DL
open PySem PySem.Spec PyProof.Rows L2
/-- what is held against itself -/
def NiceP (n : Nat) (p : PyData) : Prop := p.canLay0 = true ∧ p.depth ≤ n ∧ PyData.eqv p p = true
theorem NiceP.le {n m : Nat} {q : PyData} (h : NiceP n q) (k : n ≤ m) : NiceP m q := ⟨h.1, Nat.le_trans h.2.1 k, h.2.2⟩
mutual
theorem Py.sub {S S' : Sto} (s : Sub S S') : ∀ (p : PyData) (d : D), Py S d p → Py S' d p
  | .none, _, h => by cases h; exact .non
  | .bool b, _, h => by cases h; exact .bl b
  | .int b, _, h => by cases h; exact .int b
  | .str b, _, h => by cases h; exact .str b
  | .tuple ps, _, h => by cases h with
    | tup hs => exact .tup (Pys.sub s ps _ hs)
  | .list ps, _, h => by cases h with
    | fl hs => exact .fl (Pys.sub s ps _ hs)
    | lst e hs => exact .lst (s _ _ e) (Pys.sub s ps _ hs)
  | .dict _, _, h => by cases h
theorem Pys.sub {S S' : Sto} (s : Sub S S') : ∀ (ps : List PyData) (ds : List D), Pys S ds ps → Pys S' ds ps
  | [], _, h => by cases h; exact .nil
  | p :: ps, _, h => by cases h with
    | cons h1 h2 => exact .cons (Py.sub s p _ h1) (Pys.sub s ps _ h2)
end
theorem Pys.snoc {S : Sto} {ds : List D} {ps : List PyData} {d : D} {p : PyData} (h : Pys S ds ps) (k : Py S d p) : Pys S (ds ++ [d]) (ps ++ [p]) := by
  induction ps generalizing ds with
  | nil => cases h; exact .cons k .nil
  | cons x ps ih => cases h with
    | cons h1 h2 => exact .cons h1 (ih h2)
theorem Pys.length {S : Sto} : ∀ {ds : List D} {ps : List PyData}, Pys S ds ps → ds.length = ps.length
  | _, [], h => by cases h; rfl
  | _, p :: ps, h => by cases h with
    | cons h1 h2 => rw [List.length_cons, List.length_cons, Pys.length h2]
theorem Pys.get {S : Sto} : ∀ {ds : List D} {ps : List PyData} (i : Nat) {d : D}, Pys S ds ps → ds[i]? = some d → ∃ p, ps[i]? = some p ∧ Py S d p
  | [], _, i, d, h, e => by simp at e
  | x :: ds, _, 0, d, h, e => by
    obtain rfl := Option.some.inj e
    cases h with
    | cons h1 h2 => exact ⟨_, rfl, h1⟩
  | x :: ds, _, i + 1, d, h, e => by
    have e : ds[i]? = some d := e
    cases h with
    | cons h1 h2 => exact Pys.get i h2 e
/-! ### the things of a log -/
def pyQ (q : Rat) : PyData := .tuple [.int q.num, .int (q.den : Int)]
def pyDd : Dd → PyData
  | .join t p m => .tuple [.str (Str.ofString "join"), pyQ t, pyQ p, pyQ m]
  | .leave t r => .tuple [.str (Str.ofString "leave"), pyQ t, .int (r : Int)]
  | .turn t r m => .tuple [.str (Str.ofString "turn"), pyQ t, .int (r : Int), pyQ m]
theorem py_eQ {S : Sto} (q : Rat) : Py S (eQ q) (pyQ q) := .tup (.cons (.int _) (.cons (.int _) .nil))
theorem py_eDd {S : Sto} (d : Dd) : Py S (eDd d) (pyDd d) := by
  cases d with
  | join t p m => exact .tup (.cons (.str _) (.cons (py_eQ t) (.cons (py_eQ p) (.cons (py_eQ m) .nil))))
  | leave t r => exact .tup (.cons (.str _) (.cons (py_eQ t) (.cons (.int _) .nil)))
  | turn t r m => exact .tup (.cons (.str _) (.cons (py_eQ t) (.cons (.int _) (.cons (py_eQ m) .nil))))
/-! ### a full log -/
theorem SmX.neg {q : Rat} (h : SmX q) : SmX (-q) := ⟨by show (-q.num).natAbs < _; rw [Int.natAbs_neg]; exact h.1, h.2⟩
/-! ### what is kept -/
structure KK (S1 S : Sto) (kp : Addr) (X : O) : Prop where
  fr : Fr S1 S kp
  at' : S kp = some X
section
variable {S1 S S2 : Sto} {kp p q a : Addr} {X o u : O}
theorem KK.new (h : KK S1 S kp X) (k : S p = none) : KK S1 (ups S p o) kp X := ⟨h.fr.new k, (ups_ne (ne_of_st h.at' k)).trans h.at'⟩
theorem KK.own (h : KK S1 S kp X) (k : S1 p = none) (n : p ≠ kp) : KK S1 (ups S p o) kp X := ⟨h.fr.own k, (ups_ne (Ne.symm n)).trans h.at'⟩
theorem KK.go (h : KK S1 S kp X) (k : Fr S S2 a) (n : S1 a = none) (d : a ≠ kp) : KK S1 S2 kp X :=
  ⟨fun b o' hb e => k b o' (fun z => by subst z; rw [n] at e; cases e) (h.fr b o' hb e), k _ _ (Ne.symm d) h.at'⟩
theorem KK.sub (h : KK S1 S kp X) (k : Sub S S2) : KK S1 S2 kp X := ⟨h.fr.sub k, k _ _ h.at'⟩
theorem KK.non (h : KK S1 S kp X) (k : S p = Option.none) : S1 p = Option.none := by
  cases e : S1 p with
  | none => rfl
  | some o =>
    by_cases z : p = kp
    · subst z; rw [h.at'] at k; cases k
    · rw [h.fr p o z e] at k; cases k
theorem KK.ne (h : KK S1 S kp X) (k : S p = none) : p ≠ kp := fun z => by subst z; rw [h.at'] at k; cases k
theorem KK.set (h : KK S1 S kp X) : KK S1 (ups S kp o) kp o := ⟨h.fr.wr, ups_same⟩
end
def KeptL (S : Sto) (kp : Addr) (ps : List (Addr × Addr × List Dd)) : Prop := ∀ x ∈ ps, x.1 ≠ kp ∧ x.2.1 ≠ kp ∧ S x.1 = some (.lst (x.2.2.map eDd)) ∧ S x.2.1 = some (.lst (x.2.2.map eDd)) ∧ LogX x.2.2
theorem KeptL.fr {S S' : Sto} {kp : Addr} {ps : List (Addr × Addr × List Dd)} (h : KeptL S kp ps) (f : Fr S S' kp) : KeptL S' kp ps := fun x hx => by
  obtain ⟨a, b, c, d, e⟩ := h x hx
  exact ⟨a, b, f _ _ a c, f _ _ b d, e⟩
theorem KeptL.snoc {S : Sto} {kp : Addr} {ps : List (Addr × Addr × List Dd)} {x : Addr × Addr × List Dd} (h : KeptL S kp ps) (a : x.1 ≠ kp) (b : x.2.1 ≠ kp) (c : S x.1 = some (.lst (x.2.2.map eDd))) (d : S x.2.1 = some (.lst (x.2.2.map eDd))) (e : LogX x.2.2) : KeptL S kp (ps ++ [x]) := fun y hy => by
  rcases List.mem_append.mp hy with hy | hy
  · exact h y hy
  · rw [List.mem_singleton.mp hy]; exact ⟨a, b, c, d, e⟩
theorem self_log {S : Sto} {D : List Dd} : ∀ x ∈ D.map eDd, SelfP S 40 x := fun x hx => by
  obtain ⟨d, _, rfl⟩ := List.mem_map.mp hx
  exact (self_dd d).le (by decide)
end DL
/-! Exceptions whose class has its own __init__. -/
namespace DL
open PySem PySem.Spec PyProof.Rows L2
/-- the class on top of ours -/
structure LeadC (K : PySem.W.Frag) (mg : Str → Option Value) : Prop where
  gl : mg "LeadError" = some (.ref (cA K "LeadError"))
  ga : PySem.W.specialIn K (.ref (cA K "LeadError")) "__getattribute__" = some (some (.builtin "type.__getattribute__"))
  rd : PySem.W.readsIn K (cA K "LeadError") (.type "type") = true
  at' : PySem.W.findCls K (.ref (cA K "LeadError")) (.type "type") "__init__" = some (.val (.builtin "ValueError.__init__"))
theorem pe_leadinit {X : Cx} {e : Expr} {es : List Expr} {ta : TA} {p1 p2 pos : Pos} {pl : Sem Bool} (hg : Gl X "LeadError") (C : LeadC X.K X.mg) (ha : PA X (e :: es) ta)
    (hc : eval (.Call (.Attribute (.Name "LeadError" p1) "__init__" p2) (e :: es) [] pos) X.env = (do
      let ov ← eval (.Name "LeadError" p1) X.env
      standAt p2.atName
      let (f, first) ← holding [ov] (getMethod ov "__init__" pl)
      callWith pos f first (backTo pos (starEach (e :: es) X.env)) (backToKw pos (keywordEach [] X.env))) := by rfl)
    (he : starEach (e :: es) X.env = (false, eval e X.env) :: starEach es X.env := by rfl) (hpl : (backTo pos (starEach es X.env)).any (·.1) = false := by rfl) :
    PE X (.Call (.Attribute (.Name "LeadError" p1) "__init__" p2) (e :: es) [] pos) (tVeI X.K ta) := by
  refine ⟨fun pins s σ H Q I h => ?_⟩
  refine PySem.W.methodCall_KW (ld_glob I hg C.gl ?_ (by decide)) hc
  refine PySem.W.method_cls I.kIn C.ga (PySem.W.cls_value I.kIn C.rd C.at' (by decide +kernel) ?_)
  show wpAny _ _ (callWith pos (Value.builtin "ValueError.__init__") [] (backTo pos (starEach (e :: es) X.env)) []) _ _ _
  refine PyProof.Rows.callWith_method1 (thn (ha.run pos pins _ σ H _ (I.tok _) h) fun us s1 ⟨vs, H1, I1, r1, a, C, ws, ev, hl, T, ea, q⟩ => ?_) he hpl
  subst ev
  cases r1 with
  | @cons _ u0 _ ur ra rw' =>
    obtain rfl : u0 = Value.ref a := ra
    have hlen : ur.length ≤ sizeLine := by
      rw [← Paired.length rw', sizeLine_eq]
      omega
    exact oinit_ok T I1 ea hlen fun s' J => ⟨.non, H1, J, rfl, q⟩
/-- what such an __init__ promises -/
def spInit (C : Addr) (f : Str) : Sp := fun us H Q _ => ∃ a i, us = [.ref a, .int i] ∧ H a = some (exo a C none) ∧ ∀ d, H d = none → d ≠ a → Q .non (upd (upd H d (exd d [(f, .int i)])) a (exo a C (some d)))
/-- the facts of a class with its own __init__ that is raised -/
structure RaisO (P : Program) (w : World) (K : PySem.W.Frag) (mg : Str → Option Value) (base : Heap) (x f : Str) : Prop where
  T : OexC K (cA K x)
  gl : mg x = some (.ref (cA K x))
  init : ∃ fI fd ps, PySem.W.findIn K (.ref (cA K x)) "__init__" = some (some (.ref fI)) ∧ PySem.W.typeIn K (.ref fI) = some (.type "function") ∧ FnOk P w K mg base CX0 1 fI fd ps (spInit (cA K x) f) ∧ Binds K fd ps []
def uRaiseO (x f : Str) (W2 : St2 → XK2) (t : TA2) : TS2 := fun _ τ S => t τ S fun ds S1 => ∃ i, ds = [.int i] ∧ W2 τ x (some (f, i)) S1
theorem s_raiseO {X : Cx} {x f : Str} {W2 : St2 → XK2} {p pos cpos : Pos} {e : Expr} {t : TA2} (C : RaisO X.prog X.w X.K X.mg X.base x f) (tk : Takes X (dnW X.K W2)) (hr : Room 2 X.A) (hc : X.calm = true) (hg : Gl X x) (ha : QA X [e] t)
    (hdb : (x == ("__debug__" : Str)) = false := by decide) (he : starEach [e] X.env = (false, eval e X.env) :: starEach [] X.env := by rfl) (hpl : (backTo cpos (starEach [] X.env)).any (·.1) = false := by rfl) :
    QS X (.Raise (some (.Call (.Name x p) [e] [] cpos)) none pos) (uRaiseO x f W2 t) := by
  obtain ⟨fI, fd, ps, iC, tI, F, hb⟩ := C.init
  refine PS.wk (ps_raise hc tk (pmk_oex C.T iC tI F hr hb .nil pass0 hg C.gl ha hdb he hpl)) fun D σ H ⟨τ, S, D2, rl, rs, t, k⟩ => ?_
  refine ⟨τ, S, _, rl, rs, t, fun ds vs S1 H1 g1 rs1 dvs ⟨i, e1, t1⟩ => ?_⟩
  subst e1
  cases dvs with
  | cons d1 d2 =>
    cases d1
    cases d2
    refine ⟨(by show 1 ≤ 1000; decide), fun a na => ⟨a, i, rfl, upd_same, fun d nd hda => ⟨rfl, d, _, upd_same, by rw [upd_ne hda, upd_same], ?_, ?_⟩⟩⟩
    · rwa [upd_ne hda] at nd
    · have nd1 : H1 d = none := by rwa [upd_ne hda] at nd
      have eh : ∀ b, b ≠ d → H1 b ≠ none → upd (del (upd (upd (upd H1 a (exo a (cA X.K x) none)) d (exd d [(f, .int i)])) a (exo a (cA X.K x) (some d))) a) d (.xd [(f, .int i)]) b = H1 b := fun b hb hn => by
        have hba : b ≠ a := fun z => by subst z; exact hn na
        rw [upd_ne hb, del_ne hba, upd_ne hba, upd_ne hb, upd_ne hba]
      have ek : ∀ b u, H1 b = some u → upd (del (upd (upd (upd H1 a (exo a (cA X.K x) none)) d (exd d [(f, .int i)])) a (exo a (cA X.K x) (some d))) a) d (.xd [(f, .int i)]) b = some u := fun b u hb => by
        rw [eh b (fun z => by subst z; rw [nd1] at hb; cases hb) (by rw [hb]; simp), hb]
      have g2 : Good X.K H1 (upd (del (upd (upd (upd H1 a (exo a (cA X.K x) none)) d (exd d [(f, .int i)])) a (exo a (cA X.K x) (some d))) a) d (.xd [(f, .int i)])) := {
        xe := fun b y fl => ExcAt.by fun b ob w h => ek _ _ h
        fd := fun b ob w h => ek _ _ h
        tp := fun b xs h => by
          rcases h with (h | ⟨ob, h⟩) | h
          · exact .inl (.inl (ek _ _ h))
          · exact .inl (.inr ⟨ob, ek _ _ h⟩)
          · exact .inr h
        fz := fun b xs h => by
          rcases h with ⟨ob, h⟩ | h
          · exact .inl ⟨ob, ek _ _ h⟩
          · exact .inr h }
      refine ⟨τ, S1, x, some (f, i), rfl, rl.keep (g1.trans g2), rs1.keep g2 fun b hb => ?_, upd_same, t1⟩
      obtain ⟨o, ho⟩ := Option.ne_none_iff_exists'.mp hb
      have h1 := (rs1 b o ho).some
      exact eh b (fun z => by subst z; exact h1 nd1) h1
/-! ### the def of such an __init__ -/
section
variable {P : Program} {w : World} {K : PySem.W.Frag} {mg : Str → Option Value} {base : Heap}
/-- a def of a class -/
structure MetAt (K : PySem.W.Frag) (x m q : Str) (st : Stmt) (ps : List Str) : Prop where
  ex : ∃ f fd, Fun K m q st f fd ∧ Meth K (cA K x) m f ∧ Binds K fd ps []
theorem met_at {h : Heap} {x m q : Str} {st : Stmt} {ps : List Str} {C f : Addr} {oc : Value} {od an : Option Addr} {osl : Array (Option Value)} {kV doc pm cdv ct : Value} (X : K.In h)
    (aC : PySem.W.nsIn K mainGlobals x = some (some (.ref C))) (a : PySem.W.findIn K (.ref C) m = some (some (.ref f))) (i : PySem.W.isFn K (.ref f) = true)
    (l : K.lookup f = some ⟨oc, od, .func (PySem.W.fnOf m q (defArgs st) (defBody st) (defScope st) .none kV doc pm an cdv ct), osl⟩) (c : PySem.W.codeIn K cdv q = true) (k : PySem.W.keepIn K (.ref f) = true)
    (hb : ∀ (kV doc pm : Value) (an : Option Addr) (cdv ct : Value) (us : List Value), us.length = ps.length → bindArgs (PySem.W.fnOf m q (defArgs st) (defBody st) (defScope st) .none kV doc pm an cdv ct) ⟨us, []⟩ = pure (ps.zip us)) : MetAt K x m q st ps := by
  have e : cA K x = C := by unfold cA; rw [aC]
  exact ⟨f, _, fun_mk l c k, by rw [e]; exact ⟨a, i, k⟩, (fun_mk l c k).binds hb⟩
theorem isFn_type {f : Addr} (h : PySem.W.isFn K (.ref f) = true) : PySem.W.typeIn K (.ref f) = some (.type "function") := beq_iff_eq.mp h
theorem oexB_ok {C : Addr} (q : oexB K C = true) : OexC K C := by
  unfold oexB at q
  rw [Bool.and_eq_true] at q
  obtain ⟨q, r⟩ := q
  simp only [Bool.and_eq_true, decide_eq_true_eq] at r
  obtain ⟨r1, r2, r3, r4⟩ := r
  refine ⟨?_, r1, r2, r3, r4⟩
  split at q
  · rename_i dd cd sl ho
    split at q
    · rename_i C' bm k0 k1 k2 k3 n k5 hm hs
      simp only [Bool.and_eq_true, beq_iff_eq, Bool.not_eq_true'] at q
      obtain ⟨rfl, rfl, hdel, hdc, ht⟩ := q
      obtain ⟨nm, bs, mro, ns, qn, hd, sn, sub, ab, col, del⟩ := cd
      dsimp only at hm hdel hdc
      subst hm hdel hdc
      have hsl : sl = #[k0, k1, k2, k3, some (.builtin "ValueError.__new__"), k5] := by
        obtain ⟨l⟩ := sl
        simp only at hs
        rw [hs]
      subst hsl
      exact ⟨nm, qn, ns, bs, bm, sn, sub, ab, col, dd, k0, k1, k2, k3, k5, ho, ht⟩
    · cases q
  · cases q
theorem leadC_ok {h : Heap} (X : K.In h) (G : h.Ns mainGlobals mg) (e : leadB K = true) (a : PySem.W.findCls K (.ref (cA K "LeadError")) (.type "type") "__init__" = some (.val (.builtin "ValueError.__init__"))) : LeadC K mg := by
  unfold leadB at e
  simp only [Bool.and_eq_true, decide_eq_true_eq] at e
  exact ⟨PySem.W.mg_of X G (of_decide_eq_true e.1), e.2.1, e.2.2, a⟩
structure RaisI (K : PySem.W.Frag) (mg : Str → Option Value) (x q : Str) (st : Stmt) (ps : List Str) : Prop where
  T : OexC K (cA K x)
  gl : mg x = some (.ref (cA K x))
  met : MetAt K x "__init__" q st ps
theorem raisI_ok {h : Heap} {x q : Str} {st : Stmt} {ps : List Str} (X : K.In h) (G : h.Ns mainGlobals mg) (e : (oexB K (cA K x) && glB K x) = true) (M : MetAt K x "__init__" q st ps) : RaisI K mg x q st ps := by
  rw [Bool.and_eq_true] at e
  exact ⟨oexB_ok e.1, PySem.W.mg_of X G (of_decide_eq_true e.2), M⟩
theorem RaisI.o {x q f : Str} {st : Stmt} {ps : List Str} (R : RaisI K mg x q st ps) (F : ∀ fI fd, Fun K "__init__" q st fI fd → FnOk P w K mg base CX0 1 fI fd ps (spInit (cA K x) f)) : RaisO P w K mg base x f := by
  obtain ⟨fI, fd, F1, hm, bd⟩ := R.met.ex
  exact ⟨R.T, R.gl, fI, fd, ps, hm.at_, isFn_type hm.fn, F fI fd F1, bd⟩
end
end DL
/-! Texts, more: a text times a number, the place of a sign. -/
namespace DL
open PySem PySem.Spec PyProof.Rows L2
open Builtin Builtin.Str StrLaws
/-! ### the first place of a sign -/
/-- the first place of a sign -/
def fstI (c : Nat) : List Nat → Option Nat
  | [] => none
  | d :: l => if d = c then some 0 else (fstI c l).map (· + 1)
def rIndexC : R22 := fun x y S Q => match x, y with
  | .str a, .str b => ∃ c i, b = ⟨#[c]⟩ ∧ fstI c a.cps.toList = some i ∧ Q (.int (i : Nat)) S
  | _, _ => False
/-! ### a text times a number -/
def repS (l : List Nat) : Nat → List Nat
  | 0 => []
  | n + 1 => l ++ repS l n
def rMulS : D → D → Sto → VK2 → Prop
  | .str a, .int k, S, Q => 2 ≤ k ∧ k ≤ 1000 ∧ 1 ≤ a.length ∧ a.length ≤ 1000 ∧ Q (.str ⟨(repS a.cps.toList k.toNat).toArray⟩) S
  | _, _, _, _ => False
section
variable {S : Sto} {Q : VK2} {a b : Str} {i : Int}
theorem z_indexC : rIndexC (.str a) (.str b) S Q = ∃ c i, b = ⟨#[c]⟩ ∧ fstI c a.cps.toList = some i ∧ Q (.int (i : Nat)) S := rfl
theorem z_mulS : rMulS (.str a) (.int i) S Q = (2 ≤ i ∧ i ≤ 1000 ∧ 1 ≤ a.length ∧ a.length ≤ 1000 ∧ Q (.str ⟨(repS a.cps.toList i.toNat).toArray⟩) S) := rfl
end
end DL
/-! Texts of numbers: those of many figures, and a reading sign by sign. -/
namespace DL
open PySem PySem.Spec PyProof.Rows L2 TL
/-! ### where a sign is -/
end DL
/-! Dicts whose keys are tuples of whole numbers and texts. -/
namespace PySem
open Lean PySem.Calls PyProof.Rows PyProof.V PySem.Spec PySem.W
end PySem
namespace DL
open PySem PySem.Spec PyProof.Rows L2
def keysOf : List D → Option (List Key)
  | [] => some []
  | d :: ds => match keyD d, keysOf ds with
    | some k, some ks => some (k :: ks)
    | _, _ => none
def keyI : Key → D
  | .inl i => .int i
  | .inr x => .str x
/-- the keys of a table, each a tuple -/
def keysT (kvs : List (List Key × D)) : List D := kvs.map fun kv => .tup (kv.1.map keyI)
theorem Dvs.keys {K : PySem.W.Frag} {H : Hp} : ∀ ks : List Key, Dvs K H (ks.map keyI) (ks.map kV)
  | [] => .nil
  | .inl i :: ks => .cons (.int i) (Dvs.keys ks)
  | .inr x :: ks => .cons (.str x) (Dvs.keys ks)
def wT : Option O → Option (List (List Key × D))
  | some (.dct k) => some k
  | _ => none
theorem RelS.wt {K : PySem.W.Frag} {S : Sto} {H : Hp} {a : Addr} {us us' : List (List Key × V)} {xs' : List (List Key × D)} (rs : RelS K S H) (e : H a = some (.dT us)) (r : KVs K H xs' us') : Good K H (upd H a (.dT us')) ∧ RelS K (ups S a (.dct xs')) (upd H a (.dT us')) :=
  have g := good_write (K := K) (u' := .dT us') e trivial
  ⟨g, rs.write (o := .dct xs') e trivial ⟨us', upd_same, r.keep g⟩⟩
def uDNewT : TE2 := fun _ S Q => ∀ p, S p = none → Q (.ref p) (ups S p (.dct []))
def ixTQ (d : D) (ds : List D) (S : Sto) (Q : VK2) : Prop := match d with
  | .ref a => ds.length ≤ 1000 ∧ onS (tOf (S a)) fun kvs => onS (keysOf ds) fun k => onS (dget kvs k) fun x => Q x S
  | _ => False
def uDIxT (td : TE2) (t : TA2) : TE2 := fun τ S Q => td τ S fun d S1 => t τ S1 fun ds S2 => ixTQ d ds S2 Q
def setTQ (d : D) (o : D) (ds : List D) (S : Sto) (Q : Sto → Prop) : Prop := match o with
  | .ref a => ds.length ≤ 1000 ∧ onS (wT (S a)) fun kvs => onS (keysOf ds) fun k => kvs.length < 1000 ∧ Q (ups S a (.dct (dput kvs k d)))
  | _ => False
def vDSubT (to : TE2) (t : TA2) : TG2 := fun d τ S Q => to τ S fun o S1 => t τ S1 fun ds S2 => setTQ d o ds S2 fun S3 => Q τ S3
/-! ### a walk over one, locked -/
def itDT : D → Sto → (List D → (Sto → Prop) → Sto → Prop) → Prop
  | .ref a, S, R => match S a with
    | some (.fdt o kvs) => R (keysT kvs) (fun S' => S' a = some (.fdt o kvs)) S
    | _ => False
  | _, _, _ => False
def uItDT (tl : TE2) : TI2 := fun τ S R => tl τ S fun d S1 => itDT d S1 R
def uLockQT (a : Addr) (E : Ends2) (o : Obj) (kvs : List (List Key × D)) : Ends2 :=
  ⟨fun τ' S' => S' a = some (.fdt o kvs) ∧ E.nx τ' (ups S' a (.dct kvs)), fun v S' => S' a = some (.fdt o kvs) ∧ E.rt v (ups S' a (.dct kvs)),
   fun τ' S' => S' a = some (.fdt o kvs) ∧ E.bk τ' (ups S' a (.dct kvs)), fun τ' S' => S' a = some (.fdt o kvs) ∧ E.ct τ' (ups S' a (.dct kvs))⟩
def uLockST (i : Nat) (t : TS2) : TS2 := fun E τ S => match τ[i]? with
  | some (some (.ref a)) => match S a with
    | some (.dct kvs) => ∀ o, t (uLockQT a E o kvs) τ (ups S a (.fdt o kvs))
    | _ => False
  | _ => False
section
variable {S : Sto} {Q : VK2} {R : Sto → Prop} {a b : Addr} {d : D} {ds : List D}
theorem z_dxT : ixTQ (.ref a) ds S Q = (ds.length ≤ 1000 ∧ onS (tOf (S a)) fun kvs => onS (keysOf ds) fun k => onS (dget kvs k) fun x => Q x S) := rfl
theorem z_dstT : setTQ d (.ref a) ds S R = (ds.length ≤ 1000 ∧ onS (wT (S a)) fun kvs => onS (keysOf ds) fun k => kvs.length < 1000 ∧ R (ups S a (.dct (dput kvs k d)))) := rfl
end
end DL
/-! Tables of who is ahead of whom. -/
namespace DL
open PySem PySem.Spec PyProof.Rows L2
end DL
/-! Objects: fields by their places, methods, making; a slice of a list written. -/
namespace DL
open PySem PySem.Spec PyProof.Rows L2
/-- of an object of the class -/
def insQ (k : Kls) : Option O → (List D → Prop) → Prop
  | some (.ins k' ds), F => k' = k ∧ F ds
  | _, _ => False
theorem z_insK {k : Kls} {ds : List D} {F : List D → Prop} : insQ k (some (.ins k ds)) F = F ds := by
  show (k = k ∧ F ds) = F ds
  simp
def putD : List D → Nat → D → List D
  | [], _, v => [v]
  | _ :: ds, 0, v => v :: ds
  | x :: ds, n + 1, v => x :: putD ds n v
section
variable {K : PySem.W.Frag} {H : Hp}
theorem Flds.get {f : Str} {x : D} : ∀ {fs : List Str} {ds : List D} {gs : List (Str × V)} {j : Nat}, Flds K H (fs.zip ds) gs → fs.Nodup → fs[j]? = some f → ds[j]? = some x → ∃ v, gs.lookup f = some v ∧ Dv K H x v
  | [], _, _, _, _, _, h, _ => by simp at h
  | _ :: _, [], _, _, _, _, _, h => by simp at h
  | g :: fs, d :: ds, gs, 0, h, hn, h1, h2 => by
    simp at h1 h2
    subst h1 h2
    cases h with
    | cons r t => exact ⟨_, by simp [List.lookup_cons], r⟩
  | g :: fs, d :: ds, gs, j + 1, h, hn, h1, h2 => by
    have h1 : fs[j]? = some f := by simpa using h1
    have h2 : ds[j]? = some x := by simpa using h2
    cases h with
    | @cons _ _ v _ vs r t =>
      obtain ⟨v', e, rv⟩ := Flds.get t (List.nodup_cons.mp hn).2 h1 h2
      have hne : f ≠ g := fun z => (List.nodup_cons.mp hn).1 (z ▸ List.mem_of_getElem? h1)
      refine ⟨v', ?_, rv⟩
      rw [List.lookup_cons, beq_eq_false_iff_ne.mpr hne]
      exact e
theorem Flds.put {f : Str} {y : D} {v : V} (rv : Dv K H y v) : ∀ {fs : List Str} {ds : List D} {gs : List (Str × V)} {j : Nat}, Flds K H (fs.zip ds) gs → fs.Nodup → fs[j]? = some f → j ≤ ds.length → Flds K H (fs.zip (putD ds j y)) (putF f v gs)
  | [], _, _, _, _, _, h, _ => by simp at h
  | g :: fs, [], gs, 0, h, hn, h1, h2 => by
    simp at h1
    subst h1
    cases h
    exact .cons rv (by simp; exact .nil)
  | g :: fs, [], gs, j + 1, h, hn, h1, h2 => by simp at h2
  | g :: fs, d :: ds, gs, 0, h, hn, h1, h2 => by
    simp at h1
    subst h1
    cases h with
    | cons r t =>
      show Flds K H ((g, y) :: fs.zip ds) (if g = g then (g, v) :: _ else _)
      rw [if_pos rfl]
      exact .cons rv t
  | g :: fs, d :: ds, gs, j + 1, h, hn, h1, h2 => by
    have h1 : fs[j]? = some f := by simpa using h1
    have h2 : j ≤ ds.length := by simpa using h2
    have hne : g ≠ f := fun z => (List.nodup_cons.mp hn).1 (z.symm ▸ List.mem_of_getElem? h1)
    cases h with
    | cons r t =>
      show Flds K H ((g, d) :: fs.zip (putD ds j y)) (if g = f then _ else (g, _) :: putF f v _)
      rw [if_neg hne]
      exact .cons r (Flds.put rv t (List.nodup_cons.mp hn).2 h1 h2)
theorem Flds.len : ∀ {fs : List Str} {ds : List D} {gs : List (Str × V)}, Flds K H (fs.zip ds) gs → gs.length ≤ fs.length
  | [], _, _, h => by cases h; simp
  | _ :: _, [], _, h => by cases h; simp
  | g :: fs, d :: ds, gs, h => by
    cases h with
    | cons r t =>
      have := Flds.len t
      simp
      omega
end
def fldQ (k : Kls) (j : Nat) (d : D) (S : Sto) (Q : VK2) : Prop := match d with
  | .ref a => insQ k (S a) fun ds => nthQ ds j fun x => Q x S
  | _ => False
def uFld (k : Kls) (j : Nat) (te : TE2) : TE2 := fun τ S Q => te τ S fun d S1 => fldQ k j d S1 Q
def sfQ (k : Kls) (j : Nat) (y : D) (d : D) (S : Sto) (Q : Sto → Prop) : Prop := match d with
  | .ref a => insQ k (S a) fun ds => j ≤ ds.length ∧ Q (ups S a (.ins k (putD ds j y)))
  | _ => False
def uSFld (k : Kls) (j : Nat) (to tv : TE2) : TS2 := fun E τ S => tv τ S fun y S1 => to τ S1 fun d S2 => sfQ k j y d S2 fun S3 => E.nx τ S3
def mthQ (k : Kls) (d : D) (S : Sto) (P : Prop) : Prop := match d with
  | .ref a => insQ k (S a) fun _ => P
  | _ => False
def uMeth (k : Kls) (sp : Sp2) (to : TE2) (t : TA2) : TE2 := fun τ S Q => to τ S fun d S1 => mthQ k d S1 (t τ S1 fun ds S2 => sp (d :: ds) S2 Q fun _ _ _ => False)
def uMake (k : Kls) (sp : Sp2) (t : TA2) : TE2 := fun τ S Q => t τ S fun ds S1 => ∀ x, S1 x = none → sp (.ref x :: ds) (ups S1 x (.ins k [])) (fun v S2 => v = .non ∧ Q (.ref x) S2) fun _ _ _ => False
section
variable {k : Kls} {j : Nat} {S : Sto} {Q : VK2} {R : Sto → Prop} {P : Prop} {a : Addr} {y : D}
theorem z_fld : fldQ k j (.ref a) S Q = insQ k (S a) fun ds => nthQ ds j fun x => Q x S := rfl
theorem z_sf : sfQ k j y (.ref a) S R = insQ k (S a) fun ds => j ≤ ds.length ∧ R (ups S a (.ins k (putD ds j y))) := rfl
theorem z_mth : mthQ k (.ref a) S P = insQ k (S a) fun _ => P := rfl
end
structure FnM (P : Program) (w : World) (K : PySem.W.Frag) (mg : Str → Option Value) (base : Heap) (l : Nat) (k : Kls) (m : Str) (sp : Sp2) : Prop where
  ex : ∃ f fd ps, FnOk P w K mg base CX0 l f fd ps (dnSp K sp) ∧ Meth K (cA K k.name) m f ∧ Binds K fd ps []
theorem FnM.mono {P : Program} {w : World} {K : PySem.W.Frag} {mg : Str → Option Value} {base : Heap} {i l : Nat} {k : Kls} {m : Str} {sp : Sp2} (F : FnM P w K mg base i k m sp) (h : i ≤ l) : FnM P w K mg base l k m sp := by
  obtain ⟨f, fd, ps, h1, h2⟩ := F.ex
  exact ⟨f, fd, ps, h1.mono h, h2⟩
/-! ### a slice of a list, written -/
def slsQ (d : D) (o i j : D) (S : Sto) (Q : Sto → Prop) : Prop := match o, i, j, d with
  | .ref l, .int i, .int j, .ref b => getO (S l) fun xs => getO (S b) fun ys => l ≠ b ∧ 0 ≤ i ∧ i ≤ j ∧ j ≤ xs.length ∧ xs.length ≤ 1000 ∧ ys.length ≤ 1000 ∧ Q (ups S l (.lst (xs.take i.toNat ++ ys ++ xs.drop j.toNat)))
  | _, _, _, _ => False
def vSl (to : TE2) (tl th : TO2) : TG2 := fun d τ S Q => to τ S fun o S1 => tl τ S1 fun lo S2 => th τ S2 fun hi S3 => match lo, hi with
  | some i, some j => slsQ d o (.int i) (.int j) S3 fun S4 => Q τ S4
  | _, _ => False
section
variable {X : Cx} {o : Expr} {lo hi : Option Expr} {pos p2 : Pos} {to : TE2} {tl th : TO2} {K : PySem.W.Frag}
theorem z_vSl {l b : Addr} {i j : Int} {S : Sto} {Q : Sto → Prop} : slsQ (.ref b) (.ref l) (.int i) (.int j) S Q = getO (S l) fun xs => getO (S b) fun ys => l ≠ b ∧ 0 ≤ i ∧ i ≤ j ∧ j ≤ xs.length ∧ xs.length ≤ 1000 ∧ ys.length ≤ 1000 ∧ Q (ups S l (.lst (xs.take i.toNat ++ ys ++ xs.drop j.toNat))) := rfl
end
/-- (a, b, ..) = a list of that length -/
def vTupL (n : Nat) (gs : TGs2) : TG2 := fun d τ S Q => match d with
  | .ref a => getO (S a) fun xs => xs.length = n ∧ gs xs τ S Q
  | _ => False
section
variable {X : Cx} {tch : List Nat} {pos : Pos}
theorem g_tupL {es : List Expr} {kk n : Nat} {gs : TGs2} (hc : X.calm = true) (h : QGs X tch es gs) (hn : (assignEach es X.env).length = n := by rfl) (hst : (assignEach es X.env).findIdx? (·.1) = none := by rfl) : QG X tch (.Tuple es kk pos) (vTupL n gs) := PG.wk (pg_unl (pos := pos) (k := kk) hc h hn hst) fun v σ H Q ⟨d, τ, S, Q2, dv, rl, rs, t, k⟩ => by
  unfold vTupL at t
  split at t
  · cases dv
    obtain ⟨xs, e, hl, t⟩ := getO_get t
    obtain ⟨vs, h1, h2⟩ := rs _ _ e
    exact ⟨_, vs, rfl, .inl (.inl h1), by rw [← h2.length]; exact hl, xs, τ, S, Q2, h2, rl, rs, t, k⟩
  · exact t.elim
theorem z_tupL {n : Nat} {gs : TGs2} {a : Addr} {τ : St2} {S : Sto} {Q : St2 → Sto → Prop} : vTupL n gs (.ref a) τ S Q = getO (S a) fun xs => xs.length = n ∧ gs xs τ S Q := rfl
end
/-! ### the facts of a class, shown by the text -/
end DL
/-! Books gone through row by row. -/
namespace DL
open PySem PySem.Spec PyProof.Rows L2
/-- the line of a runner, by its number -/
def lnI (M : Mp) (k : Nat) : Ln := (mget M k).getD (0, 0)
def LI (M : Mp) : List Ln := (List.range ((keysM M).sum + 1)).map (lnI M)
theorem le_sum {l : List Nat} {k : Nat} (h : k ∈ l) : k ≤ l.sum := by
  induction l with
  | nil => cases h
  | cons x l ih =>
    rw [List.sum_cons]
    rcases List.mem_cons.mp h with rfl | h
    · omega
    · have := ih h; omega
theorem ln_LI {M : Mp} {k : Nat} (h : k ∈ keysM M) : ln (LI M) k = lnI M k := by
  unfold ln LI
  have := le_sum h
  rw [List.getD_eq_getElem?_getD, List.getElem?_map, List.getElem?_range (by omega)]
  rfl
theorem mget_key {M : Mp} {k : Nat} (h : k ∈ keysM M) : ∃ l, mget M k = some l ∧ (k, l) ∈ M := by
  induction M with
  | nil => cases h
  | cons x M ih =>
    unfold mget at *
    rw [List.find?_cons]
    by_cases e : x.1 = k
    · rw [decide_eq_true e]
      exact ⟨x.2, rfl, by subst e; exact List.mem_cons_self ..⟩
    · rw [decide_eq_false e]
      have h : k ∈ keysM M := by
        rcases List.mem_cons.mp h with h | h
        · exact absurd h.symm e
        · exact h
      obtain ⟨l, h1, h2⟩ := ih h
      exact ⟨l, h1, List.mem_cons_of_mem _ h2⟩
theorem LD.lz {S : Sto} {f : Addr} {M : Mp} (h : LD S f M) {k : Nat} (hk : k ∈ keysM M) : Lz 300 (ln (LI M) k) := by
  obtain ⟨l, e, hm⟩ := mget_key hk
  rw [ln_LI hk]
  unfold lnI
  rw [e]
  exact h.ok l (List.mem_map.mpr ⟨_, hm, rfl⟩)
/-- a row of a book, whatever its place -/
inductive RB where
  | deed (p : Int) | pass (t : Rat) (p : Int)
def eRB : RB → D
  | .deed p => .tup [.str "deed", .int p]
  | .pass t p => .tup [.str "pass", eQ t, .int p]
/-- how far a book has gone -/
structure Gs where
  row : List Nat
  past : Nat
  now : Option Rat
def Gs.M (s : Gs) (D : List Dd) : Mp := (runM (D.take s.past)).1
def Gs.J (s : Gs) (D : List Dd) : Nat := (runM (D.take s.past)).2
def pairsG (l : List Nat) : List (Nat × Nat) := l.zip (l.drop 1)
/-- nothing comes of two neighbours till a time -/
def keepP (M : Mp) (u t : Rat) (cl : Bool) (p : Nat × Nat) : Bool := decide (Ahd (LI M) p.1 p.2 u) && !(match nxt (LI M) p.1 p.2 u with
  | none => false
  | some c => decide (c < t) || (cl && decide (c = t)))
def keepsG (D : List Dd) (s : Gs) (u t : Rat) (cl : Bool) : Bool := (pairsG s.row).all (keepP (s.M D) u t cl)
def timeG (D : List Dd) (s : Gs) : RB → Option Rat
  | .pass t _ => some t
  | .deed _ => (D[s.past]?).map Dd.t
def nthR (l : List Nat) (p : Int) : Nat := l.getD p.toNat 0
def placeG (D : List Dd) (s : Gs) : RB → Bool
  | .pass t p => decide (0 ≤ p) && (decide (p < (s.row.length : Int) - 1) && decide (Ahd (LI (s.M D)) (nthR s.row (p + 1)) (nthR s.row p) t))
  | .deed p => match D[s.past]? with
    | none => false
    | some (.join _ _ _) => decide (0 ≤ p) && decide (p ≤ (s.row.length : Int))
    | some (.leave _ r) => decide (0 ≤ p) && (decide (p < (s.row.length : Int)) && decide (nthR s.row p = r))
    | some (.turn _ r _) => decide (0 ≤ p) && (decide (p < (s.row.length : Int)) && decide (nthR s.row p = r))
def fitsG (D : List Dd) (e : Rat) (s : Gs) (r : RB) : Bool := match timeG D s r with
  | none => false
  | some t => !decide (e < t) && ((match s.now with
    | none => true
    | some u => !decide (t < u) && (decide (t = u) || keepsG D s u t false)) && placeG D s r)
def swapG (l : List Nat) (p : Nat) : List Nat := l.take p ++ [l.getD (p + 1) 0, l.getD p 0] ++ l.drop (p + 2)
def doG (D : List Dd) (s : Gs) : RB → Gs
  | .pass t p => ⟨swapG s.row p.toNat, s.past, some t⟩
  | .deed p => match D[s.past]? with
    | none => s
    | some (.join t _ _) => ⟨s.row.take p.toNat ++ [s.J D] ++ s.row.drop p.toNat, s.past + 1, some t⟩
    | some (.leave t _) => ⟨s.row.eraseIdx p.toNat, s.past + 1, some t⟩
    | some (.turn t _ _) => ⟨s.row, s.past + 1, some t⟩
/-- the list is of those who run -/
structure GsOk (D : List Dd) (s : Gs) : Prop where
  perm : s.row.Perm (keysM (s.M D))
  past : s.past ≤ D.length
  now : ∀ u, s.now = some u → Nz 3000 u
theorem GsOk.start (D : List Dd) : GsOk D ⟨[], 0, none⟩ := ⟨by show ([] : List Nat).Perm (keysM (runM (D.take 0)).1); rw [List.take_zero]; exact .refl _, Nat.zero_le _, fun _ h => by cases h⟩
theorem GsOk.mem {D : List Dd} {s : Gs} (h : GsOk D s) {k : Nat} (hk : k ∈ s.row) : k ∈ keysM (s.M D) := h.perm.mem_iff.mp hk
theorem GsOk.nd {D : List Dd} {s : Gs} (h : GsOk D s) : s.row.Nodup := h.perm.nodup_iff.mpr ((keyOk_run (D.take s.past)).1.imp fun h => by omega)
theorem DOk.take {D : List Dd} (h : DOk D) (n : Nat) : DOk (D.take n) := by
  have := List.take_append_drop n D
  rw [← this] at h
  exact h.pre
theorem GsOk.len {D : List Dd} {s : Gs} (h : GsOk D s) (hD : DOk D) : s.row.length ≤ 20 := by
  rw [h.perm.length_eq, keysM_len]
  exact (hD.take _).room
theorem M_next {D : List Dd} {s : Gs} {d : Dd} (e : D[s.past]? = some d) : runM (D.take (s.past + 1)) = stepM (s.M D, s.J D) d := by
  rw [List.take_add_one, e]
  show runM (D.take s.past ++ [d]) = _
  rw [runM_snoc]
  rfl
theorem DOk.at {D : List Dd} (h : DOk D) {n : Nat} {d : Dd} (e : D[n]? = some d) : SmD d ∧ HasD (runM (D.take n)).1 d := by
  obtain ⟨hn, e'⟩ := List.getElem?_eq_some_iff.mp e
  have := h.ok (D.take n) d (D.drop (n + 1)) (by rw [← e', ← List.drop_eq_getElem_cons hn, List.take_append_drop])
  exact ⟨this.1, this.2.1⟩
theorem nthR_get {l : List Nat} {p : Int} (h0 : 0 ≤ p) (h1 : p < (l.length : Int)) : l[p.toNat]? = some (nthR l p) := by
  unfold nthR
  rw [List.getD_eq_getElem?_getD, List.getElem?_eq_getElem (show p.toNat < l.length by omega)]
  rfl
theorem swap_perm {l : List Nat} {p : Nat} (h : p + 1 < l.length) : (swapG l p).Perm l := by
  unfold swapG
  have e1 : l.getD p 0 = l[p] := by rw [List.getD_eq_getElem?_getD, List.getElem?_eq_getElem (by omega)]; rfl
  have e2 : l.getD (p + 1) 0 = l[p + 1] := by rw [List.getD_eq_getElem?_getD, List.getElem?_eq_getElem h]; rfl
  rw [e1, e2]
  have e : l = l.take p ++ ([l[p], l[p + 1]] ++ l.drop (p + 2)) := by
    conv => lhs; rw [← List.take_append_drop p l, List.drop_eq_getElem_cons (by omega), List.drop_eq_getElem_cons (i := p + 1) (by omega)]
    rfl
  conv => rhs; rw [e]
  rw [List.append_assoc]
  refine List.Perm.append_left _ (List.Perm.append_right _ (List.Perm.swap ..))
theorem keys_stepM (s : Mp × Nat) (d : Dd) : keysM (stepM s d).1 = match d with
    | .join _ _ _ => keysM s.1 ++ [s.2]
    | .leave _ r => (keysM s.1).filter (fun k => decide (k ≠ r))
    | .turn _ _ _ => keysM s.1 := by
  cases d with
  | join t p m => show keysM (s.1 ++ _) = _; unfold keysM; rw [List.map_append]; rfl
  | leave t r =>
    show (mdrop s.1 r).map (·.1) = (s.1.map (·.1)).filter (fun k => decide (k ≠ r))
    rw [List.filter_map]
    rfl
  | turn t r m => exact keys_mset _ _ _
theorem GsOk.step {D : List Dd} {s : Gs} {r : RB} {e : Rat} (h : GsOk D s) (hD : DOk D) (hf : fitsG D e s r = true) (hz : ∀ t p, r = .pass t p → Nz 3000 t) : GsOk D (doG D s r) := by
  unfold fitsG at hf
  cases r with
  | pass t p =>
    simp only [timeG, placeG, Bool.and_eq_true, decide_eq_true_eq] at hf
    obtain ⟨_, _, h0, h1, _⟩ := hf
    exact ⟨(swap_perm (by omega)).trans h.perm, h.past, fun u e => by cases e; exact hz _ _ rfl⟩
  | deed p =>
    simp only [timeG] at hf
    cases ed : D[s.past]? with
    | none => rw [ed] at hf; cases hf
    | some d =>
      have hlt : s.past < D.length := (List.getElem?_eq_some_iff.mp ed).1
      have hn := M_next ed
      have hk := keys_stepM (s.M D, s.J D) d
      have hsm := (hD.at ed).1
      have hM : ∀ row now, (⟨row, s.past + 1, now⟩ : Gs).M D = (stepM (s.M D, s.J D) d).1 := fun row now => by show (runM (D.take (s.past + 1))).1 = _; rw [hn]
      rw [ed] at hf
      simp only [Option.map_some, placeG, ed, Bool.and_eq_true] at hf
      obtain ⟨_, _, hp⟩ := hf
      unfold doG
      simp only [ed]
      cases d with
      | join t q m =>
        simp only [Bool.and_eq_true, decide_eq_true_eq] at hp
        refine ⟨?_, hlt, fun u e => by cases e; exact hsm.1.nz.le (by decide)⟩
        rw [hM, hk]
        refine List.Perm.trans ?_ (List.Perm.append_right _ h.perm)
        have e := List.take_append_drop p.toNat s.row
        conv => rhs; rw [← e]
        rw [List.append_assoc, List.append_assoc]
        exact List.Perm.append_left _ List.perm_append_comm
      | leave t r =>
        simp only [Bool.and_eq_true, decide_eq_true_eq] at hp
        obtain ⟨h0, h1, h2⟩ := hp
        refine ⟨?_, hlt, fun u e => by cases e; exact (show Sm t from hsm).nz.le (by decide)⟩
        rw [hM, hk]
        have hg := nthR_get h0 h1
        rw [h2] at hg
        obtain ⟨hpl, hpe⟩ := List.getElem?_eq_some_iff.mp hg
        have hnd := h.nd
        have e1 : (s.row.eraseIdx p.toNat) = s.row.filter (fun k => decide (k ≠ r)) := by
          rw [← hpe]
          have key : ∀ {l : List Nat} {n : Nat} (hn : n < l.length), l.Nodup → l.eraseIdx n = l.filter fun k => decide (k ≠ l[n]) := by
            intro l
            induction l with
            | nil => intro n hn; cases hn
            | cons x l ih =>
              intro n hn hl
              obtain ⟨a1, a2⟩ := List.nodup_cons.mp hl
              cases n with
              | zero =>
                rw [List.eraseIdx_cons_zero, List.getElem_cons_zero, List.filter_cons, if_neg (by simp)]
                exact (List.filter_eq_self.mpr fun y hy => by
                  have : y ≠ x := fun z => a1 (by rw [← z]; exact hy)
                  simpa using this).symm
              | succ n =>
                have hn' : n < l.length := by simpa using hn
                rw [List.eraseIdx_cons_succ, List.getElem_cons_succ, List.filter_cons, if_pos (by
                  have : x ≠ l[n] := fun z => a1 (by rw [z]; exact List.getElem_mem hn')
                  simpa using this), ih hn' a2]
          exact key hpl hnd
        show (s.row.eraseIdx p.toNat).Perm _
        rw [e1]
        exact h.perm.filter _
      | turn t r m =>
        refine ⟨?_, hlt, fun u e => by cases e; exact hsm.1.nz.le (by decide)⟩
        rw [hM, hk]
        exact h.perm
/-! ### the lines that a Going keeps: those of who left, too -/
def stepK (s : Mp × Nat) : Dd → Mp × Nat
  | .join t p m => (s.1 ++ [(s.2, (p - m * t, m))], s.2 + 1)
  | .leave _ _ => s
  | .turn t r m => (mset s.1 r (at_ ((mget s.1 r).getD (0, 0)) t - m * t, m), s.2)
def runK (D : List Dd) : Mp × Nat := D.foldl stepK ([], 0)
theorem mget_cons (x : Nat × Ln) (M : Mp) (r : Nat) : mget (x :: M) r = if x.1 = r then some x.2 else mget M r := by
  unfold mget
  rw [List.find?_cons]
  by_cases e : x.1 = r
  · rw [decide_eq_true e, if_pos e]; rfl
  · rw [decide_eq_false e, if_neg e]
theorem mget_app (k : Nat) (l : Ln) (r : Nat) : ∀ M : Mp, mget (M ++ [(k, l)]) r = if r ∈ keysM M then mget M r else if k = r then some l else none
  | [] => by
    rw [List.nil_append, mget_cons]
    simp [keysM, mget]
  | x :: M => by
    rw [List.cons_append, mget_cons, mget_cons, mget_app k l r M]
    have hk : (r ∈ keysM (x :: M)) ↔ (r = x.1 ∨ r ∈ keysM M) := by unfold keysM; rw [List.map_cons, List.mem_cons]
    by_cases e : x.1 = r
    · rw [if_pos e, if_pos (hk.mpr (.inl e.symm)), if_pos e]
    · rw [if_neg e, if_neg e]
      by_cases h : r ∈ keysM M
      · rw [if_pos h, if_pos (hk.mpr (.inr h))]
      · rw [if_neg h, if_neg (fun z => (hk.mp z).elim (fun z => e z.symm) h)]
theorem mget_drop (k r : Nat) (h : r ≠ k) : ∀ M : Mp, mget (mdrop M k) r = mget M r
  | [] => rfl
  | x :: M => by
    have ih := mget_drop k r h M
    unfold mdrop at *
    rw [List.filter_cons]
    by_cases e : x.1 = k
    · rw [if_neg (by simpa using e), ih, mget_cons, if_neg (by omega)]
    · rw [if_pos (by simpa using e), mget_cons, mget_cons, ih]
structure KOk (D : List Dd) : Prop where
  ky : KeyOk (runK D)
  ln : ∀ r ∈ keysM (runM D).1, mget (runK D).1 r = mget (runM D).1 r
  j : (runK D).2 = (runM D).2
  lz : ∀ x ∈ (runK D).1, Lz 300 x.2
  len : (runK D).1.length ≤ D.length
theorem KOk.key {D : List Dd} (h : KOk D) {r : Nat} (hr : r ∈ keysM (runM D).1) : r ∈ keysM (runK D).1 := by
  obtain ⟨l, e⟩ := mget_some hr
  rw [← h.ln r hr] at e
  exact List.mem_map.mpr ⟨_, mget_mem e, rfl⟩
def Gs.K (s : Gs) (D : List Dd) : Mp := (runK (D.take s.past)).1
/-- a Going stands at g: its deeds at l, its list at r, its lines at f -/
structure GoAt (k : Kls) (S : Sto) (g l r f : Addr) (D : List Dd) (s : Gs) : Prop where
  ob : S g = some (.ins k [.ref l, .ref r, .ref f, .int (s.past : Nat), .int (s.J D : Nat), eO s.now])
  hl : S l = some (.lst (D.map eDd))
  hr : S r = some (.lst (s.row.map eN))
  hf : S f = some (.dic (eM (s.K D)))
  lr : l ≠ r
section
variable {k : Kls} {S S' : Sto} {g l r f : Addr} {D : List Dd} {s : Gs}
theorem st_ne {S : Sto} {a b : Addr} {o u : O} (h : S a = some o) (h' : S b = some u) (n : o ≠ u) : a ≠ b := fun z => n (by subst z; rw [h] at h'; exact Option.some.inj h')
theorem GoAt.gl (h : GoAt k S g l r f D s) : g ≠ l := st_ne h.ob h.hl fun z => nomatch z
theorem GoAt.sub (h : GoAt k S g l r f D s) (u : Sub S S') : GoAt k S' g l r f D s := ⟨u _ _ h.ob, u _ _ h.hl, u _ _ h.hr, u _ _ h.hf, h.lr⟩
end
theorem pairsG_len (l : List Nat) : (pairsG l).length = l.length - 1 := by
  unfold pairsG
  rw [List.length_zip, List.length_drop]
  omega
theorem pairsG_get {l : List Nat} {i : Nat} (h : i + 1 < l.length) : (pairsG l)[i]? = some (l.getD i 0, l.getD (i + 1) 0) := by
  have e1 : l.getD i 0 = l[i] := by rw [List.getD_eq_getElem?_getD, List.getElem?_eq_getElem (by omega)]; rfl
  have e2 : l.getD (i + 1) 0 = l[i + 1] := by rw [List.getD_eq_getElem?_getD, List.getElem?_eq_getElem h]; rfl
  rw [e1, e2]
  unfold pairsG
  rw [List.getElem?_eq_getElem (by rw [List.length_zip, List.length_drop]; omega), List.getElem_zip, List.getElem_drop]
  congr 2
  congr 1
  omega
theorem row_mem {l : List Nat} {i : Nat} (h : i < l.length) : l.getD i 0 ∈ l := by
  rw [List.getD_eq_getElem?_getD, List.getElem?_eq_getElem h]
  exact List.getElem_mem h
end DL
/-! Books written row by row: what ends, and what is let by. -/
namespace DL
open PySem PySem.Spec PyProof.Rows L2
/-! ### runners by their numbers, in place of their places -/
theorem ln_idx {M : Mp} (hk : (keysM M).Pairwise (· < ·)) {a i : Nat} (hi : i < M.length) (e : kN M i = (a : Int)) : ln (lnM M) i = ln (LI M) a := by
  obtain ⟨k, l, h1, h2, h3⟩ := kN_get hi
  have hka : k = a := by rw [h2] at e; omega
  subst hka
  have hm : k ∈ keysM M := List.mem_map.mpr ⟨_, List.mem_of_getElem? h1, rfl⟩
  rw [h3, ln_LI hm]
  unfold lnI
  rw [mget_at hk h1]
  rfl
theorem ahd_idx {M : Mp} (hk : (keysM M).Pairwise (· < ·)) {a b i j : Nat} {t : Rat} (hi : i < M.length) (hj : j < M.length) (ea : kN M i = (a : Int)) (eb : kN M j = (b : Int)) : decide (Ahd (lnM M) i j t) = decide (Ahd (LI M) a b t) := by
  refine decide_eq_decide.mpr ?_
  have := kN_lt hk hi hj
  rw [ea, eb] at this
  unfold Ahd
  rw [ln_idx hk hi ea, ln_idx hk hj eb, ← this]
  have : ((a : Int) < (b : Int)) ↔ a < b := by omega
  rw [this]
/-! ### the places at which two stand the wrong way round -/
def upAt (M : Mp) (row : List Nat) (t : Rat) (i : Nat) : Bool := decide (Ahd (LI M) (row.getD (i + 1) 0) (row.getD i 0) t)
def upsG (M : Mp) (row : List Nat) (t : Rat) : List Nat := (List.range (row.length - 1)).filter (upAt M row t)
theorem ups_mem {M : Mp} {row : List Nat} {t : Rat} {i : Nat} : i ∈ upsG M row t ↔ i + 1 < row.length ∧ Ahd (LI M) (row.getD (i + 1) 0) (row.getD i 0) t := by
  unfold upsG upAt
  rw [List.mem_filter, List.mem_range, decide_eq_true_eq]
  constructor
  · rintro ⟨h1, h2⟩; exact ⟨by omega, h2⟩
  · rintro ⟨h1, h2⟩; exact ⟨by omega, h2⟩
/-- how many pairs stand the wrong way round -/
def invG (M : Mp) (t : Rat) : List Nat → Nat
  | [] => 0
  | x :: xs => xs.countP (fun y => decide (Ahd (LI M) y x t)) + invG M t xs
theorem inv_le (M : Mp) (t : Rat) : ∀ l : List Nat, invG M t l ≤ l.length * l.length
  | [] => Nat.le_refl _
  | x :: xs => by
    have h1 := inv_le M t xs
    have h2 : xs.countP (fun y => decide (Ahd (LI M) y x t)) ≤ xs.length := List.countP_le_length
    show _ + _ ≤ (xs.length + 1) * (xs.length + 1)
    rw [Nat.mul_add, Nat.add_mul]
    omega
theorem inv_swap (M : Mp) (t : Rat) {x y : Nat} (h : Ahd (LI M) y x t) : ∀ a b : List Nat, invG M t (a ++ ([y, x] ++ b)) + 1 = invG M t (a ++ ([x, y] ++ b))
  | [], b => by
    have h1 : decide (Ahd (LI M) y x t) = true := decide_eq_true h
    have h2 : decide (Ahd (LI M) x y t) = false := decide_eq_false fun z => ahd_asymm h z
    show (List.countP _ (x :: b) + (List.countP _ b + invG M t b)) + 1 = List.countP _ (y :: b) + (List.countP _ b + invG M t b)
    rw [List.countP_cons, List.countP_cons, h1, h2]
    simp
    omega
  | z :: a, b => by
    have ih := inv_swap M t h a b
    show (List.countP _ (a ++ ([y, x] ++ b)) + invG M t (a ++ ([y, x] ++ b))) + 1 = List.countP _ (a ++ ([x, y] ++ b)) + invG M t (a ++ ([x, y] ++ b))
    have hp : (a ++ ([y, x] ++ b)).Perm (a ++ ([x, y] ++ b)) := List.Perm.append_left _ (List.Perm.append_right _ (List.Perm.swap ..))
    rw [hp.countP_eq]
    omega
theorem split_two {l : List Nat} {p : Nat} (h : p + 1 < l.length) : l = l.take p ++ ([l.getD p 0, l.getD (p + 1) 0] ++ l.drop (p + 2)) := by
  have e1 : l.getD p 0 = l[p] := by rw [List.getD_eq_getElem?_getD, List.getElem?_eq_getElem (by omega)]; rfl
  have e2 : l.getD (p + 1) 0 = l[p + 1] := by rw [List.getD_eq_getElem?_getD, List.getElem?_eq_getElem h]; rfl
  rw [e1, e2]
  conv => lhs; rw [← List.take_append_drop p l, List.drop_eq_getElem_cons (by omega), List.drop_eq_getElem_cons (i := p + 1) (by omega)]
  rfl
theorem swap_inv {M : Mp} {t : Rat} {l : List Nat} {p : Nat} (h : p ∈ upsG M l t) : invG M t (swapG l p) + 1 = invG M t l := by
  obtain ⟨h1, h2⟩ := ups_mem.mp h
  have e := split_two h1
  conv => rhs; rw [e]
  unfold swapG
  rw [List.append_assoc]
  exact inv_swap M t h2 _ _
theorem swap_len {l : List Nat} {p : Nat} (h : p + 1 < l.length) : (swapG l p).length = l.length := (swap_perm h).length_eq
/-! ### rows that are let by -/
inductive Runs (D : List Dd) (e : Rat) : Gs → List RB → Gs → Prop
  | nil (s : Gs) : Runs D e s [] s
  | cons {s s' : Gs} {r : RB} {rs : List RB} : fitsG D e s r = true → Runs D e (doG D s r) rs s' → Runs D e s (r :: rs) s'
theorem Runs.snoc {D : List Dd} {e : Rat} {s s' : Gs} {B : List RB} {r : RB} (h : Runs D e s B s') (hf : fitsG D e s' r = true) : Runs D e s (B ++ [r]) (doG D s' r) := by
  induction h with
  | nil s => exact .cons hf (.nil _)
  | cons h1 _ ih => exact .cons h1 (ih hf)
/-- the program's time beside the law's -/
def Link (D : List Dd) (s : Gs) (v : Rat) : Prop := s.now = some v ∨ ∃ u, s.now = some u ∧ u < v ∧ keepsG D s u v false = true
theorem link_pass {D : List Dd} {e v : Rat} {s : Gs} {p : Nat} (hl : Link D s v) (he : v ≤ e) (h : p ∈ upsG (s.M D) s.row v) : fitsG D e s (.pass v (p : Int)) = true := by
  obtain ⟨h1, h2⟩ := ups_mem.mp h
  have hp : placeG D s (.pass v (p : Int)) = true := by
    show (decide (0 ≤ (p : Int)) && (decide ((p : Int) < (s.row.length : Int) - 1) && decide (Ahd (LI (s.M D)) (nthR s.row ((p : Int) + 1)) (nthR s.row (p : Int)) v))) = true
    have e1 : nthR s.row ((p : Int) + 1) = s.row.getD (p + 1) 0 := by unfold nthR; rw [show ((p : Int) + 1).toNat = p + 1 by omega]
    have e2 : nthR s.row (p : Int) = s.row.getD p 0 := by unfold nthR; rw [Int.toNat_natCast]
    rw [e1, e2, decide_eq_true h2, decide_eq_true (by omega), decide_eq_true (by omega)]
    rfl
  unfold fitsG
  show (!decide (e < v) && (_ && placeG D s (.pass v (p : Int)))) = true
  rw [hp, decide_eq_false (by grind)]
  rcases hl with hl | ⟨u, hl, h3, h4⟩
  · rw [hl]
    have : decide (v < v) = false := decide_eq_false (by grind)
    simp [this]
  · rw [hl]
    have : decide (v < u) = false := decide_eq_false (by grind)
    simp [this, h4]
theorem do_pass {D : List Dd} {s : Gs} {v : Rat} {p : Nat} : doG D s (.pass v (p : Int)) = ⟨swapG s.row p, s.past, some v⟩ := by
  show (⟨swapG s.row (p : Int).toNat, s.past, some v⟩ : Gs) = _
  rw [Int.toNat_natCast]
theorem nxt_gt {L : List Ln} {a b : Nat} {u c : Rat} (h : nxt L a b u = some c) : u < c ∧ (ln L a).2 ≠ (ln L b).2 ∧ c = met (ln L a) (ln L b) := by
  unfold nxt at h
  split at h
  · next z => cases h; exact ⟨z.2, z.1, rfl⟩
  · cases h
theorem pairsG_mem {l : List Nat} {p : Nat × Nat} (h : p ∈ pairsG l) : ∃ i, i + 1 < l.length ∧ p = (l.getD i 0, l.getD (i + 1) 0) := by
  obtain ⟨i, hi, e⟩ := List.mem_iff_getElem.mp h
  have hl : i + 1 < l.length := by rw [pairsG_len] at hi; omega
  refine ⟨i, hl, ?_⟩
  have := pairsG_get hl
  rw [List.getElem?_eq_getElem hi, e] at this
  exact Option.some.inj this
/-- at the time of a change the two stand the wrong way round -/
theorem change_up {L : List Ln} {a b : Nat} {u c : Rat} (h : nxt L a b u = some c) (ha : Ahd L a b u) : Ahd L b a c := by
  obtain ⟨h1, h2, h3⟩ := nxt_gt h
  have e1 := (ahd_lt h2 (by rw [← h3]; exact h1)).mp ha
  have h2' : (ln L b).2 ≠ (ln L a).2 := fun z => h2 z.symm
  have hm : met (ln L b) (ln L a) = c := by rw [h3]; exact met_comm h2'
  exact (ahd_ge h2' (by rw [hm]; grind)).mpr e1
end DL
/-! Books written by the law. -/
namespace DL
open PySem PySem.Spec PyProof.Rows L2
/-! ### what keeps -/
def chgP (M : Mp) (u t : Rat) (cl : Bool) (p : Nat × Nat) : Bool := match nxt (LI M) p.1 p.2 u with
  | none => false
  | some c => decide (c < t) || (cl && decide (c = t))
theorem keepP_eq (M : Mp) (u t : Rat) (cl : Bool) (p : Nat × Nat) : keepP M u t cl p = (decide (Ahd (LI M) p.1 p.2 u) && !chgP M u t cl p) := rfl
theorem pairsG_ne {l : List Nat} (nd : l.Nodup) {p : Nat × Nat} (h : p ∈ pairsG l) : p.1 ≠ p.2 := by
  obtain ⟨i, hi, rfl⟩ := pairsG_mem h
  have := (List.pairwise_iff_getElem.mp nd) i (i + 1) (by omega) hi (by omega)
  have e1 : l.getD i 0 = l[i] := by rw [List.getD_eq_getElem?_getD, List.getElem?_eq_getElem (by omega)]; rfl
  have e2 : l.getD (i + 1) 0 = l[i + 1] := by rw [List.getD_eq_getElem?_getD, List.getElem?_eq_getElem hi]; rfl
  show l.getD i 0 ≠ l.getD (i + 1) 0
  rw [e1, e2]
  exact this
theorem ups_nil {M : Mp} {row : List Nat} {t : Rat} (nd : row.Nodup) : upsG M row t = [] ↔ ∀ p ∈ pairsG row, Ahd (LI M) p.1 p.2 t := by
  constructor
  · intro h p hp
    have hn := pairsG_ne nd hp
    rcases ahd_total (L := LI M) (t := t) hn with z | z
    · exact z
    · obtain ⟨i, hi, rfl⟩ := pairsG_mem hp
      have : i ∈ upsG M row t := ups_mem.mpr ⟨hi, z⟩
      rw [h] at this
      cases this
  · intro h
    rw [List.eq_nil_iff_forall_not_mem]
    intro i hi
    obtain ⟨h1, h2⟩ := ups_mem.mp hi
    have h3 := h (row.getD i 0, row.getD (i + 1) 0) (List.mem_of_getElem? (pairsG_get h1))
    exact ahd_asymm h2 h3
theorem chg_f {M : Mp} {u t : Rat} {p : Nat × Nat} : chgP M u t false p = false ↔ ∀ c, nxt (LI M) p.1 p.2 u = some c → t ≤ c := by
  unfold chgP
  cases nxt (LI M) p.1 p.2 u with
  | none => exact ⟨fun _ c h => (nomatch h), fun _ => rfl⟩
  | some c =>
    dsimp only
    rw [Bool.false_and, Bool.or_false, decide_eq_false_iff_not]
    exact ⟨fun h d e => by cases e; exact Rat.not_lt.mp h, fun h => Rat.not_lt.mpr (h c rfl)⟩
theorem chg_t {M : Mp} {u t : Rat} {p : Nat × Nat} : chgP M u t true p = false ↔ ∀ c, nxt (LI M) p.1 p.2 u = some c → t < c := by
  unfold chgP
  cases nxt (LI M) p.1 p.2 u with
  | none => exact ⟨fun _ c h => (nomatch h), fun _ => rfl⟩
  | some c =>
    dsimp only
    rw [Bool.true_and, Bool.or_eq_false_iff, decide_eq_false_iff_not, decide_eq_false_iff_not]
    exact ⟨fun h d e => by cases e; exact Rat.lt_of_le_of_ne (Rat.not_lt.mp h.1) (Ne.symm h.2), fun h => ⟨Rat.not_lt.mpr (Rat.le_of_lt (h c rfl)), fun z => Rat.ne_of_lt (h c rfl) z.symm⟩⟩
theorem keeps_iff {D : List Dd} {s : Gs} {u t : Rat} {cl : Bool} : keepsG D s u t cl = true ↔ ∀ p ∈ pairsG s.row, Ahd (LI (s.M D)) p.1 p.2 u ∧ chgP (s.M D) u t cl p = false := by
  unfold keepsG
  rw [List.all_eq_true]
  refine forall_congr' fun p => forall_congr' fun hp => ?_
  rw [keepP_eq, Bool.and_eq_true, decide_eq_true_eq, Bool.not_eq_true']
/-- a change later than a time is the next one seen from there -/
theorem nxt_later {L : List Ln} {a b : Nat} {u v c : Rat} (h : nxt L a b u = some c) (k : v < c) : nxt L a b v = some c := by
  obtain ⟨h1, h2, rfl⟩ := nxt_gt h
  unfold nxt
  rw [if_pos ⟨h2, k⟩]
theorem nxt_back {L : List Ln} {a b : Nat} {u v c : Rat} (h : nxt L a b v = some c) (k : u ≤ v) : nxt L a b u = some c := by
  obtain ⟨h1, h2, rfl⟩ := nxt_gt h
  unfold nxt
  rw [if_pos ⟨h2, by grind⟩]
/-- what keeps strictly ahead of a time at which all stand right -/
theorem kept {D : List Dd} {s : Gs} {u v : Rat} (nd : s.row.Nodup) (h : keepsG D s u v false = true) (h0 : upsG (s.M D) s.row v = []) {p : Nat × Nat} (hp : p ∈ pairsG s.row) {c : Rat} (e : nxt (LI (s.M D)) p.1 p.2 u = some c) : v < c := by
  obtain ⟨h1, h2⟩ := keeps_iff.mp h p hp
  have h3 := chg_f.mp h2 c e
  by_cases z : v = c
  · subst z
    exact (ahd_asymm (change_up e h1) ((ups_nil nd).mp h0 p hp)).elim
  · exact Rat.lt_of_le_of_ne h3 z
/-! ### how many changes are left -/
theorem countP_lt {α : Type} {p q : α → Bool} : ∀ {l : List α}, (∀ x ∈ l, p x = true → q x = true) → (∃ x ∈ l, p x = false ∧ q x = true) → l.countP p < l.countP q
  | [], _, h => by obtain ⟨x, hx, _⟩ := h; cases hx
  | y :: l, h, hx => by
    have hle : l.countP p ≤ l.countP q := List.countP_mono_left fun x hm => h x (List.mem_cons_of_mem _ hm)
    rw [List.countP_cons, List.countP_cons]
    obtain ⟨x, hx, h1, h2⟩ := hx
    rcases List.mem_cons.mp hx with rfl | hx
    · rw [h1, h2]; simp; omega
    · have ih := countP_lt (l := l) (p := p) (q := q) (fun x hm => h x (List.mem_cons_of_mem _ hm)) ⟨x, hx, h1, h2⟩
      have hy := h y (List.mem_cons_self ..)
      cases ep : p y with
      | true => rw [hy ep]; simp; omega
      | false =>
        rw [if_neg Bool.false_ne_true]
        exact Nat.lt_of_lt_of_le (by omega : l.countP p + 0 < l.countP q + 0) (Nat.add_le_add_left (Nat.zero_le _) _)
def prK (ks : List Nat) : List (Nat × Nat) := ks.flatMap fun a => ks.map fun b => (a, b)
theorem prK_mem {ks : List Nat} {a b : Nat} (ha : a ∈ ks) (hb : b ∈ ks) : (a, b) ∈ prK ks := List.mem_flatMap.mpr ⟨a, ha, List.mem_map.mpr ⟨b, hb, rfl⟩⟩
theorem prK_len (ks : List Nat) : (prK ks).length = ks.length * ks.length := by
  have key : ∀ l : List Nat, (l.flatMap fun a => ks.map fun b => (a, b)).length = l.length * ks.length := by
    intro l
    induction l with
    | nil => simp
    | cons x l ih => rw [List.flatMap_cons, List.length_append, ih, List.length_map, List.length_cons, Nat.add_mul]; omega
  exact key ks
def leftC (M : Mp) (v : Rat) : Nat := (prK (keysM M)).countP fun p => (nxt (LI M) p.1 p.2 v).isSome
theorem leftC_le (M : Mp) (v : Rat) : leftC M v ≤ M.length * M.length := by
  unfold leftC
  have := List.countP_le_length (p := fun p => (nxt (LI M) p.1 p.2 v).isSome) (l := prK (keysM M))
  rw [prK_len, keysM_len] at this
  exact this
theorem leftC_lt {M : Mp} {v c : Rat} {a b : Nat} (ha : a ∈ keysM M) (hb : b ∈ keysM M) (e : nxt (LI M) a b v = some c) : leftC M c < leftC M v := by
  have hvc := (nxt_gt e).1
  refine countP_lt (fun p _ h => ?_) ⟨(a, b), prK_mem ha hb, ?_, by rw [e]; rfl⟩
  · cases ep : nxt (LI M) p.1 p.2 c with
    | none => rw [ep] at h; cases h
    | some d => rw [nxt_back ep (by grind)]; rfl
  · have h2 := (nxt_gt e).2.2
    show (nxt (LI M) a b c).isSome = false
    cases ep : nxt (LI M) a b c with
    | none => rfl
    | some d =>
      obtain ⟨z1, _, z2⟩ := nxt_gt ep
      rw [← h2] at z2
      grind
/-- all but two stand -/
def Fr2 (S S' : Sto) (a b : Addr) : Prop := ∀ x o, x ≠ a → x ≠ b → S x = some o → S' x = some o
theorem Fr2.refl (S : Sto) (a b : Addr) : Fr2 S S a b := fun _ _ _ _ h => h
theorem Fr2.trans {S S1 S2 : Sto} {a b : Addr} (h : Fr2 S S1 a b) (k : Fr2 S1 S2 a b) : Fr2 S S2 a b := fun x o n m e => k x o n m (h x o n m e)
theorem Fr2.sub {S S1 S2 : Sto} {a b : Addr} (h : Fr2 S S1 a b) (k : Sub S1 S2) : Fr2 S S2 a b := fun x o n m e => k x o (h x o n m e)
theorem Fr2.own {S S1 : Sto} {a b p : Addr} {o : O} (h : Fr2 S S1 a b) (n : S1 p = none) : Fr2 S (ups S1 p o) a b := h.sub (Sub.drop n)
theorem Runs.trans {D : List Dd} {e : Rat} {s s1 s2 : Gs} {B C : List RB} (h : Runs D e s B s1) (k : Runs D e s1 C s2) : Runs D e s (B ++ C) s2 := by
  induction h with
  | nil s => exact k
  | cons h1 _ ih => exact .cons h1 (ih k)
theorem M_past {D : List Dd} {s s' : Gs} (h : s'.past = s.past) : s'.M D = s.M D := by unfold Gs.M; rw [h]
theorem fits_now {D : List Dd} {s : Gs} {rb : RB} {e t : Rat} (h : timeG D s rb = some t) : fitsG D e s rb = (!decide (e < t) && ((match s.now with
    | none => true
    | some u => !decide (t < u) && (decide (t = u) || keepsG D s u t false)) && placeG D s rb)) := by
  unfold fitsG
  rw [h]
  try rfl
theorem deed_fits {D : List Dd} {s : Gs} {d : Dd} {p : Int} {e : Rat} (ed : D[s.past]? = some d) (hp : placeG D s (.deed p) = true) (he : d.t ≤ e) (hk : s.now = none ∨ Link D s d.t) : fitsG D e s (.deed p) = true := by
  have et : timeG D s (.deed p) = some d.t := by unfold timeG; rw [ed]; rfl
  rw [fits_now et, hp, decide_eq_false (Rat.not_lt.mpr he)]
  rcases hk with hk | hk | ⟨u, hk, h1, h2⟩
  · rw [hk]; rfl
  · rw [hk]
    dsimp only
    rw [decide_eq_false (Rat.lt_irrefl), decide_eq_true rfl]
    rfl
  · rw [hk]
    dsimp only
    rw [decide_eq_false (Rat.not_lt.mpr (Rat.le_of_lt h1)), h2, Bool.or_true]
    rfl
theorem do_deed {D : List Dd} {s : Gs} {d : Dd} {p : Int} (ed : D[s.past]? = some d) : (doG D s (.deed p)).now = some d.t ∧ (doG D s (.deed p)).past = s.past + 1 := by
  unfold doG
  simp only [ed]
  cases d <;> exact ⟨rfl, rfl⟩
theorem Fr.one_new {S S1 S2 : Sto} {a b : Addr} (h : Fr S S1 a) (n : S b = Option.none) (k : Fr S1 S2 b) : Fr S S2 a := fun y o na e => k y o (ne_of_st e n) (h y o na e)
theorem seq_cut {t u : TS2} {E : Ends2} {τ : St2} {S : Sto} (I : St2 → Sto → Prop) (h2 : ∀ τ S, I τ S → u E τ S) (h1 : ∀ R : St2 → Sto → Prop, (∀ τ S, I τ S → R τ S) → t { E with nx := R } τ S) : uSeq t u E τ S := h1 (u E) h2
/-- a book under way -/
structure BkAt (S S' : Sto) (a b r f : Addr) (sc : List Int) (D : List Dd) (e : Rat) (s : Gs) (B : List RB) : Prop where
  fr : Fr S S' a
  hp : PenA S' a sc
  hb : S' b = some (.lst (B.map eRB))
  ra : r ≠ a
  rb : r ≠ b
  hr : S' r = some (.lst (s.row.map eN))
  hf : S' f = some (.dic (eM (s.M D)))
  ok : GsOk D s
  run : Runs D e ⟨[], 0, none⟩ B s
  bt : ∀ t p, RB.pass t p ∈ B → Nz 3000 t
theorem BkAt.fa {S S' : Sto} {a b r f : Addr} {sc : List Int} {D : List Dd} {e : Rat} {s : Gs} {B : List RB} (h : BkAt S S' a b r f sc D e s B) : f ≠ a := by
  obtain ⟨x0, y0, e0⟩ := h.hp
  exact st_ne h.hf e0 fun z => nomatch z
theorem BkAt.pen {S S' : Sto} {a b r f : Addr} {sc : List Int} {D : List Dd} {e : Rat} {s : Gs} {B : List RB} {x y : Int} (h : BkAt S S' a b r f sc D e s B) (hab : a ≠ b) : BkAt S (ups S' a (penO sc x y)) a b r f sc D e s B :=
  ⟨h.fr.wr, pen_again, (ups_ne hab.symm).trans h.hb, h.ra, h.rb, (ups_ne h.ra).trans h.hr, (ups_ne h.fa).trans h.hf, h.ok, h.run, h.bt⟩
theorem BkAt.sub {S S' S2 : Sto} {a b r f : Addr} {sc : List Int} {D : List Dd} {e : Rat} {s : Gs} {B : List RB} (h : BkAt S S' a b r f sc D e s B) (k : Sub S' S2) : BkAt S S2 a b r f sc D e s B :=
  ⟨h.fr.sub k, h.hp.sub' k, k _ _ h.hb, h.ra, h.rb, k _ _ h.hr, k _ _ h.hf, h.ok, h.run, h.bt⟩
/-- one row more -/
theorem BkAt.put {S S' S2 : Sto} {a b r f r2 f2 : Addr} {sc : List Int} {D : List Dd} {e : Rat} {s : Gs} {B : List RB} {rb : RB} (h : BkAt S S' a b r f sc D e s B) (hab : a ≠ b) (nb : S b = none) (hD : DOk D) (k : Fr S' S2 b) (hb2 : S2 b = some (.lst ((B ++ [rb]).map eRB))) (ho : r2 = r ∨ S' r2 = none) (hrb : r2 ≠ b) (hr2 : S2 r2 = some (.lst ((doG D s rb).row.map eN))) (hf2 : S2 f2 = some (.dic (eM ((doG D s rb).M D)))) (hfit : fitsG D e s rb = true) (hz : ∀ t p, rb = .pass t p → Nz 3000 t) : BkAt S S2 a b r2 f2 sc D e (doG D s rb) (B ++ [rb]) := by
  refine ⟨h.fr.one_new nb k, ?_, hb2, ?_, hrb, hr2, hf2, h.ok.step hD hfit hz, h.run.snoc hfit, fun t p hm => ?_⟩
  · obtain ⟨x0, y0, e0⟩ := h.hp
    exact ⟨x0, y0, k _ _ hab e0⟩
  · rcases ho with rfl | ho
    · exact h.ra
    · exact h.hp.fa ho
  · rcases List.mem_append.mp hm with hm | hm
    · exact h.bt t p hm
    · exact hz t p (List.mem_singleton.mp hm).symm
end DL
/-! Slices by a step that is reckoned. -/
namespace DL
open PySem PySem.Spec PyProof.Rows L2
def uSlV (te : TE2) (ts : TO2) : TE2 := fun τ S Q => te τ S fun d S1 => ts τ S1 fun o S2 => match o with
  | some i => i ≠ 0 ∧ onS (listOf S2 d) fun xs => ∀ p, S2 p = none → Q (.ref p) (ups S2 p (.lst (pickV xs i)))
  | none => False
end DL
/-! What a book that is let by tells at a time. -/
namespace DL
open PySem PySem.Spec PyProof.Rows L2
theorem ahd_till {L : List Ln} {a b : Nat} {u t : Rat} (h : Ahd L a b u) (hut : u ≤ t) (hc : ∀ c, nxt L a b u = some c → t < c) : Ahd L a b t := by
  refine (ahd_same (t := u) (u := t) fun e => ?_).mp h
  by_cases m : u < met (ln L a) (ln L b)
  · have := hc _ (show nxt L a b u = some (met (ln L a) (ln L b)) by unfold nxt; rw [if_pos ⟨e, m⟩])
    constructor
    · intro z; grind
    · intro z; grind
  · constructor
    · intro z; grind
    · intro z; grind
theorem fits_time {D : List Dd} {e : Rat} {s : Gs} {r : RB} (h : fitsG D e s r = true) : ∃ v, timeG D s r = some v ∧ v ≤ e ∧ (doG D s r).now = some v ∧ (∀ u, s.now = some u → u ≤ v ∧ (v = u ∨ keepsG D s u v false = true)) ∧ ((∃ p, r = .pass v p ∧ (doG D s r).past = s.past) ∨ ∃ d p, r = .deed p ∧ D[s.past]? = some d ∧ d.t = v ∧ (doG D s r).past = s.past + 1) := by
  have h' := h
  unfold fitsG at h
  cases et : timeG D s r with
  | none => rw [et] at h; cases h
  | some v =>
    rw [et] at h
    simp only [Bool.and_eq_true, Bool.not_eq_true', decide_eq_false_iff_not] at h
    obtain ⟨h1, h2, h3⟩ := h
    refine ⟨v, rfl, Rat.not_lt.mp h1, ?_, fun u hu => ?_, ?_⟩
    · cases r with
      | pass t p => cases et; rfl
      | deed p =>
        unfold timeG at et
        cases ed : D[s.past]? with
        | none => rw [ed] at et; cases et
        | some d => rw [ed] at et; cases et; exact (do_deed ed).1
    · rw [hu] at h2
      simp only [Bool.and_eq_true, Bool.not_eq_true', decide_eq_false_iff_not, Bool.or_eq_true, decide_eq_true_eq] at h2
      exact ⟨Rat.not_lt.mp h2.1, h2.2⟩
    · cases r with
      | pass t p => cases et; exact .inl ⟨p, rfl, rfl⟩
      | deed p =>
        unfold timeG at et
        cases ed : D[s.past]? with
        | none => rw [ed] at et; cases et
        | some d => rw [ed] at et; cases et; exact .inr ⟨d, p, rfl, rfl, rfl, (do_deed ed).2⟩
structure SoFar (D : List Dd) (t : Rat) (s : Gs) : Prop where
  ok : GsOk D s
  done : ∀ d ∈ D.take s.past, d.t ≤ t
  at_ : ∀ u, s.now = some u → u ≤ t
  no : s.now = none → s.row = []
theorem SoFar.start (D : List Dd) (t : Rat) : SoFar D t ⟨[], 0, none⟩ := ⟨GsOk.start D, fun d h => absurd (show d ∈ ([] : List Dd) by rw [List.take_zero] at h; exact h) (by simp), fun _ h => (nomatch h), fun _ => rfl⟩
theorem SoFar.step {D : List Dd} {t e : Rat} {s : Gs} {r : RB} (h : SoFar D t s) (hD : DOk D) (hf : fitsG D e s r = true) (hz : ∀ u p, r = .pass u p → Nz 3000 u) (hv : ∀ v, timeG D s r = some v → v ≤ t) : SoFar D t (doG D s r) := by
  obtain ⟨v, et, _, hn, hk, ho⟩ := fits_time hf
  have hvt := hv v et
  refine ⟨h.ok.step hD hf hz, fun d hd => ?_, fun u hu => by rw [hn] at hu; cases hu; exact hvt, fun z => by rw [hn] at z; cases z⟩
  rcases ho with ⟨p, rfl, hp⟩ | ⟨d0, p, rfl, ed, rfl, hp⟩
  · rw [hp] at hd; exact h.done d hd
  · rw [hp, List.take_add_one, ed] at hd
    rcases List.mem_append.mp hd with hd | hd
    · exact h.done d hd
    · have : d = d0 := by simpa using hd
      subst this
      exact hvt
end DL
/-! The book that the program writes. -/
namespace DL
open PySem PySem.Spec PyProof.Rows L2
/-- till when the two from a place on stand right -/
def tillI (M : Mp) (u : Rat) (row : List Nat) (i : Nat) : Option Rat := if Ahd (LI M) (row.getD (i + 1) 0) (row.getD i 0) u then some u else nxt (LI M) (row.getD i 0) (row.getD (i + 1) 0) u
def accT (f : Nat → Option Rat) (acc : Option (Rat × Nat)) (i : Nat) : Option (Rat × Nat) := match f i with
  | none => acc
  | some c => match acc with
    | none => some (c, i)
    | some x => if c < x.1 then some (c, i) else some x
def nextU (M : Mp) (u : Rat) (row : List Nat) : Option (Rat × Nat) := (List.range (row.length - 1)).foldl (accT (tillI M u row)) none
def nextG (D : List Dd) (s : Gs) : Option (Rat × Nat) := match s.now with
  | none => none
  | some u => nextU (s.M D) u s.row
theorem accT_le {f : Nat → Option Rat} {acc : Option (Rat × Nat)} {i : Nat} : (∀ x, acc = some x → ∃ y, accT f acc i = some y ∧ y.1 ≤ x.1) ∧ (∀ d, f i = some d → ∃ y, accT f acc i = some y ∧ y.1 ≤ d) ∧ (∀ y, accT f acc i = some y → acc = some y ∨ (y.2 = i ∧ f i = some y.1)) := by
  unfold accT
  cases e : f i with
  | none => exact ⟨fun d h => ⟨d, h, Rat.le_refl⟩, fun d h => (nomatch h), fun c h => .inl h⟩
  | some c =>
    cases acc with
    | none => exact ⟨fun d h => (nomatch h), fun d h => ⟨(c, i), rfl, by cases h; exact Rat.le_refl⟩, fun y h => by cases h; exact .inr ⟨rfl, rfl⟩⟩
    | some x =>
      dsimp only
      by_cases hc : c < x.1
      · rw [if_pos hc]
        exact ⟨fun z h => ⟨_, rfl, by cases h; exact Rat.le_of_lt hc⟩, fun z h => ⟨_, rfl, by cases h; exact Rat.le_refl⟩, fun y h => by cases h; exact .inr ⟨rfl, rfl⟩⟩
      · rw [if_neg hc]
        exact ⟨fun z h => ⟨_, rfl, by cases h; exact Rat.le_refl⟩, fun z h => ⟨_, rfl, by cases h; exact Rat.not_lt.mp hc⟩, fun y h => .inl h⟩
theorem foldN {f : Nat → Option Rat} : ∀ (is : List Nat) (acc : Option (Rat × Nat)), (∀ x, acc = some x → ∃ y, is.foldl (accT f) acc = some y ∧ y.1 ≤ x.1) ∧ (∀ i ∈ is, ∀ d, f i = some d → ∃ y, is.foldl (accT f) acc = some y ∧ y.1 ≤ d) ∧ (∀ y, is.foldl (accT f) acc = some y → acc = some y ∨ (y.2 ∈ is ∧ f y.2 = some y.1))
  | [], acc => ⟨fun d h => ⟨d, h, Rat.le_refl⟩, fun p hp => (nomatch hp), fun c h => .inl h⟩
  | i :: is, acc => by
    obtain ⟨i1, i2, i3⟩ := foldN is (accT f acc i)
    obtain ⟨a1, a2, a3⟩ := accT_le (f := f) (acc := acc) (i := i)
    rw [List.foldl_cons]
    refine ⟨fun d h => ?_, fun p hp d h => ?_, fun c h => ?_⟩
    · obtain ⟨c, h1, h2⟩ := a1 d h
      obtain ⟨c', h3, h4⟩ := i1 c h1
      exact ⟨c', h3, Rat.le_trans h4 h2⟩
    · rcases List.mem_cons.mp hp with rfl | hp
      · obtain ⟨c, h1, h2⟩ := a2 d h
        obtain ⟨c', h3, h4⟩ := i1 c h1
        exact ⟨c', h3, Rat.le_trans h4 h2⟩
      · exact i2 p hp d h
    · rcases i3 c h with h | ⟨hp, h⟩
      · rcases a3 c h with h | ⟨h1, h2⟩
        · exact .inl h
        · exact .inr ⟨by rw [h1]; exact List.mem_cons_self .., by rw [h1]; exact h2⟩
      · exact .inr ⟨List.mem_cons_of_mem _ hp, h⟩
theorem next_some {M : Mp} {u c : Rat} {row : List Nat} {p : Nat} (h : nextU M u row = some (c, p)) : p + 1 < row.length ∧ tillI M u row p = some c ∧ ∀ i d, i + 1 < row.length → tillI M u row i = some d → c ≤ d := by
  obtain ⟨_, h2, h3⟩ := foldN (f := tillI M u row) (List.range (row.length - 1)) none
  obtain ⟨k1, k2⟩ := (h3 _ h).resolve_left fun z => nomatch z
  have k1 := List.mem_range.mp k1
  refine ⟨by omega, k2, fun i d hi e => ?_⟩
  obtain ⟨y, e1, e2⟩ := h2 i (List.mem_range.mpr (by omega)) d e
  have e1 : nextU M u row = some y := e1
  rw [h] at e1
  cases e1
  exact e2
theorem till_ge {M : Mp} {u c : Rat} {row : List Nat} {i : Nat} (h : tillI M u row i = some c) : u ≤ c := by
  unfold tillI at h
  split at h
  · cases h; exact Rat.le_refl
  · exact Rat.le_of_lt (nxt_gt h).1
/-- no row is due till a time: what keeps -/
theorem keeps_till {D : List Dd} {s : Gs} {u t : Rat} {cl : Bool} (nd : s.row.Nodup) (hut : u < t ∨ (cl = true ∧ u = t)) (h : ∀ i d, i + 1 < s.row.length → tillI (s.M D) u s.row i = some d → ¬ (d < t ∨ (cl = true ∧ d = t))) : keepsG D s u t cl = true := by
  rw [keeps_iff]
  intro p hp
  obtain ⟨i, hi, rfl⟩ := pairsG_mem hp
  have hn := pairsG_ne nd hp
  have ha : Ahd (LI (s.M D)) (s.row.getD i 0) (s.row.getD (i + 1) 0) u := by
    rcases ahd_total (L := LI (s.M D)) (t := u) hn with z | z
    · exact z
    · exact absurd hut (h i u hi (if_pos z))
  have hno : ¬ Ahd (LI (s.M D)) (s.row.getD (i + 1) 0) (s.row.getD i 0) u := fun z => ahd_asymm z ha
  have key : ∀ c, nxt (LI (s.M D)) (s.row.getD i 0) (s.row.getD (i + 1) 0) u = some c → ¬ (c < t ∨ (cl = true ∧ c = t)) := fun c e => h i c hi (by unfold tillI; rw [if_neg hno]; exact e)
  refine ⟨ha, ?_⟩
  cases cl with
  | false =>
    refine chg_f.mpr fun c e => Rat.not_lt.mp fun z => key c e (.inl z)
  | true =>
    refine chg_t.mpr fun c e => ?_
    have := key c e
    refine Rat.lt_of_le_of_ne (Rat.not_lt.mp fun z => this (.inl z)) fun z => this (.inr ⟨rfl, z.symm⟩)
def mu (M : Mp) (u : Rat) (row : List Nat) : Nat := leftC M u * 401 + invG M u row
theorem mu_le {D : List Dd} {s : Gs} (hs : GsOk D s) (hD : DOk D) (u : Rat) : mu (s.M D) u s.row ≤ 160800 := by
  have h1 := leftC_le (s.M D) u
  have h2 : (s.M D).length ≤ 20 := (hD.take s.past).room
  have h3 : (s.M D).length * (s.M D).length ≤ 20 * 20 := Nat.mul_le_mul h2 h2
  have h4 := inv_le (s.M D) u s.row
  have h5 := hs.len hD
  have h6 : s.row.length * s.row.length ≤ 20 * 20 := Nat.mul_le_mul h5 h5
  have h7 : leftC (s.M D) u * 401 ≤ 400 * 401 := Nat.mul_le_mul (by omega) (Nat.le_refl _)
  unfold mu
  omega
theorem next_do {D : List Dd} {s : Gs} {u c e : Rat} {p : Nat} (hs : GsOk D s) (hD : DOk D) (hu : s.now = some u) (h : nextG D s = some (c, p)) (he : c ≤ e) : u ≤ c ∧ fitsG D e s (.pass c (p : Int)) = true ∧ mu (s.M D) c (swapG s.row p) < mu (s.M D) u s.row ∧ Nz 3000 c := by
  unfold nextG at h
  rw [hu] at h
  dsimp only at h
  obtain ⟨hp, ht, hmin⟩ := next_some h
  have huc := till_ge ht
  have hm1 := hs.mem (row_mem (l := s.row) (i := p) (by omega))
  have hm2 := hs.mem (row_mem (l := s.row) (i := p + 1) hp)
  have hne : s.row.getD p 0 ≠ s.row.getD (p + 1) 0 := pairsG_ne hs.nd (List.mem_of_getElem? (pairsG_get hp))
  have hL : ∀ k ∈ keysM (s.M D), Lz 300 (ln (LI (s.M D)) k) := fun k hk => by
    obtain ⟨l, el, hm⟩ := mget_key hk
    rw [ln_LI hk]
    unfold lnI
    rw [el]
    exact (hD.take s.past).lz _ hm
  by_cases hup : Ahd (LI (s.M D)) (s.row.getD (p + 1) 0) (s.row.getD p 0) u
  · have ec : u = c := by
      unfold tillI at ht
      rw [if_pos hup] at ht
      exact Option.some.inj ht
    subst ec
    have hin : p ∈ upsG (s.M D) s.row u := ups_mem.mpr ⟨hp, hup⟩
    refine ⟨huc, link_pass (.inl hu) he hin, ?_, hs.now u hu⟩
    have := swap_inv hin
    unfold mu
    omega
  · have hn : nxt (LI (s.M D)) (s.row.getD p 0) (s.row.getD (p + 1) 0) u = some c := by
      unfold tillI at ht
      rw [if_neg hup] at ht
      exact ht
    have hlt := (nxt_gt hn).1
    have ha : Ahd (LI (s.M D)) (s.row.getD p 0) (s.row.getD (p + 1) 0) u := (ahd_total hne).resolve_right hup
    have hin : p ∈ upsG (s.M D) s.row c := ups_mem.mpr ⟨hp, change_up hn ha⟩
    have hk : keepsG D s u c false = true := keeps_till hs.nd (.inl hlt) fun i d hi ed => by
      have := hmin i d hi ed
      rintro (z | ⟨z, _⟩)
      · exact absurd z (Rat.not_lt.mpr this)
      · cases z
    refine ⟨huc, link_pass (.inr ⟨u, hu, hlt, hk⟩) he hin, ?_, ?_⟩
    · have h1 := leftC_lt hm1 hm2 hn
      have h4 := inv_le (s.M D) c (swapG s.row p)
      rw [swap_len hp] at h4
      have h5 := hs.len hD
      have h6 : s.row.length * s.row.length ≤ 20 * 20 := Nat.mul_le_mul h5 h5
      unfold mu
      omega
    · obtain ⟨_, e1, e2⟩ := nxt_gt hn
      rw [e2]
      exact ((hL _ hm1).met (hL _ hm2) e1).le (by decide)
def goesOn (t : Rat) (cl : Bool) (c : Rat) : Bool := decide (c < t) || (cl && decide (c = t))
theorem goes_iff {t c : Rat} {cl : Bool} : goesOn t cl c = true ↔ (c < t ∨ (cl = true ∧ c = t)) := by
  unfold goesOn
  simp
def passF (D : List Dd) (t : Rat) (cl : Bool) : Nat → Gs → List RB × Gs
  | 0, s => ([], s)
  | n + 1, s => match nextG D s with
    | none => ([], s)
    | some x => if goesOn t cl x.1 then (.pass x.1 (x.2 : Int) :: (passF D t cl n (doG D s (.pass x.1 (x.2 : Int)))).1, (passF D t cl n (doG D s (.pass x.1 (x.2 : Int)))).2) else ([], s)
/-- no pass is due -/
def Stop (D : List Dd) (t : Rat) (cl : Bool) (s : Gs) : Prop := ∀ x, nextG D s = some x → goesOn t cl x.1 = false
theorem pass_stop {D : List Dd} {t : Rat} {cl : Bool} {s : Gs} (h : Stop D t cl s) : ∀ n, passF D t cl n s = ([], s)
  | 0 => rfl
  | n + 1 => by
    unfold passF
    cases e : nextG D s with
    | none => rfl
    | some x =>
      dsimp only
      rw [h x e, if_neg Bool.false_ne_true]
structure Passed (D : List Dd) (e t : Rat) (cl : Bool) (s : Gs) (B : List RB) (s' : Gs) : Prop where
  run : Runs D e s B s'
  ok : GsOk D s'
  past : s'.past = s.past
  stop : Stop D t cl s'
  now : ∀ u, s.now = some u → ∃ u', s'.now = some u' ∧ u' ≤ t
  no : s.now = none → s' = s
  bt : ∀ t p, RB.pass t p ∈ B → Nz 3000 t
  len : B.length ≤ 160800
theorem pass_ok {D : List Dd} {e t : Rat} {cl : Bool} (hD : DOk D) (hte : t ≤ e) : ∀ (n : Nat) (s : Gs) (u : Rat), GsOk D s → s.now = some u → u ≤ t → mu (s.M D) u s.row < n →
    Runs D e s (passF D t cl n s).1 (passF D t cl n s).2 ∧ GsOk D (passF D t cl n s).2 ∧ (passF D t cl n s).2.past = s.past ∧ Stop D t cl (passF D t cl n s).2 ∧ (∃ u', (passF D t cl n s).2.now = some u' ∧ u' ≤ t) ∧ (∀ t' p, RB.pass t' p ∈ (passF D t cl n s).1 → Nz 3000 t') ∧ (passF D t cl n s).1.length ≤ mu (s.M D) u s.row
  | 0, s, u, hs, hu, hut, hm => by omega
  | n + 1, s, u, hs, hu, hut, hm => by
    unfold passF
    cases ex : nextG D s with
    | none =>
      exact ⟨.nil _, hs, rfl, (show Stop D t cl s from fun x h => (by rw [ex] at h; cases h)), ⟨u, hu, hut⟩, fun _ _ h => (nomatch h), Nat.zero_le _⟩
    | some x =>
      obtain ⟨c, p⟩ := x
      dsimp only
      by_cases hg : goesOn t cl c = true
      · rw [if_pos hg]
        have hct : c ≤ t := by
          rcases goes_iff.mp hg with z | ⟨_, z⟩
          · exact Rat.le_of_lt z
          · rw [z]; exact Rat.le_refl
        obtain ⟨k1, k2, k3, k4⟩ := next_do hs hD hu ex (Rat.le_trans hct hte)
        have hz : ∀ t' p', RB.pass c (p : Int) = .pass t' p' → Nz 3000 t' := fun t' p' z => by cases z; exact k4
        have hs2 := hs.step hD k2 hz
        have hd : doG D s (.pass c (p : Int)) = ⟨swapG s.row p, s.past, some c⟩ := do_pass
        have hM : (doG D s (.pass c (p : Int))).M D = s.M D := M_past (by rw [hd])
        have hmu : mu ((doG D s (.pass c (p : Int))).M D) c (doG D s (.pass c (p : Int))).row < mu (s.M D) u s.row := by rw [hM, hd]; exact k3
        obtain ⟨r1, r2, r3, r4, r5, r6, r7⟩ := pass_ok (cl := cl) hD hte n (doG D s (.pass c (p : Int))) c hs2 (by rw [hd]) hct (by omega)
        refine ⟨.cons k2 r1, r2, r3.trans (by rw [hd]), r4, r5, fun t' p' h => ?_, by rw [List.length_cons]; omega⟩
        rcases List.mem_cons.mp h with h | h
        · exact hz _ _ h.symm
        · exact r6 _ _ h
      · rw [if_neg hg]
        exact ⟨.nil _, hs, rfl, (show Stop D t cl s from fun x h => (by rw [ex] at h; cases h; simpa using hg)), ⟨u, hu, hut⟩, fun _ _ h => (nomatch h), Nat.zero_le _⟩
theorem passed {D : List Dd} {e t : Rat} {cl : Bool} {s : Gs} (hD : DOk D) (hte : t ≤ e) (hs : GsOk D s) (hu : ∀ u, s.now = some u → u ≤ t) : Passed D e t cl s (passF D t cl 200000 s).1 (passF D t cl 200000 s).2 := by
  cases eu : s.now with
  | none =>
    have hst : Stop D t cl s := fun x h => by unfold nextG at h; rw [eu] at h; cases h
    rw [pass_stop hst]
    exact ⟨.nil _, hs, rfl, hst, fun u z => (by rw [eu] at z; cases z), fun _ => rfl, fun _ _ h => (nomatch h), Nat.zero_le _⟩
  | some u =>
    have hb := mu_le hs hD u
    obtain ⟨r1, r2, r3, r4, r5, r6, r7⟩ := pass_ok (cl := cl) hD hte 200000 s u hs eu (hu u eu) (by omega)
    exact ⟨r1, r2, r3, r4, fun _ _ => r5, fun z => (by rw [eu] at z; cases z), r6, by omega⟩
theorem stop_link {D : List Dd} {t u : Rat} {s : Gs} (hs : GsOk D s) (h : Stop D t false s) (hu : s.now = some u) (hut : u ≤ t) : Link D s t := by
  by_cases e : u = t
  · subst e; exact .inl hu
  · refine .inr ⟨u, hu, Rat.lt_of_le_of_ne hut e, keeps_till hs.nd (.inl (Rat.lt_of_le_of_ne hut e)) fun i d hi ed => ?_⟩
    rintro (z | ⟨z, _⟩)
    · have hx : ∃ x, nextG D s = some x ∧ x.1 ≤ d := by
        unfold nextG
        rw [hu]
        exact (foldN (f := tillI (s.M D) u s.row) (List.range (s.row.length - 1)) none).2.1 i (List.mem_range.mpr (by omega)) d ed
      obtain ⟨x, h1, h2⟩ := hx
      have h3 := h x h1
      have : goesOn t false x.1 = true := goes_iff.mpr (.inl (by grind))
      rw [h3] at this
      cases this
    · cases z
/-- where a join goes -/
def placeJ (D : List Dd) (s : Gs) (t : Rat) (l : Ln) : Nat := (s.row.filter fun k => decide (Ahd (LI (s.K D ++ [(s.J D, l)])) k (s.J D) t)).length
def placeP (D : List Dd) (s : Gs) : Dd → Nat
  | .join t p m => placeJ D s t (p - m * t, m)
  | .leave _ r => s.row.idxOf r
  | .turn _ r _ => s.row.idxOf r
theorem place_ok {D : List Dd} {s : Gs} {d : Dd} (hD : DOk D) (hs : GsOk D s) (ed : D[s.past]? = some d) : placeG D s (.deed (placeP D s d : Nat)) = true := by
  have hh := (hD.at ed).2
  unfold placeG
  simp only [ed]
  have idx : ∀ k, k ∈ keysM (s.M D) → (decide (0 ≤ ((s.row.idxOf k : Nat) : Int)) && (decide (((s.row.idxOf k : Nat) : Int) < (s.row.length : Int)) && decide (nthR s.row ((s.row.idxOf k : Nat) : Int) = k))) = true := fun k hk => by
    have hm := hs.perm.mem_iff.mpr hk
    have hl := List.idxOf_lt_length_of_mem hm
    rw [decide_eq_true (by omega), decide_eq_true (by omega), decide_eq_true]
    · rfl
    · unfold nthR
      rw [Int.toNat_natCast, List.getD_eq_getElem?_getD, List.getElem?_eq_getElem hl, List.getElem_idxOf hl]
      rfl
  cases d with
  | join t p m =>
    have : placeP D s (.join t p m) ≤ s.row.length := List.length_filter_le _ _
    show (decide _ && decide _) = true
    rw [decide_eq_true (by omega), decide_eq_true (by omega)]
    rfl
  | leave t k => exact idx k hh
  | turn t k m => exact idx k hh
/-- the deeds, each with the passes ahead of it -/
def deedF (D : List Dd) (x : List RB × Gs) (d : Dd) : List RB × Gs :=
  (x.1 ++ (passF D d.t false 200000 x.2).1 ++ [.deed (placeP D (passF D d.t false 200000 x.2).2 d : Nat)], doG D (passF D d.t false 200000 x.2).2 (.deed (placeP D (passF D d.t false 200000 x.2).2 d : Nat)))
structure Deeds (D : List Dd) (e : Rat) (done : List Dd) (B : List RB) (s : Gs) : Prop where
  run : Runs D e ⟨[], 0, none⟩ B s
  ok : GsOk D s
  past : s.past = done.length
  now : ∀ u, s.now = some u → ∃ d ∈ done, d.t = u
  no : s.now = none → done = [] ∧ s.row = []
  bt : ∀ t p, RB.pass t p ∈ B → Nz 3000 t
  len : B.length ≤ 160801 * done.length
theorem Deeds.start (D : List Dd) (e : Rat) : Deeds D e [] [] ⟨[], 0, none⟩ := ⟨.nil _, GsOk.start D, rfl, fun _ h => (nomatch h), fun _ => ⟨rfl, rfl⟩, fun _ _ h => (nomatch h), Nat.zero_le _⟩
theorem Deeds.step {D done rest : List Dd} {e : Rat} {d : Dd} {B : List RB} {s : Gs} (hD : DOk D) (eD : done ++ d :: rest = D) (he : d.t ≤ e) (h : Deeds D e done B s) : Passed D e d.t false s (passF D d.t false 200000 s).1 (passF D d.t false 200000 s).2 ∧ D[(passF D d.t false 200000 s).2.past]? = some d ∧ fitsG D e (passF D d.t false 200000 s).2 (.deed (placeP D (passF D d.t false 200000 s).2 d : Nat)) = true ∧ Deeds D e (done ++ [d]) (deedF D (B, s) d).1 (deedF D (B, s) d).2 := by
  obtain ⟨hsm, _, hle, _⟩ := hD.ok done d rest eD.symm
  have hp : Passed D e d.t false s (passF D d.t false 200000 s).1 (passF D d.t false 200000 s).2 := passed hD he h.ok fun u hu => by
    obtain ⟨x, hx, rfl⟩ := h.now u hu
    exact hle x hx
  have ed : D[(passF D d.t false 200000 s).2.past]? = some d := by
    rw [hp.past, h.past, ← eD, List.getElem?_append_right (Nat.le_refl _), Nat.sub_self]
    rfl
  have hpl := place_ok hD hp.ok ed
  have hfit : fitsG D e (passF D d.t false 200000 s).2 (.deed (placeP D (passF D d.t false 200000 s).2 d : Nat)) = true := by
    refine deed_fits ed hpl he ?_
    cases eu : s.now with
    | none => rw [hp.no eu]; exact .inl eu
    | some u =>
      obtain ⟨u', h1, h2⟩ := hp.now u eu
      exact .inr (stop_link hp.ok hp.stop h1 h2)
  refine ⟨hp, ed, hfit, ?_⟩
  obtain ⟨n1, n2⟩ := do_deed (p := (placeP D (passF D d.t false 200000 s).2 d : Nat)) ed
  have hok := hp.ok.step hD hfit fun t p z => (nomatch z)
  unfold deedF
  dsimp only
  refine ⟨(h.run.trans hp.run).snoc hfit, hok, by rw [n2, hp.past, h.past, List.length_append]; rfl, fun u hu => ?_, fun z => (by rw [n1] at z; cases z), fun t p hm => ?_, ?_⟩
  · rw [n1] at hu
    cases hu
    exact ⟨d, by simp, rfl⟩
  · rcases List.mem_append.mp hm with hm | hm
    · rcases List.mem_append.mp hm with hm | hm
      · exact h.bt t p hm
      · exact hp.bt t p hm
    · cases List.mem_singleton.mp hm
  · have h1 := h.len
    have h2 := hp.len
    simp only [List.length_append, List.length_cons, List.length_nil]
    omega
end DL
/-! A dict written out: texts for keys, whole numbers for values. -/
namespace DL
open PySem PySem.Spec PyProof.Rows L2
def litD (kv : List (Str × Int)) : List (Key × D) := kv.foldl (fun acc x => dput acc (.inr x.1) (.int x.2)) []
def uDLit (kv : List (Str × Int)) : TE2 := fun _ S Q => ∀ p, S p = none → Q (.ref p) (ups S p (.dic (litD kv)))
end DL
/-! Dicts whose keys are pairs of pairs of whole numbers. -/
namespace DL
open PySem PySem.Spec PyProof.Rows L2
def uDNewN : TE2 := fun _ S Q => ∀ p, S p = none → Q (.ref p) (ups S p (.ndc []))
section
variable {X : Cx} {k : Nat} {pos p2 apos cpos p : Pos} {a b o e i : Expr} {ta tb to ti td ty : TE2}
/-! d[k] = True, k new -/
def setNQ (d : D) (o i : D) (S : Sto) (R : Sto → Prop) : Prop := ∃ a ks k, o = .ref a ∧ S a = some (.ndc ks) ∧ i = ePK k ∧ d = .bl true ∧ k ∉ ks ∧ ks.length < 1000 ∧ R (ups S a (.ndc (ks ++ [k])))
def vDSubN (to ti : TE2) : TG2 := fun d τ S Q => to τ S fun o S1 => ti τ S1 fun i S2 => setNQ d o i S2 fun S3 => Q τ S3
/-! d.pop(k), k there -/
def uDPopN (td ty : TE2) : TE2 := fun τ S Q => td τ S fun x S1 => ∃ a ks0, x = .ref a ∧ S1 a = some (.ndc ks0) ∧ ty τ S1 fun y S2 => ∃ ks k, S2 a = some (.ndc ks) ∧ y = ePK k ∧ k ∈ ks ∧ Q (.bl true) (ups S2 a (.ndc (ks.filter fun x => decide (x ≠ k))))
end
/-! t < u of two tuples of whole numbers -/
def rLtT2 : R22 := fun d e S Q => ∃ ns ms : List Int, d = .tup (ns.map D.int) ∧ e = .tup (ms.map D.int) ∧ Q (.bl (HT.lexLt ns ms)) S
theorem z_ltT2 {a b c d : Int} {S : Sto} {Q : VK2} : rLtT2 (.tup [.int a, .int b]) (.tup [.int c, .int d]) S Q = Q (.bl (decide (a < c ∨ (a = c ∧ b < d)))) S := by
  have e : HT.lexLt [a, b] [c, d] = decide (a < c ∨ (a = c ∧ b < d)) := by
    unfold HT.lexLt HT.lexLt HT.lexLt
    by_cases h : a = c
    · subst h
      rw [if_pos rfl]
      by_cases h2 : b = d
      · subst h2
        rw [if_pos rfl]
        simp
      · rw [if_neg h2]
        refine decide_eq_decide.mpr ⟨fun z => .inr ⟨rfl, z⟩, fun z => ?_⟩
        rcases z with z | z
        · omega
        · exact z.2
    · rw [if_neg h]
      refine decide_eq_decide.mpr ⟨fun z => .inl z, fun z => ?_⟩
      rcases z with z | z
      · exact z
      · exact absurd z.1 h
  refine propext ⟨fun h => ?_, fun h => ⟨[a, b], [c, d], rfl, rfl, by rw [e]; exact h⟩⟩
  obtain ⟨ns, ms, h1, h2, h3⟩ := h
  have inj : ∀ {xs ys : List Int}, xs.map D.int = ys.map D.int → xs = ys := fun {xs ys} z => (List.map_inj_right (fun _ _ q => by injection q)).mp z
  have h1 : [a, b].map D.int = ns.map D.int := by injection h1
  have h2 : [c, d].map D.int = ms.map D.int := by injection h2
  rw [← inj h1, ← inj h2, e] at h3
  exact h3
end DL
/-! Pairs that wait: shapes. -/
namespace DL
open PySem PySem.Spec PyProof.Rows L2
/-- a time and a key -/
abbrev Wp := Rat × Int × Int
def eWp (p : Wp) : D := .tup [eQ p.1, .tup [.int p.2.1, .int p.2.2]]
def pkP (p : Wp) : PK := ((p.1.num, (p.1.den : Int)), p.2)
theorem q_ext {a b : Rat} (h1 : a.num = b.num) (h2 : (a.den : Int) = (b.den : Int)) : a = b := Rat.ext h1 (by exact_mod_cast h2)
theorem pkP_inj {a b : Wp} (h : pkP a = pkP b) : a = b := by
  obtain ⟨a1, a2⟩ := a
  obtain ⟨b1, b2⟩ := b
  unfold pkP at h
  obtain ⟨h1, h2⟩ := Prod.mk.inj h
  obtain ⟨h3, h4⟩ := Prod.mk.inj h1
  have h2 : a2 = b2 := h2
  exact Prod.ext (q_ext h3 h4) h2
def prLt (p q : Wp) : Prop := p.1 < q.1 ∨ (p.1 = q.1 ∧ (p.2.1 < q.2.1 ∨ (p.2.1 = q.2.1 ∧ p.2.2 < q.2.2)))
instance (p q : Wp) : Decidable (prLt p q) := by unfold prLt; infer_instance
theorem prLt_irr (p : Wp) : ¬ prLt p p := by unfold prLt; grind
theorem prLt_trans {p q r : Wp} (h : prLt p q) (k : prLt q r) : prLt p r := by unfold prLt at *; grind
theorem prLt_asymm {p q : Wp} (h : prLt p q) (k : prLt q p) : False := prLt_irr p (prLt_trans h k)
theorem prLt_total {p q : Wp} (h : p ≠ q) : prLt p q ∨ prLt q p := by
  obtain ⟨a, b, c⟩ := p
  obtain ⟨d, e, f⟩ := q
  unfold prLt
  dsimp only
  by_cases h1 : a = d
  · by_cases h2 : b = e
    · by_cases h3 : c = f
      · exact absurd (by rw [h1, h2, h3]) h
      · rcases Int.lt_or_gt_of_ne h3 with z | z
        · exact .inl (.inr ⟨h1, .inr ⟨h2, z⟩⟩)
        · exact .inr (.inr ⟨h1.symm, .inr ⟨h2.symm, z⟩⟩)
    · rcases Int.lt_or_gt_of_ne h2 with z | z
      · exact .inl (.inr ⟨h1, .inl z⟩)
      · exact .inr (.inr ⟨h1.symm, .inl z⟩)
  · grind
/-- not later -/
def prLe (p q : Wp) : Prop := ¬ prLt q p
theorem prLe_trans {p q r : Wp} (h : prLe p q) (k : prLe q r) : prLe p r := fun z => by
  by_cases e : p = q
  · subst e; exact k z
  · rcases prLt_total e with h1 | h1
    · by_cases e2 : q = r
      · subst e2; exact h z
      · rcases prLt_total e2 with h2 | h2
        · exact prLt_asymm (prLt_trans h1 h2) z
        · exact k h2
    · exact h h1
theorem prLe_of {p q : Wp} (h : prLt p q) : prLe p q := fun z => prLt_asymm h z
theorem prLe_refl (p : Wp) : prLe p p := prLt_irr p
inductive Sh where
  | nil | node (p : Wp) (l r : Sh)
def eSh : Sh → D
  | .nil => .non
  | .node p l r => .tup [eWp p, eSh l, eSh r]
namespace Sh
def rw : Sh → Nat
  | .nil => 0
  | .node _ _ r => 1 + rw r
def size : Sh → Nat
  | .nil => 0
  | .node _ l r => size l + size r + 1
def ht : Sh → Nat
  | .nil => 0
  | .node _ l r => max (ht l) (ht r) + 1
def toL : Sh → List Wp
  | .nil => []
  | .node p l r => p :: (toL l ++ toL r)
/-- the longer way on the left -/
def Lft : Sh → Prop
  | .nil => True
  | .node _ l r => Lft l ∧ Lft r ∧ rw r ≤ rw l
/-- none beneath is ahead -/
def Hp : Sh → Prop
  | .nil => True
  | .node p l r => Hp l ∧ Hp r ∧ ∀ q ∈ toL l ++ toL r, prLe p q
def laid (p : Wp) (a b : Sh) : Sh := if rw a < rw b then .node p b a else .node p a b
theorem toL_len : ∀ s : Sh, (toL s).length = size s
  | .nil => rfl
  | .node p l r => by unfold toL size; rw [List.length_cons, List.length_append, toL_len l, toL_len r]
theorem laid_perm (p : Wp) (a b : Sh) : (toL (laid p a b)).Perm (p :: (toL a ++ toL b)) := by
  unfold laid
  split
  · exact List.Perm.cons _ List.perm_append_comm
  · exact .refl _
theorem laid_lft {p : Wp} {a b : Sh} (ha : Lft a) (hb : Lft b) : Lft (laid p a b) := by
  unfold laid
  split
  · next h => exact ⟨hb, ha, Nat.le_of_lt h⟩
  · next h => exact ⟨ha, hb, Nat.not_lt.mp h⟩
theorem laid_hp {p : Wp} {a b : Sh} (ha : Hp a) (hb : Hp b) (h : ∀ q ∈ toL a ++ toL b, prLe p q) : Hp (laid p a b) := by
  unfold laid
  split
  · exact ⟨hb, ha, fun q hq => h q (List.perm_append_comm.mem_iff.mp hq)⟩
  · exact ⟨ha, hb, h⟩
def merged : Sh → Sh → Sh
  | .nil, b => b
  | .node p l r, .nil => .node p l r
  | .node p l r, .node q m s => if prLt q p then laid q m (merged s (.node p l r)) else laid p l (merged r (.node q m s))
termination_by a b => size a + size b
decreasing_by all_goals (simp only [size]; omega)
theorem merged_perm : ∀ a b : Sh, (toL (merged a b)).Perm (toL a ++ toL b)
  | .nil, b => by unfold merged; exact .refl _
  | .node p l r, .nil => by unfold merged; rw [show toL .nil = [] from rfl, List.append_nil]
  | .node p l r, .node q m s => by
    unfold merged
    split
    · refine (laid_perm _ _ _).trans ?_
      have ih := merged_perm s (.node p l r)
      have : toL (.node q m s) = q :: (toL m ++ toL s) := rfl
      rw [this]
      refine (List.Perm.cons q (List.Perm.append_left _ ih)).trans ?_
      rw [← List.append_assoc]
      exact (List.perm_append_comm (l₁ := q :: (toL m ++ toL s)) (l₂ := toL (.node p l r)))
    · refine (laid_perm _ _ _).trans ?_
      have ih := merged_perm r (.node q m s)
      have : toL (.node p l r) = p :: (toL l ++ toL r) := rfl
      rw [this]
      refine (List.Perm.cons p (List.Perm.append_left _ ih)).trans ?_
      rw [← List.append_assoc]
      exact .refl _
termination_by a b => size a + size b
decreasing_by all_goals (simp only [size]; omega)
theorem merged_lft : ∀ a b : Sh, Lft a → Lft b → Lft (merged a b)
  | .nil, b, _, hb => by unfold merged; exact hb
  | .node p l r, .nil, ha, _ => by unfold merged; exact ha
  | .node p l r, .node q m s, ha, hb => by
    unfold merged
    split
    · exact laid_lft hb.1 (merged_lft s _ hb.2.1 ha)
    · exact laid_lft ha.1 (merged_lft r _ ha.2.1 hb)
termination_by a b => size a + size b
decreasing_by all_goals (simp only [size]; omega)
theorem hp_all {p : Wp} {l r : Sh} (h : Hp (.node p l r)) : ∀ q ∈ toL (.node p l r), prLe p q := fun q hq => by
  rcases List.mem_cons.mp hq with rfl | hq
  · exact prLe_refl _
  · exact h.2.2 q hq
theorem merged_hp : ∀ a b : Sh, Hp a → Hp b → Hp (merged a b)
  | .nil, b, _, hb => by unfold merged; exact hb
  | .node p l r, .nil, ha, _ => by unfold merged; exact ha
  | .node p l r, .node q m s, ha, hb => by
    unfold merged
    split
    · next h =>
      refine laid_hp hb.1 (merged_hp s _ hb.2.1 ha) fun x hx => ?_
      rcases List.mem_append.mp hx with hx | hx
      · exact hb.2.2 x (List.mem_append_left _ hx)
      · rcases List.mem_append.mp ((merged_perm _ _).mem_iff.mp hx) with hx | hx
        · exact hb.2.2 x (List.mem_append_right _ hx)
        · exact prLe_trans (prLe_of h) (hp_all ha x hx)
    · next h =>
      refine laid_hp ha.1 (merged_hp r _ ha.2.1 hb) fun x hx => ?_
      rcases List.mem_append.mp hx with hx | hx
      · exact ha.2.2 x (List.mem_append_left _ hx)
      · rcases List.mem_append.mp ((merged_perm _ _).mem_iff.mp hx) with hx | hx
        · exact ha.2.2 x (List.mem_append_right _ hx)
        · exact prLe_trans h (hp_all hb x hx)
termination_by a b => size a + size b
decreasing_by all_goals (simp only [size]; omega)
def without (p : Wp) : Sh → Sh
  | .nil => .nil
  | .node q l r => if prLt p q then .node q l r else if q = p then merged l r else laid q (without p l) (without p r)
theorem without_lft (p : Wp) : ∀ s : Sh, Lft s → Lft (without p s)
  | .nil, _ => trivial
  | .node q l r, h => by
    unfold without
    split
    · exact h
    · split
      · exact merged_lft _ _ h.1 h.2.1
      · exact laid_lft (without_lft p l h.1) (without_lft p r h.2.1)
theorem without_mem (p : Wp) : ∀ s : Sh, ∀ x ∈ toL (without p s), x ∈ toL s
  | .nil, x, h => h
  | .node q l r, x, h => by
    unfold without at h
    split at h
    · exact h
    · split at h
      · exact List.mem_cons_of_mem _ ((merged_perm l r).mem_iff.mp h)
      · rcases List.mem_cons.mp ((laid_perm _ _ _).mem_iff.mp h) with rfl | h
        · exact List.mem_cons_self ..
        · rcases List.mem_append.mp h with h | h
          · exact List.mem_cons_of_mem _ (List.mem_append_left _ (without_mem p l x h))
          · exact List.mem_cons_of_mem _ (List.mem_append_right _ (without_mem p r x h))
theorem without_hp (p : Wp) : ∀ s : Sh, Hp s → Hp (without p s)
  | .nil, _ => trivial
  | .node q l r, h => by
    unfold without
    split
    · exact h
    · split
      · exact merged_hp _ _ h.1 h.2.1
      · refine laid_hp (without_hp p l h.1) (without_hp p r h.2.1) fun x hx => h.2.2 x ?_
        rcases List.mem_append.mp hx with hx | hx
        · exact List.mem_append_left _ (without_mem p l x hx)
        · exact List.mem_append_right _ (without_mem p r x hx)
theorem filter_self {l : List Wp} {p : Wp} (h : p ∉ l) : l.filter (fun x => decide (x ≠ p)) = l := List.filter_eq_self.mpr fun x hx => by
  have : x ≠ p := fun z => h (z ▸ hx)
  simpa using this
/-- without tells all but the one -/
theorem without_perm (p : Wp) : ∀ s : Sh, Hp s → (toL s).Nodup → (toL (without p s)).Perm ((toL s).filter fun x => decide (x ≠ p))
  | .nil, _, _ => .refl _
  | .node q l r, h, nd => by
    have nd' : (q :: (toL l ++ toL r)).Nodup := nd
    obtain ⟨n1, n2⟩ := List.nodup_cons.mp nd'
    obtain ⟨n3, n4, n5⟩ := List.nodup_append.mp n2
    have e : toL (.node q l r) = q :: (toL l ++ toL r) := rfl
    unfold without
    split
    · next hlt =>
      rw [filter_self]
      intro hm
      exact hp_all h p hm hlt
    · split
      · next _ he =>
        subst he
        rw [e, List.filter_cons, if_neg (by simp), filter_self n1]
        exact merged_perm l r
      · next _ he =>
        rw [e, List.filter_cons, if_pos (by simpa using he), List.filter_append]
        exact (laid_perm _ _ _).trans (List.Perm.cons _ ((without_perm p l h.1 n3).append (without_perm p r h.2.1 n4)))
end Sh
end DL
namespace DL
open PySem PySem.Spec PyProof.Rows L2
end DL
namespace DL
open PySem PySem.Spec PyProof.Rows L2
/-- a Waiting stands at w, its dict at d -/
structure WtAt (k : Kls) (S : Sto) (w d : Addr) (sh : Sh) (ks : List PK) : Prop where
  ob : S w = some (.ins k [eSh sh, .ref d])
  hd : S d = some (.ndc ks)
theorem WtAt.sub {k : Kls} {S S' : Sto} {w d : Addr} {sh : Sh} {ks : List PK} (h : WtAt k S w d sh ks) (s : Sub S S') : WtAt k S' w d sh ks := ⟨s _ _ h.ob, s _ _ h.hd⟩
structure WtOk (sh : Sh) (ks : List PK) : Prop where
  lft : sh.Lft
  hp : sh.Hp
  nd : sh.toL.Nodup
  keys : ks.Perm (sh.toL.map pkP)
  nz : ∀ p ∈ sh.toL, Nz 4000 p.1
theorem WtOk.nil : WtOk .nil [] := ⟨trivial, trivial, .nil, .refl _, fun _ h => (nomatch h)⟩
theorem WtOk.mem {sh : Sh} {ks : List PK} (h : WtOk sh ks) (p : Wp) : pkP p ∈ ks ↔ p ∈ sh.toL := by
  rw [h.keys.mem_iff, List.mem_map]
  exact ⟨fun ⟨q, h1, h2⟩ => pkP_inj h2 ▸ h1, fun z => ⟨p, z, rfl⟩⟩
theorem WtOk.len {sh : Sh} {ks : List PK} (h : WtOk sh ks) : ks.length = sh.size := by rw [h.keys.length_eq, List.length_map, Sh.toL_len]
theorem WtOk.put {sh : Sh} {ks : List PK} {p : Wp} (h : WtOk sh ks) (hz : Nz 4000 p.1) (hn : p ∉ sh.toL) : WtOk (Sh.merged sh (.node p .nil .nil)) (ks ++ [pkP p]) ∧ (Sh.merged sh (.node p .nil .nil)).toL.Perm (p :: sh.toL) := by
  have h1 : Sh.Lft (.node p .nil .nil) := ⟨trivial, trivial, Nat.le_refl _⟩
  have h2 : Sh.Hp (.node p .nil .nil) := ⟨trivial, trivial, fun _ h => (nomatch h)⟩
  have hp := (Sh.merged_perm sh (.node p .nil .nil)).trans (List.perm_append_comm (l₁ := sh.toL) (l₂ := [p]))
  refine ⟨⟨Sh.merged_lft _ _ h.lft h1, Sh.merged_hp _ _ h.hp h2, hp.nodup_iff.mpr (List.nodup_cons.mpr ⟨hn, h.nd⟩), ?_, fun q hq => ?_⟩, hp⟩
  · refine List.Perm.trans ?_ (hp.map pkP).symm
    exact (List.perm_append_comm (l₁ := ks) (l₂ := [pkP p])).trans (List.Perm.cons _ h.keys)
  · rcases List.mem_cons.mp (hp.mem_iff.mp hq) with rfl | hq
    · exact hz
    · exact h.nz q hq
theorem WtOk.take {sh : Sh} {ks : List PK} {p : Wp} (h : WtOk sh ks) : WtOk (Sh.without p sh) (ks.filter fun x => decide (x ≠ pkP p)) ∧ (Sh.without p sh).toL.Perm (sh.toL.filter fun x => decide (x ≠ p)) := by
  have hp := Sh.without_perm p sh h.hp h.nd
  refine ⟨⟨Sh.without_lft p sh h.lft, Sh.without_hp p sh h.hp, hp.nodup_iff.mpr (List.Pairwise.filter _ h.nd), ?_, fun q hq => h.nz q (Sh.without_mem p sh q hq)⟩, hp⟩
  refine (h.keys.filter _).trans (List.Perm.trans (.of_eq ?_) (hp.map pkP).symm)
  rw [List.filter_map]
  congr 1
  refine List.filter_congr fun x _ => decide_eq_decide.mpr ⟨fun z e => z (by show pkP x = pkP p; rw [e]), fun z e => z (pkP_inj e)⟩
end DL
/-! Walks along time. -/
namespace DL
open PySem PySem.Spec PyProof.Rows L2
/-- till when x is ahead of y, the time itself where it isn't from then on -/
def tlW (L : List Ln) (x y : Nat) (u : Rat) : Option Rat := if Ahd L y x u then some u else nxt L x y u
theorem tl_ge {L : List Ln} {x y : Nat} {u c : Rat} (h : tlW L x y u = some c) : u ≤ c := by
  unfold tlW at h
  split at h
  · cases h; exact Rat.le_refl
  · exact Rat.le_of_lt (nxt_gt h).1
/-- what is due not ahead of a time is so from there, too -/
theorem tl_stay {L : List Ln} {x y : Nat} {u t : Rat} (hn : x ≠ y) (hut : u ≤ t) (h : ∀ c, tlW L x y u = some c → t ≤ c) : tlW L x y t = tlW L x y u := by
  by_cases ha : Ahd L y x u
  · have e1 : tlW L x y u = some u := if_pos ha
    have := h u e1
    have e2 : t = u := Rat.le_antisymm this hut
    rw [e2]
  · have hax : Ahd L x y u := (ahd_total hn).resolve_right ha
    have e1 : tlW L x y u = nxt L x y u := if_neg ha
    rw [e1] at h ⊢
    cases en : nxt L x y u with
    | none =>
      have ht : Ahd L x y t := ahd_till hax hut fun c e => by rw [en] at e; cases e
      have e2 : tlW L x y t = nxt L x y t := if_neg fun z => ahd_asymm z ht
      rw [e2]
      cases e3 : nxt L x y t with
      | none => rfl
      | some c => rw [nxt_back e3 hut] at en; cases en
    | some c =>
      have htc := h c en
      by_cases e : t = c
      · subst e
        exact if_pos (change_up en hax)
      · have hlt : t < c := Rat.lt_of_le_of_ne htc e
        have ht : Ahd L x y t := ahd_till hax hut fun d e => by rw [en] at e; cases e; exact hlt
        have e2 : tlW L x y t = nxt L x y t := if_neg fun z => ahd_asymm z ht
        rw [e2]
        exact nxt_later en hlt
/-- the pair of a place that waits -/
def pwW (L : List Ln) (u : Rat) (row : List Nat) (i : Nat) : Option Wp := (tlW L (row.getD i 0) (row.getD (i + 1) 0) u).map fun c => (c, ((row.getD i 0 : Nat) : Int), ((row.getD (i + 1) 0 : Nat) : Int))
def pwI (L : List Ln) (u : Rat) (row : List Nat) (i : Int) : Option Wp := if 0 ≤ i ∧ i + 1 < (row.length : Int) then pwW L u row i.toNat else none
theorem pwW_some {L : List Ln} {u : Rat} {row : List Nat} {i : Nat} {p : Wp} (h : pwW L u row i = some p) : tlW L (row.getD i 0) (row.getD (i + 1) 0) u = some p.1 ∧ p.2.1 = ((row.getD i 0 : Nat) : Int) ∧ p.2.2 = ((row.getD (i + 1) 0 : Nat) : Int) := by
  unfold pwW at h
  obtain ⟨c, h1, rfl⟩ := Option.map_eq_some_iff.mp h
  exact ⟨h1, rfl, rfl⟩
theorem getD_inj {row : List Nat} (nd : row.Nodup) {i j : Nat} (hi : i < row.length) (hj : j < row.length) (e : row.getD i 0 = row.getD j 0) : i = j := by
  rw [List.getD_eq_getElem?_getD, List.getElem?_eq_getElem hi, List.getD_eq_getElem?_getD, List.getElem?_eq_getElem hj] at e
  have e : row[i] = row[j] := by simpa using e
  rcases Nat.lt_trichotomy i j with h | h | h
  · exact absurd e ((List.pairwise_iff_getElem.mp nd) i j hi hj h)
  · exact h
  · exact absurd e.symm ((List.pairwise_iff_getElem.mp nd) j i hj hi h)
theorem pwW_inj {L : List Ln} {u v : Rat} {row : List Nat} (nd : row.Nodup) {i j : Nat} (hi : i < row.length) (hj : j < row.length) {p : Wp} (h : pwW L u row i = some p) (k : pwW L v row j = some p) : i = j := by
  have h1 := (pwW_some h).2.1
  have h2 := (pwW_some k).2.1
  rw [h1] at h2
  exact getD_inj nd hi hj (by omega)
structure WkAt (kW kQ : Kls) (S : Sto) (k a r w d : Addr) (L : List Ln) (u : Rat) (row : List Nat) (sh : Sh) (ks : List PK) : Prop where
  ob : S k = some (.ins kW [.ref a, eQ u, .ref r, .ref w])
  la : LA S a L
  hr : S r = some (.lst (row.map eN))
  wt : WtAt kQ S w d sh ks
  ar : a ≠ r
  kw : k ≠ w
structure WkOk (L : List Ln) (u : Rat) (row : List Nat) : Prop where
  perm : row.Perm (List.range L.length)
  nz : Nz 3500 u
  len : L.length ≤ 20
theorem WkOk.nd {L : List Ln} {u : Rat} {row : List Nat} (h : WkOk L u row) : row.Nodup := h.perm.nodup_iff.mpr List.nodup_range
theorem WkOk.lt {L : List Ln} {u : Rat} {row : List Nat} (h : WkOk L u row) {x : Nat} (hx : x ∈ row) : x < L.length := List.mem_range.mp (h.perm.mem_iff.mp hx)
theorem WkOk.at_ {L : List Ln} {u : Rat} {row : List Nat} (h : WkOk L u row) {i : Nat} (hi : i < row.length) : row.getD i 0 < L.length := h.lt (row_mem hi)
/-- what waits: the pairs of those places that f says -/
def Waits (L : List Ln) (u : Rat) (row : List Nat) (sh : Sh) (f : Nat → Prop) : Prop := ∀ p, p ∈ sh.toL ↔ ∃ i, i + 1 < row.length ∧ f i ∧ pwW L u row i = some p
section
variable {kW kQ : Kls} {S S' : Sto} {k a r w d : Addr} {L : List Ln} {u : Rat} {row : List Nat} {sh : Sh} {ks : List PK}
theorem WkAt.sub (h : WkAt kW kQ S k a r w d L u row sh ks) (s : Sub S S') : WkAt kW kQ S' k a r w d L u row sh ks := ⟨s _ _ h.ob, h.la.sub s, s _ _ h.hr, h.wt.sub s, h.ar, h.kw⟩
theorem WkAt.rd (h : WkAt kW kQ S k a r w d L u row sh ks) : r ≠ d := st_ne h.hr h.wt.hd fun z => nomatch z
end
end DL
namespace DL
open PySem PySem.Spec PyProof.Rows L2
theorem Waits.size {L : List Ln} {u : Rat} {row : List Nat} {sh : Sh} {f : Nat → Prop} (h : Waits L u row sh f) (nd : sh.toL.Nodup) : sh.size ≤ row.length := by
  rw [← Sh.toL_len]
  refine Nat.le_trans (nodup_sub (ys := (List.range row.length).filterMap (pwW L u row)) nd fun p hp => ?_) ?_
  · obtain ⟨i, h1, _, h2⟩ := (h p).mp hp
    exact List.mem_filterMap.mpr ⟨i, List.mem_range.mpr (by omega), h2⟩
  · exact Nat.le_trans (List.length_filterMap_le _ _) (by rw [List.length_range]; exact Nat.le_refl _)
theorem perm_same {α : Type} [DecidableEq α] {xs ys : List α} (h1 : xs.Nodup) (h2 : ys.Nodup) (h : ∀ x, x ∈ xs ↔ x ∈ ys) : xs.Perm ys := by
  rw [List.perm_iff_count]
  intro a
  rw [List.Nodup.count h1, List.Nodup.count h2]
  by_cases z : a ∈ xs
  · rw [if_pos z, if_pos ((h a).mp z)]
  · rw [if_neg z, if_neg fun q => z ((h a).mpr q)]
end DL
namespace DL
open PySem PySem.Spec PyProof.Rows L2
end DL
namespace DL
open PySem PySem.Spec PyProof.Rows L2
structure WRec where
  (k a r w d : Addr) (u : Rat) (row : List Nat) (sh : Sh) (ks : List PK)
structure WGood (kW kQ : Kls) (S : Sto) (L : List Ln) (x : WRec) : Prop where
  at_ : WkAt kW kQ S x.k x.a x.r x.w x.d L x.u x.row x.sh x.ks
  ok : WkOk L x.u x.row
  ord : IsOrd L x.u L.length x.row
def WRec.off (x : WRec) (h : Addr) : Prop := h ≠ x.k ∧ h ≠ x.a ∧ h ≠ x.r ∧ h ≠ x.w ∧ h ≠ x.d
theorem WkAt.upd {kW kQ : Kls} {S : Sto} {k a r w d h : Addr} {L : List Ln} {u : Rat} {row : List Nat} {sh : Sh} {ks : List PK} {o : O} (g : WkAt kW kQ S k a r w d L u row sh ks) (n1 : h ≠ k) (n2 : h ≠ a) (n3 : h ≠ r) (n4 : h ≠ w) (n5 : h ≠ d) : WkAt kW kQ (ups S h o) k a r w d L u row sh ks :=
  ⟨(ups_ne n1.symm).trans g.ob, g.la.upd n2.symm, (ups_ne n3.symm).trans g.hr, ⟨(ups_ne n4.symm).trans g.wt.ob, (ups_ne n5.symm).trans g.wt.hd⟩, g.ar, g.kw⟩
theorem WGood.sub {kW kQ : Kls} {S S' : Sto} {L : List Ln} {x : WRec} (g : WGood kW kQ S L x) (s : Sub S S') : WGood kW kQ S' L x := ⟨g.at_.sub s, g.ok, g.ord⟩
theorem WGood.upd {kW kQ : Kls} {S : Sto} {L : List Ln} {x : WRec} {h : Addr} {o : O} (g : WGood kW kQ S L x) (n : x.off h) : WGood kW kQ (ups S h o) L x := ⟨g.at_.upd n.1 n.2.1 n.2.2.1 n.2.2.2.1 n.2.2.2.2, g.ok, g.ord⟩
/-- all but one stand: a walk off it stays good -/
theorem WGood.fr {kW kQ : Kls} {S S' : Sto} {L : List Ln} {x : WRec} {h : Addr} (g : WGood kW kQ S L x) (f : Fr S S' h) (n : x.off h) : WGood kW kQ S' L x :=
  ⟨⟨f _ _ n.1.symm g.at_.ob, ⟨f _ _ n.2.1.symm g.at_.la.st, g.at_.la.ok, g.at_.la.sz⟩, f _ _ n.2.2.1.symm g.at_.hr, ⟨f _ _ n.2.2.2.1.symm g.at_.wt.ob, f _ _ n.2.2.2.2.symm g.at_.wt.hd⟩, g.at_.ar, g.at_.kw⟩, g.ok, g.ord⟩
end DL
/-! Steps of walks. -/
namespace DL
open PySem PySem.Spec PyProof.Rows L2
theorem swap_get {l : List Nat} {p j : Nat} (h : p + 1 < l.length) : (swapG l p).getD j 0 = if j = p then l.getD (p + 1) 0 else if j = p + 1 then l.getD p 0 else l.getD j 0 := by
  unfold swapG
  have hp : (l.take p).length = p := by rw [List.length_take]; omega
  simp only [List.getD_eq_getElem?_getD]
  by_cases h1 : j < p
  · rw [List.append_assoc, List.getElem?_append_left (by omega), List.getElem?_take_of_lt h1, if_neg (by omega), if_neg (by omega)]
  · by_cases h2 : j = p
    · subst h2
      rw [List.append_assoc, List.getElem?_append_right (by omega), if_pos rfl, hp, Nat.sub_self]
      rfl
    · by_cases h3 : j = p + 1
      · subst h3
        rw [List.append_assoc, List.getElem?_append_right (by omega), if_neg h2, if_pos rfl, hp, show p + 1 - p = 1 by omega]
        rfl
      · rw [List.getElem?_append_right (by rw [List.length_append, hp]; show p + 2 ≤ j; omega), if_neg h2, if_neg h3, List.getElem?_drop, List.length_append, hp]
        show (l[p + 2 + (j - (p + 2))]?).getD 0 = _
        rw [show p + 2 + (j - (p + 2)) = j by omega]
def sw (p j : Nat) : Nat := if j = p then p + 1 else if j = p + 1 then p else j
theorem swap_sw {l : List Nat} {p j : Nat} (h : p + 1 < l.length) : (swapG l p).getD j 0 = l.getD (sw p j) 0 := by
  rw [swap_get h]
  unfold sw
  by_cases h1 : j = p
  · rw [if_pos h1, if_pos h1]
  · by_cases h2 : j = p + 1
    · rw [if_neg h1, if_pos h2, if_neg h1, if_pos h2]
    · rw [if_neg h1, if_neg h2, if_neg h1, if_neg h2]
/-- the first place with the least till -/
structure IsNx (L : List Ln) (u : Rat) (row : List Nat) (t : Rat) (i : Nat) : Prop where
  lt : i + 1 < row.length
  at_ : tlW L (row.getD i 0) (row.getD (i + 1) 0) u = some t
  le : ∀ j c, j + 1 < row.length → tlW L (row.getD j 0) (row.getD (j + 1) 0) u = some c → t ≤ c
  fst : ∀ j, j < i → tlW L (row.getD j 0) (row.getD (j + 1) 0) u ≠ some t
def NoNx (L : List Ln) (u : Rat) (row : List Nat) : Prop := ∀ j, j + 1 < row.length → tlW L (row.getD j 0) (row.getD (j + 1) 0) u = none
theorem IsNx.uniq {L : List Ln} {u : Rat} {row : List Nat} {t t' : Rat} {i j : Nat} (h : IsNx L u row t i) (k : IsNx L u row t' j) : t = t' ∧ i = j := by
  have e : t = t' := Rat.le_antisymm (h.le j t' k.lt k.at_) (k.le i t h.lt h.at_)
  subst e
  refine ⟨rfl, ?_⟩
  rcases Nat.lt_trichotomy i j with z | z | z
  · exact absurd h.at_ (k.fst i z)
  · exact z
  · exact absurd k.at_ (h.fst j z)
theorem NoNx.not {L : List Ln} {u : Rat} {row : List Nat} {t : Rat} {i : Nat} (h : NoNx L u row) (k : IsNx L u row t i) : False := by
  have := h i k.lt
  rw [k.at_] at this
  cases this
section
variable {L : List Ln} {u t : Rat} {row : List Nat} {sh sh' : Sh} {f g : Nat → Prop}
theorem pwI_some {x : Int} {q : Wp} (h : pwI L u row x = some q) : 0 ≤ x ∧ x + 1 < (row.length : Int) ∧ pwW L u row x.toNat = some q := by
  unfold pwI at h
  split at h
  · next c => exact ⟨c.1, c.2, h⟩
  · cases h
theorem pwI_nat {j : Nat} (h : j + 1 < row.length) : pwI L u row (j : Int) = pwW L u row j := by
  unfold pwI
  rw [if_pos (by omega), Int.toNat_natCast]
theorem Waits.drop {x : Int} (h : Waits L u row sh f) (nd : row.Nodup) (hq : ∀ q, q ∈ sh'.toL ↔ q ∈ sh.toL ∧ pwI L u row x ≠ some q) : Waits L u row sh' (fun j => f j ∧ (j : Int) ≠ x) := fun q => by
  rw [hq q, h q]
  constructor
  · rintro ⟨⟨i, h1, h2, h3⟩, h4⟩
    exact ⟨i, h1, ⟨h2, fun e => h4 (by rw [← e, pwI_nat h1, h3])⟩, h3⟩
  · rintro ⟨i, h1, ⟨h2, h4⟩, h3⟩
    refine ⟨⟨i, h1, h2, h3⟩, fun e => ?_⟩
    obtain ⟨k1, k2, k3⟩ := pwI_some e
    have := pwW_inj nd (show i < row.length by omega) (show x.toNat < row.length by omega) h3 k3
    omega
theorem Waits.keep {x : Int} (h : Waits L u row sh f) (hq : ∀ q, q ∈ sh'.toL ↔ q ∈ sh.toL ∨ pwI L u row x = some q) : Waits L u row sh' (fun j => f j ∨ (j : Int) = x) := fun q => by
  rw [hq q, h q]
  constructor
  · rintro (⟨i, h1, h2, h3⟩ | h4)
    · exact ⟨i, h1, .inl h2, h3⟩
    · obtain ⟨k1, k2, k3⟩ := pwI_some h4
      exact ⟨x.toNat, by omega, .inr (by omega), k3⟩
  · rintro ⟨i, h1, h2 | h2, h3⟩
    · exact .inl ⟨i, h1, h2, h3⟩
    · exact .inr (by rw [← h2, pwI_nat h1, h3])
theorem getD_ne {i j : Nat} (nd : row.Nodup) (hi : i < row.length) (hj : j < row.length) (h : i ≠ j) : row.getD i 0 ≠ row.getD j 0 := fun e => h (getD_inj nd hi hj e)
/-- those not beside the two that are exchanged stay -/
theorem Waits.swap {a : Nat} (h : Waits L u row sh f) (nd : row.Nodup) (ha : a + 1 < row.length) (hf : ∀ j, f j → (j : Int) ≠ (a : Int) - 1 ∧ j ≠ a ∧ j ≠ a + 1) (hut : u ≤ t) (hle : ∀ j c, j + 1 < row.length → tlW L (row.getD j 0) (row.getD (j + 1) 0) u = some c → t ≤ c) : Waits L t (swapG row a) sh f := fun q => by
  rw [h q]
  have key : ∀ i, i + 1 < row.length → f i → pwW L t (swapG row a) i = pwW L u row i := fun i h1 h2 => by
    obtain ⟨k1, k2, k3⟩ := hf i h2
    have e1 : (swapG row a).getD i 0 = row.getD i 0 := by rw [swap_get ha, if_neg k2, if_neg k3]
    have e2 : (swapG row a).getD (i + 1) 0 = row.getD (i + 1) 0 := by rw [swap_get ha, if_neg (by omega), if_neg (by omega)]
    unfold pwW
    rw [e1, e2, tl_stay (getD_ne nd (by omega) h1 (by omega)) hut (hle i · h1)]
  have hl := swap_len ha
  constructor
  · rintro ⟨i, h1, h2, h3⟩
    exact ⟨i, by omega, h2, (key i h1 h2).trans h3⟩
  · rintro ⟨i, h1, h2, h3⟩
    have h1' : i + 1 < row.length := by omega
    exact ⟨i, h1', h2, (key i h1' h2).symm.trans h3⟩
end
def FrW (S S' : Sto) (k r w d : Addr) : Prop := ∀ b o, b ≠ k → b ≠ r → b ≠ w → b ≠ d → S b = some o → S' b = some o
theorem FrW.trans {S S' S'' : Sto} {k r w d : Addr} (h : FrW S S' k r w d) (g : FrW S' S'' k r w d) : FrW S S'' k r w d := fun b o n1 n2 n3 n4 e => g b o n1 n2 n3 n4 (h b o n1 n2 n3 n4 e)
theorem FrW.sub {S S' S'' : Sto} {k r w d : Addr} (h : FrW S S' k r w d) (g : Sub S' S'') : FrW S S'' k r w d := fun b o n1 n2 n3 n4 e => g _ _ (h b o n1 n2 n3 n4 e)
theorem FrW.wr {S S' : Sto} {k r w d : Addr} {o : O} (h : FrW S S' k r w d) : FrW S (ups S' r o) k r w d := fun b p n1 n2 n3 n4 e => (ups_ne n2).trans (h b p n1 n2 n3 n4 e)
theorem FrW.refl {S : Sto} {k r w d : Addr} : FrW S S k r w d := fun _ _ _ _ _ _ e => e
theorem WkOk.swap {L : List Ln} {u t : Rat} {row : List Nat} {a : Nat} (h : WkOk L u row) (ha : a + 1 < row.length) (ht : Nz 3500 t) : WkOk L t (swapG row a) := ⟨(swap_perm ha).trans h.perm, ht, h.len⟩
/-! how many are still to come -/
def Bf (row : List Nat) (x y : Nat) : Prop := ∃ i j, i < j ∧ j < row.length ∧ row.getD i 0 = x ∧ row.getD j 0 = y
theorem bf_swap {row : List Nat} {p x y : Nat} (h : p + 1 < row.length) (nd : row.Nodup) (k : Bf (swapG row p) x y) : (x = row.getD (p + 1) 0 ∧ y = row.getD p 0) ∨ (Bf row x y ∧ ¬ (x = row.getD p 0 ∧ y = row.getD (p + 1) 0)) := by
  obtain ⟨i, j, h1, h2, rfl, rfl⟩ := k
  rw [swap_len h] at h2
  rw [swap_sw h, swap_sw h]
  by_cases c : i = p ∧ j = p + 1
  · obtain ⟨rfl, rfl⟩ := c
    refine .inl ⟨?_, ?_⟩
    · unfold sw; rw [if_pos rfl]
    · unfold sw; rw [if_neg (by omega), if_pos rfl]
  · have hs : sw p i < sw p j ∧ sw p j < row.length ∧ ¬ (sw p i = p ∧ sw p j = p + 1) := by unfold sw; grind
    refine .inr ⟨⟨_, _, hs.1, hs.2.1, rfl, rfl⟩, fun ⟨e1, e2⟩ => ?_⟩
    have k1 := getD_inj nd (by omega) (by omega) e1
    have k2 := getD_inj nd (by omega) (by omega) e2
    exact hs.2.2 ⟨k1, k2⟩
theorem bf_ne {row : List Nat} {x y : Nat} (nd : row.Nodup) (k : Bf row x y) : x ≠ y := by
  obtain ⟨i, j, h1, h2, rfl, rfl⟩ := k
  exact getD_ne nd (by omega) h2 (by omega)
theorem tl_back {L : List Ln} {x y : Nat} {u t c : Rat} (hn : x ≠ y) (hut : u ≤ t) (h : tlW L x y t = some c) : ∃ d, tlW L x y u = some d := by
  by_cases ha : Ahd L y x u
  · exact ⟨u, if_pos ha⟩
  · have hax : Ahd L x y u := (ahd_total hn).resolve_right ha
    have e1 : tlW L x y u = nxt L x y u := if_neg ha
    rw [e1]
    cases en : nxt L x y u with
    | some d => exact ⟨d, rfl⟩
    | none =>
      have ht : Ahd L x y t := ahd_till hax hut fun c e => by rw [en] at e; cases e
      have e2 : tlW L x y t = nxt L x y t := if_neg fun z => ahd_asymm z ht
      rw [e2] at h
      rw [nxt_back h hut] at en
      cases en
/-- two that stand wrong will not change again -/
def Inv (L : List Ln) (u : Rat) (row : List Nat) : Prop := ∀ x y, Bf row x y → Ahd L y x u → nxt L x y u = none
theorem tl_ahd {L : List Ln} {a b : Nat} {u t : Rat} (hn : a ≠ b) (h : tlW L a b u = some t) : Ahd L b a t := by
  unfold tlW at h
  split at h
  · next c => cases h; exact c
  · next c => exact change_up h ((ahd_total hn).resolve_right c)
theorem Inv.swap {L : List Ln} {u t : Rat} {row : List Nat} {p : Nat} (h : Inv L u row) (nd : row.Nodup) (k : IsNx L u row t p) : Inv L t (swapG row p) := fun x y hb ha => by
  have hut := tl_ge k.at_
  have hab := tl_ahd (getD_ne nd (by have := k.lt; omega) k.lt (by omega)) k.at_
  rcases bf_swap k.lt nd hb with ⟨rfl, rfl⟩ | ⟨hb, _⟩
  · exact absurd ha fun z => ahd_asymm z hab
  · cases e : nxt L x y t with
    | none => rfl
    | some c =>
      have eb := nxt_back e hut
      by_cases hu : Ahd L y x u
      · rw [h x y hb hu] at eb; cases eb
      · have hx : Ahd L x y u := (ahd_total (bf_ne nd hb)).resolve_right hu
        have := ahd_till (t := t) hx hut fun d e2 => by rw [eb] at e2; cases e2; exact (nxt_gt e).1
        exact (ahd_asymm this ha).elim
open Classical in
noncomputable def muW (L : List Ln) (u : Rat) (row : List Nat) : Nat := ((List.range (L.length * L.length)).filter fun k => decide (Bf row (k / L.length) (k % L.length) ∧ ∃ c, tlW L (k / L.length) (k % L.length) u = some c)).length
theorem muW_le (L : List Ln) (u : Rat) (row : List Nat) : muW L u row ≤ L.length * L.length := by
  unfold muW
  exact Nat.le_trans (List.length_filter_le _ _) (by rw [List.length_range]; exact Nat.le_refl _)
theorem muW_ltP {L : List Ln} {u t : Rat} {row : List Nat} {p : Nat} (h : Inv L u row) (hp0 : row.Perm (List.range L.length)) (k : IsNx L u row t p) : muW L t (swapG row p) < muW L u row := by
  classical
  have nd : row.Nodup := hp0.nodup_iff.mpr List.nodup_range
  have oka : ∀ {i : Nat}, i < row.length → row.getD i 0 < L.length := fun hi => List.mem_range.mp (hp0.mem_iff.mp (row_mem hi))
  have hp := k.lt
  have h1 := oka (show p < row.length by omega)
  have h2 := oka hp
  have hne := getD_ne nd (show p < row.length by omega) hp (by omega)
  have hut := tl_ge k.at_
  have hab := tl_ahd hne k.at_
  have hat := k.at_
  have hbf : Bf row (row.getD p 0) (row.getD (p + 1) 0) := ⟨p, p + 1, by omega, hp, rfl, rfl⟩
  have hsw := fun x y => bf_swap (x := x) (y := y) hp nd
  have hdone : tlW L (row.getD (p + 1) 0) (row.getD p 0) t = none := by
    have e2 : tlW L (row.getD (p + 1) 0) (row.getD p 0) t = nxt L (row.getD (p + 1) 0) (row.getD p 0) t := if_neg fun z => ahd_asymm z hab
    rw [e2]
    cases e : nxt L (row.getD (p + 1) 0) (row.getD p 0) t with
    | none => rfl
    | some c =>
      rw [nxt_comm] at e
      have eb := nxt_back e hut
      by_cases hu : Ahd L (row.getD (p + 1) 0) (row.getD p 0) u
      · rw [h _ _ hbf hu] at eb; cases eb
      · have e3 : tlW L (row.getD p 0) (row.getD (p + 1) 0) u = nxt L (row.getD p 0) (row.getD (p + 1) 0) u := if_neg hu
        rw [e3, eb] at hat
        cases hat
        exact absurd (nxt_gt e).1 (by grind)
  generalize row.getD p 0 = a at *
  generalize row.getD (p + 1) 0 = b at *
  have hn0 : 0 < L.length := by omega
  have hk : a * L.length + b < L.length * L.length := by
    have : (a + 1) * L.length ≤ L.length * L.length := Nat.mul_le_mul h1 (Nat.le_refl _)
    rw [Nat.add_mul] at this
    omega
  have hd1 : (a * L.length + b) / L.length = a := by rw [Nat.mul_comm, Nat.mul_add_div hn0, Nat.div_eq_of_lt h2, Nat.add_zero]
  have hd2 : (a * L.length + b) % L.length = b := by rw [Nat.mul_comm, Nat.mul_add_mod, Nat.mod_eq_of_lt h2]
  unfold muW
  refine Nat.lt_of_lt_of_le (Nat.lt_succ_self _) (Nat.le_trans (Nat.le_of_eq (List.length_cons (a := a * L.length + b)).symm) ?_)
  refine nodup_sub (List.nodup_cons.mpr ⟨fun hm => ?_, List.Pairwise.filter _ List.nodup_range⟩) fun x hx => ?_
  · have := (of_decide_eq_true (List.mem_filter.mp hm).2).1
    rw [hd1, hd2] at this
    rcases hsw _ _ this with ⟨z, _⟩ | ⟨_, z⟩
    · exact hne z
    · exact z ⟨rfl, rfl⟩
  · refine List.mem_filter.mpr ?_
    rcases List.mem_cons.mp hx with rfl | hx
    · exact ⟨List.mem_range.mpr hk, decide_eq_true (by rw [hd1, hd2]; exact ⟨hbf, _, hat⟩)⟩
    · obtain ⟨m1, m2⟩ := List.mem_filter.mp hx
      obtain ⟨m2, c, m3⟩ := of_decide_eq_true m2
      refine ⟨m1, decide_eq_true ?_⟩
      rcases hsw _ _ m2 with ⟨z1, z2⟩ | ⟨z, _⟩
      · rw [z1, z2, hdone] at m3; cases m3
      · exact ⟨z, tl_back (bf_ne nd z) hut m3⟩
theorem Inv.ord {L : List Ln} {u : Rat} {row : List Nat} (h : IsOrd L u L.length row) : Inv L u row := fun x y ⟨i, j, h1, h2, e1, e2⟩ ha => by
  subst e1 e2
  have := (List.pairwise_iff_getElem.mp h.pw) i j (by omega) h2 h1
  have eg : ∀ k (hk : k < row.length), row.getD k 0 = row[k] := fun k hk => by rw [List.getD_eq_getElem?_getD, List.getElem?_eq_getElem hk]; rfl
  rw [eg i (by omega), eg j h2] at ha
  exact (ahd_asymm ha this).elim
end DL
/-! Walks that go to a time. -/
namespace DL
open PySem PySem.Spec PyProof.Rows L2
/-- what a walk tells on its way to a time, and where it stands then -/
inductive Goes (L : List Ln) (t : Rat) : Rat → List Nat → List (Tri Rat Nat Nat) → Rat → List Nat → Prop where
  | stop {u : Rat} {row : List Nat} (h : ∀ j c, j + 1 < row.length → tlW L (row.getD j 0) (row.getD (j + 1) 0) u = some c → t < c) : Goes L t u row [] u row
  | step {u c v : Rat} {row row' : List Nat} {i : Nat} {es : List (Tri Rat Nat Nat)} (h : IsNx L u row c i) (hc : c ≤ t) (g : Goes L t c (swapG row i) es v row') : Goes L t u row (⟨c, row.getD i 0, row.getD (i + 1) 0⟩ :: es) v row'
theorem Goes.uniq {L : List Ln} {t u v v' : Rat} {row row' row2 : List Nat} {es es' : List (Tri Rat Nat Nat)} (h : Goes L t u row es v row') (k : Goes L t u row es' v' row2) : es = es' ∧ v = v' ∧ row' = row2 := by
  induction h generalizing es' v' row2 with
  | stop h =>
    cases k with
    | stop _ => exact ⟨rfl, rfl, rfl⟩
    | step h' hc' g' => exact absurd (h _ _ h'.lt h'.at_) (Rat.not_lt.mpr hc')
  | step h hc g ih =>
    cases k with
    | stop h' => exact absurd (h' _ _ h.lt h.at_) (Rat.not_lt.mpr hc)
    | step h' hc' g' =>
      obtain ⟨rfl, rfl⟩ := h.uniq h'
      obtain ⟨rfl, rfl, rfl⟩ := ih g'
      exact ⟨rfl, rfl, rfl⟩
/-- what waits stays when time goes on without a step -/
theorem Waits.on {L : List Ln} {u t : Rat} {row : List Nat} {sh : Sh} {f : Nat → Prop} (h : Waits L u row sh f) (nd : row.Nodup) (hut : u ≤ t) (hle : ∀ j c, j + 1 < row.length → tlW L (row.getD j 0) (row.getD (j + 1) 0) u = some c → t < c) : Waits L t row sh f := fun q => by
  rw [h q]
  have key : ∀ i, i + 1 < row.length → pwW L t row i = pwW L u row i := fun i h1 => by
    unfold pwW
    rw [tl_stay (getD_ne nd (by omega) h1 (by omega)) hut fun c e => Rat.le_of_lt (hle i c h1 e)]
  exact ⟨fun ⟨i, h1, h2, h3⟩ => ⟨i, h1, h2, (key i h1).trans h3⟩, fun ⟨i, h1, h2, h3⟩ => ⟨i, h1, h2, (key i h1).symm.trans h3⟩⟩
theorem Inv.on {L : List Ln} {u t : Rat} {row : List Nat} (h : Inv L u row) (nd : row.Nodup) (hut : u ≤ t) : Inv L t row := fun x y hb ha => by
  cases e : nxt L x y t with
  | none => rfl
  | some c =>
    have eb := nxt_back e hut
    by_cases hu : Ahd L y x u
    · rw [h x y hb hu] at eb; cases eb
    · have hx : Ahd L x y u := (ahd_total (bf_ne nd hb)).resolve_right hu
      have := ahd_till (t := t) hx hut fun d e2 => by rw [eb] at e2; cases e2; exact (nxt_gt e).1
      exact (ahd_asymm this ha).elim
end DL
/-! Dicts with tuple keys: in, not in, len. -/
namespace DL
open PySem PySem.Spec PyProof.Rows L2
def inTQ (f : Bool → Bool) (ds : List D) (d : D) (S : Sto) (Q : VK2) : Prop := match d with
  | .ref a => ds.length ≤ 1000 ∧ onS (tOf (S a)) fun kvs => onS (keysOf ds) fun k => Q (.bl (f (dget kvs k).isSome)) S
  | _ => False
def uInT (f : Bool → Bool) (i : Nat) (t : TA2) : TE2 := fun τ S Q => t τ S fun ds S1 => match τ[i]? with
  | some (some d) => inTQ f ds d S1 Q
  | _ => False
theorem KVs.isSome {κ : Type} [DecidableEq κ] {K : PySem.W.Frag} {H : Hp} {ds : List (κ × D)} {vs : List (κ × V)} (h : KVs K H ds vs) (k : κ) : (valV vs k).isSome = (dget ds k).isSome := by
  cases e : dget ds k with
  | none => rw [h.getN e]; rfl
  | some d => obtain ⟨v, e2, _⟩ := h.get e; rw [e2]; rfl
section
variable {X : Cx} {pos p : Pos} {e : Expr} {t : TA2} {S : Sto} {Q : VK2} {a : Addr} {ds : List D} {f : Bool → Bool}
theorem z_inT : inTQ f ds (.ref a) S Q = (ds.length ≤ 1000 ∧ onS (tOf (S a)) fun kvs => onS (keysOf ds) fun k => Q (.bl (f (dget kvs k).isSome)) S) := rfl
theorem z_tOf1 {kvs : List (List Key × D)} : tOf (some (.dct kvs)) = some kvs := rfl
theorem z_tOf2 {o : Obj} {kvs : List (List Key × D)} : tOf (some (.fdt o kvs)) = some kvs := rfl
theorem z_wT1 {kvs : List (List Key × D)} : wT (some (.dct kvs)) = some kvs := rfl
end
end DL
/-! All steps of a walk: each pair that is due is exchanged once. -/
namespace DL
open PySem PySem.Spec PyProof.Rows L2
/-! tables by pairs of runners -/
theorem keysOf_two (a b : Int) : keysOf [.int a, .int b] = some [.inl a, .inl b] := rfl
/-! which are due -/
def dueB (L : List Ln) (t : Rat) (p : Pr) : Bool := decide ((ln L p.1).2 < (ln L p.2).2 ∧ t < met (ln L p.1) (ln L p.2))
def dueP (L : List Ln) (t : Rat) : List Pr := (allP L.length).filter (dueB L t)
theorem due_iff {L : List Ln} {t : Rat} {x y : Nat} : ((ln L x).2 < (ln L y).2 ∧ t < met (ln L x) (ln L y)) ↔ Ahd L x y t ∧ nxt L x y t = some (met (ln L x) (ln L y)) := by
  constructor
  · rintro ⟨h1, h2⟩
    have hne : (ln L x).2 ≠ (ln L y).2 := by grind
    exact ⟨(ahd_lt hne h2).mpr h1, by unfold nxt; rw [if_pos ⟨hne, h2⟩]⟩
  · rintro ⟨h1, h2⟩
    obtain ⟨h3, h4, _⟩ := nxt_gt h2
    exact ⟨(ahd_lt h4 h3).mp h1, h3⟩
theorem mem_due {L : List Ln} {t : Rat} {p : Pr} : p ∈ dueP L t ↔ (p.1 < L.length ∧ p.2 < L.length) ∧ Ahd L p.1 p.2 t ∧ nxt L p.1 p.2 t = some (met (ln L p.1) (ln L p.2)) := by
  unfold dueP dueB
  rw [List.mem_filter, allP_mem, decide_eq_true_iff, due_iff]
theorem due_nd (L : List Ln) (t : Rat) : (dueP L t).Nodup := (allP_nd _).filter _
/-! neighbours and all pairs -/
section
variable {L : List Ln} {u t c : Rat} {row : List Nat}
theorem nb_ahd (nd : row.Nodup) (hut : u ≤ t) (h : ∀ j e, j + 1 < row.length → tlW L (row.getD j 0) (row.getD (j + 1) 0) u = some e → t < e) : ∀ j, j + 1 < row.length → Ahd L (row.getD j 0) (row.getD (j + 1) 0) t := fun j hj => by
  have hne := getD_ne nd (show j < row.length by omega) hj (by omega)
  have hna : ¬ Ahd L (row.getD (j + 1) 0) (row.getD j 0) u := fun z => by
    have := h j u hj (if_pos z)
    grind
  have ha : Ahd L (row.getD j 0) (row.getD (j + 1) 0) u := (ahd_total hne).resolve_right hna
  exact ahd_till ha hut fun e he => h j e hj (by unfold tlW; rw [if_neg hna, he])
theorem bf_ahd (h : ∀ j, j + 1 < row.length → Ahd L (row.getD j 0) (row.getD (j + 1) 0) t) {x y : Nat} (k : Bf row x y) : Ahd L x y t := by
  obtain ⟨i, j, h1, h2, rfl, rfl⟩ := k
  obtain ⟨m, rfl⟩ : ∃ m, j = i + 1 + m := ⟨j - i - 1, by omega⟩
  induction m with
  | zero => exact h i h2
  | succ m ih => exact ahd_trans (ih (by omega) (by omega)) (h (i + 1 + m) h2)
theorem ord_nb {n : Nat} (hp : row.Perm (List.range n)) (h : ∀ j, j + 1 < row.length → Ahd L (row.getD j 0) (row.getD (j + 1) 0) t) : IsOrd L t n row := by
  refine ⟨?_, fun i => by rw [hp.mem_iff, List.mem_range]⟩
  rw [List.pairwise_iff_getElem]
  intro i j hi hj hij
  have := bf_ahd h (x := row.getD i 0) (y := row.getD j 0) ⟨i, j, hij, hj, rfl, rfl⟩
  rw [List.getD_eq_getElem?_getD, List.getElem?_eq_getElem hi, List.getD_eq_getElem?_getD, List.getElem?_eq_getElem hj] at this
  exact this
theorem tl_no {x y : Nat} {d : Rat} (hne : x ≠ y) (h1 : Ahd L x y u) (h2 : ∀ e, tlW L x y u = some e → Ahd L x y e) (h : tlW L x y u = some d) : False := by
  have := h2 d h
  unfold tlW at h
  rw [if_neg fun z => ahd_asymm z h1] at h
  exact ahd_asymm (change_up h h1) this
/-- no pair fails ahead of the first neighbours that do -/
theorem nx_all {i : Nat} (nd : row.Nodup) (h : IsNx L u row c i) {x y : Nat} {d : Rat} (k : Bf row x y) (e : tlW L x y u = some d) : c ≤ d := by
  have hud := tl_ge e
  have hne := bf_ne nd k
  refine Rat.not_lt.mp fun hdc => ?_
  have nb : ∀ t, u ≤ t → t < c → Ahd L x y t := fun t h1 h2 => bf_ahd (nb_ahd nd h1 fun j e' hj he => by have := h.le j e' hj he; grind) k
  exact tl_no hne (nb u Rat.le_refl (by grind)) (fun e' he' => by rw [e] at he'; cases he'; exact nb d hud hdc) e
theorem no_all (nd : row.Nodup) (h : NoNx L u row) {x y : Nat} (k : Bf row x y) : tlW L x y u = none := by
  cases e : tlW L x y u with
  | none => rfl
  | some d =>
    have nb : ∀ t, u ≤ t → Ahd L x y t := fun t h1 => bf_ahd (nb_ahd nd h1 fun j e' hj he => by rw [h j hj] at he; cases he) k
    exact (tl_no (bf_ne nd k) (nb u Rat.le_refl) (fun e' he' => nb e' (tl_ge he')) e).elim
theorem bf_swap_of {p x y : Nat} (h : p + 1 < row.length) (nd : row.Nodup) (k : Bf row x y) (hn : ¬ (x = row.getD p 0 ∧ y = row.getD (p + 1) 0)) : Bf (swapG row p) x y := by
  obtain ⟨i, j, h1, h2, rfl, rfl⟩ := k
  have hsw : ∀ j, sw p (sw p j) = j := fun j => by unfold sw; grind
  have hs : sw p i < sw p j ∧ sw p j < row.length := by
    have c : ¬ (i = p ∧ j = p + 1) := fun ⟨a, b⟩ => hn ⟨by rw [a], by rw [b]⟩
    unfold sw; grind
  refine ⟨sw p i, sw p j, hs.1, by rw [swap_len h]; exact hs.2, ?_, ?_⟩
  · rw [swap_sw h, hsw]
  · rw [swap_sw h, hsw]
theorem bf_swap_one {p : Nat} (h : p + 1 < row.length) : Bf (swapG row p) (row.getD (p + 1) 0) (row.getD p 0) :=
  ⟨p, p + 1, by omega, by rw [swap_len h]; exact h, by rw [swap_get h, if_pos rfl], by rw [swap_get h, if_neg (by omega), if_pos rfl]⟩
theorem bf_or {n x y : Nat} (hp : row.Perm (List.range n)) (hx : x < n) (hy : y < n) (hne : x ≠ y) : Bf row x y ∨ Bf row y x := by
  have mx := hp.mem_iff.mpr (List.mem_range.mpr hx)
  have my := hp.mem_iff.mpr (List.mem_range.mpr hy)
  obtain ⟨i, hi, ei⟩ := List.getElem_of_mem mx
  obtain ⟨j, hj, ej⟩ := List.getElem_of_mem my
  have gi : row.getD i 0 = x := by rw [List.getD_eq_getElem?_getD, List.getElem?_eq_getElem hi]; exact ei
  have gj : row.getD j 0 = y := by rw [List.getD_eq_getElem?_getD, List.getElem?_eq_getElem hj]; exact ej
  rcases Nat.lt_trichotomy i j with z | z | z
  · exact .inl ⟨i, j, z, hj, gi, gj⟩
  · subst z; exact absurd (gi.symm.trans gj) hne
  · exact .inr ⟨j, i, z, hi, gj, gi⟩
end
/-! all steps -/
inductive Stp (L : List Ln) : Rat → List Nat → List (Tri Rat Nat Nat) → Rat → List Nat → Prop where
  | stop {u : Rat} {row : List Nat} (h : NoNx L u row) : Stp L u row [] u row
  | step {u c v : Rat} {row row' : List Nat} {i : Nat} {es : List (Tri Rat Nat Nat)} (h : IsNx L u row c i) (g : Stp L c (swapG row i) es v row') : Stp L u row (⟨c, row.getD i 0, row.getD (i + 1) 0⟩ :: es) v row'
section
variable {L : List Ln} {u v v' t : Rat} {row row' row2 : List Nat} {es es' : List (Tri Rat Nat Nat)}
theorem Stp.no (h : Stp L u row es v row') : NoNx L v row' := by
  induction h with
  | stop h => exact h
  | step _ _ ih => exact ih
theorem Stp.perm {n : Nat} (h : Stp L u row es v row') (hp : row.Perm (List.range n)) : row'.Perm (List.range n) := by
  induction h with
  | stop h => exact hp
  | step h g ih => exact ih ((swap_perm h.lt).trans hp)
theorem Goes.perm {n : Nat} (h : Goes L t u row es v row') (hp : row.Perm (List.range n)) : row'.Perm (List.range n) := by
  induction h with
  | stop h => exact hp
  | step h _ g ih => exact ih ((swap_perm h.lt).trans hp)
theorem perm_nd {n : Nat} (hp : row.Perm (List.range n)) : row.Nodup := hp.nodup_iff.mpr List.nodup_range
theorem tl_stay_nb (nd : row.Nodup) (hut : u ≤ t) (h : ∀ j c, j + 1 < row.length → tlW L (row.getD j 0) (row.getD (j + 1) 0) u = some c → t ≤ c) {j : Nat} (hj : j + 1 < row.length) : tlW L (row.getD j 0) (row.getD (j + 1) 0) t = tlW L (row.getD j 0) (row.getD (j + 1) 0) u := tl_stay (getD_ne nd (by omega) hj (by omega)) hut fun c e => h j c hj e
theorem IsNx.on {c : Rat} {i : Nat} (h : IsNx L u row c i) (nd : row.Nodup) (hut : u ≤ t) (hl : ∀ j c, j + 1 < row.length → tlW L (row.getD j 0) (row.getD (j + 1) 0) u = some c → t ≤ c) : IsNx L t row c i where
  lt := h.lt
  at_ := by rw [tl_stay_nb nd hut hl h.lt]; exact h.at_
  le := fun j d hj e => by rw [tl_stay_nb nd hut hl hj] at e; exact h.le j d hj e
  fst := fun j hj e => by have := h.lt; rw [tl_stay_nb nd hut hl (by omega)] at e; exact h.fst j hj e
theorem Stp.on (h : Stp L u row es v row') (nd : row.Nodup) (hut : u ≤ t) (hl : ∀ j c, j + 1 < row.length → tlW L (row.getD j 0) (row.getD (j + 1) 0) u = some c → t ≤ c) : ∃ v', Stp L t row es v' row' := by
  cases h with
  | stop h => exact ⟨t, .stop fun j hj => by rw [tl_stay_nb nd hut hl hj]; exact h j hj⟩
  | step h g => exact ⟨_, .step (h.on nd hut hl) g⟩
theorem Goes.split {n : Nat} {es1 : List (Tri Rat Nat Nat)} {u1 : Rat} {row1 : List Nat} (h : Goes L t u row es1 u1 row1) (hp : row.Perm (List.range n)) (hut : u ≤ t) (k : Stp L u row es v row') : ∃ es2 v', es = es1 ++ es2 ∧ Stp L t row1 es2 v' row' := by
  induction h generalizing es with
  | stop h =>
    obtain ⟨v', k'⟩ := k.on (perm_nd hp) hut fun j c hj e => Rat.le_of_lt (h j c hj e)
    exact ⟨es, v', rfl, k'⟩
  | step h hc g ih =>
    cases k with
    | stop k => exact (k.not h).elim
    | step k g' =>
      obtain ⟨rfl, rfl⟩ := h.uniq k
      obtain ⟨es2, v', rfl, k'⟩ := ih ((swap_perm h.lt).trans hp) hc g'
      exact ⟨es2, v', rfl, k'⟩
theorem Goes.ord {n : Nat} (h : Goes L t u row es v row') (hp : row.Perm (List.range n)) (hut : u ≤ t) : IsOrd L t n row' := by
  induction h with
  | stop h => exact ord_nb hp (nb_ahd (perm_nd hp) hut h)
  | step h hc g ih => exact ih ((swap_perm h.lt).trans hp) hc
/-! what was exchanged, and what is due yet -/
structure Jv (L : List Ln) (t0 u : Rat) (row : List Nat) (seen : List Pr) : Prop where
  bf : ∀ x y, Bf row x y → (Ahd L x y t0 ∧ tlW L x y u = nxt L x y t0 ∧ (x, y) ∉ seen) ∨ (Ahd L y x t0 ∧ (y, x) ∈ seen ∧ tlW L x y u = none)
  sn : ∀ p ∈ seen, Bf row p.2 p.1 ∧ Ahd L p.1 p.2 t0 ∧ nxt L p.1 p.2 t0 = some (met (ln L p.1) (ln L p.2))
  nd : seen.Nodup
theorem Jv.start {t0 : Rat} (h : IsOrd L t0 L.length row) : Jv L t0 t0 row [] where
  bf := fun x y k => by
    have ha : Ahd L x y t0 := by
      obtain ⟨i, j, h1, h2, rfl, rfl⟩ := k
      have := (List.pairwise_iff_getElem.mp h.pw) i j (by omega) h2 h1
      rw [List.getD_eq_getElem?_getD, List.getElem?_eq_getElem (by omega), List.getD_eq_getElem?_getD, List.getElem?_eq_getElem h2]
      exact this
    exact .inl ⟨ha, if_neg fun z => ahd_asymm z ha, List.not_mem_nil⟩
  sn := fun p h => nomatch h
  nd := .nil
theorem Jv.here {t0 c : Rat} {i : Nat} {seen : List Pr} (h : Jv L t0 u row seen) (k : IsNx L u row c i) : Ahd L (row.getD i 0) (row.getD (i + 1) 0) t0 ∧ nxt L (row.getD i 0) (row.getD (i + 1) 0) t0 = some c ∧ (row.getD i 0, row.getD (i + 1) 0) ∉ seen := by
  have hb : Bf row (row.getD i 0) (row.getD (i + 1) 0) := ⟨i, i + 1, by omega, k.lt, rfl, rfl⟩
  rcases h.bf _ _ hb with ⟨h1, h2, h3⟩ | ⟨_, _, h3⟩
  · exact ⟨h1, by rw [← h2]; exact k.at_, h3⟩
  · rw [k.at_] at h3; cases h3
theorem Jv.step {t0 c : Rat} {i : Nat} {seen : List Pr} (h : Jv L t0 u row seen) (nd : row.Nodup) (k : IsNx L u row c i) : Jv L t0 c (swapG row i) (seen ++ [(row.getD i 0, row.getD (i + 1) 0)]) := by
  obtain ⟨h1, h2, h3⟩ := h.here k
  have huc := tl_ge k.at_
  have hl := k.lt
  have all := fun x y (kb : Bf row x y) d (e : tlW L x y u = some d) => nx_all nd k kb e
  have stay := fun x y (kb : Bf row x y) => tl_stay (bf_ne nd kb) huc (all x y kb)
  have hec := (nxt_gt h2).2.2
  refine ⟨fun a b kb => ?_, fun p hp => ?_, ?_⟩
  · rcases bf_swap hl nd kb with ⟨rfl, rfl⟩ | ⟨kb, hn⟩
    · refine .inr ⟨h1, by simp, ?_⟩
      have ha := change_up h2 h1
      have e2 : tlW L (row.getD (i + 1) 0) (row.getD i 0) c = nxt L (row.getD (i + 1) 0) (row.getD i 0) c := if_neg fun z => ahd_asymm z ha
      rw [e2, nxt_comm]
      cases e : nxt L (row.getD i 0) (row.getD (i + 1) 0) c with
      | none => rfl
      | some d =>
        obtain ⟨k1, _, k2⟩ := nxt_gt e
        grind
    · rcases h.bf a b kb with ⟨g1, g2, g3⟩ | ⟨g1, g2, g3⟩
      · refine .inl ⟨g1, by rw [stay a b kb, g2], fun hm => ?_⟩
        rcases List.mem_append.mp hm with hm | hm
        · exact g3 hm
        · have := List.mem_singleton.mp hm
          exact hn ⟨congrArg Prod.fst this, congrArg Prod.snd this⟩
      · exact .inr ⟨g1, List.mem_append_left _ g2, by rw [stay a b kb, g3]⟩
  · rcases List.mem_append.mp hp with hp | hp
    · obtain ⟨g1, g2, g3⟩ := h.sn p hp
      refine ⟨bf_swap_of hl nd g1 fun ⟨e1, e2⟩ => ?_, g2, g3⟩
      rw [← e1, ← e2] at h1
      exact ahd_asymm h1 g2
    · rw [List.mem_singleton.mp hp]
      exact ⟨bf_swap_one hl, h1, by rw [← hec]; exact h2⟩
  · rw [List.nodup_append]
    exact ⟨h.nd, by simp, fun a ha b hb e => by subst e; rw [List.mem_singleton.mp hb] at ha; exact h3 ha⟩
theorem Jv.all {t0 : Rat} {seen : List Pr} (h : Jv L t0 u row seen) (hp : row.Perm (List.range L.length)) (hn : NoNx L u row) : seen.Perm (dueP L t0) := by
  refine perm_same h.nd (due_nd L t0) fun p => ?_
  rw [mem_due]
  constructor
  · intro hm
    obtain ⟨h1, h2, h3⟩ := h.sn p hm
    obtain ⟨i, j, k1, k2, e1, e2⟩ := h1
    have hlt := fun i (hi : i < row.length) => List.mem_range.mp (hp.mem_iff.mp (row_mem hi))
    exact ⟨⟨by rw [← e2]; exact hlt j k2, by rw [← e1]; exact hlt i (by omega)⟩, h2, h3⟩
  · rintro ⟨⟨h1, h2⟩, h3, h4⟩
    obtain ⟨x, y⟩ := p
    have hne : x ≠ y := fun e => by subst e; exact ahd_irr h3
    rcases bf_or hp h1 h2 hne with kb | kb
    · have := no_all (perm_nd hp) hn kb
      rcases h.bf _ _ kb with ⟨_, g, _⟩ | ⟨g, _, _⟩
      · rw [g, h4] at this; cases this
      · exact (ahd_asymm g h3).elim
    · rcases h.bf _ _ kb with ⟨g, _, _⟩ | ⟨_, g, _⟩
      · exact (ahd_asymm g h3).elim
      · exact g
end
/-! a time between -/
end DL
/-! Walks from till to till. -/
namespace DL
open PySem PySem.Spec PyProof.Rows L2
theorem PenC.sub {S S' : Sto} {a : Addr} {n : Nat} (h : PenC S a n) (s : Sub S S') : PenC S' a n := let ⟨x, y, z, e, r⟩ := h; ⟨x, y, z, s _ _ e, r⟩
theorem PenC.by {S S' : Sto} {a : Addr} {n : Nat} (h : PenC S a n) (s : ∀ o, S a = some o → S' a = some o) : PenC S' a n := let ⟨x, y, z, e, r⟩ := h; ⟨x, y, z, s _ e, r⟩
theorem LA.by {S S' : Sto} {p : Addr} {L : List Ln} (h : LA S p L) (s : ∀ o, S p = some o → S' p = some o) : LA S' p L := ⟨s _ h.st, h.ok, h.sz⟩
end DL
/-! Defs of a class that may raise. -/
namespace DL
open PySem PySem.Spec PyProof.Rows L2
structure FnMX (P : Program) (w : World) (K : PySem.W.Frag) (mg : Str → Option Value) (base : Heap) (l : Nat) (k : Kls) (m : Str) (sp : Sp2) : Prop where
  ex : ∃ f fd ps, FnOk P w K mg base (L2.CX P w) l f fd ps (dnSp K sp) ∧ Meth K (cA K k.name) m f ∧ Binds K fd ps []
theorem FnMX.mono {P : Program} {w : World} {K : PySem.W.Frag} {mg : Str → Option Value} {base : Heap} {i l : Nat} {k : Kls} {m : Str} {sp : Sp2} (F : FnMX P w K mg base i k m sp) (h : i ≤ l) : FnMX P w K mg base l k m sp := by
  obtain ⟨f, fd, ps, h1, h2⟩ := F.ex
  exact ⟨f, fd, ps, h1.mono h, h2⟩
def uMethX (k : Kls) (sp : Sp2) (W2 : St2 → XK2) (to : TE2) (t : TA2) : TE2 := fun τ S Q => to τ S fun d S1 => mthQ k d S1 (t τ S1 fun ds S2 => sp (d :: ds) S2 Q (W2 τ))
end DL
/-! A walk kept beside: lines, order, time in a list. -/
namespace DL
open PySem PySem.Spec PyProof.Rows L2
structure StAt (S : Sto) (s p o : Addr) (L : List Ln) (u : Rat) (row : List Nat) : Prop where
  st : S s = some (.lst [.ref p, .ref o, eQ u])
  la : LA S p L
  hr : S o = some (.lst (row.map eN))
  sp : s ≠ p
  so : s ≠ o
  po : p ≠ o
theorem StAt.by {S S' : Sto} {s p o : Addr} {L : List Ln} {u : Rat} {row : List Nat} (h : StAt S s p o L u row) (k : ∀ b x, (b = s ∨ b = p ∨ b = o) → S b = some x → S' b = some x) : StAt S' s p o L u row :=
  ⟨k _ _ (.inl rfl) h.st, h.la.by (k _ · (.inr (.inl rfl))), k _ _ (.inr (.inr rfl)) h.hr, h.sp, h.so, h.po⟩
theorem StAt.sub {S S' : Sto} {s p o : Addr} {L : List Ln} {u : Rat} {row : List Nat} (h : StAt S s p o L u row) (k : Sub S S') : StAt S' s p o L u row := h.by fun b x _ => k b x
theorem StAt.upd {S : Sto} {s p o b : Addr} {L : List Ln} {u : Rat} {row : List Nat} {x : O} (h : StAt S s p o L u row) (n1 : b ≠ s) (n2 : b ≠ p) (n3 : b ≠ o) : StAt (ups S b x) s p o L u row :=
  ⟨(ups_ne n1.symm).trans h.st, h.la.upd n2.symm, (ups_ne n3.symm).trans h.hr, h.sp, h.so, h.po⟩
end DL
/-! Races. -/
namespace DL
open PySem PySem.Spec PyProof.Rows L2
/-- the lines that a log has at a time -/
abbrev MT (D : List Dd) (t : Rat) : Mp := (runM (thenD D t)).1
/-- the papers of those who run, by their numbers -/
def ppM (M : Mp) (t : Rat) : List PprI := (pprs (lnM M) t (ordL (lnM M) t)).map fun x => ⟨kN M x.a, kN M x.b, x.c⟩
/-- an exchange, by numbers -/
abbrev StI := Tri Rat Int Int
def stM (M : Mp) (x : Tri Rat Nat Nat) : StI := ⟨x.a, kN M x.b, kN M x.c⟩
/-- what a race tells on its way -/
def RGo (D : List Dd) : Option Rat → Rat → List StI → Prop
  | none, _, es => es = []
  | some u, t, es => ∃ es' v row', Goes (lnM (MT D u)) t u (ordL (lnM (MT D u)) u) es' v row' ∧ es = es'.map (stM (MT D u))
theorem RGo.uniq {D : List Dd} {now : Option Rat} {t : Rat} {a b : List StI} (h : RGo D now t a) (k : RGo D now t b) : a = b := by
  cases now with
  | none => exact (show a = [] from h).trans (show b = [] from k).symm
  | some u =>
    obtain ⟨e1, _, _, g1, rfl⟩ := h
    obtain ⟨e2, _, _, g2, rfl⟩ := k
    rw [(g1.uniq g2).1]
structure RcAt (kR : Kls) (S : Sto) (r dl gl cl : Addr) (D : List Dd) (now : Option Rat) (G C : List PprI) : Prop where
  ob : S r = some (.ins kR [.ref dl, eO now, .ref gl, .ref cl])
  hd : S dl = some (.lst (D.map eDd))
  hg : S gl = some (.lst (G.map eI3))
  hc : S cl = some (.lst (C.map eI3))
  dg : dl ≠ gl
  dc : dl ≠ cl
section
variable {kR : Kls} {S S' : Sto} {r dl gl cl p : Addr} {D : List Dd} {now : Option Rat} {G C : List PprI} {o : O}
theorem RcAt.by (h : RcAt kR S r dl gl cl D now G C) (k : ∀ b x, (b = r ∨ b = dl ∨ b = gl ∨ b = cl) → S b = some x → S' b = some x) : RcAt kR S' r dl gl cl D now G C :=
  ⟨k _ _ (.inl rfl) h.ob, k _ _ (.inr (.inl rfl)) h.hd, k _ _ (.inr (.inr (.inl rfl))) h.hg, k _ _ (.inr (.inr (.inr rfl))) h.hc, h.dg, h.dc⟩
theorem RcAt.sub (h : RcAt kR S r dl gl cl D now G C) (k : Sub S S') : RcAt kR S' r dl gl cl D now G C := h.by fun b x _ => k b x
theorem RcAt.rd (h : RcAt kR S r dl gl cl D now G C) : r ≠ dl := st_ne h.ob h.hd fun z => nomatch z
theorem RcAt.off (h : RcAt kR S r dl gl cl D now G C) (n : S p = none) : p ≠ r ∧ p ≠ dl ∧ p ≠ gl ∧ p ≠ cl := ⟨(ne_of_st h.ob n).symm, (ne_of_st h.hd n).symm, (ne_of_st h.hg n).symm, (ne_of_st h.hc n).symm⟩
theorem RcAt.upd (h : RcAt kR S r dl gl cl D now G C) (n : p ≠ r ∧ p ≠ dl ∧ p ≠ gl ∧ p ≠ cl) : RcAt kR (ups S p o) r dl gl cl D now G C :=
  ⟨(ups_ne n.1.symm).trans h.ob, (ups_ne n.2.1.symm).trans h.hd, (ups_ne n.2.2.1.symm).trans h.hg, (ups_ne n.2.2.2.symm).trans h.hc, h.dg, h.dc⟩
end
theorem Goes.mem {L : List Ln} {t u v : Rat} {row row' : List Nat} {es : List (Tri Rat Nat Nat)} {n : Nat} (g : Goes L t u row es v row') (hp : row.Perm (List.range n)) : ∀ x ∈ es, x.b < n ∧ x.c < n := by
  induction g with
  | stop _ => exact fun x h => nomatch h
  | step h hc g ih =>
    have hlt := fun j (hj : j < _) => List.mem_range.mp (hp.mem_iff.mp (row_mem hj))
    intro x hx
    rcases List.mem_cons.mp hx with rfl | hx
    · exact ⟨hlt _ (by have := h.lt; omega), hlt _ h.lt⟩
    · exact ih ((swap_perm h.lt).trans hp) x hx
theorem Goes.lenW {L : List Ln} {t u v : Rat} {row row' : List Nat} {es : List (Tri Rat Nat Nat)} (g : Goes L t u row es v row') (hp : row.Perm (List.range L.length)) (hI : Inv L u row) : es.length ≤ muW L u row := by
  induction g with
  | stop _ => exact Nat.zero_le _
  | step h hc g ih =>
    have := ih ((swap_perm h.lt).trans hp) (hI.swap (perm_nd hp) h)
    have := muW_ltP hI hp h
    rw [List.length_cons]
    omega
theorem Goes.len {L : List Ln} {t u v : Rat} {row row' : List Nat} {es : List (Tri Rat Nat Nat)} (g : Goes L t u row es v row') (hp : row.Perm (List.range L.length)) (hI : Inv L u row) (hl : L.length ≤ 20) : es.length ≤ 400 := by
  have h1 := g.lenW hp hI
  have h2 := muW_le L u row
  have h3 : L.length * L.length ≤ 20 * 20 := Nat.mul_le_mul hl hl
  omega
theorem quo_top {t g : Int} (hg : 1 ≤ g) (ht : t ≤ 220) : (t : Rat) / (g : Rat) ≤ ((220 : Int) : Rat) := by
  have hg' : (0 : Rat) < (g : Rat) := by exact_mod_cast (by omega : 0 < g)
  refine Rat.not_lt.mp fun z => ?_
  rw [Rat.lt_div_iff hg'] at z
  have : (220 : Int) * g < t := by exact_mod_cast z
  omega
end DL
/-! How many are exchanged on a way; logs of small numbers. -/
namespace DL
open PySem PySem.Spec PyProof.Rows L2
end DL
/-! The leader that a told row of leaders tells at a time. -/
namespace DL
open PySem PySem.Spec PyProof.Rows L2
def LeR (x : Rat) (R : Fo) : Prop := ∀ y ∈ R, ∀ s, y.2 = some s → s ≤ x
theorem LeR.put {x t : Rat} {R : Fo} {r : Option Int} (h : LeR x R) (ht : t ≤ x) : LeR x (putR R r t) := by
  unfold putR
  split
  · exact h
  · intro y hy s e
    rcases List.mem_append.mp hy with hy | hy
    · exact h y hy s e
    · rw [List.mem_singleton.mp hy] at e; cases e; exact ht
end DL
/-! Waiting lists beside a sorted list of their pairs. -/
namespace DL
open PySem PySem.Spec PyProof.Rows L2
abbrev PwK (K : List Wp) : Prop := K.Pairwise prLt
/-- a waiting list at w, d; the sorted list of its pairs at k -/
structure OneW (kW : Kls) (S : Sto) (w d k : Addr) (sh : Sh) (ks : List PK) (K : List Wp) : Prop where
  wt : WtAt kW S w d sh ks
  ok : WtOk sh ks
  hk : S k = some (.lst (K.map eWp))
  pm : K.Perm sh.toL
  pw : PwK K
section
variable {kW : Kls} {S S' : Sto} {w d k : Addr} {sh sh' : Sh} {ks ks' : List PK} {K : List Wp}
theorem OneW.sub (h : OneW kW S w d k sh ks K) (s : Sub S S') : OneW kW S' w d k sh ks K := { h with wt := h.wt.sub s, hk := s _ _ h.hk }
theorem OneW.len (h : OneW kW S w d k sh ks K) : sh.size = K.length := by rw [h.pm.length_eq, Sh.toL_len]
theorem OneW.mem (h : OneW kW S w d k sh ks K) (p : Wp) : p ∈ sh.toL ↔ p ∈ K := (h.pm.mem_iff).symm
theorem OneW.nz (h : OneW kW S w d k sh ks K) : ∀ p ∈ K, Nz 4000 p.1 := fun p hp => h.ok.nz p ((h.mem p).mpr hp)
end
section
variable {kW : Kls} {S S' : Sto} {w d : Addr} {sh : Sh} {ks : List PK}
theorem WtAt.lst (h : WtAt kW S w d sh ks) (fr : Fr2 S S' w d) {b : Addr} {xs : List D} (e : S b = some (.lst xs)) : S' b = some (.lst xs) :=
  fr b _ (st_ne e h.ob fun z => nomatch z) (st_ne e h.hd fun z => nomatch z) e
theorem WtAt.pen (h : WtAt kW S w d sh ks) (fr : Fr2 S S' w d) {a : Addr} {n : Nat} (hp : PenC S a n) : PenC S' a n := let ⟨x, y, z, e, r⟩ := hp; ⟨x, y, z, h.lst fr e, r⟩
theorem WtAt.fr (h : WtAt kW S w d sh ks) {a : Addr} {n : Nat} (fr : Fr S S' a) (hp : PenC S a n) : WtAt kW S' w d sh ks :=
  let ⟨_, _, _, e, _⟩ := hp
  ⟨fr _ _ (st_ne h.ob e fun z => nomatch z) h.ob, fr _ _ (st_ne h.hd e fun z => nomatch z) h.hd⟩
end
end DL
/-! A try whose one clause names a class and keeps no name. -/
namespace DL
open PySem PySem.Spec PyProof.Rows L2
end DL
/-! sorted of pairs of pairs of whole numbers. -/
namespace DL
open PySem PySem.Spec PyProof.Rows L2
def lt2 (a b : Int × Int) : Prop := a.1 < b.1 ∨ (a.1 = b.1 ∧ a.2 < b.2)
def ltP (a b : PK) : Prop := lt2 a.1 b.1 ∨ (a.1 = b.1 ∧ lt2 a.2 b.2)
instance (a b : Int × Int) : Decidable (lt2 a b) := by unfold lt2; infer_instance
instance (a b : PK) : Decidable (ltP a b) := by unfold ltP; infer_instance
/-! the rule -/
end DL
/-! xs.count(x) of data. -/
namespace DL
open PySem PySem.Spec PyProof.Rows L2
/-! ### not among a tuple's things -/
end DL
/-! Ways put one behind the other; what a deed changes in the papers. -/
namespace DL
open PySem PySem.Spec PyProof.Rows L2
theorem Goes.on {L : List Ln} {u m t v : Rat} {row row' : List Nat} {es : List (Tri Rat Nat Nat)} (h : Goes L t u row es v row') (nd : row.Nodup) (hum : u ≤ m) (hl : ∀ j c, j + 1 < row.length → tlW L (row.getD j 0) (row.getD (j + 1) 0) u = some c → m ≤ c) : ∃ v', Goes L t m row es v' row' := by
  cases h with
  | stop h => exact ⟨m, .stop fun j c hj e => h j c hj (by rw [← tl_stay_nb nd hum hl hj]; exact e)⟩
  | step h hc g => exact ⟨_, .step (h.on nd hum hl) hc g⟩
theorem Goes.off {L : List Ln} {u m t v : Rat} {row row' : List Nat} {es : List (Tri Rat Nat Nat)} (h : Goes L t m row es v row') (nd : row.Nodup) (hum : u ≤ m) (hl : ∀ j c, j + 1 < row.length → tlW L (row.getD j 0) (row.getD (j + 1) 0) u = some c → m ≤ c) : ∃ v', Goes L t u row es v' row' := by
  cases h with
  | stop h => exact ⟨u, .stop fun j c hj e => h j c hj (by rw [tl_stay_nb nd hum hl hj]; exact e)⟩
  | step h hc g =>
    refine ⟨_, .step ⟨h.lt, ?_, fun j d hj e => ?_, fun j hj e => ?_⟩ hc g⟩
    · rw [← tl_stay_nb nd hum hl h.lt]; exact h.at_
    · rw [← tl_stay_nb nd hum hl hj] at e; exact h.le j d hj e
    · have := h.lt
      rw [← tl_stay_nb nd hum hl (by omega)] at e; exact h.fst j hj e
/-! ### orders and papers by numbers -/
def AhK (M : Mp) (t : Rat) (x y : Int) : Prop := Ahd (LI M) x.toNat y.toNat t
def nxK (M : Mp) (t : Rat) (x y : Int) : Option Rat := nxt (LI M) x.toNat y.toNat t
def prsI (O : List Int) : List (Int × Int) := O.zip (O.drop 1)
theorem kN_key {M : Mp} {i : Nat} (h : i < M.length) : ∃ k : Nat, kN M i = (k : Int) ∧ k ∈ keysM M := by
  obtain ⟨k, l, e, e1, _⟩ := kN_get h
  exact ⟨k, e1, List.mem_map.mpr ⟨_, List.mem_of_getElem? e, rfl⟩⟩
theorem prsI_map {α : Type} (f : Nat → Int) (O : List Nat) : prsI (O.map f) = (prs O).map fun p => (f p.1, f p.2) := by
  unfold prsI prs
  rw [← List.map_drop, List.zip_map]
  rfl
theorem nxt_idx {M : Mp} (hk : (keysM M).Pairwise (· < ·)) {i j : Nat} {t : Rat} (hi : i < M.length) (hj : j < M.length) : nxt (lnM M) i j t = nxK M t (kN M i) (kN M j) := by
  obtain ⟨a, ea, _⟩ := kN_key hi
  obtain ⟨b, eb, _⟩ := kN_key hj
  unfold nxK nxt
  rw [ea, eb, Int.toNat_natCast, Int.toNat_natCast, ln_idx hk hi ea, ln_idx hk hj eb]
theorem ordM_lt {M : Mp} {t : Rat} {x : Nat} (h : x ∈ ordL (lnM M) t) : x < M.length := by
  have := ((ordL_ok (lnM M) t).mem x).mp h
  rwa [lnM_len] at this
theorem ppM_ids {M : Mp} (hk : (keysM M).Pairwise (· < ·)) (t : Rat) : ppM M t = (prsI (OM M t)).map fun p => (⟨p.1, p.2, nxK M t p.1 p.2⟩ : PprI) := by
  unfold ppM pprs OM
  rw [prsI_map (α := Nat), List.map_map, List.map_map]
  refine List.map_congr_left fun p hp => ?_
  have hm := prs_mem hp
  show (⟨kN M p.1, kN M p.2, nxt (lnM M) p.1 p.2 t⟩ : PprI) = _
  rw [nxt_idx hk (ordM_lt hm.1) (ordM_lt hm.2)]
  rfl
theorem OM_pw {M : Mp} (hk : (keysM M).Pairwise (· < ·)) (t : Rat) : (OM M t).Pairwise (AhK M t) := by
  unfold OM
  rw [List.pairwise_map]
  have hp := (ordL_ok (lnM M) t).pw
  refine List.Pairwise.imp_of_mem (fun {a b} ha hb h => ?_) hp
  obtain ⟨x, ex, _⟩ := kN_key (ordM_lt ha)
  obtain ⟨y, ey, _⟩ := kN_key (ordM_lt hb)
  unfold AhK
  rw [ex, ey, Int.toNat_natCast, Int.toNat_natCast]
  have := ahd_idx hk (ordM_lt ha) (ordM_lt hb) ex ey (t := t)
  exact (decide_eq_decide.mp this).mp h
theorem OM_mem {M : Mp} {t : Rat} {x : Int} : x ∈ OM M t ↔ x ∈ KM M := by
  rw [KM_range]
  unfold OM
  rw [List.mem_map, List.mem_map]
  constructor
  · rintro ⟨i, h, e⟩; exact ⟨i, List.mem_range.mpr (ordM_lt h), e⟩
  · rintro ⟨i, h, e⟩; exact ⟨i, ((ordL_ok (lnM M) t).mem i).mpr (by rw [lnM_len]; exact List.mem_range.mp h), e⟩
theorem KM_mem {M : Mp} {x : Int} : x ∈ KM M ↔ ∃ k : Nat, x = (k : Int) ∧ k ∈ keysM M := by
  unfold KM
  rw [List.mem_map]
  exact ⟨fun ⟨k, h, e⟩ => ⟨k, e.symm, h⟩, fun ⟨k, e, h⟩ => ⟨k, h, e.symm⟩⟩
/-- the same lines, but of one runner -/
structure But (M M' : Mp) (r : Nat) : Prop where
  k : (keysM M).Pairwise (· < ·)
  k' : (keysM M').Pairwise (· < ·)
  mem : ∀ x : Nat, x ∈ keysM M' ↔ x ∈ keysM M ∧ x ≠ r
  ln : ∀ x : Nat, x ∈ keysM M' → ln (LI M') x = ln (LI M) x
theorem But.ah {M M' : Mp} {r : Nat} (h : But M M' r) {t : Rat} {x y : Int} (hx : x ∈ KM M') (hy : y ∈ KM M') : AhK M' t x y ↔ AhK M t x y := by
  obtain ⟨a, rfl, ha⟩ := KM_mem.mp hx
  obtain ⟨b, rfl, hb⟩ := KM_mem.mp hy
  unfold AhK Ahd
  rw [Int.toNat_natCast, Int.toNat_natCast, h.ln a ha, h.ln b hb]
theorem But.nx {M M' : Mp} {r : Nat} (h : But M M' r) {t : Rat} {x y : Int} (hx : x ∈ KM M') (hy : y ∈ KM M') : nxK M' t x y = nxK M t x y := by
  obtain ⟨a, rfl, ha⟩ := KM_mem.mp hx
  obtain ⟨b, rfl, hb⟩ := KM_mem.mp hy
  unfold nxK nxt
  rw [Int.toNat_natCast, Int.toNat_natCast, h.ln a ha, h.ln b hb]
theorem But.om {M M' : Mp} {r : Nat} (h : But M M' r) {t : Rat} : OM M' t = (OM M t).filter fun x => decide (x ≠ (r : Int)) := by
  refine pw_ext (R := AhK M t) (fun _ _ a b => ahd_asymm a b) ?_ ((OM_pw h.k t).filter _) fun z => ?_
  · exact List.Pairwise.imp_of_mem (fun {a b} ha hb q => (h.ah (OM_mem.mp ha) (OM_mem.mp hb)).mp q) (OM_pw h.k' t)
  · rw [List.mem_filter, OM_mem, OM_mem, KM_mem, KM_mem, decide_eq_true_iff]
    constructor
    · rintro ⟨k, rfl, hk⟩
      have := (h.mem k).mp hk
      exact ⟨⟨k, rfl, this.1⟩, by have := this.2; omega⟩
    · rintro ⟨⟨k, rfl, hk⟩, n⟩
      exact ⟨k, rfl, (h.mem k).mpr ⟨hk, by omega⟩⟩
theorem prsI_mem {O : List Int} {p : Int × Int} (h : p ∈ prsI O) : p.1 ∈ O ∧ p.2 ∈ O := by
  unfold prsI at h
  have := List.of_mem_zip (show (p.1, p.2) ∈ O.zip (O.drop 1) from h)
  exact ⟨this.1, List.mem_of_mem_drop this.2⟩
theorem prsI_cons (x y : Int) (O : List Int) : prsI (x :: y :: O) = (x, y) :: prsI (y :: O) := rfl
/-- two neighbours stay so when another one goes -/
theorem prsI_filter {r : Int} : ∀ {O : List Int} {a b : Int}, (a, b) ∈ prsI O → a ≠ r → b ≠ r → (a, b) ∈ prsI (O.filter fun x => decide (x ≠ r))
  | [], _, _, h, _, _ => nomatch h
  | [x], _, _, h, _, _ => nomatch h
  | x :: y :: O, a, b, h, ha, hb => by
    rw [prsI_cons] at h
    have key : ∀ z (zs : List Int), (a, b) ∈ prsI zs → (a, b) ∈ prsI (z :: zs) := fun z zs h => by
      cases zs with
      | nil => exact h
      | cons w ws => rw [prsI_cons]; exact List.mem_cons_of_mem _ h
    rcases List.mem_cons.mp h with e | h
    · cases e
      rw [List.filter_cons_of_pos (by simpa using ha), List.filter_cons_of_pos (by simpa using hb), prsI_cons]
      exact List.mem_cons_self
    · have ih := prsI_filter (O := y :: O) h ha hb
      by_cases c : x = r
      · rw [List.filter_cons_of_neg (by simpa using c)]; exact ih
      · rw [List.filter_cons_of_pos (by simpa using c)]; exact key _ _ ih
/-- whether a runner is in a paper -/
def inP (r : Int) (x : PprI) : Bool := decide (x.a = r ∨ x.b = r)
section
variable {M M' : Mp} {r : Nat} {t : Rat}
theorem But.none (h : But M M' r) : ((ppM M t).filter fun x => !decide (x ∈ ppM M' t)).filter (fun x => !inP r x) = [] := by
  refine List.filter_eq_nil_iff.mpr fun x hx hn => ?_
  obtain ⟨h1, h2⟩ := List.mem_filter.mp hx
  rw [ppM_ids h.k] at h1
  obtain ⟨p, hp, rfl⟩ := List.mem_map.mp h1
  simp only [inP, Bool.not_eq_true', decide_eq_false_iff_not, not_or] at hn h2
  have hm := prsI_mem hp
  refine h2 ?_
  rw [ppM_ids h.k']
  have hp' := prsI_filter hp hn.1 hn.2
  rw [← h.om] at hp'
  have hm' := prsI_mem hp'
  refine List.mem_map.mpr ⟨p, hp', ?_⟩
  rw [h.nx (OM_mem.mp hm'.1) (OM_mem.mp hm'.2)]
end
/-! a join, a leaving -/
theorem But.join {M : Mp} {r : Nat} {l : Ln} (hk : (keysM M).Pairwise (· < ·)) (hr : ∀ k ∈ keysM M, k < r) : But (M ++ [(r, l)]) M r where
  k := by
    unfold keysM
    rw [List.map_append]
    refine List.pairwise_append.mpr ⟨hk, List.pairwise_singleton .., fun a ha b hb => ?_⟩
    rw [List.mem_singleton.mp hb]
    exact hr a ha
  k' := hk
  mem := fun x => by
    unfold keysM
    rw [List.map_append, List.mem_append]
    constructor
    · exact fun h => ⟨.inl h, by have := hr x h; omega⟩
    · rintro ⟨h | h, n⟩
      · exact h
      · exact absurd (List.mem_singleton.mp h) n
  ln := fun x hx => by
    have hx' : x ∈ keysM (M ++ [(r, l)]) := by unfold keysM; rw [List.map_append]; exact List.mem_append_left _ hx
    rw [ln_LI hx, ln_LI hx']
    unfold lnI
    rw [mget_app, if_pos hx]
theorem But.leave {M : Mp} {r : Nat} (hk : (keysM M).Pairwise (· < ·)) : But M (mdrop M r) r where
  k := hk
  k' := by rw [keys_mdrop]; exact hk.filter _
  mem := fun x => by rw [keys_mdrop, List.mem_filter, decide_eq_true_iff]
  ln := fun x hx => by
    have h2 := hx
    rw [keys_mdrop, List.mem_filter, decide_eq_true_iff] at h2
    rw [ln_LI hx, ln_LI h2.1]
    unfold lnI
    rw [mget_drop _ _ h2.2]
/-! a turn -/
structure Trn (L L' : List Ln) (t : Rat) (j : Nat) : Prop where
  len : L'.length = L.length
  lnx : ∀ i, i ≠ j → ln L' i = ln L i
  atx : at_ (ln L' j) t = at_ (ln L j) t
theorem Trn.ah {L L' : List Ln} {t : Rat} {j a b : Nat} (h : Trn L L' t j) (u : ∀ i, i < L'.length → i ≠ j → DL.at_ (DL.ln L' i) t ≠ DL.at_ (DL.ln L' j) t) (ha : a < L'.length) (hb : b < L'.length) : Ahd L' a b t ↔ Ahd L a b t := by
  by_cases e : a = b
  · subst e
    exact ⟨fun z => (ahd_irr z).elim, fun z => (ahd_irr z).elim⟩
  by_cases e1 : a = j
  · subst e1
    have h1 := u b hb (fun z => e z.symm)
    have h2 := h.lnx b (fun z => e z.symm)
    have h3 := h.atx
    unfold Ahd
    rw [h2] at h1 ⊢
    rw [h3] at h1 ⊢
    grind
  by_cases e2 : b = j
  · subst e2
    have h1 := u a ha e1
    have h2 := h.lnx a e1
    have h3 := h.atx
    unfold Ahd
    rw [h2] at h1 ⊢
    rw [h3] at h1 ⊢
    grind
  · unfold Ahd
    rw [h.lnx a e1, h.lnx b e2]
theorem Trn.ord {L L' : List Ln} {t : Rat} {j : Nat} (h : Trn L L' t j) (u : ∀ i, i < L'.length → i ≠ j → DL.at_ (DL.ln L' i) t ≠ DL.at_ (DL.ln L' j) t) : ordL L' t = ordL L t := by
  have ho := ordL_ok L t
  refine (IsOrd.eq ⟨?_, fun i => ?_⟩).symm
  · refine List.Pairwise.imp_of_mem (fun {a b} ha hb q => ?_) ho.pw
    have h1 := (ho.mem a).mp ha
    have h2 := (ho.mem b).mp hb
    exact (h.ah u (by rw [h.len]; exact h1) (by rw [h.len]; exact h2)).mpr q
  · rw [ho.mem, h.len]
end DL
/-! The same lines under other numbers, and told so much later. -/
namespace DL
open PySem PySem.Spec PyProof.Rows L2
structure Sim (L L' : List Ln) (π : Nat → Nat) (d : Rat) : Prop where
  len : L'.length = L.length
  lt : ∀ i, i < L.length → π i < L.length
  inj : ∀ i j, i < L.length → j < L.length → π i = π j → i = j
  sur : ∀ j, j < L.length → ∃ i, i < L.length ∧ π i = j
  gp : ∀ i j t, i < L.length → j < L.length → at_ (ln L' (π i)) (t + d) - at_ (ln L' (π j)) (t + d) = at_ (ln L i) t - at_ (ln L j) t
  tie : ∀ i j, i < L.length → j < L.length → i ≠ j → ln L i = ln L j → (π i < π j ↔ i < j)
section
variable {L L' : List Ln} {π : Nat → Nat} {d t : Rat} {i j k : Nat}
theorem Sim.sl (h : Sim L L' π d) (hi : i < L.length) (hj : j < L.length) : (ln L' (π i)).2 - (ln L' (π j)).2 = (ln L i).2 - (ln L j).2 := by
  have h0 := h.gp i j 0 hi hj
  have h1 := h.gp i j 1 hi hj
  unfold at_ at h0 h1
  grind
theorem Sim.ah (h : Sim L L' π d) (hi : i < L.length) (hj : j < L.length) : Ahd L' (π i) (π j) (t + d) ↔ Ahd L i j t := by
  by_cases e : i = j
  · subst e
    exact ⟨fun z => (ahd_irr z).elim, fun z => (ahd_irr z).elim⟩
  have g := h.gp i j t hi hj
  have s := h.sl hi hj
  have k : at_ (ln L i) t = at_ (ln L j) t → (ln L i).2 = (ln L j).2 → (π i < π j ↔ i < j) := fun e1 e2 => h.tie i j hi hj e (by
    refine Prod.ext ?_ e2
    unfold at_ at e1
    rw [e2] at e1
    grind)
  unfold Ahd
  generalize at_ (ln L' (π i)) (t + d) = a at *
  generalize at_ (ln L' (π j)) (t + d) = b at *
  generalize at_ (ln L i) t = a' at *
  generalize at_ (ln L j) t = b' at *
  generalize (ln L' (π i)).2 = c at *
  generalize (ln L' (π j)).2 = e at *
  generalize (ln L i).2 = c' at *
  generalize (ln L j).2 = e' at *
  have p1 : b < a ↔ b' < a' := by constructor <;> intro h <;> grind
  have p2 : a = b ↔ a' = b' := by constructor <;> intro h <;> grind
  have p3 : e < c ↔ e' < c' := by constructor <;> intro h <;> grind
  have p4 : c = e ↔ c' = e' := by constructor <;> intro h <;> grind
  rw [p1, p2, p3, p4]
  constructor
  · rintro (h | ⟨h1, h | ⟨h2, h3⟩⟩)
    · exact .inl h
    · exact .inr ⟨h1, .inl h⟩
    · exact .inr ⟨h1, .inr ⟨h2, (k h1 h2).mp h3⟩⟩
  · rintro (h | ⟨h1, h | ⟨h2, h3⟩⟩)
    · exact .inl h
    · exact .inr ⟨h1, .inl h⟩
    · exact .inr ⟨h1, .inr ⟨h2, (k h1 h2).mpr h3⟩⟩
theorem met_of {l m : Ln} {t : Rat} (n : l.2 ≠ m.2) (h : at_ l t = at_ m t) : met l m = t := by
  have h' := sub_ne n
  unfold at_ at h
  unfold met
  have e : m.1 - l.1 = t * (l.2 - m.2) := by grind
  rw [e]
  grind
theorem Sim.ne (h : Sim L L' π d) (hi : i < L.length) (hj : j < L.length) : (ln L' (π i)).2 ≠ (ln L' (π j)).2 ↔ (ln L i).2 ≠ (ln L j).2 := by
  have := h.sl hi hj
  constructor <;> intro a b <;> apply a <;> grind
theorem Sim.mt (h : Sim L L' π d) (hi : i < L.length) (hj : j < L.length) (n : (ln L i).2 ≠ (ln L j).2) : met (ln L' (π i)) (ln L' (π j)) = met (ln L i) (ln L j) + d := by
  refine met_of ((h.ne hi hj).mpr n) ?_
  have g := h.gp i j (met (ln L i) (ln L j)) hi hj
  have e := at_met n
  rw [e] at g
  grind
theorem Sim.nx (h : Sim L L' π d) (hi : i < L.length) (hj : j < L.length) : nxt L' (π i) (π j) (t + d) = (nxt L i j t).map (· + d) := by
  unfold nxt
  by_cases n : (ln L i).2 ≠ (ln L j).2
  · rw [h.mt hi hj n]
    by_cases c : t < met (ln L i) (ln L j)
    · rw [if_pos ⟨(h.ne hi hj).mpr n, by grind⟩, if_pos ⟨n, c⟩]; rfl
    · rw [if_neg fun z => c (by have := z.2; grind), if_neg fun z => c z.2]; rfl
  · rw [if_neg fun z => n ((h.ne hi hj).mp z.1), if_neg fun z => n z.1]; rfl
theorem ordL_lt {x : Nat} (h : x ∈ ordL L t) : x < L.length := ((ordL_ok L t).mem x).mp h
theorem Sim.ord (h : Sim L L' π d) : ordL L' (t + d) = (ordL L t).map π := by
  have o := ordL_ok L t
  symm
  refine IsOrd.eq ⟨?_, fun i => ?_⟩
  · rw [List.pairwise_map]
    exact List.Pairwise.imp_of_mem (fun {a b} ha hb q => (h.ah (ordL_lt ha) (ordL_lt hb)).mpr q) o.pw
  · rw [h.len, List.mem_map]
    constructor
    · rintro ⟨j, hj, rfl⟩; exact h.lt j (ordL_lt hj)
    · intro hi
      obtain ⟨j, hj, e⟩ := h.sur i hi
      exact ⟨j, (o.mem j).mpr hj, e⟩
/-! rows -/
theorem Sim.top (h : Sim L L' π d) {r : Nat} (k : IsTop L t r) : IsTop L' (t + d) (π r) := by
  refine ⟨by rw [h.len]; exact h.lt r k.1, fun j hj n => ?_⟩
  rw [h.len] at hj
  obtain ⟨i, hi, rfl⟩ := h.sur j hj
  exact (h.ah k.1 hi).mpr (k.2 i hi fun z => n (by rw [z]))
def ltr (π : Nat → Nat) (d : Rat) (x : Nat × Option Rat) : Nat × Option Rat := (π x.1, x.2.map (· + d))
theorem ge_off {s : Option Rat} {t' : Rat} (g : Ge (s.map (· + d)) t') : Ge s (t' - d) := fun v e => by
  subst e
  have := g (v + d) rfl
  grind
theorem Sim.seg (h : Sim L L' π d) : ∀ {rest : Rw} {s : Option Rat} {r : Nat}, Seg (IsTop L) s r rest → Seg (IsTop L') (s.map (· + d)) (π r) (rest.map (ltr π d))
  | [], s, r, k => fun t' g => by
    have := h.top (k (t' - d) (ge_off g))
    rwa [show t' - d + d = t' by grind] at this
  | (r', some u) :: rest, s, r, k => by
    obtain ⟨k1, k2, k3, k4⟩ := k
    refine ⟨fun v e => ?_, fun t' g hu => ?_, fun e => ?_, h.seg k4⟩
    · cases s with
      | none => cases e
      | some w =>
        cases e
        have := k1 w rfl
        grind
    · have := h.top (k2 (t' - d) (ge_off g) (by grind))
      rwa [show t' - d + d = t' by grind] at this
    · obtain ⟨t0, g0, g1⟩ := gt_between k1
      exact k3 (h.inj r r' (k2 t0 g0 g1).1 (Seg.at0 k4).1 e)
  | (_, none) :: _, _, _, k => k.elim
theorem Sim.row (h : Sim L L' π d) {rows : Rw} (k : IsRow L rows) : IsRow L' (rows.map (ltr π d)) := by
  rcases k with ⟨e, rfl⟩ | ⟨n, r, rest, rfl, k⟩
  · refine .inl ⟨?_, rfl⟩
    have := h.len
    rw [e] at this
    exact List.length_eq_zero_iff.mp this
  · refine .inr ⟨fun e => n ?_, π r, _, rfl, h.seg k⟩
    have := h.len
    rw [e] at this
    exact List.length_eq_zero_iff.mp this.symm
/-! covers -/
/-! changes -/
def mapP (π : Nat → Nat) (p : Pr) : Pr := (π p.1, π p.2)
theorem Sim.tm (h : Sim L L' π d) {lo hi : Rat} {p : Pr} (h1 : p.1 < L.length) (h2 : p.2 < L.length) : tmW L' (lo + d) (hi + d) (mapP π p) = (tmW L lo hi p).map (· + d) := by
  unfold tmW mapP
  simp only
  have s := h.sl h1 h2
  by_cases c : (ln L p.1).2 < (ln L p.2).2
  · have n : (ln L p.1).2 ≠ (ln L p.2).2 := fun z => by grind
    have c' : (ln L' (π p.1)).2 < (ln L' (π p.2)).2 := by grind
    rw [h.mt h1 h2 n]
    by_cases e : lo < met (ln L p.1) (ln L p.2) ∧ ¬ hi < met (ln L p.1) (ln L p.2)
    · rw [if_pos ⟨c', by grind, by grind⟩, if_pos ⟨c, e⟩]; rfl
    · rw [if_neg fun z => e ⟨by grind, by grind⟩, if_neg fun z => e z.2]; rfl
  · rw [if_neg fun z => c (by have := z.1; grind), if_neg fun z => c z.1]; rfl
theorem Sim.grp (h : Sim L L' π d) {lo hi : Rat} {C C' : Grp} (g : IsGrp (tmW L lo hi) (allP L.length) C) (h1 : C'.map (·.1) = C.map fun x => x.1 + d) (h2 : ∀ x ∈ C', ∃ y ∈ C, x.1 = y.1 + d ∧ x.2.Perm (y.2.map (mapP π)) ∧ x.2.Pairwise lexP) : IsGrp (tmW L' (lo + d) (hi + d)) (allP L'.length) C' := by
  rw [h.len]
  have tq : ∀ p ∈ allP L.length, tmW L' (lo + d) (hi + d) (mapP π p) = (tmW L lo hi p).map (· + d) := fun p hp => h.tm (allP_mem.mp hp).1 (allP_mem.mp hp).2
  have inP : ∀ p ∈ allP L.length, mapP π p ∈ allP L.length := fun p hp => allP_mem.mpr ⟨h.lt _ (allP_mem.mp hp).1, h.lt _ (allP_mem.mp hp).2⟩
  have exP : ∀ q ∈ allP L.length, ∃ p ∈ allP L.length, mapP π p = q := fun q hq => by
    obtain ⟨a, ha, ea⟩ := h.sur q.1 (allP_mem.mp hq).1
    obtain ⟨b, hb, eb⟩ := h.sur q.2 (allP_mem.mp hq).2
    exact ⟨(a, b), allP_mem.mpr ⟨ha, hb⟩, Prod.ext ea eb⟩
  have inj : ∀ p ∈ allP L.length, ∀ q ∈ allP L.length, mapP π p = mapP π q → p = q := fun p hp q hq e => by
    have hp := allP_mem.mp hp
    have hq := allP_mem.mp hq
    exact Prod.ext (h.inj _ _ hp.1 hq.1 (congrArg Prod.fst e)) (h.inj _ _ hp.2 hq.2 (congrArg Prod.snd e))
  have ms : ∀ {o : Option Rat} {t : Rat}, o.map (· + d) = some (t + d) ↔ o = some t := fun {o t} => by
    cases o with
    | none => simp
    | some x =>
      simp only [Option.map_some, Option.some.injEq]
      constructor <;> intro e <;> grind
  refine grp_mk ?_ (fun t => ?_) fun x hx => ?_
  · rw [h1]
    have := g.inc
    unfold Inc at this ⊢
    rw [List.pairwise_map] at this ⊢
    exact this.imp fun {a b} z => by grind
  · rw [h1, List.mem_map]
    constructor
    · rintro ⟨y, hy, rfl⟩
      obtain ⟨p, hp, e⟩ := (g.mem y.1).mp (List.mem_map.mpr ⟨y, hy, rfl⟩)
      exact ⟨mapP π p, inP p hp, by rw [tq p hp, e]; rfl⟩
    · rintro ⟨q, hq, e⟩
      obtain ⟨p, hp, rfl⟩ := exP q hq
      rw [tq p hp] at e
      obtain ⟨u, e1, rfl⟩ := Option.map_eq_some_iff.mp e
      obtain ⟨y, hy, e2⟩ := List.mem_map.mp ((g.mem u).mpr ⟨p, hp, e1⟩)
      exact ⟨y, hy, by rw [e2]⟩
  · obtain ⟨y, hy, ey, pm, pw⟩ := h2 x hx
    refine sortP_eq (pm.trans ?_) pw ((allP_sorted _).filter _)
    have gy := g.grp y hy
    refine perm_of (nodup_map (by rw [gy]; exact (allP_nd _).filter _) fun a ha b hb e => ?_) ((allP_nd _).filter _) fun z => ?_
    · rw [gy] at ha hb
      exact inj _ (List.mem_filter.mp ha).1 _ (List.mem_filter.mp hb).1 e
    · rw [List.mem_map, List.mem_filter, decide_eq_true_eq]
      constructor
      · rintro ⟨p, hp, rfl⟩
        rw [gy, List.mem_filter, decide_eq_true_eq] at hp
        exact ⟨inP p hp.1, by rw [tq p hp.1, hp.2, ey]; rfl⟩
      · rintro ⟨hz, e⟩
        obtain ⟨p, hp, rfl⟩ := exP z hz
        refine ⟨p, ?_, rfl⟩
        rw [gy, List.mem_filter, decide_eq_true_eq]
        refine ⟨hp, ?_⟩
        rw [tq p hp, ey] at e
        exact ms.mp e
/-! walks -/
end
end DL
namespace DL
open PySem PySem.Spec PyProof.Rows L2
/-! sizes -/
end DL
/-! The same lines in another order. -/
namespace DL
open PySem PySem.Spec PyProof.Rows L2
/-! lines unlike one another -/
/-! one thing taken out of those left -/
end DL
/-! Things that may be deeds. -/
namespace DL
open PySem PySem.Spec PyProof.Rows L2
/-- a thing that may be asked whether it is a small number -/
def ThN (S : Sto) (d : D) : Prop := Th S d ∧ ∀ t b, d = .tup [.int t, .int b] → Sz 9000 b
def smB : D → Bool
  | .tup [.int t, .int b] => isNumD (.tup [.int t, .int b]) && (decide (t.natAbs < 10 ^ 9) && decide (b ≤ 12))
  | _ => false
def whB : D → Bool
  | .int _ => true
  | _ => false
def dB : D → Bool
  | .tup [.str k, t, p] => decide (k = "leave") && smB t && whB p
  | .tup [.str k, t, p, m] => decide (k = "join") && smB t && smB p && smB m || decide (k = "turn") && smB t && whB p && smB m
  | _ => false
def ThD (S : Sto) (x : D) : Prop := (∃ T, tyOf S x = some T) ∧ ∀ ds, x = .tup ds → ∀ y ∈ ds, ThN S y
theorem ThN.sub {S S' : Sto} {d : D} (h : ThN S d) (s : Sub S S') : ThN S' d := ⟨Th.sub s h.1, h.2⟩
theorem ThD.sub {S S' : Sto} {x : D} (h : ThD S x) (s : Sub S S') : ThD S' x :=
  ⟨(Th.sub s (d := x) ⟨h.1, fun a b e => ⟨(h.2 _ e a (by simp)).1.1, (h.2 _ e b (by simp)).1.1⟩⟩).1, fun ds e y hy => (h.2 ds e y hy).sub s⟩
theorem isNum_to {t b : Int} (h : isNumD (.tup [.int t, .int b]) = true) : ∃ q : Rat, .tup [.int t, .int b] = eQ q ∧ q.num = t ∧ (q.den : Int) = b := by
  unfold isNumD at h
  rw [Bool.and_eq_true, decide_eq_true_iff, decide_eq_true_iff] at h
  obtain ⟨h1, h2⟩ := h
  obtain ⟨n, rfl⟩ := Int.eq_ofNat_of_zero_le (Int.le_of_lt h1)
  have hc : t.natAbs.Coprime n := h2
  exact ⟨⟨t, n, by omega, hc⟩, rfl, rfl, rfl⟩
theorem smB_to {d : D} (h : smB d = true) : ∃ q, d = eQ q ∧ SmX q := by
  unfold smB at h
  split at h
  · rw [Bool.and_eq_true, Bool.and_eq_true, decide_eq_true_iff, decide_eq_true_iff] at h
    obtain ⟨h1, h2, h3⟩ := h
    obtain ⟨q, e, e1, e2⟩ := isNum_to h1
    exact ⟨q, e, by rw [e1]; exact h2, by omega⟩
  · cases h
theorem smB_eQ {q : Rat} (h : SmX q) : smB (eQ q) = true := by
  show (isNumD (eQ q) && (decide (q.num.natAbs < 10 ^ 9) && decide ((q.den : Int) ≤ 12))) = true
  rw [isNum_eQ, decide_eq_true h.1, decide_eq_true (by have := h.2; omega)]
  rfl
theorem smB_not {d : D} (h : isNumD d = false) : smB d = false := by
  unfold smB
  split
  · rw [h]; rfl
  · rfl
theorem whB_to {d : D} (h : whB d = true) : ∃ i, d = .int i := by
  cases d <;> first | exact ⟨_, rfl⟩ | cases h
/-- what may be a deed by its form -/
theorem dB_to {x : D} (h : dB x = true) : (∃ t p m, x = eDd (.join t p m) ∧ SmX t ∧ SmX p ∧ SmX m) ∨ (∃ t r, x = .tup [.str "leave", eQ t, .int r] ∧ SmX t) ∨ ∃ t r m, x = .tup [.str "turn", eQ t, .int r, eQ m] ∧ SmX t ∧ SmX m := by
  unfold dB at h
  split at h
  · rw [Bool.and_eq_true, Bool.and_eq_true, decide_eq_true_iff] at h
    obtain ⟨⟨rfl, h2⟩, h3⟩ := h
    obtain ⟨t, rfl, ht⟩ := smB_to h2
    obtain ⟨r, rfl⟩ := whB_to h3
    exact .inr (.inl ⟨t, r, rfl, ht⟩)
  · rw [Bool.or_eq_true, Bool.and_eq_true, Bool.and_eq_true, Bool.and_eq_true, Bool.and_eq_true, Bool.and_eq_true, Bool.and_eq_true, decide_eq_true_iff, decide_eq_true_iff] at h
    rcases h with ⟨⟨⟨rfl, h2⟩, h3⟩, h4⟩ | ⟨⟨⟨rfl, h2⟩, h3⟩, h4⟩
    · obtain ⟨t, rfl, ht⟩ := smB_to h2
      obtain ⟨p, rfl, hp⟩ := smB_to h3
      obtain ⟨m, rfl, hm⟩ := smB_to h4
      exact .inl ⟨t, p, m, rfl, ht, hp, hm⟩
    · obtain ⟨t, rfl, ht⟩ := smB_to h2
      obtain ⟨r, rfl⟩ := whB_to h3
      obtain ⟨m, rfl, hm⟩ := smB_to h4
      exact .inr (.inr ⟨t, r, m, rfl, ht, hm⟩)
  · cases h
theorem dB_eDd {d : Dd} (h : SmXD d) : dB (eDd d) = true := by
  cases d with
  | join t p m =>
    show (decide (("join" : Str) = "join") && smB (eQ t) && smB (eQ p) && smB (eQ m) || _) = true
    rw [smB_eQ h.1, smB_eQ h.2.1, smB_eQ h.2.2, decide_eq_true rfl]
    rfl
  | leave t r =>
    show (decide (("leave" : Str) = "leave") && smB (eQ t) && true) = true
    rw [smB_eQ h, decide_eq_true rfl]
    rfl
  | turn t r m =>
    show (decide (("turn" : Str) = "join") && smB (eQ t) && smB (.int (r : Int)) && smB (eQ m) || decide (("turn" : Str) = "turn") && smB (eQ t) && whB (.int (r : Int)) && smB (eQ m)) = true
    rw [smB_eQ h.1, smB_eQ h.2, decide_eq_true (show ("turn" : Str) = "turn" from rfl)]
    simp [whB]
theorem thn_eQ {S : Sto} {q : Rat} (h : SmX q) : ThN S (eQ q) := ⟨th_ok rfl, fun t b e => by cases e; exact Sz.lit (by have := h.2; omega)⟩
theorem thn_flat {S : Sto} {d : D} (h : flatD d = true) (n : ∀ ds, d ≠ .tup ds) : ThN S d := ⟨⟨flat_ty h, fun x y e => absurd e (n _)⟩, fun t b e => absurd e (n _)⟩
theorem thd_eDd {S : Sto} {d : Dd} (h : SmXD d) : ThD S (eDd d) := by
  refine ⟨by cases d <;> exact ⟨_, rfl⟩, fun ds e y hy => ?_⟩
  cases d with
  | join t p m =>
    cases e
    simp only [List.mem_cons, List.not_mem_nil, or_false] at hy
    rcases hy with rfl | rfl | rfl | rfl
    · exact thn_flat rfl fun _ z => by cases z
    · exact thn_eQ h.1
    · exact thn_eQ h.2.1
    · exact thn_eQ h.2.2
  | leave t r =>
    cases e
    simp only [List.mem_cons, List.not_mem_nil, or_false] at hy
    rcases hy with rfl | rfl | rfl
    · exact thn_flat rfl fun _ z => by cases z
    · exact thn_eQ h
    · exact thn_flat rfl fun _ z => by cases z
  | turn t r m =>
    cases e
    simp only [List.mem_cons, List.not_mem_nil, or_false] at hy
    rcases hy with rfl | rfl | rfl | rfl
    · exact thn_flat rfl fun _ z => by cases z
    · exact thn_eQ h.1
    · exact thn_flat rfl fun _ z => by cases z
    · exact thn_eQ h.2
theorem eQ_inj' {a b : Rat} (e : eQ a = eQ b) : a = b := by
  have e := D.tup.inj e
  have e1 := (List.cons.inj e).1
  have e2 := (List.cons.inj (List.cons.inj e).2).1
  have h1 : a.num = b.num := D.int.inj e1
  have h2 : (a.den : Int) = (b.den : Int) := D.int.inj e2
  exact Rat.ext h1 (by omega)
theorem eDd_join_inv {d : Dd} {t p m : Rat} (e : eDd d = eDd (.join t p m)) : d = .join t p m := by
  cases d with
  | join t' p' m' =>
    have e := (List.cons.inj (D.tup.inj e)).2
    obtain ⟨e1, e⟩ := List.cons.inj e
    obtain ⟨e2, e⟩ := List.cons.inj e
    obtain ⟨e3, _⟩ := List.cons.inj e
    rw [eQ_inj' e1, eQ_inj' e2, eQ_inj' e3]
  | leave t' r =>
    have := congrArg List.length (D.tup.inj e)
    simp at this
  | turn t' r m' =>
    have := D.str.inj (List.cons.inj (D.tup.inj e)).1
    exact absurd this (by decide +kernel)
theorem eDd_leave_inv {d : Dd} {t : Rat} {r : Int} (e : eDd d = .tup [.str "leave", eQ t, .int r]) : ∃ k : Nat, r = (k : Int) ∧ d = .leave t k := by
  cases d with
  | join t' p' m' =>
    have := congrArg List.length (D.tup.inj e)
    simp at this
  | leave t' k =>
    have e := (List.cons.inj (D.tup.inj e)).2
    obtain ⟨e1, e⟩ := List.cons.inj e
    obtain ⟨e2, _⟩ := List.cons.inj e
    exact ⟨k, (D.int.inj e2).symm, by rw [eQ_inj' e1]⟩
  | turn t' r m' =>
    have := congrArg List.length (D.tup.inj e)
    simp at this
theorem eDd_turn_inv {d : Dd} {t m : Rat} {r : Int} (e : eDd d = .tup [.str "turn", eQ t, .int r, eQ m]) : ∃ k : Nat, r = (k : Int) ∧ d = .turn t k m := by
  cases d with
  | join t' p' m' =>
    have := D.str.inj (List.cons.inj (D.tup.inj e)).1
    exact absurd this (by decide +kernel)
  | leave t' k =>
    have := congrArg List.length (D.tup.inj e)
    simp at this
  | turn t' k m' =>
    have e := (List.cons.inj (D.tup.inj e)).2
    obtain ⟨e1, e⟩ := List.cons.inj e
    obtain ⟨e2, e⟩ := List.cons.inj e
    obtain ⟨e3, _⟩ := List.cons.inj e
    exact ⟨k, (D.int.inj e2).symm, by rw [eQ_inj' e1, eQ_inj' e3]⟩
section
variable {S : Sto}
def BadX (E : List Dd) (x : D) : Prop := ¬ ∃ d, x = eDd d ∧ LogX (E ++ [d])
theorem bad_of {E : List Dd} {x : D} (h : dB x = false) : BadX E x := fun ⟨d, e, hl⟩ => by
  rw [e, dB_eDd (hl.ok E d [] rfl).1] at h
  cases h
theorem bad_leave {E : List Dd} {t : Rat} {r : Int} (h : r ∉ KM (runM E).1) : BadX E (.tup [.str "leave", eQ t, .int r]) := fun ⟨d, e, hl⟩ => by
  obtain ⟨k, rfl, rfl⟩ := eDd_leave_inv e.symm
  exact h (KM_mem.mpr ⟨k, rfl, (hl.ok E _ [] rfl).2.1⟩)
theorem bad_turn {E : List Dd} {t m : Rat} {r : Int} (h : r ∉ KM (runM E).1) : BadX E (.tup [.str "turn", eQ t, .int r, eQ m]) := fun ⟨d, e, hl⟩ => by
  obtain ⟨k, rfl, rfl⟩ := eDd_turn_inv e.symm
  exact h (KM_mem.mpr ⟨k, rfl, (hl.ok E _ [] rfl).2.1⟩)
end
theorem ThD.wr {S S' : Sto} {x : D} (h : ThD S x) (e : ∀ d, tyOf S' d = tyOf S d) : ThD S' x := by
  unfold ThD ThN Th at *
  simpa only [e] using h
end DL
/-! Things that are alike, lists within lists. -/
namespace DL
open PySem PySem.Spec PyProof.Rows L2
section
variable {S : Sto} {Q : VK2} {x y : D} {n : Nat} {a b : Addr} {xs ys : List D}
/-- two things that stand for the same data -/
def Same (S : Sto) (n : Nat) (x y : D) : Prop := ∃ p, Py S x p ∧ Py S y p ∧ p.canLay0 = true ∧ p.depth ≤ n ∧ PyData.eqv p p = true
theorem Same.le {m : Nat} (h : Same S n x y) (k : n ≤ m) : Same S m x y := let ⟨p, h1, h2, h3, h4, h5⟩ := h; ⟨p, h1, h2, h3, Nat.le_trans h4 k, h5⟩
end
/-- what a race says of itself -/
def StS (S : Sto) (a s : Addr) (D : List Dd) (now : Option Rat) (G C : List PprI) : Prop := ∃ o p l g c, S s = some (.lst [eO now, .ref o, .ref p, .ref l, .tup [.ref g, .ref c]]) ∧ S o = some (.lst ((now.elim [] fun u => OM (MT D u) u).map DL.D.int)) ∧ S p = some (.lst ((now.elim [] fun u => ppM (MT D u) u).map eI3)) ∧ S l = some (.lst (D.map eDd)) ∧ S g = some (.lst (G.map eI3)) ∧ S c = some (.lst (C.map eI3)) ∧ s ≠ a ∧ o ≠ a ∧ p ≠ a ∧ l ≠ a ∧ g ≠ a ∧ c ≠ a
section
variable {S S' : Sto} {a s t : Addr} {D : List Dd} {now : Option Rat} {G C : List PprI}
theorem StS.fr (h : StS S a s D now G C) (f : Fr S S' a) : StS S' a s D now G C := by
  obtain ⟨o, p, l, g, c, h0, h1, h2, h3, h4, h5, n0, n1, n2, n3, n4, n5⟩ := h
  exact ⟨o, p, l, g, c, f _ _ n0 h0, f _ _ n1 h1, f _ _ n2 h2, f _ _ n3 h3, f _ _ n4 h4, f _ _ n5 h5, n0, n1, n2, n3, n4, n5⟩
theorem StS.sub (h : StS S a s D now G C) (f : Sub S S') : StS S' a s D now G C := h.fr fun b x _ e => f b x e
end
end DL
/-! upper; replace of the first sign alone, within a list behind a join (a token must be out). -/
namespace DL
open PySem PySem.Spec PyProof.Rows L2
end DL
/-! Texts that write no log or no book. -/
namespace DL
open PySem PySem.Spec PyProof.Rows L2
open TL (spl)
end DL
/-! Lines that write no row. -/
namespace DL
open PySem PySem.Spec PyProof.Rows L2
open TL (spl joinL spl_join)
/-- a row that is well written -/
def GoodR (b : Bool) (r : RwT) : Prop := (b = true ∧ ∃ d, fewD d ∧ r = rwD d) ∨ (b = false ∧ ∃ x, BROk x ∧ r = rwB x)
theorem GoodR.ok {b : Bool} {r : RwT} (h : GoodR b r) : RwOk r ∧ r.word ≠ [] := by
  rcases h with ⟨_, d, h, rfl⟩ | ⟨_, x, h, rfl⟩
  · exact rwD_ok h
  · exact rwB_ok h
end DL
/-! What is heard of texts. -/
namespace DL
open PySem PySem.Spec PyProof.Rows L2
open TL (spl joinL spl_join)
theorem eDd_inj {a b : Dd} (e : eDd a = eDd b) : a = b := by
  cases b with
  | join t p m => exact eDd_join_inv e
  | leave t k =>
    obtain ⟨k', e1, e2⟩ := eDd_leave_inv e
    rw [e2, show k' = k by omega]
  | turn t k m =>
    cases a with
    | join t' p' m' => exact absurd (D.str.inj (List.cons.inj (D.tup.inj e)).1) (by decide +kernel)
    | leave t' r => have := congrArg List.length (D.tup.inj e); simp at this
    | turn t' r m' =>
      have e := (List.cons.inj (D.tup.inj e)).2
      obtain ⟨e1, e⟩ := List.cons.inj e
      obtain ⟨e2, e⟩ := List.cons.inj e
      obtain ⟨e3, _⟩ := List.cons.inj e
      rw [eQ_inj' e1, eQ_inj' e3, show r = k by have := D.int.inj e2; omega]
theorem bad_not {P : List Dd} {d : Dd} (h : ¬ LogX (P ++ [d])) : BadX P (eDd d) := fun ⟨d', e, hl⟩ => h (by rw [eDd_inj e]; exact hl)
theorem LogX.keys {P : List Dd} (h : LogX P) : ∀ k ∈ keysM (runM P).1, k < 40 := fun k hk => by
  have h1 := (keyOk_run P).2 k hk
  have k2 : ∀ D : List Dd, (runM D).2 ≤ D.length := snoc_ind (Nat.le_refl _) fun D d ih => by
    rw [runM_snoc, List.length_append, List.length_singleton]
    cases d <;> simp only [stepM] <;> omega
  have := k2 P
  have := h.len
  omega
end DL
/-! The law's own def, run where nothing else is being shown: what repr leans on. -/
namespace DL
open PySem PySem.Spec PyProof.Rows L2
section
variable {P : Program} {w : World} {K : PySem.W.Frag} {mg : Str → Option Value} {base : Heap}
/-- a def of the text, run in a given surrounding -/
theorem run_in {x : Str} {st : Stmt} {f : Addr} {fd : FuncData} {N ps : List Str} {A : Around} {outer : List Env} {s : Shared} {H : Hp} {args : Args} {us : List Value} {vs : List V} {Q : VK} {E : XK}
    (F : Fun K x x st f fd) (S : FnScope N ps (defScope st)) (hd : A.handled = none) (hp : A.depth < recursionLimit) (e0 : Env0 P w K mg base A outer s H) (hb : BindsTo s fd args (ps.zip us)) (r : Vals vs us) (hl : vs.length = ps.length)
    (body : ∀ cdv : Value, ∃ t, PSs (cxOf CX0 P w K mg base N x (defScope st) f cdv A outer s H E).nox (defBody st) t ∧ t { nx := fun _ H' => Q .non H', rt := Q } (start N vs) H) :
    codeAny (model P w) A (.call (.ref f) args) (CR CX0 outer P w H s Q E) s := by
  obtain ⟨_, _, _, _, _, _, cdv, _, _, rfl, lk, cd⟩ := F.ex
  obtain ⟨t, ht, q⟩ := body cdv
  have hK : K.In s.heap := e0.mod.kin.keeps fun b o e => (e0.bs b o e).1
  have hL : s.heap.NoLimit := e0.mod.nolimit.keeps fun b o e => (e0.bs b o e).1
  refine codeAny_call_function hp (hK _ _ lk) rfl S.co S.gen rfl (PySem.W.codeRec_of hK cd) (hb _ _ _ _ (wpAny_newFunctionEnv_cells S.kind (fun y hy => ?_) fun env he s1 ic => ?_))
  · rcases S.par y.1 (List.of_mem_zip (show (y.1, y.2) ∈ ps.zip us from hy)).1 with z | z
    · exact .inl z
    · exact .inr ⟨z, PySem.W.cellsFrom_some _ _ _ (.inl z)⟩
  subst he
  refine ⟨hL.keeps ic.toInCall.keep, codeAny_func (wpAny_mono (ht.nox.run [] s1 (start N vs) H _ (inv_start S hd e0 hl r ic) q) (fun fl s' z => ?_) fun _ _ z => z)⟩
  cases fl with
  | next =>
    obtain ⟨_, H', J, z⟩ := z
    exact ⟨.non, H', J.os, J.bare, J.base, J.hok, rfl, z⟩
  | ret u =>
    obtain ⟨v, _, H', J, rv, z⟩ := z
    exact ⟨v, H', J.os, J.bare, J.base, J.hok, rv, z⟩
  | brk => exact z.elim (fun _ z => z.elim fun _ z => z.2.elim)
  | cont => exact z.elim (fun _ z => z.elim fun _ z => z.2.elim)
/-- what is tracked where the law begins: the script, unless it is one of the module's own things -/
def scriptH (K : PySem.W.Frag) (a : Addr) (so : Obj) (ns : List Int) : Hp := fun b => if b = a ∧ K.lookup a = none then some (.frz so (.lst (ns.map V.int))) else none
theorem scriptH_some {K : PySem.W.Frag} {a b : Addr} {so : Obj} {ns : List Int} {u : HO} (h : scriptH K a so ns b = some u) : b = a ∧ K.lookup a = none ∧ u = .frz so (.lst (ns.map V.int)) := by
  unfold scriptH at h
  split at h
  · next c => exact ⟨c.1, c.2, (Option.some.inj h).symm⟩
  · cases h
/-- the law's def called by the claim, from what its run shows -/
theorem top_call {mb : Str → Option Value} {fa a : Addr} {s₁ : Shared} {vs : List Value} {ns : List Int}
    (KX : K.In s₁.heap) (hg : s₁.heap.Ns mainGlobals mg) (hb : s₁.heap.Ns builtinsNs mb) (hbb : ∀ x : Str, x ≠ "__name__" → mb x = bootBuiltins x) (hlim : s₁.heap.NoLimit) (hgn : s₁.gens = #[])
    (ha : s₁.heap.get? a = some { cls := .type "list", data := .seq vs.toArray }) (hi : IntsAre vs ns) (hl : ns.length ≤ sizeLine)
    (run : ∀ (base : Heap) (H : Hp), Env0 P w K mg base callerA [] s₁ H → Only H → SqL K H a (ns.map V.int) → codeAny (model P w) callerA (.call (.ref fa) ⟨[.ref a], []⟩) (CR CX0 [] P w H s₁ (fun v _ => v = .bl true) fun _ _ _ => False) s₁) :
    codeAny (model P w) callerA (.call (.ref fa) ⟨[.ref a], []⟩) (fun r s' => r = .ok (.ret (.bool true)) ∧ OldK s₁.heap s'.heap ∧ s'.os = s₁.os ∧ AllBare s'.gens) s₁ := by
  have hv := vals_ints hi
  let so : Obj := { cls := .type "list", data := .seq vs.toArray }
  let H := scriptH K a so ns
  -- nothing of the module is tracked, and no table of names
  have own : ∀ b o, K.lookup b = some o → H b = none := fun b o e => by
    cases q : H b with
    | none => rfl
    | some u =>
      obtain ⟨rfl, n, _⟩ := scriptH_some q
      rw [n] at e; cases e
  have tab : ∀ {b : Addr} {o : Obj} {es : Array DictEntry} {ep : Nat}, s₁.heap.get? b = some o → o.data = .dict es ep → H b = none := fun {b o es ep} e d => by
    cases q : H b with
    | none => rfl
    | some u =>
      obtain ⟨rfl, _⟩ := scriptH_some q
      rw [ha] at e
      cases e
      cases d
  have look : ∀ {b : Addr} {m : Str → Option Value}, s₁.heap.Ns b m → (hidT s₁.heap H).Ns b m := fun ⟨o, es, ep, e, d, r⟩ => ⟨o, es, ep, hidT_get e (tab e d), d, r⟩
  have hin : K.In (hidT s₁.heap H) := fun b o e => hidT_get (KX b o e) (own b o e)
  have ok : HOk P w H s₁.heap := fun b u q => by
    obtain ⟨rfl, _, rfl⟩ := scriptH_some q
    exact ⟨ha, by rw [List.length_map]; exact hl, vs, _, hv, ha⟩
  have only : Only H := fun b => by
    cases q : H b with
    | none => exact .inl rfl
    | some u =>
      obtain ⟨_, _, rfl⟩ := scriptH_some q
      exact .inr ⟨_, _, rfl⟩
  have sq : SqL K H a (ns.map V.int) := by
    cases q : K.lookup a with
    | some o =>
      have e := KX a o q
      rw [ha] at e
      cases e
      exact .inr ⟨_, vs.toArray, _, q, rfl, rfl, rfl, by rw [List.size_toArray, hi.length]; exact hl, by simpa using hv⟩
    | none => exact .inl (.inr ⟨so, if_pos ⟨rfl, q⟩⟩)
  have env : Env0 P w K mg (hidT s₁.heap H) callerA [] s₁ H :=
    { frames := rfl
      mod := ⟨hin, look hg, ⟨mb, look hb, hbb⟩, hlim.elim fun mc z => ⟨mc, look z.1, z.2⟩⟩
      bs := fun _ _ e => of_hidT e
      bsz := Nat.le_of_eq (hidT_size _ _)
      funs := trivial
      frf := fun _ hb => nomatch hb
      hok := ok
      bare := .of_eq hgn }
  refine codeAny_mono (run _ H env only sq) fun r s' z => ?_
  cases r with
  | error e => exact False.elim z
  | ok fl =>
    cases fl with
    | ret u =>
      obtain ⟨v, H', os, bare, un, ok', rv, rfl⟩ := z
      have eu : u = Value.bool true := rv
      refine ⟨by rw [eu], OldK.of_keep fun b o e => ?_, os, bare⟩
      cases q : H b with
      | none => exact un.keep b o e q (fun z => nomatch z) (fun z => nomatch z)
      | some u =>
        obtain ⟨rfl, _, rfl⟩ := scriptH_some q
        obtain ⟨e2, _⟩ := ok' b _ (un.frzs b _ _ q)
        rw [ha] at e
        cases e
        exact e2
    | next => exact False.elim z
    | brk => exact False.elim z
    | cont => exact False.elim z
end
end DL
/-! repr of data, where nothing else is being shown. -/
namespace DL
open PySem PySem.Spec PyProof.Rows L2
mutual
/-- no lists, no dicts -/
def NL : PyData → Bool
  | .none => true
  | .bool _ => true
  | .int _ => true
  | .str _ => true
  | .tuple ds => NLs ds
  | .list _ => false
  | .dict _ => false
def NLs : List PyData → Bool
  | [] => true
  | d :: ds => NL d && NLs ds
end
section
variable {X : Cx} {pins : List (Addr × Obj)} {σ : L2.St} {H : Hp} {s : Shared}
mutual
theorem nl_reads (I : L2.Inv X pins σ H s) : ∀ (d : PyData) (v : V) (u : Value), Dp X.K H v d → RelV v u → NL d = true → Reads s.heap u d []
  | .none, _, _, h, r, _ => by cases h; cases r; exact .none
  | .bool b, _, _, h, r, _ => by cases h; cases r; exact .bool b
  | .int i, _, _, h, r, _ => by cases h; obtain ⟨t, rfl⟩ := r; exact .int i t
  | .str x, _, _, h, r, _ => by cases h; obtain ⟨t, rfl⟩ := r; exact .str x t
  | .tuple ds, _, _, h, r, n => by
    cases h with
    | tup hs ha =>
      cases r
      obtain ⟨its, rv, ⟨o, ho, hc, n', hd⟩, _⟩ := I.tuple hs
      unfold NL at n
      exact .tuple ho hc hd (nls_reads I ds _ its ha rv n)
  | .list _, _, _, _, _, n => by unfold NL at n; cases n
  | .dict _, _, _, _, _, n => by unfold NL at n; cases n
theorem nls_reads (I : L2.Inv X pins σ H s) : ∀ (ds : List PyData) (vs : List V) (us : List Value), DpAll X.K H vs ds → Vals vs us → NLs ds = true → ReadsAll s.heap us ds []
  | [], _, _, h, r, _ => by cases h; cases r; exact .nil
  | d :: ds, _, _, h, r, n => by
    unfold NLs at n
    rw [Bool.and_eq_true] at n
    cases h with
    | cons h1 h2 =>
      cases r with
      | cons r1 r2 => exact .cons (nl_reads I d _ _ h1 r1 n.1) (nls_reads I ds _ _ h2 r2 n.2)
end
/-- an empty dict, read -/
theorem dic_reads (I : L2.Inv X pins σ H s) {a : Addr} (h : Rd H a (.dK [])) : Reads s.heap (.ref a) (.dict []) [a] ∧ sysModules ≠ a := by
  obtain ⟨_, n, vs, kv, o, es, ep, ho, hex, hd, _, pr, _⟩ := dk_rd I.hok h
  cases kv
  have e : es.toList = [] := by
    cases es with
    | mk l =>
      cases l with
      | nil => rfl
      | cons x l => cases pr
  refine ⟨.dict (as := []) (bs := []) ho hex.1 hd (by rw [e]; exact .nil) (by rw [e]; exact .nil), fun z => ?_⟩
  rw [← z] at n
  exact absurd n (by decide)
end
/-- a thing in a list that is shown -/
def ShI (K : PySem.W.Frag) (H : Hp) (v : V) (d : PyData) : Prop := (Dp K H v d ∧ NL d = true) ∨ ∃ a, v = .ref a ∧ Rd H a (.dK []) ∧ d = .dict []
/-- what is shown, as a text -/
def ShV (K : PySem.W.Frag) (H : Hp) (x : V) (z : Str) : Prop :=
  (∃ d, Dp K H x d ∧ d.showable = true ∧ d.hasDict = false ∧ d.depth ≤ 40 ∧ d.shown.length ≤ 16000000 ∧ z = d.shown) ∨
  (∃ a, x = .ref a ∧ Rd H a (.dK []) ∧ z = (PyData.dict []).shown) ∨
  ∃ a vs ds, x = .ref a ∧ SqL K H a vs ∧ Paired (ShI K H) vs ds ∧ vs ≠ [] ∧ PyData.showableAll ds = true ∧ PyData.depthAll ds ≤ 40 ∧ (PyData.list ds).shown.length ≤ 16000000 ∧ z = (PyData.list ds).shown
theorem line_ok {n : Nat} (h : n ≤ 16000000) : n ≤ sizeLine := by rw [sizeLine_eq]; omega
section
variable {X : Cx}
theorem shi_reads {pins : List (Addr × Obj)} {σ : L2.St} {H : Hp} {s : Shared} (I : L2.Inv X pins σ H s) : ∀ {vs : List V} {us : List Value} {ds : List PyData}, Paired (ShI X.K H) vs ds → Vals vs us → ∃ as, ReadsAll s.heap us ds as ∧ sysModules ∉ as
  | _, _, _, .nil, .nil => ⟨[], .nil, by simp⟩
  | _, _, _, .cons h hs, .cons r rs => by
    obtain ⟨bs, q, n⟩ := shi_reads I hs rs
    rcases h with ⟨h, hn⟩ | ⟨a, rfl, h, rfl⟩
    · exact ⟨[] ++ bs, .cons (nl_reads I _ _ _ h r hn) q, n⟩
    · cases r
      obtain ⟨q1, n1⟩ := dic_reads I h
      refine ⟨[a] ++ bs, .cons q1 q, fun z => ?_⟩
      rcases List.mem_append.mp z with z | z
      · exact n1 (List.mem_singleton.mp z)
      · exact n z
theorem depth_dic : (PyData.dict []).depth ≤ 5 := by simp [PyData.depth, PyData.depthKv]
/-- repr(e) -/
theorem call_reprS (hg : X.A.guards = some []) (hu : X.A.units + 64 < cLine) : CallR X (.builtin "repr") (fun xs H Q => ∃ x z, xs = [x] ∧ ShV X.K H x z ∧ Q (.str z) H) := by
  intro pins s σ H xs us Q I r h
  obtain ⟨x, z, rfl, h, q⟩ := h
  cases r with
  | cons r r' =>
  cases r'
  rcases h with ⟨d, hd, hs, hn, hdp, hl, rfl⟩ | ⟨a, rfl, hd, rfl⟩ | ⟨a, vs, ds, rfl, hq, hp, hne, hs, hdp, hl, rfl⟩
  · cases hd with
    | non =>
      cases r
      exact PySem.P.repr_of_none ⟨.str "None", H, I.tok _, ⟨_, rfl⟩, q⟩
    | bl b =>
      cases r
      exact PySem.P.repr_of_bool ⟨.str _, H, I.tok _, ⟨_, rfl⟩, q⟩
    | int i =>
      obtain ⟨t, rfl⟩ := r
      exact PySem.P.repr_of_int (by simpa [PyData.showable] using hs) ⟨.str _, H, I.tok _, ⟨_, rfl⟩, q⟩
    | str y =>
      obtain ⟨t, rfl⟩ := r
      exact PySem.P.repr_of_str ⟨.str _, H, I.tok _, ⟨_, rfl⟩, q⟩ (line_ok hl)
    | lst h1 h2 =>
      cases r
      obtain ⟨as, rd⟩ := Dp.reads I _ _ _ (.lst h1 h2) rfl
      exact repr_of_reads' rd hs (PyData.noDict_hsm hn) hg (by omega) (fun _ _ e => e) (fun h' u tk hk => ⟨.str _, H, I.kept hk, ⟨_, rfl⟩, q⟩) (line_ok hl)
    | tup h1 h2 =>
      cases r
      obtain ⟨as, rd⟩ := Dp.reads I _ _ _ (.tup h1 h2) rfl
      exact repr_of_reads' rd hs (PyData.noDict_hsm hn) hg (by omega) (fun _ _ e => e) (fun h' u tk hk => ⟨.str _, H, I.kept hk, ⟨_, rfl⟩, q⟩) (line_ok hl)
  · cases r
    obtain ⟨rd, n⟩ := dic_reads I hd
    have hdd := depth_dic
    exact repr_of_reads' rd (by simp [PyData.showable, PyData.showableKv]) (fun _ z => n (List.mem_singleton.mp z)) hg (by omega) (fun _ _ e => e) (fun h' u tk hk => ⟨.str _, H, I.kept hk, ⟨_, rfl⟩, q⟩) (line_ok (by decide +kernel))
  · cases r
    obtain ⟨its, rv, ⟨o, n, ho, hc, _, hdt⟩, _⟩ := I.list hq
    obtain ⟨as, rd, nsm⟩ := shi_reads I hp rv
    have hz : (listText (PyData.shownAll ds)).length ≤ sizeLine := by
      have := line_ok hl
      simpa only [PyData.shown] using this
    have rl : Reads s.heap (.ref a) (.list ds) (a :: as) := .list ho hc hdt rd
    obtain ⟨bs, hb, hk⟩ := ReprAllK.of_readsAll (prog := X.prog) (w := X.w) rd hs (fun _ => nsm) fun t ht => Nat.le_trans (listText_mem_le ht) hz
    have hna : a ∉ bs := not_mem_of_deeper rl (by simp only [PyData.depth]; omega) hb
    refine call_repr_slot (by omega) ⟨o, ho, hc⟩ PySem.F.slot_list_repr.toG ?_
    cases its with
    | nil =>
      cases rv
      exact absurd rfl hne
    | cons y l =>
      refine call_list_reprK ho hc hdt hna (by simpa using hk.length_eq) (fun i y e => hk.item i y (by simpa using e)) hg (fun b _ => Clear.nil b) (by show X.A.units + 1 + _ < _; omega) (fun _ _ e => e) (fun h' u tk hk' => ⟨_, _, rfl, .str _, H, I.kept hk', ⟨_, rfl⟩, ?_⟩) hz
      have q := q
      simp only [PyData.shown] at q
      exact q
end
/-- .. over the store -/
def ShDI (S : Sto) (x : D) (p : PyData) : Prop := (Py S x p ∧ NL p = true) ∨ ∃ a, x = .ref a ∧ S a = some (.dic []) ∧ p = .dict []
def ShD (S : Sto) (x : D) (z : Str) : Prop :=
  (∃ d, Py S x d ∧ d.showable = true ∧ d.hasDict = false ∧ d.depth ≤ 40 ∧ d.shown.length ≤ 16000000 ∧ z = d.shown) ∨
  (∃ a, x = .ref a ∧ S a = some (.dic []) ∧ z = (PyData.dict []).shown) ∨
  ∃ a xs ds, x = .ref a ∧ S a = some (.lst xs) ∧ Paired (ShDI S) xs ds ∧ xs ≠ [] ∧ PyData.showableAll ds = true ∧ PyData.depthAll ds ≤ 40 ∧ (PyData.list ds).shown.length ≤ 16000000 ∧ z = (PyData.list ds).shown
def rRepr : List D → Sto → VK2 → Prop
  | [x], S, Q => ∃ z, ShD S x z ∧ Q (.str z) S
  | _, _, _ => False
theorem dic_rd {K : PySem.W.Frag} {S : Sto} {H : Hp} (rs : RelS K S H) {a : Addr} (h : S a = some (.dic [])) : Rd H a (.dK []) := by
  obtain ⟨ks, e, kv⟩ := rs a _ h
  cases kv
  exact .inl e
theorem shdi {K : PySem.W.Frag} {S : Sto} {H : Hp} (rs : RelS K S H) : ∀ {xs : List D} {vs : List V} {ds : List PyData}, Paired (ShDI S) xs ds → Dvs K H xs vs → Paired (ShI K H) vs ds
  | _, _, _, .nil, .nil => .nil
  | _, _, _, .cons h hs, .cons r rs' => by
    refine .cons ?_ (shdi rs hs rs')
    rcases h with ⟨h, n⟩ | ⟨a, rfl, h, rfl⟩
    · exact .inl ⟨Py.dp rs _ _ _ h r, n⟩
    · cases r
      exact .inr ⟨a, rfl, dic_rd rs h, rfl⟩
theorem srv_repr {K : PySem.W.Frag} : SrvC K (fun xs H Q => ∃ x z, xs = [x] ∧ ShV K H x z ∧ Q (.str z) H) rRepr := by
  intro ds vs S H Q Q2 rs dvs t k
  unfold rRepr at t
  split at t
  · obtain ⟨z, h, t⟩ := t
    cases dvs with
    | cons h1 h2 =>
      cases h2
      refine ⟨_, z, rfl, ?_, k _ _ _ _ (.refl H) rs (.str _) t⟩
      rcases h with ⟨d, hd, hr⟩ | ⟨a, rfl, hd, rfl⟩ | ⟨a, xs, ps, rfl, hq, hp, hne, hr⟩
      · exact .inl ⟨d, Py.dp rs _ _ _ hd h1, hr⟩
      · cases h1
        exact .inr (.inl ⟨a, rfl, dic_rd rs hd, rfl⟩)
      · cases h1
        obtain ⟨us, e, r⟩ := rs a _ hq
        refine .inr (.inr ⟨a, us, ps, rfl, SqL.of e, shdi rs hp r, fun z => ?_, hr⟩)
        subst z
        cases r
        exact hne rfl
  · exact t.elim
section
variable {X : Cx} {p pos : Pos} {e : Expr} {t : TA2}
theorem boot_repr' : bootBuiltins "repr" = some (.builtin "repr") := by first | exact PySem.boot_repr | kernel_rfl
theorem q_repr {k : Nat} (hg : X.A.guards = some []) (hr : Room k X.A) (hm : X.mg "repr" = none) (hgl : Gl X "repr") (ha : QA X [e] t) (he : starEach [e] X.env = (false, eval e X.env) :: starEach [] X.env := by rfl) : QE X (.Call (.Name "repr" p) [e] [] pos) (uCB rRepr t) :=
  q_callB (call_reprS hg hr.units) srv_repr hm boot_repr' hgl ha (he := he)
end
end DL
/-! A law's own def and its end, where it asks for repr. -/
namespace DL
open PySem PySem.Spec PyProof.Rows L2
/-- the law's def, called by the claim -/
def LawOk (P : Program) (w : World) (K : PySem.W.Frag) (mg : Str → Option Value) (base : Heap) (f : Addr) : Prop :=
  ∀ (H : Hp) (s : Shared) (a : Addr) (ns : List Int), Env0 P w K mg base callerA [] s H → Only H → SqL K H a (ns.map V.int) →
    codeAny (model P w) callerA (.call (.ref f) ⟨[.ref a], []⟩) (CR CX0 [] P w H s (fun v _ => v = .bl true) fun _ _ _ => False) s
section
variable {P : Program} {w : World} {K : PySem.W.Frag} {mg : Str → Option Value} {base : Heap}
theorem law_core {x y : Str} {st : Stmt} {f : Addr} {fd : FuncData} {N : List Str} {k : Nat} {sp : Sp2} (F : Fun K x x st f fd) (S : FnScope N [y] (defScope st))
    (hx : ∀ (kV doc pm : Value) (an : Option Addr) (cdv ct : Value) (s : Shared) (v : Value), BindsTo s (PySem.W.fnOf x x (defArgs st) (defBody st) (defScope st) .none kV doc pm an cdv ct) ⟨[v], []⟩ [(y, v)]) (hr : Room (k + 1) callerA)
    (body : ∀ (cdv : Value) (s : Shared) (H : Hp) (E : XK), Room k (callerA.deeper (envOfC x (defScope st) s.heap.objs.size f cdv)) → (callerA.deeper (envOfC x (defScope st) s.heap.objs.size f cdv)).guards = some [] →
      ∃ t, QSs (cxOf CX0 P w K mg base N x (defScope st) f cdv callerA [] s H E).nox (defBody st) t ∧ ∀ ds S Q E, sp ds S Q E → t { nx := fun _ S' => ∃ S0, Sub S0 S' ∧ Q .non S0, rt := fun d S' => ∃ S0, Sub S0 S' ∧ Q d S0 } (start2 N ds) S)
    (hsp : ∀ (sc : List Int) (S : Sto), sp [.fl (sc.map D.int)] S (fun d _ => d = .bl true) (fun _ _ _ => False)) : LawOk P w K mg base f := by
  intro H s a ns e0 hO hS
  have fz : FrzL K H a (ns.map V.int) := by
    rcases hS with (h | h) | h
    · rcases hO a with z | ⟨_, _, z⟩ <;> rw [z] at h <;> cases h
    · exact .inl h
    · exact .inr h
  have hb : BindsTo s fd ⟨[.ref a], []⟩ ([y].zip [.ref a]) := by
    obtain ⟨oc, od, kV, doc, pm, an, cdv, ct, osl, rfl, lk, hcd⟩ := F.ex
    exact hx kV doc pm an cdv ct s (.ref a)
  refine run_in (N := N) (ps := [y]) (vs := [.ref a]) (us := [.ref a]) F S hr.hd hr.depth e0 hb (.cons rfl .nil) rfl fun cdv => ?_
  obtain ⟨t, ht, rd⟩ := body cdv s H (fun _ _ _ => False) (hr.deeper _) rfl
  refine ⟨_, ht, start2 N [.fl (ns.map D.int)], fun _ => none, _, Rl.start (.cons (.fl fz (Dvs.ints ns)) .nil), (by intro _ _ e; cases e), rd _ _ _ _ (hsp ns _), ?_⟩
  have fin : ∀ (d : D) (v : V) (H' : Hp), Dv K H' d v → (∃ S0 : Sto, d = .bl true ∧ True) → v = V.bl true := fun d v H' dv ⟨_, e, _⟩ => by
    subst e
    cases dv
    rfl
  exact ⟨fun τ S' σ' H' g _ rs' ⟨S0, sub, q⟩ => (by cases q), fun d v S' H' g rs' dv ⟨S0, sub, q⟩ => fin d v H' dv ⟨S0, q, trivial⟩, fun _ _ _ _ _ _ _ z => z.elim, fun _ _ _ _ _ _ _ z => z.elim⟩
theorem lawG_at {fa : Addr} {x y : Str} {st : Stmt} (FA : FunAt K mg x st [y]) (hfa : mg x = some (.ref fa)) (F : ∀ (base : Heap) (f : Addr) (fd : FuncData), Fun K x x st f fd → LawOk P w K mg base f) : ∀ base : Heap, LawOk P w K mg base fa := by
  obtain ⟨f, fd, F1, gm, _⟩ := FA.ex
  have e := hfa.symm.trans gm
  cases e
  exact fun base => F base _ fd F1
end
/-- the goal that the head leaves -/
theorem walk_G {l : PySem.W.OpenLaw} {n : Nat} {q : Program} {loose : List Str} {XP : (Str → Option Value) → Heap → Prop} {YP : World → Heap → Prop} {d : DefRec}
    (hn : l.most = some n) (hn2 : n ≤ sizeLine) (hdf : d.params.defaults = [])
    (F : ∀ (w : World) (mg : Str → Option Value) (fa : Addr) (h : Heap), YP w h → h.Ns mainGlobals mg → mg d.name = some (.ref fa) → ∃ K : PySem.W.Frag, K.In h ∧ ∀ base : Heap, LawOk l.prog w K mg base fa) :
    PySem.W.WalkO q loose XP YP l.row.toRowW d [] (fun f vs => PySem.call f vs) := by
  refine Att.attach_call hn hdf fun w s₀ s₁ mg mb fa o pm cd doc a vs ns G Y _ _ _ hmg hobj hints hlen hg => ?_
  obtain ⟨K, KX, run⟩ := F w mg fa _ Y G.T.g hmg
  exact top_call KX G.T.g G.T.b G.T.builtins G.T.nolimit hg hobj hints (Nat.le_trans hlen hn2) fun base H e hO hS => run base H s₁ a ns e hO hS
end DL
/-! Things that are shown, and how long that is; logs spoilt. -/
namespace DL
open PySem PySem.Spec PyProof.Rows L2
/-! ### what is shown of things -/
/-- data that is shown in few signs -/
structure RpD (p : PyData) (n k : Nat) : Prop where
  sh : p.showable = true
  le : p.leavesShort 70 = true
  hd : p.hasDict = false
  wt : p.weight ≤ n
  dp : p.depth ≤ k
structure RpDs (ps : List PyData) (n k : Nat) : Prop where
  sh : PyData.showableAll ps = true
  le : PyData.leavesShortAll 70 ps = true
  hd : PyData.hasDictAll ps = false
  wt : PyData.weightAll ps ≤ n
  dp : PyData.depthAll ps ≤ k
theorem RpDs.nil {n k : Nat} : RpDs [] n k := ⟨rfl, rfl, rfl, by simp [PyData.weightAll], by simp [PyData.depthAll]⟩
theorem RpDs.cons {p : PyData} {ps : List PyData} {n m k : Nat} (h : RpD p n k) (hs : RpDs ps m k) : RpDs (p :: ps) (n + 1 + m) k where
  sh := by simp only [PyData.showableAll]; rw [h.sh, hs.sh]; rfl
  le := by simp only [PyData.leavesShortAll]; rw [h.le, hs.le]; rfl
  hd := by simp only [PyData.hasDictAll]; rw [h.hd, hs.hd]; rfl
  wt := by simp only [PyData.weightAll]; have := h.wt; have := hs.wt; omega
  dp := by simp only [PyData.depthAll]; have := h.dp; have := hs.dp; omega
theorem RpD.tup {ps : List PyData} {n k : Nat} (h : RpDs ps n k) : RpD (.tuple ps) (n + 1) (k + 1) where
  sh := by simp only [PyData.showable]; exact h.sh
  le := by simp only [PyData.leavesShort]; exact h.le
  hd := by simp only [PyData.hasDict]; exact h.hd
  wt := by simp only [PyData.weight]; have := h.wt; omega
  dp := by simp only [PyData.depth]; have := h.dp; omega
theorem RpD.lst {ps : List PyData} {n k : Nat} (h : RpDs ps n k) : RpD (.list ps) (n + 1) (k + 1) where
  sh := by simp only [PyData.showable]; exact h.sh
  le := by simp only [PyData.leavesShort]; exact h.le
  hd := by simp only [PyData.hasDict]; exact h.hd
  wt := by simp only [PyData.weight]; have := h.wt; omega
  dp := by simp only [PyData.depth]; have := h.dp; omega
theorem RpD.mono {p : PyData} {n k m j : Nat} (h : RpD p n k) (h1 : n ≤ m) (h2 : k ≤ j) : RpD p m j := ⟨h.sh, h.le, h.hd, Nat.le_trans h.wt h1, Nat.le_trans h.dp h2⟩
theorem RpDs.mono {p : List PyData} {n k m j : Nat} (h : RpDs p n k) (h1 : n ≤ m) (h2 : k ≤ j) : RpDs p m j := ⟨h.sh, h.le, h.hd, Nat.le_trans h.wt h1, Nat.le_trans h.dp h2⟩
theorem shown_int_len {i : Int} (h : i.natAbs < 10 ^ 60) : (PyData.shown (.int i)).length ≤ 61 := by
  have e : PyData.shown (.int i) = tS (numI i) := str_int i
  rw [e, tS_len]
  exact numI_len h
theorem RpD.int {i : Int} (h : i.natAbs < 10 ^ 60) : RpD (.int i) 200 2 where
  sh := by simp only [PyData.showable]; exact decide_eq_true (log_lt h)
  le := by simp only [PyData.leavesShort]; exact decide_eq_true (Nat.le_trans (shown_int_len h) (by decide))
  hd := rfl
  wt := by
    simp only [PyData.weight]
    split
    · decide
    · next z =>
      have hi : i.natAbs ≠ 0 := fun e => z (by rw [Int.natAbs_eq_zero.mp e]; rfl)
      have : i.natAbs.log2 < 200 := (Nat.log2_lt hi).mpr (Nat.lt_trans h (by decide))
      omega
  dp := by simp [PyData.depth]
theorem RpD.non : RpD .none 2 2 := ⟨rfl, rfl, rfl, by simp [PyData.weight], by simp [PyData.depth]⟩
theorem RpD.bl {b : Bool} : RpD (.bool b) 2 2 := ⟨rfl, rfl, rfl, by simp [PyData.weight], by simp [PyData.depth]⟩
theorem RpD.str {x : Str} (h : (x.cps.toList.all fun c => decide (c < 128)) = true) (hl : x.cps.size ≤ 10) : RpD (.str x) 12 2 where
  sh := rfl
  le := by
    simp only [PyData.leavesShort]
    rw [List.all_eq_true] at h ⊢
    intro c hc
    have := h c hc
    rw [decide_eq_true_eq] at this ⊢
    exact Nat.lt_trans this (by decide)
  hd := rfl
  wt := by simp only [PyData.weight]; omega
  dp := by simp [PyData.depth]
theorem RpD.q {q : Rat} (h1 : q.num.natAbs < 10 ^ 60) (h2 : q.den < 10 ^ 60) : RpD (pyQ q) 403 3 :=
  (RpD.tup (n := 402) (k := 2) ((RpDs.cons (.int h1) (.cons (.int (by exact h2)) (.nil (n := 0)))).mono (by decide) (by decide)))
/-- a thing whose text is short -/
def Rp (S : Sto) (x : D) (n k : Nat) : Prop := ∃ p, Py S x p ∧ RpD p n k
def Rps (S : Sto) (xs : List D) (n k : Nat) : Prop := ∃ ps, Pys S xs ps ∧ RpDs ps n k
section
variable {S S' : Sto} {x : D} {xs : List D} {n m k j : Nat}
theorem Rp.sub (s : Sub S S') (h : Rp S x n k) : Rp S' x n k := let ⟨p, h1, h2⟩ := h; ⟨p, Py.sub s p x h1, h2⟩
theorem Rps.sub (s : Sub S S') (h : Rps S xs n k) : Rps S' xs n k := let ⟨p, h1, h2⟩ := h; ⟨p, Pys.sub s p xs h1, h2⟩
theorem Rp.mono (h : Rp S x n k) (h1 : n ≤ m) (h2 : k ≤ j) : Rp S x m j := let ⟨p, a, b⟩ := h; ⟨p, a, b.mono h1 h2⟩
theorem Rps.mono (h : Rps S xs n k) (h1 : n ≤ m) (h2 : k ≤ j) : Rps S xs m j := let ⟨p, a, b⟩ := h; ⟨p, a, b.mono h1 h2⟩
theorem Rps.nil : Rps S [] 0 k := ⟨[], .nil, .nil⟩
theorem Rps.cons (h : Rp S x n k) (hs : Rps S xs m k) : Rps S (x :: xs) (n + 1 + m) k := let ⟨p, a, b⟩ := h; let ⟨ps, c, d⟩ := hs; ⟨p :: ps, .cons a c, .cons b d⟩
theorem Rp.tup (h : Rps S xs n k) : Rp S (.tup xs) (n + 1) (k + 1) := let ⟨_, a, b⟩ := h; ⟨_, .tup a, .tup b⟩
theorem Rp.lst {a : Addr} (e : S a = some (.lst xs)) (h : Rps S xs n k) : Rp S (.ref a) (n + 1) (k + 1) := let ⟨_, a, b⟩ := h; ⟨_, .lst e a, .lst b⟩
theorem Rp.non : Rp S .non 2 2 := ⟨_, .non, .non⟩
theorem Rp.bl {b : Bool} : Rp S (.bl b) 2 2 := ⟨_, .bl b, .bl⟩
theorem Rp.int {i : Int} (h : i.natAbs < 10 ^ 60) : Rp S (.int i) 200 2 := ⟨_, .int i, .int h⟩
theorem Rp.str {z : Str} (h : (z.cps.toList.all fun c => decide (c < 128)) = true) (hl : z.cps.size ≤ 10) : Rp S (.str z) 12 2 := ⟨_, .str z, .str h hl⟩
theorem Rp.q {q : Rat} (h : SmX q) : Rp S (eQ q) 403 3 := ⟨_, py_eQ q, .q (Nat.lt_trans h.1 (by decide)) (Nat.lt_of_le_of_lt h.2 (by decide))⟩
theorem Rps.app {ys : List D} : ∀ {xs : List D} {n : Nat}, Rps S xs n k → Rps S ys m k → Rps S (xs ++ ys) (n + m) k := fun {xs} => by
  induction xs with
  | nil => exact fun h hs => hs.mono (by omega) (Nat.le_refl _)
  | cons x xs ih =>
    rintro n ⟨ps, h1, h2⟩ hs
    cases h1 with
    | cons h1 h3 =>
      have e1 : RpD _ _ k := ⟨by have := h2.sh; simp only [PyData.showableAll, Bool.and_eq_true] at this; exact this.1, by have := h2.le; simp only [PyData.leavesShortAll, Bool.and_eq_true] at this; exact this.1, by have := h2.hd; simp only [PyData.hasDictAll, Bool.or_eq_false_iff] at this; exact this.1, Nat.le_refl _, by have := h2.dp; simp only [PyData.depthAll] at this; omega⟩
      have e2 : RpDs _ _ k := ⟨by have := h2.sh; simp only [PyData.showableAll, Bool.and_eq_true] at this; exact this.2, by have := h2.le; simp only [PyData.leavesShortAll, Bool.and_eq_true] at this; exact this.2, by have := h2.hd; simp only [PyData.hasDictAll, Bool.or_eq_false_iff] at this; exact this.2, Nat.le_refl _, by have := h2.dp; simp only [PyData.depthAll] at this; omega⟩
      have w := h2.wt
      simp only [PyData.weightAll] at w
      exact (Rps.cons ⟨_, h1, e1⟩ (ih ⟨_, h3, e2⟩ hs)).mono (by omega) (Nat.le_refl _)
theorem Rp.dd {d : Dd} (h : SmXD d) (hk : ∀ t r m, (d = .leave t r ∨ d = .turn t r m) → r < 10 ^ 60) : Rp S (eDd d) 1300 4 := by
  cases d with
  | join t p m => exact (Rp.tup (Rps.cons ((Rp.str (by decide +kernel) (by decide +kernel)).mono (Nat.le_refl _) (by decide : 2 ≤ 3)) (.cons (.q h.1) (.cons (.q h.2.1) (.cons (.q h.2.2) .nil))))).mono (by decide) (by decide)
  | leave t r => exact (Rp.tup (Rps.cons ((Rp.str (by decide +kernel) (by decide +kernel)).mono (Nat.le_refl _) (by decide : 2 ≤ 3)) (.cons (.q h) (.cons ((Rp.int (i := (r : Int)) (hk t r 0 (.inl rfl))).mono (Nat.le_refl _) (by decide)) .nil)))).mono (by decide) (by decide)
  | turn t r m => exact (Rp.tup (Rps.cons ((Rp.str (by decide +kernel) (by decide +kernel)).mono (Nat.le_refl _) (by decide : 2 ≤ 3)) (.cons (.q h.1) (.cons ((Rp.int (i := (r : Int)) (hk t r m (.inr rfl))).mono (Nat.le_refl _) (by decide)) (.cons (.q h.2) .nil))))).mono (by decide) (by decide)
theorem LogX.keyk {E : List Dd} (h : LogX E) {d : Dd} (hd : d ∈ E) : ∀ t r m, (d = .leave t r ∨ d = .turn t r m) → r < 10 ^ 60 := fun t r m e => by
  obtain ⟨a, b, rfl⟩ := List.append_of_mem hd
  obtain ⟨_, h2, _⟩ := h.ok a d b rfl
  have hk := (LogX.pre h).keys
  rcases e with rfl | rfl
  · exact Nat.lt_trans (hk r h2) (by decide)
  · exact Nat.lt_trans (hk r h2) (by decide)
theorem Rps.log : ∀ {E : List Dd}, (∀ d ∈ E, SmXD d ∧ ∀ t r m, (d = .leave t r ∨ d = .turn t r m) → r < 10 ^ 60) → Rps S (E.map eDd) (E.length * 1301) 4
  | [], _ => Rps.nil.mono (Nat.zero_le _) (Nat.le_refl _)
  | d :: E, h => by
    have h1 := h d (by simp)
    refine (Rps.cons (Rp.dd h1.1 h1.2) (Rps.log fun x hx => h x (by simp [hx]))).mono ?_ (Nat.le_refl _)
    rw [List.length_cons]
    omega
theorem Rps.of {E : List Dd} (h : LogX E) : Rps S (E.map eDd) (E.length * 1301) 4 := Rps.log fun d hd => ⟨h.mem hd, h.keyk hd⟩
theorem Rps.nons : ∀ n : Nat, Rps S (List.replicate n .non) (n * 3) 4
  | 0 => Rps.nil.mono (Nat.zero_le _) (Nat.le_refl _)
  | n + 1 => (Rps.cons (Rp.non.mono (Nat.le_refl _) (by decide : 2 ≤ 4)) (Rps.nons n)).mono (by omega) (Nat.le_refl _)
theorem Rp.shown (h : Rp S x n k) (hn : n ≤ 200000) (hk : k ≤ 40) : ∃ z, ShD S x z := by
  obtain ⟨p, h1, h2⟩ := h
  have := PyData.shown_le 70 (by decide) p h2.le
  have hw := h2.wt
  have : 72 * p.weight ≤ 72 * 200000 := Nat.mul_le_mul_left _ (by omega)
  exact ⟨_, .inl ⟨p, h1, h2.sh, h2.hd, Nat.le_trans h2.dp hk, by omega, rfl⟩⟩
end
/-! ### odd things -/
/-- a thing that is no number -/
structure OddN (S : Sto) (v : D) : Prop where
  th : ThN S v
  no : smB v = false
  rp : Rp S v 1000 4
/-- a thing that is no deed -/
structure OddD (S : Sto) (y : D) : Prop where
  th : ThD S y
  no : ∀ E, LogX E → BadX E y
  rp : Rp S y 6000 8 ∨ ∃ g, y = .ref g ∧ S g = some (.dic [])
/-- a thing that is no runner of any log -/
structure OddR (S : Sto) (r : D) : Prop where
  th : ThN S r
  no : whB r = false ∨ ∃ i, r = .int i ∧ (i < 0 ∨ 40 ≤ i)
  rp : Rp S r 1000 4
section
variable {S S' : Sto} {v y r : D}
theorem OddN.sub (s : Sub S S') (h : OddN S v) : OddN S' v := ⟨h.th.sub s, h.no, h.rp.sub s⟩
theorem OddR.sub (s : Sub S S') (h : OddR S v) : OddR S' v := ⟨h.th.sub s, h.no, h.rp.sub s⟩
theorem OddD.sub (s : Sub S S') (h : OddD S v) : OddD S' v := ⟨h.th.sub s, h.no, h.rp.elim (fun z => .inl (z.sub s)) fun ⟨g, e, z⟩ => .inr ⟨g, e, s _ _ z⟩⟩
def fl0 : D → Bool
  | .non => true
  | .bl _ => true
  | .int i => decide (i.natAbs < 10 ^ 60)
  | .str z => (z.cps.toList.all fun c => decide (c < 128)) && decide (z.cps.size ≤ 10)
  | _ => false
def fl1 : D → Bool
  | .tup ds => ds.all fl0 && decide (ds.length ≤ 3)
  | d => fl0 d
theorem fl0_flat (h : fl0 v = true) : flatD v = true := by
  cases v <;> first | rfl | cases h
theorem fl0_rp (h : fl0 v = true) : Rp S v 200 2 := by
  cases v with
  | non => exact Rp.non.mono (by decide) (Nat.le_refl _)
  | bl b => exact Rp.bl.mono (by decide) (Nat.le_refl _)
  | int i => exact Rp.int (of_decide_eq_true h)
  | str z =>
    have h : ((z.cps.toList.all fun c => decide (c < 128)) && decide (z.cps.size ≤ 10)) = true := h
    rw [Bool.and_eq_true] at h
    exact (Rp.str h.1 (of_decide_eq_true h.2)).mono (by decide) (Nat.le_refl _)
  | _ => cases h
theorem fl0_rps : ∀ {ds : List D}, ds.all fl0 = true → Rps S ds (ds.length * 201) 2
  | [], _ => Rps.nil
  | d :: ds, h => by
    rw [List.all_cons, Bool.and_eq_true] at h
    exact (Rps.cons (fl0_rp h.1) (fl0_rps h.2)).mono (by rw [List.length_cons]; omega) (Nat.le_refl _)
theorem fl1_rp (h : fl1 v = true) : Rp S v 1000 4 := by
  cases v with
  | tup ds =>
    have h : (ds.all fl0 && decide (ds.length ≤ 3)) = true := h
    rw [Bool.and_eq_true] at h
    have := of_decide_eq_true h.2
    exact (Rp.tup (fl0_rps h.1)).mono (by omega) (by decide)
  | non => exact (fl0_rp (v := .non) h).mono (by decide) (by decide)
  | bl b => exact (fl0_rp (v := .bl b) h).mono (by decide) (by decide)
  | int i => exact (fl0_rp (v := .int i) h).mono (by decide) (by decide)
  | str z => exact (fl0_rp (v := .str z) h).mono (by decide) (by decide)
  | _ => cases h
theorem szB60 {b : Int} (h : b.natAbs < 10 ^ 60) : Sz 9000 b := (Sz.lit (m := 200) (Nat.lt_trans h (by decide))).le (by decide)
theorem fl1_th (h : fl1 v = true) : ThN S v := by
  have hin : ∀ ds, v = .tup ds → ∀ x ∈ ds, fl0 x = true := fun ds e x hx => by
    subst e
    have h : (ds.all fl0 && decide (ds.length ≤ 3)) = true := h
    rw [Bool.and_eq_true] at h
    exact List.all_eq_true.mp h.1 x hx
  refine ⟨⟨?_, fun x y e => ⟨flat_ty (fl0_flat (hin _ e x (by simp))), flat_ty (fl0_flat (hin _ e y (by simp)))⟩⟩, fun t b e => ?_⟩
  · cases v <;> first | exact ⟨_, rfl⟩ | cases h
  · have := hin _ e (.int b) (by simp)
    exact szB60 (of_decide_eq_true this)
theorem odd_lit (h : (fl1 v && !smB v) = true) : OddN S v := by
  rw [Bool.and_eq_true, Bool.not_eq_true'] at h
  exact ⟨fl1_th h.1, h.2, fl1_rp h.1⟩
theorem oddr_lit (h : (fl1 v && !whB v) = true) : OddR S v := by
  rw [Bool.and_eq_true, Bool.not_eq_true'] at h
  exact ⟨fl1_th h.1, .inl h.2, fl1_rp h.1⟩
theorem oddr_int {i : Int} (h : i.natAbs < 10 ^ 60) (hi : i < 0 ∨ 40 ≤ i) : OddR S (.int i) := ⟨fl1_th (decide_eq_true h), .inr ⟨i, rfl, hi⟩, fl1_rp (decide_eq_true h)⟩
theorem thn_ref {a : Addr} {xs : List D} (e : S a = some (.lst xs)) : ThN S (.ref a) := ⟨⟨⟨.lst, by show tyO (S a) = _; rw [e]; rfl⟩, fun x y z => (by cases z)⟩, fun t b z => (by cases z)⟩
theorem odd_ref {a : Addr} {xs : List D} (e : S a = some (.lst xs)) (h : xs.all fl0 = true) (hl : xs.length ≤ 3) : OddN S (.ref a) ∧ OddR S (.ref a) := by
  have rp : Rp S (.ref a) 1000 4 := (Rp.lst e (fl0_rps h)).mono (by omega) (by decide)
  exact ⟨⟨thn_ref e, rfl, rp⟩, ⟨thn_ref e, .inl rfl, rp⟩⟩
/-- a tuple that is no deed by its form -/
theorem odd_tup {ds : List D} (h : ∀ z ∈ ds, ThN S z) (hd : dB (.tup ds) = false) (hr : Rps S ds 5999 7) : OddD S (.tup ds) :=
  ⟨⟨⟨_, rfl⟩, fun _ e z hz => by cases e; exact h z hz⟩, fun _ _ => bad_of hd, .inl (Rp.tup hr)⟩
theorem odd_flat (h : fl0 v = true) : OddD S v := by
  refine ⟨⟨flat_ty (fl0_flat h), fun ds e => ?_⟩, fun _ _ => bad_of ?_, .inl ((fl0_rp h).mono (by decide) (by decide))⟩
  · subst e; cases h
  · cases v <;> first | rfl | cases h
theorem odd_lst {a : Addr} {xs : List D} (e : S a = some (.lst xs)) (hr : Rps S xs 5999 7) : OddD S (.ref a) :=
  ⟨⟨⟨.lst, by show tyO (S a) = _; rw [e]; rfl⟩, fun ds z => (by cases z)⟩, fun _ _ => bad_of rfl, .inl (Rp.lst e hr)⟩
theorem odd_dic {a : Addr} (e : S a = some (.dic [])) : OddD S (.ref a) :=
  ⟨⟨⟨.dic, by show tyO (S a) = _; rw [e]; rfl⟩, fun ds z => (by cases z)⟩, fun _ _ => bad_of rfl, .inr ⟨a, rfl, e⟩⟩
theorem rnr_out {E : List Dd} (hE : LogX E) {i : Int} (h : i < 0 ∨ 40 ≤ i) : i ∉ KM (runM E).1 := fun z => by
  obtain ⟨k, rfl, hk⟩ := KM_mem.mp z
  have := hE.keys k hk
  omega
theorem dB3 (t p : D) (k : Str) : dB (.tup [.str k, t, p]) = (decide (k = "leave") && smB t && whB p) := rfl
theorem dB4 (y t p : D) (k : Str) : dB (.tup [.str k, t, p, y]) = (decide (k = "join") && smB t && smB p && smB y || decide (k = "turn") && smB t && whB p && smB y) := rfl
/-- things of a runner that there isn't -/
theorem odd_leave {t : Rat} (ht : SmX t) (h : OddR S r) : OddD S (.tup [.str "leave", eQ t, r]) := by
  refine ⟨⟨⟨_, rfl⟩, fun ds e z hz => ?_⟩, fun E hE => ?_, .inl ?_⟩
  · cases e
    simp only [List.mem_cons, List.not_mem_nil, or_false] at hz
    rcases hz with rfl | rfl | rfl
    · exact thn_flat rfl fun _ z => by cases z
    · exact thn_eQ ht
    · exact h.th
  · rcases h.no with e | ⟨i, rfl, hi⟩
    · exact bad_of (by rw [dB3, e, Bool.and_false])
    · exact bad_leave (rnr_out hE hi)
  · exact (Rp.tup (Rps.cons ((Rp.str (by decide +kernel) (by decide +kernel)).mono (Nat.le_refl _) (by decide : 2 ≤ 4)) (.cons ((Rp.q ht).mono (Nat.le_refl _) (by decide)) (.cons h.rp .nil)))).mono (by decide) (by decide)
theorem odd_turn {t m : Rat} (ht : SmX t) (hm : SmX m) (h : OddR S r) : OddD S (.tup [.str "turn", eQ t, r, eQ m]) := by
  refine ⟨⟨⟨_, rfl⟩, fun ds e z hz => ?_⟩, fun E hE => ?_, .inl ?_⟩
  · cases e
    simp only [List.mem_cons, List.not_mem_nil, or_false] at hz
    rcases hz with rfl | rfl | rfl | rfl
    · exact thn_flat rfl fun _ z => by cases z
    · exact thn_eQ ht
    · exact h.th
    · exact thn_eQ hm
  · rcases h.no with e | ⟨i, rfl, hi⟩
    · refine bad_of ?_
      rw [dB4, e, decide_eq_false (by decide +kernel)]
      simp
    · exact bad_turn (rnr_out hE hi)
  · exact (Rp.tup (Rps.cons ((Rp.str (by decide +kernel) (by decide +kernel)).mono (Nat.le_refl _) (by decide : 2 ≤ 4)) (.cons ((Rp.q ht).mono (Nat.le_refl _) (by decide)) (.cons h.rp (.cons ((Rp.q hm).mono (Nat.le_refl _) (by decide)) .nil))))).mono (by decide) (by decide)
/-- a part of an odd thing -/
def Ok1 (S : Sto) (v : D) : Prop := ThN S v ∧ Rp S v 1000 4
theorem ok1_lit (h : fl1 v = true) : Ok1 S v := ⟨fl1_th h, fl1_rp h⟩
theorem ok1_q {q : Rat} (h : SmX q) : Ok1 S (eQ q) := ⟨thn_eQ h, (Rp.q h).mono (by decide) (by decide)⟩
theorem OddN.ok1 (h : OddN S v) : Ok1 S v := ⟨h.th, h.rp⟩
theorem OddR.ok1 (h : OddR S v) : Ok1 S v := ⟨h.th, h.rp⟩
theorem Rps.all : ∀ {ds : List D}, (∀ z ∈ ds, Rp S z 1000 4) → Rps S ds (ds.length * 1001) 4
  | [], _ => Rps.nil
  | d :: ds, h => (Rps.cons (h d (by simp)) (Rps.all fun z hz => h z (by simp [hz]))).mono (by rw [List.length_cons]; omega) (Nat.le_refl _)
theorem odd_tup1 {ds : List D} (h : ∀ z ∈ ds, Ok1 S z) (hd : dB (.tup ds) = false) (hl : ds.length ≤ 5) : OddD S (.tup ds) :=
  odd_tup (fun z hz => (h z hz).1) hd ((Rps.all fun z hz => (h z hz).2).mono (by omega) (by decide))
theorem odd_lst1 {a : Addr} {xs : List D} (e : S a = some (.lst xs)) (h : ∀ z ∈ xs, Ok1 S z) (hl : xs.length ≤ 5) : OddD S (.ref a) :=
  odd_lst e ((Rps.all fun z hz => (h z hz).2).mono (by omega) (by decide))
theorem thn_tup {ds : List D} (h : ds.length ≠ 2) : ThN S (.tup ds) :=
  ⟨⟨⟨_, rfl⟩, fun x y e => by cases e; exact absurd rfl h⟩, fun t b e => by cases e; exact absurd rfl h⟩
theorem sm1 : SmX 1 := ⟨by decide, by decide⟩
/-- a tuple in a tuple -/
theorem odd_tup2 {ds : List D} (h : ∀ z ∈ ds, Ok1 S z) (h2 : ds.length ≠ 2) (hl : ds.length ≤ 4) : OddD S (.tup [.tup ds]) := by
  refine odd_tup (fun z hz => ?_) ?_ ?_
  · rw [List.mem_singleton.mp hz]; exact thn_tup h2
  · rfl
  · exact (Rps.cons ((Rp.tup (Rps.all fun z hz => (h z hz).2)).mono (by omega : _ ≤ 5000) (by decide : 5 ≤ 7)) (Rps.nil (k := 7))).mono (by decide) (Nat.le_refl _)
end
end DL
/-! Logs spoilt: who has left, too many who run, too many deeds. -/
namespace DL
open PySem PySem.Spec PyProof.Rows L2
/-- who has left, in the order of leaving -/
def goneL : List Dd → List Nat
  | [] => []
  | .leave _ r :: D => r :: goneL D
  | _ :: D => goneL D
def goneF : Dd → Option D
  | .leave _ r => some (.int (r : Int))
  | _ => none
theorem gone_f : ∀ D : List Dd, D.filterMap goneF = (goneL D).map fun r : Nat => DL.D.int (r : Int)
  | [] => rfl
  | .leave t r :: D => by
    rw [List.filterMap_cons]
    show DL.D.int (r : Int) :: D.filterMap goneF = _
    rw [gone_f D]
    rfl
  | .join t p m :: D => by
    rw [List.filterMap_cons]
    exact gone_f D
  | .turn t r m :: D => by
    rw [List.filterMap_cons]
    exact gone_f D
theorem gone_len : ∀ D : List Dd, (goneL D).length ≤ D.length
  | [] => Nat.le_refl _
  | .leave t r :: D => by have := gone_len D; simp only [goneL, List.length_cons]; omega
  | .join t p m :: D => by have := gone_len D; simp only [goneL, List.length_cons]; omega
  | .turn t r m :: D => by have := gone_len D; simp only [goneL, List.length_cons]; omega
theorem gone_mem : ∀ {D : List Dd} {r : Nat}, r ∈ goneL D → ∃ a t b, D = a ++ Dd.leave t r :: b
  | .leave t k :: D, r, h => by
    rcases List.mem_cons.mp h with rfl | h
    · exact ⟨[], t, D, rfl⟩
    · obtain ⟨a, u, b, rfl⟩ := gone_mem (D := D) h
      exact ⟨.leave t k :: a, u, b, rfl⟩
  | .join t p m :: D, r, h => by
    obtain ⟨a, u, b, rfl⟩ := gone_mem (D := D) h
    exact ⟨.join t p m :: a, u, b, rfl⟩
  | .turn t k m :: D, r, h => by
    obtain ⟨a, u, b, rfl⟩ := gone_mem (D := D) h
    exact ⟨.turn t k m :: a, u, b, rfl⟩
theorem gone_out {a : List Dd} {t : Rat} {r : Nat} (h : r < (runM a).2) : ∀ b : List Dd, r ∉ keysM (runM (a ++ Dd.leave t r :: b)).1 ∧ r < (runM (a ++ Dd.leave t r :: b)).2 := by
  refine snoc_ind ?_ fun b d ih => ?_
  · rw [show a ++ Dd.leave t r :: [] = a ++ [Dd.leave t r] from rfl, runM_snoc]
    refine ⟨?_, h⟩
    show r ∉ keysM (mdrop (runM a).1 r)
    rw [keys_mdrop]
    intro z
    have := (List.mem_filter.mp z).2
    simp at this
  · rw [← List.cons_append, ← List.append_assoc, runM_snoc]
    generalize runM (a ++ Dd.leave t r :: b) = s at *
    obtain ⟨h1, h2⟩ := ih
    cases d with
    | join u p m =>
      have e : keysM (stepM s (.join u p m)).1 = keysM s.1 ++ [s.2] := by unfold stepM keysM; rw [List.map_append]; rfl
      refine ⟨?_, Nat.lt_succ_of_lt h2⟩
      rw [e]
      intro z
      rcases List.mem_append.mp z with z | z
      · exact h1 z
      · have := List.mem_singleton.mp z; omega
    | leave u k =>
      refine ⟨?_, h2⟩
      show r ∉ keysM (mdrop s.1 k)
      rw [keys_mdrop]
      exact fun z => h1 (List.mem_filter.mp z).1
    | turn u k m =>
      refine ⟨?_, h2⟩
      show r ∉ keysM (mset s.1 k _)
      rw [keys_mset]
      exact h1
/-- the first who left, or one who never was -/
def leftR (D : List Dd) : Nat := (goneL D ++ [40]).headD 40
theorem left_out {D : List Dd} (h : LogX D) : leftR D ∉ keysM (runM D).1 ∧ leftR D < 100 := by
  unfold leftR
  cases e : goneL D with
  | nil =>
    refine ⟨fun z => ?_, by decide⟩
    have := h.keys _ z
    simp at this
  | cons r l =>
    show r ∉ _ ∧ r < 100
    obtain ⟨a, t, b, rfl⟩ := gone_mem (D := D) (r := r) (by rw [e]; simp)
    have hr := (h.ok a _ b rfl).2.1
    have hlt := (keyOk_run a).2 r hr
    have h40 := (LogX.pre h).keys r hr
    exact ⟨(gone_out hlt b).1, by omega⟩
/-- nine that join -/
def joinsE (n : Nat) : List Dd := (List.range n).map fun k : Nat => Dd.join 5 ((k : Int) : Rat) 0
theorem smx_small {i : Int} (h : i.natAbs < 1000) : SmX (i : Rat) := SmX.int (by omega)
theorem joins_ok : ∀ n : Nat, n ≤ 8 → LogX (joinsE n) ∧ (runM (joinsE n)).1.length = n ∧ ∀ x ∈ joinsE n, x.t = 5
  | 0, _ => ⟨.nil, rfl, fun x hx => by cases hx⟩
  | n + 1, hn => by
    obtain ⟨h1, h2, h3⟩ := joins_ok n (by omega)
    have e : joinsE (n + 1) = joinsE n ++ [Dd.join 5 ((n : Int) : Rat) 0] := by
      unfold joinsE
      rw [List.range_succ, List.map_append]
      rfl
    have hl : (joinsE n).length = n := by unfold joinsE; simp
    rw [e]
    refine ⟨h1.snoc ⟨⟨by decide, by decide⟩, smx_small (by omega), ⟨by decide, by decide⟩⟩ trivial (fun x hx => by rw [h3 x hx]; exact Rat.le_refl) (fun _ => by omega) (by omega), ?_, fun x hx => ?_⟩
    · rw [runM_snoc]
      show ((runM (joinsE n)).1 ++ [_]).length = n + 1
      rw [List.length_append, h2]
      rfl
    · rcases List.mem_append.mp hx with hx | hx
      · exact h3 x hx
      · rw [List.mem_singleton.mp hx]; rfl
theorem ninth_bad : BadX (joinsE 8) (eDd (.join 5 ((8 : Int) : Rat) 0)) := bad_not fun h => by
  have := (h.ok (joinsE 8) _ [] rfl).2.2.2 trivial
  rw [(joins_ok 8 (Nat.le_refl _)).2.1] at this
  omega
/-- one that joins, and turns -/
def turnsE (ms : List Rat) : List Dd := .join 5 0 0 :: ms.map fun m => .turn 5 0 m
theorem turns_len {ms : List Rat} : (turnsE ms).length = ms.length + 1 := by unfold turnsE; simp
theorem turns_ok : ∀ ms : List Rat, ms.length ≤ 39 → (∀ m ∈ ms, SmX m) → LogX (turnsE ms) ∧ keysM (runM (turnsE ms)).1 = [0] ∧ ∀ x ∈ turnsE ms, x.t = 5 := by
  refine snoc_ind ?_ fun ms m ih => ?_
  · intro _ _
    have h5 : SmX 5 := ⟨by decide, by decide⟩
    have h0 : SmX 0 := ⟨by decide, by decide⟩
    exact ⟨LogX.nil.snoc (d := .join 5 0 0) ⟨h5, h0, h0⟩ trivial (by simp) (fun _ => by decide) (by decide), rfl, fun x hx => by rw [List.mem_singleton.mp hx]; rfl⟩
  · intro hl hs
    rw [List.length_append, List.length_singleton] at hl
    obtain ⟨h1, h2, h3⟩ := ih (by omega) fun x hx => hs x (List.mem_append_left _ hx)
    have h5 : SmX 5 := ⟨by decide, by decide⟩
    have e : turnsE (ms ++ [m]) = turnsE ms ++ [.turn 5 0 m] := by unfold turnsE; rw [List.map_append]; rfl
    rw [e]
    refine ⟨h1.snoc ⟨h5, hs m (by simp)⟩ (by show 0 ∈ keysM (runM (turnsE ms)).1; rw [h2]; simp) (fun x hx => by rw [h3 x hx]; exact Rat.le_refl) (fun z => z.elim) (by rw [turns_len]; omega), ?_, fun x hx => ?_⟩
    · rw [runM_snoc]
      show keysM (mset _ _ _) = [0]
      rw [keys_mset, h2]
    · rcases List.mem_append.mp hx with hx | hx
      · exact h3 x hx
      · rw [List.mem_singleton.mp hx]; rfl
theorem full_bad {ms : List Rat} (h : ms.length = 39) (x : D) : BadX (turnsE ms) x := fun ⟨d, _, hl⟩ => by
  have := hl.len
  rw [List.length_append, turns_len, List.length_singleton] at this
  omega
/-- a seventh -/
def sevQ (k : Nat) : Rat := ((k : Int) : Rat) / ((7 : Int) : Rat)
theorem sev_all : ((List.range 39).all fun k => decide ((k : Int).fmod 7 ≤ 0) || (decide ((sevQ k).num = (k : Int)) && decide ((sevQ k).den = 7))) = true := by decide +kernel
theorem sev_eq {k : Nat} (hk : k < 39) (h : 0 < (k : Int).fmod 7) : eQ (sevQ k) = .tup [.int (k : Int), .int 7] ∧ SmX (sevQ k) := by
  have := List.all_eq_true.mp sev_all k (List.mem_range.mpr hk)
  rw [Bool.or_eq_true, Bool.and_eq_true, decide_eq_true_iff, decide_eq_true_iff, decide_eq_true_iff] at this
  rcases this with z | ⟨h1, h2⟩
  · omega
  · exact ⟨by unfold eQ; rw [h1, h2]; rfl, by rw [SmX, h1, h2]; omega⟩
def sevs : List Rat := ((List.range 39).filterMap fun k : Nat => if decide (0 < (k : Int).fmod 7) = true then some (sevQ k) else none)
theorem sevs_len : sevs.length = 33 := by decide +kernel
theorem sevs_sm : ∀ m ∈ sevs, SmX m := fun m hm => by
  unfold sevs at hm
  obtain ⟨k, hk, e⟩ := List.mem_filterMap.mp hm
  split at e
  · next c =>
    cases e
    exact (sev_eq (List.mem_range.mp hk) (of_decide_eq_true c)).2
  · cases e
/-- a log whose next deed is earlier -/
theorem bad_before {P : List Dd} {x : Dd} {t u p m : Rat} (hx : P.getLast? = some x) (h : t < x.t) (e : DL.D) (he : e = eDd (.join t p m)) : BadX P e := by
  subst he
  refine bad_not fun hl => ?_
  have := (hl.ok P _ [] rfl).2.2.1 x (List.mem_of_getLast? hx)
  exact Rat.not_lt.mpr this h
/-- a spoilt thing, and where it is spoilt -/
def Spl (S : Sto) (x : D) (i : Int) : Prop := (∃ z, ShD S x z) ∧
  ((∃ (p : Addr) (E : List Dd) (y : D) (ys : List D), x = .ref p ∧ S p = some (.lst (E.map eDd ++ y :: ys)) ∧ LogX E ∧ ThD S y ∧ BadX E y ∧ i = (E.length : Int)) ∨ ((∃ T, tyOf S x = some T ∧ isiT T .lst = false) ∧ i = 0))
theorem pd_sub {S S' : Sto} (s : Sub S S') : ∀ {xs : List D} {ps : List PyData}, Paired (ShDI S) xs ps → Paired (ShDI S') xs ps
  | _, _, .nil => .nil
  | _, _, .cons h hs => .cons (h.elim (fun z => .inl ⟨Py.sub s _ _ z.1, z.2⟩) fun ⟨a, e, z, f⟩ => .inr ⟨a, e, s _ _ z, f⟩) (pd_sub s hs)
theorem ShD.sub {S S' : Sto} {x : D} {z : Str} (s : Sub S S') (h : ShD S x z) : ShD S' x z := by
  rcases h with ⟨d, h, r⟩ | ⟨a, e, h, r⟩ | ⟨a, xs, ds, e, h, hp, r⟩
  · exact .inl ⟨d, Py.sub s _ _ h, r⟩
  · exact .inr (.inl ⟨a, e, s _ _ h, r⟩)
  · exact .inr (.inr ⟨a, xs, ds, e, s _ _ h, pd_sub s hp, r⟩)
theorem Spl.sub {S S' : Sto} {x : D} {i : Int} (s : Sub S S') (h : Spl S x i) : Spl S' x i := by
  obtain ⟨⟨z, hz⟩, h⟩ := h
  refine ⟨⟨z, hz.sub s⟩, ?_⟩
  rcases h with ⟨p, E, y, ys, e, hp, hE, ht, hb, hi⟩ | ⟨⟨T, hT, hs⟩, hi⟩
  · exact .inl ⟨p, E, y, ys, e, s _ _ hp, hE, ht.sub s, hb, hi⟩
  · refine .inr ⟨⟨T, ?_, hs⟩, hi⟩
    cases x with
    | ref a =>
      have hT : tyO (S a) = some T := hT
      show tyO (S' a) = some T
      cases q : S a with
      | none => rw [q] at hT; cases hT
      | some o => rw [s _ _ q]; rw [q] at hT; exact hT
    | _ => exact hT
/-- nothing but deeds and Nones -/
theorem nl_dd (d : Dd) : NL (pyDd d) = true := by cases d <;> rfl
theorem pd_dds {S : Sto} : ∀ E : List Dd, Paired (ShDI S) (E.map eDd) (E.map pyDd)
  | [] => .nil
  | d :: E => .cons (.inl ⟨py_eDd d, nl_dd d⟩) (pd_dds E)
theorem pd_app {S : Sto} : ∀ {xs ys : List D} {ps qs : List PyData}, Paired (ShDI S) xs ps → Paired (ShDI S) ys qs → Paired (ShDI S) (xs ++ ys) (ps ++ qs)
  | _, _, _, _, .nil, h => h
  | _, _, _, _, .cons h hs, k => .cons h (pd_app hs k)
theorem pd_nons {S : Sto} : ∀ n : Nat, Paired (ShDI S) (List.replicate n .non) (List.replicate n .none)
  | 0 => .nil
  | n + 1 => .cons (.inl ⟨.non, rfl⟩) (pd_nons n)
theorem rpds_app {k : Nat} : ∀ {ps qs : List PyData} {n m : Nat}, RpDs ps n k → RpDs qs m k → RpDs (ps ++ qs) (n + m) k := fun {ps} => by
  induction ps with
  | nil => exact fun h hs => hs.mono (by omega) (Nat.le_refl _)
  | cons x xs ih =>
    rintro qs n m h2 hs
    have e1 : RpD x x.weight k := ⟨by have := h2.sh; simp only [PyData.showableAll, Bool.and_eq_true] at this; exact this.1, by have := h2.le; simp only [PyData.leavesShortAll, Bool.and_eq_true] at this; exact this.1, by have := h2.hd; simp only [PyData.hasDictAll, Bool.or_eq_false_iff] at this; exact this.1, Nat.le_refl _, by have := h2.dp; simp only [PyData.depthAll] at this; omega⟩
    have e2 : RpDs xs (PyData.weightAll xs) k := ⟨by have := h2.sh; simp only [PyData.showableAll, Bool.and_eq_true] at this; exact this.2, by have := h2.le; simp only [PyData.leavesShortAll, Bool.and_eq_true] at this; exact this.2, by have := h2.hd; simp only [PyData.hasDictAll, Bool.or_eq_false_iff] at this; exact this.2, Nat.le_refl _, by have := h2.dp; simp only [PyData.depthAll] at this; omega⟩
    have w := h2.wt
    simp only [PyData.weightAll] at w
    exact (RpDs.cons e1 (ih e2 hs)).mono (by omega) (Nat.le_refl _)
theorem rpd_dd {d : Dd} (h : SmXD d) (hk : ∀ t r m, (d = .leave t r ∨ d = .turn t r m) → r < 10 ^ 60) : RpD (pyDd d) 1300 4 := by
  have hq : ∀ {q : Rat}, SmX q → RpD (pyQ q) 403 3 := fun h => .q (Nat.lt_trans h.1 (by decide)) (Nat.lt_of_le_of_lt h.2 (by decide))
  have hs : ∀ s : Str, (s.cps.toList.all fun c => decide (c < 128)) = true → s.cps.size ≤ 10 → RpD (.str s) 12 3 := fun s a b => (RpD.str a b).mono (Nat.le_refl _) (by decide)
  cases d with
  | join t p m => exact (RpD.tup (RpDs.cons (hs _ (by decide +kernel) (by decide +kernel)) (.cons (hq h.1) (.cons (hq h.2.1) (.cons (hq h.2.2) (.nil (n := 0))))))).mono (by decide) (by decide)
  | leave t r => exact (RpD.tup (RpDs.cons (hs _ (by decide +kernel) (by decide +kernel)) (.cons (hq h) (.cons ((RpD.int (i := (r : Int)) (hk t r 0 (.inl rfl))).mono (Nat.le_refl _) (by decide)) (.nil (n := 0)))))).mono (by decide) (by decide)
  | turn t r m => exact (RpD.tup (RpDs.cons (hs _ (by decide +kernel) (by decide +kernel)) (.cons (hq h.1) (.cons ((RpD.int (i := (r : Int)) (hk t r m (.inr rfl))).mono (Nat.le_refl _) (by decide)) (.cons (hq h.2) (.nil (n := 0))))))).mono (by decide) (by decide)
theorem rpds_dds : ∀ {E : List Dd}, (∀ d ∈ E, SmXD d ∧ ∀ t r m, (d = .leave t r ∨ d = .turn t r m) → r < 10 ^ 60) → RpDs (E.map pyDd) (E.length * 1301) 4
  | [], _ => RpDs.nil
  | d :: E, h => by
    have h1 := h d (by simp)
    refine (RpDs.cons (rpd_dd h1.1 h1.2) (rpds_dds fun x hx => h x (by simp [hx]))).mono ?_ (Nat.le_refl _)
    rw [List.length_cons]
    omega
theorem rpds_nons : ∀ n : Nat, RpDs (List.replicate n .none) (n * 3) 4
  | 0 => RpDs.nil
  | n + 1 => (RpDs.cons (RpD.non.mono (Nat.le_refl _) (by decide : 2 ≤ 4)) (rpds_nons n)).mono (by omega) (Nat.le_refl _)
/-- deeds, an odd thing, more deeds, Nones -/
theorem list_shown {S : Sto} {p : Addr} {E F : List Dd} {y : D} {n : Nat} (e : S p = some (.lst (E.map eDd ++ y :: (F.map eDd ++ List.replicate n .non))))
    (hE : ∀ d ∈ E, SmXD d ∧ ∀ t r m, (d = .leave t r ∨ d = .turn t r m) → r < 10 ^ 60) (hF : ∀ d ∈ F, SmXD d ∧ ∀ t r m, (d = .leave t r ∨ d = .turn t r m) → r < 10 ^ 60) (hl : E.length ≤ 45 ∧ F.length ≤ 45 ∧ n ≤ 10)
    (hy : Rp S y 6000 8 ∨ ∃ g, y = .ref g ∧ S g = some (.dic [])) : ∃ z, ShD S (.ref p) z := by
  rcases hy with hy | ⟨g, rfl, hg⟩
  · refine Rp.shown (n := 130000) (k := 9) ((Rp.lst e (n := 129000) (k := 8) ?_).mono (by decide) (Nat.le_refl _)) (by decide) (by decide)
    have h1 := (Rps.log (S := S) hE).mono (Nat.le_refl _) (by decide : 4 ≤ 8)
    have h2 := (Rps.log (S := S) hF).mono (Nat.le_refl _) (by decide : 4 ≤ 8)
    have h3 := (Rps.nons (S := S) n).mono (Nat.le_refl _) (by decide : 4 ≤ 8)
    exact (h1.app (Rps.cons hy (h2.app h3))).mono (by omega) (Nat.le_refl _)
  · have h1 := rpds_dds hE
    have h2 := rpds_app (rpds_dds hF) (rpds_nons n)
    have hw : PyData.weightAll (E.map pyDd ++ PyData.dict [] :: (F.map pyDd ++ List.replicate n .none)) ≤ 125000 ∧ PyData.depthAll (E.map pyDd ++ PyData.dict [] :: (F.map pyDd ++ List.replicate n .none)) ≤ 10 ∧ PyData.showableAll (E.map pyDd ++ PyData.dict [] :: (F.map pyDd ++ List.replicate n .none)) = true ∧ PyData.leavesShortAll 70 (E.map pyDd ++ PyData.dict [] :: (F.map pyDd ++ List.replicate n .none)) = true := by
      have key : ∀ {ps qs : List PyData} {a b k : Nat}, RpDs ps a k → RpDs qs b k → PyData.weightAll (ps ++ PyData.dict [] :: qs) ≤ a + b + 10 ∧ PyData.depthAll (ps ++ PyData.dict [] :: qs) ≤ k + 5 ∧ PyData.showableAll (ps ++ PyData.dict [] :: qs) = true ∧ PyData.leavesShortAll 70 (ps ++ PyData.dict [] :: qs) = true := fun {ps} => by
        induction ps with
        | nil =>
          intro qs a b k h1 h2
          have w2 := h2.wt
          have d2 := h2.dp
          have dd := depth_dic
          refine ⟨?_, ?_, ?_, ?_⟩
          · show PyData.weightAll (PyData.dict [] :: qs) ≤ _
            simp only [PyData.weightAll, PyData.weight, PyData.weightKv]; omega
          · show PyData.depthAll (PyData.dict [] :: qs) ≤ _
            simp only [PyData.depthAll]; omega
          · show PyData.showableAll (PyData.dict [] :: qs) = true
            simp only [PyData.showableAll, PyData.showable, PyData.showableKv]; rw [h2.sh]; rfl
          · show PyData.leavesShortAll 70 (PyData.dict [] :: qs) = true
            simp only [PyData.leavesShortAll, PyData.leavesShort, PyData.leavesShortKv]; rw [h2.le]; rfl
        | cons x xs ih =>
          intro qs a b k h1 h2
          have w := h1.wt
          have dp := h1.dp
          have s1 := h1.sh
          have l1 := h1.le
          have hd1 := h1.hd
          simp only [PyData.weightAll] at w
          simp only [PyData.depthAll] at dp
          simp only [PyData.showableAll, Bool.and_eq_true] at s1
          simp only [PyData.leavesShortAll, Bool.and_eq_true] at l1
          simp only [PyData.hasDictAll, Bool.or_eq_false_iff] at hd1
          obtain ⟨i1, i2, i3, i4⟩ := ih (k := k) ⟨s1.2, l1.2, hd1.2, Nat.le_refl _, by omega⟩ h2
          refine ⟨?_, ?_, ?_, ?_⟩
          · simp only [List.cons_append, PyData.weightAll]; omega
          · simp only [List.cons_append, PyData.depthAll]; omega
          · simp only [List.cons_append, PyData.showableAll]; rw [s1.1, i3]; rfl
          · simp only [List.cons_append, PyData.leavesShortAll]; rw [l1.1, i4]; rfl
      obtain ⟨a, b, c, d⟩ := key h1 h2
      exact ⟨by omega, by omega, c, d⟩
    obtain ⟨w1, w2, w3, w4⟩ := hw
    refine ⟨_, .inr (.inr ⟨p, _, _, rfl, e, pd_app (pd_dds E) (.cons (.inr ⟨g, rfl, hg, rfl⟩) (pd_app (pd_dds F) (pd_nons n))), by simp, w3, by omega, ?_, rfl⟩)⟩
    have hs := PyData.shown_le 70 (by decide) (.list (E.map pyDd ++ PyData.dict [] :: (F.map pyDd ++ List.replicate n .none))) (by simp only [PyData.leavesShort]; exact w4)
    have hw : (PyData.list (E.map pyDd ++ PyData.dict [] :: (F.map pyDd ++ List.replicate n .none))).weight = PyData.weightAll (E.map pyDd ++ PyData.dict [] :: (F.map pyDd ++ List.replicate n .none)) := by simp only [PyData.weight]
    rw [hw] at hs
    have : 72 * PyData.weightAll (E.map pyDd ++ PyData.dict [] :: (F.map pyDd ++ List.replicate n .none)) ≤ 72 * 125000 := Nat.mul_le_mul_left _ w1
    omega
theorem spl_list {T : Sto} {p : Addr} {P F : List Dd} {y : D} {n : Nat} (e : T p = some (.lst (P.map eDd ++ y :: (F.map eDd ++ List.replicate n .non)))) (hP : LogX P)
    (hF : ∀ d ∈ F, SmXD d ∧ ∀ t r m, (d = .leave t r ∨ d = .turn t r m) → r < 10 ^ 60) (hl : F.length ≤ 45 ∧ n ≤ 10) (ht : ThD T y) (hb : BadX P y) (hy : Rp T y 6000 8 ∨ ∃ g, y = .ref g ∧ T g = some (.dic [])) : Spl T (.ref p) (P.length : Int) :=
  ⟨list_shown e (fun d hd => ⟨hP.mem hd, hP.keyk hd⟩) hF ⟨by have := hP.len; omega, hl.1, hl.2⟩ hy, .inl ⟨p, P, y, _, rfl, e, hP, ht, hb, rfl⟩⟩
theorem floor_le' (q : Rat) : ((q.num.fdiv (q.den : Int) : Int) : Rat) ≤ q := by
  have hd : (0 : Int) < (q.den : Int) := by have := q.den_pos; omega
  rw [Rat.le_iff]
  show (q.num.fdiv (q.den : Int)) * (q.den : Int) ≤ q.num * ((1 : Nat) : Int)
  rw [Int.fdiv_eq_ediv_of_nonneg _ (by omega)]
  have := Int.ediv_mul_le q.num (b := (q.den : Int)) (by omega)
  omega
theorem by_one (k : Int) : ((k : Int) : Rat) / ((1 : Int) : Rat) = (k : Rat) := by
  have : ((1 : Int) : Rat) = 1 := rfl
  rw [this]
  grind
/-- three numbers -/
theorem join_parts {S : Sto} {v : D} (h : Ok1 S v) : ThD S (.tup [.str "join", v, v, v]) ∧ Rp S (.tup [.str "join", v, v, v]) 6000 8 := by
  have hz : ∀ z ∈ [DL.D.str (Str.ofString "join"), v, v, v], Ok1 S z := fun z hz => by
    simp only [List.mem_cons, List.not_mem_nil, or_false] at hz
    rcases hz with rfl | rfl | rfl | rfl
    · exact ok1_lit (by decide +kernel)
    · exact h
    · exact h
    · exact h
  exact ⟨⟨⟨_, rfl⟩, fun _ e z h => by cases e; exact (hz z h).1⟩, (Rp.tup (Rps.all fun z h => (hz z h).2)).mono (by simp) (by decide)⟩
theorem odd_early {S : Sto} {P : List Dd} {x : Dd} (hx : P.getLast? = some x) (hs : SmX x.t) {k : Int} (h : k < x.t.num.fdiv (x.t.den : Int)) (h2 : x.t.num.fdiv (x.t.den : Int) ≤ k + 5) :
    ThD S (.tup [.str "join", eQ (k : Rat), eQ (k : Rat), eQ (k : Rat)]) ∧ BadX P (.tup [.str "join", eQ (k : Rat), eQ (k : Rat), eQ (k : Rat)]) ∧ Rp S (.tup [.str "join", eQ (k : Rat), eQ (k : Rat), eQ (k : Rat)]) 6000 8 := by
  have hk : k.natAbs < 10 ^ 60 := by
    have hd : (0 : Int) < (x.t.den : Int) := by have := x.t.den_pos; omega
    have h3 : (x.t.num.fdiv (x.t.den : Int)).natAbs ≤ 10 ^ 9 := by
      rw [Int.fdiv_eq_ediv_of_nonneg _ (by omega)]
      have h1 := hs.1
      have a1 := Int.ediv_mul_le x.t.num (b := (x.t.den : Int)) (by omega)
      have a2 := Int.lt_ediv_add_one_mul_self x.t.num hd
      generalize x.t.num / (x.t.den : Int) = v at *
      generalize (x.t.den : Int) = d at *
      generalize x.t.num = m at *
      have : -(10 ^ 9 : Int) ≤ v := by
        refine Classical.byContradiction fun c => ?_
        have : (v + 1) * d ≤ (v + 1) * 1 := Int.mul_le_mul_of_nonpos_left (by omega) (by omega)
        omega
      have : v ≤ (10 ^ 9 : Int) := by
        refine Classical.byContradiction fun c => ?_
        have : v * 1 ≤ v * d := Int.mul_le_mul_of_nonneg_left (by omega) (by omega)
        omega
      omega
    have : (10 : Nat) ^ 60 > 10 ^ 10 := by decide
    omega
  have hok : Ok1 S (eQ (k : Rat)) := ok1_lit (by
    show ([DL.D.int k, DL.D.int ((1 : Nat) : Int)].all fl0 && decide (2 ≤ 3)) = true
    simp only [List.all_cons, List.all_nil, fl0, Bool.and_true]
    rw [decide_eq_true hk]
    rfl)
  refine ⟨(join_parts hok).1, bad_before (t := (k : Rat)) (u := (k : Rat)) (p := (k : Rat)) (m := (k : Rat)) hx ?_ _ rfl, (join_parts hok).2⟩
  have a := floor_le' x.t
  have b : (k : Rat) < ((x.t.num.fdiv (x.t.den : Int) : Int) : Rat) := by exact_mod_cast h
  grind
theorem flat_rep {α : Type} (x : α) : ∀ n : Nat, (List.replicate n [x]).flatten = List.replicate n x
  | 0 => rfl
  | n + 1 => by
    rw [List.replicate_succ, List.flatten_cons, flat_rep x n, List.replicate_succ]
    rfl
theorem odd_left {S : Sto} {P : List Dd} {t : Rat} (hP : LogX P) (ht : SmX t) : ThD S (.tup [.str "leave", eQ t, .int ((leftR P : Nat) : Int)]) ∧ BadX P (.tup [.str "leave", eQ t, .int ((leftR P : Nat) : Int)]) ∧ Rp S (.tup [.str "leave", eQ t, .int ((leftR P : Nat) : Int)]) 6000 8 := by
  obtain ⟨h1, h2⟩ := left_out hP
  have hz : ∀ z ∈ [DL.D.str (Str.ofString "leave"), eQ t, .int ((leftR P : Nat) : Int)], Ok1 S z := fun z hz => by
    simp only [List.mem_cons, List.not_mem_nil, or_false] at hz
    rcases hz with rfl | rfl | rfl
    · exact ok1_lit (by decide +kernel)
    · exact ok1_q ht
    · refine ok1_lit ?_
      show decide (((leftR P : Nat) : Int).natAbs < 10 ^ 60) = true
      exact decide_eq_true (by have : (10 : Nat) ^ 60 > 100 := by decide
                               omega)
  refine ⟨⟨⟨_, rfl⟩, fun _ e z h => by cases e; exact (hz z h).1⟩, bad_leave fun z => ?_, (Rp.tup (Rps.all fun z h => (hz z h).2)).mono (by simp) (by decide)⟩
  obtain ⟨k, e, hk⟩ := KM_mem.mp z
  have : k = leftR P := by omega
  rw [this] at hk
  exact h1 hk
theorem ninth_parts {S : Sto} : ThD S (eDd (.join 5 ((8 : Int) : Rat) 0)) ∧ Rp S (eDd (.join 5 ((8 : Int) : Rat) 0)) 6000 8 := by
  have h : SmXD (.join 5 ((8 : Int) : Rat) 0) := ⟨⟨by decide, by decide⟩, smx_small (by decide), ⟨by decide, by decide⟩⟩
  exact ⟨thd_eDd h, (Rp.dd h (fun t r m e => by rcases e with e | e <;> cases e)).mono (by decide) (by decide)⟩
theorem joins_nine : (joinsE 9).map eDd = (joinsE 8).map eDd ++ [eDd (.join 5 ((8 : Int) : Rat) 0)] := rfl
/-- the forty that turn -/
def ms40 : List Rat := (sevs ++ List.replicate 8 1).take 39
theorem ms40_len : ms40.length = 39 := by
  unfold ms40
  rw [List.length_take, List.length_append, sevs_len, List.length_replicate]
  rfl
theorem ms40_sm : ∀ m ∈ ms40, SmX m := fun m hm => by
  rcases List.mem_append.mp (List.mem_of_mem_take hm) with h | h
  · exact sevs_sm m h
  · rw [(List.mem_replicate.mp h).2]; exact sm1
theorem turns40 : LogX (turnsE ms40) ∧ (turnsE ms40).length = 40 := ⟨(turns_ok ms40 (by rw [ms40_len]; decide) ms40_sm).1, by rw [turns_len, ms40_len]⟩
theorem turns_eq : ([eDd (.join 5 0 0)] ++ sevs.map (fun m => eDd (.turn 5 0 m)) ++ List.replicate 8 (eDd (.turn 5 0 1))).take 40 = (turnsE ms40).map eDd := by
  unfold turnsE ms40
  rw [List.append_assoc, List.singleton_append, List.take_succ_cons, List.map_cons, List.map_map, List.map_take, List.map_append, List.map_replicate]
  rfl
theorem last_parts {S : Sto} {y : D} (h : y = eDd (.leave 5 0) ∨ y = .non ∨ y = eDd (.turn ((6 : Int) : Rat) 0 1)) : ThD S y ∧ Rp S y 6000 8 := by
  rcases h with rfl | rfl | rfl
  · have h : SmXD (.leave 5 0) := ⟨by decide, by decide⟩
    exact ⟨thd_eDd h, (Rp.dd h (fun t r m e => by rcases e with e | e <;> cases e; decide)).mono (by decide) (by decide)⟩
  · exact ⟨⟨⟨_, rfl⟩, fun _ e => by cases e⟩, Rp.non.mono (by decide) (by decide)⟩
  · have h : SmXD (.turn ((6 : Int) : Rat) 0 1) := ⟨smx_small (by decide), sm1⟩
    exact ⟨thd_eDd h, (Rp.dd h (fun t r m e => by rcases e with e | e <;> cases e; decide)).mono (by decide) (by decide)⟩
end DL
/-! The head by one run: what the end leans on, asked of the heap's objects by a list of questions. -/
namespace DL
open PySem PySem.Spec PyProof.Rows L2
section
variable {bs : List (PySem.W.Frag → Bool)} {fn : List He.FnD} {ts : List (Str × List (Str × D))} {w : World} {K : PySem.W.Frag} {mg : Str → Option Value} {h : Heap}
theorem SaysJ.b (c : SaysJ bs fn ts w K) (i : Nat) {b : PySem.W.Frag → Bool} (h : bs[i]? = some b := by rfl) : b K = true := by
  have c1 := (He.ba (show ((bs.all fun b => b K) && fn.all fun d => (He.Fa.code d.at_ d.qual).ok K) = true from congrArg (fun z : AlJ => z.1) c)).1
  exact List.all_eq_true.mp c1 b (List.mem_of_getElem? h)
theorem SaysJ.df (c : SaysJ bs fn ts w K) (i : Nat) {d : He.FnD} (h : fn[i]? = some d := by rfl) : He.fnObs K d.at_ = d.val ∧ (He.Fa.code d.at_ d.qual).ok K = true := by
  have c2 := (He.ba (show ((bs.all fun b => b K) && fn.all fun d => (He.Fa.code d.at_ d.qual).ok K) = true from congrArg (fun z : AlJ => z.1) c)).2
  have e : fn.map (fun d => He.fnObs K d.at_) = fn.map He.FnD.val := congrArg (fun z : AlJ => z.2.1) c
  refine ⟨?_, List.all_eq_true.mp c2 d (List.mem_of_getElem? h)⟩
  have e2 := congrArg (fun l : List He.FnV => l[i]?) e
  simp only [List.getElem?_map, h, Option.map_some] at e2
  exact Option.some.inj e2
theorem SaysJ.tab (c : SaysJ bs fn ts w K) (i : Nat) {t : Str × List (Str × D)} (h : ts[i]? = some t := by rfl) : tabV K (cA K t.1) = some (tabD w.params t.2) := by
  have e : ts.map (fun t => tabV K (cA K t.1)) = ts.map fun t => some (tabD w.params t.2) := congrArg (fun z : AlJ => z.2.2) c
  have e2 := congrArg (fun l : List TabT => l[i]?) e
  simp only [List.getElem?_map, h, Option.map_some] at e2
  exact Option.some.inj e2
theorem fun_atJ {x : Str} {st : Stmt} {ps : List Str} (X : K.In h) (G : h.Ns mainGlobals mg) (e : He.fnObs K (dfJ x st).at_ = (dfJ x st).val ∧ (He.Fa.code (dfJ x st).at_ (dfJ x st).qual).ok K = true) (b : bDef x K = true)
    (hb : ∀ (kV doc pm : Value) (an : Option Addr) (cdv ct : Value) (us : List Value), us.length = ps.length → bindArgs (PySem.W.fnOf x x (defArgs st) (defBody st) (defScope st) .none kV doc pm an cdv ct) ⟨us, []⟩ = pure (ps.zip us)) : FunAt K mg x st ps := by
  obtain ⟨oc, od, osl, kV, doc, pm, an, cdv, ct, l, c⟩ := He.fn_ok e.1 e.2
  obtain ⟨b1, b2⟩ := He.ba b
  exact fun_at (f := He.ga K x) X G (He.eqO_ok b1) l c b2 hb
theorem met_atJ {x m q : Str} {st : Stmt} {ps : List Str} (X : K.In h) (e : He.fnObs K (mtJ x m q st).at_ = (mtJ x m q st).val ∧ (He.Fa.code (mtJ x m q st).at_ (mtJ x m q st).qual).ok K = true) (b : bMet x m K = true)
    (hb : ∀ (kV doc pm : Value) (an : Option Addr) (cdv ct : Value) (us : List Value), us.length = ps.length → bindArgs (PySem.W.fnOf m q (defArgs st) (defBody st) (defScope st) .none kV doc pm an cdv ct) ⟨us, []⟩ = pure (ps.zip us)) : MetAt K x m q st ps := by
  obtain ⟨oc, od, osl, kV, doc, pm, an, cdv, ct, l, c⟩ := He.fn_ok e.1 e.2
  obtain ⟨b1, b2⟩ := He.ba b
  obtain ⟨b3, b4⟩ := He.ba b2
  obtain ⟨b5, b6⟩ := He.ba b4
  exact met_at (C := He.ga K x) X (He.eqO_ok b1) (He.eqO_ok b3) b5 l c b6 hb
theorem con_intJ {x : Str} {i : Int} (X : K.In h) (G : h.Ns mainGlobals mg) (c : (He.Fa.int x i).ok K = true) : ConAt K mg x (.int i) := by
  obtain ⟨t, e⟩ := He.int_ok X G c
  exact ⟨.int i, .int i t, e, ⟨t, rfl⟩, fun H => .int i⟩
theorem leadJ (X : K.In h) (G : h.Ns mainGlobals mg) (c : bLead K = true) : LeadC K mg := by
  unfold bLead at c
  obtain ⟨c1, c2⟩ := He.ba c
  refine leadC_ok X G c1 ?_
  split at c2
  · next n e => rw [e, of_decide_eq_true c2]
  · cases c2
end
end DL
namespace Claim
open PySem PySem.Spec PyProof.Rows L2 DL
local macro_rules | `(tactic| walk_at "d") => `(tactic| try simp only [DL.uDNewN, DL.uMethX, DL.uInT, DL.z_inT, DL.z_tOf1, DL.z_tOf2, DL.z_wT1, DL.keysOf_two, DL.uDPopN, DL.vDSubN, DL.z_ltT2, DL.uDLit, DL.uSlV, DL.uKGet, DL.uKGet2, DL.z_kg2, DL.z_remove, DL.uM1, DL.z_tupL, DL.uFld, DL.uSFld, DL.uMeth, DL.uMake, DL.z_fld, DL.z_sf, DL.z_mth, DL.z_insK, DL.putD, DL.vSl, DL.z_vSl, DL.uDNewT, DL.uDIxT, DL.vDSubT, DL.uItDT, DL.uLockST, DL.z_dxT, DL.z_dstT, DL.z_indexC, DL.z_mulS, DL.uItS, DL.z_str1, DL.z_intS, DL.z_join, DL.z_split, DL.z_part, DL.z_inC, DL.z_notinC, DL.z_itS, DL.z_isSs, DL.uIsiS, DL.uCallX, DL.uIsE, DL.uFldE, DL.uRaise, DL.uRaiseO, DL.isE_non, DL.isE_exc, DL.fldE_exc, DL.isNon_exc, DL.uSeq, DL.uSet, DL.uRet, DL.uRetN, DL.uIf, DL.uTest, DL.uOp, DL.uVar, DL.uC, DL.uCons, DL.uNil, DL.uTup, DL.uLst, DL.uCall, DL.uCB, DL.uIxk, DL.nthQ, DL.uNext, DL.uDrop, DL.uAsg, DL.uPar, DL.uAnd, DL.uOr, DL.uNot, DL.uAndV, DL.uOrV, DL.uNotV, DL.uIsi, DL.uNeg, DL.uFgt, DL.uFgtT, DL.vName, DL.vCons, DL.vNil, DL.vTup, DL.vSub, DL.uBM, DL.uChain, DL.uNever, DL.cnd_not, DL.ups_same, DL.ups_ups, DL.vSubk, DL.uIt, DL.uRng1, DL.uRng2, DL.uEnum, DL.uZip, DL.uSlL, DL.uNoPart, DL.uPart, DL.uBreak, DL.uCont, DL.uYes, DL.uFor, DL.uLoop, DL.uLc, DL.wipe2, DL.stayT, DL.z_getO, DL.z_onS, DL.z_addI, DL.z_addS, DL.z_addL, DL.z_addT, DL.z_sortedP, DL.z_mulL, DL.enc_nat, DL.enc_int, DL.enc_bl, DL.enc_rat, DL.enc_opt, DL.cut3_2, DL.isNon_eTO, DL.eTO_none, DL.eTO_some, Option.isNone_none, Option.isNone_some, DL.z_slT, DL.z_slS, DL.z_slR, DL.z_slF, DL.uSlG, DL.z_sub, DL.z_mul, DL.z_mod, DL.z_fdiv, DL.z_pow, DL.z_lt, DL.z_le, DL.z_gt, DL.z_ge, DL.z_isN, DL.z_isB, DL.z_isnN, DL.z_isnB, DL.uSlK, DL.uRevL, DL.uLenSetI, DL.uLenSetT, DL.z_succ, Int.ofNat_lt, DL.uDNew, DL.uDGet1, DL.uDPop1, DL.vDSub, DL.uListRg, DL.z_dOf1, DL.z_dOf2, DL.z_wOf, DL.z_keyI, DL.z_dix, DL.z_dictOf, DL.z_neE, DL.z_setD, DL.z_isDc, DL.z_exs, DL.uItD, DL.uLockS, DL.zs_jj, DL.zs_lj, DL.zs_tj, DL.zs_ll, DL.zs_tl, DL.dget_eM, DL.ddrop_eM, Option.getD_some, Option.getD_none, Option.map_some, Option.map_none, Function.comp_apply, DL.eDd_1, DL.zs_never, DL.zs_always, DL.zs_at, DL.z_nonN, DL.z_nonI, DL.z_nonB, DL.z_nonS, DL.z_nonT, DL.z_nonR, DL.z_nonF, DL.z_eqI, DL.z_eqB, DL.z_eqS, DL.z_neI, DL.z_neB, DL.z_neS, DL.z_eqQ, DL.z_neQ, DL.z_neMt, DL.z_eqLL, DL.z_neLL, DL.z_eqO, DL.z_neO, DL.z_eqQN, DL.z_neQN, DL.z_eqOQ, DL.z_neOQ, DL.z_eqON, DL.z_eqNN', DL.z_neNN', DL.z_eqNQ, DL.z_neNQ, DL.z_eqNO, DL.z_neNO, DL.z_eqQO, DL.z_neQO, DL.z_oL, DL.z_listOfR, DL.cutD_map, DL.cutG_1, DL.isNon_eCv, DL.z_neCv, List.drop_succ_cons, List.drop_zero, DL.z_neON, DL.isNon_eO, eq_self, DL.eO_none, DL.eO_some, Int.toNat_natCast, DL.z_ixT, DL.z_ixF, DL.z_ixR, DL.z_ixS, DL.z_ixg, DL.z_igT, DL.z_igF, DL.z_igR, DL.z_igS, DL.z_lenS, DL.z_lenT, DL.z_lenF, DL.z_lenR, DL.z_abs, DL.z_max, DL.z_min, DL.z_intI, DL.z_intB, DL.z_listT, DL.z_listF, DL.z_listR, DL.z_tupT, DL.z_tupF, DL.z_tupR, DL.z_any, DL.z_all, DL.z_sorted, DL.z_tyN, DL.z_tyB, DL.z_tyI, DL.z_tyS, DL.z_tyT, DL.z_tyF, DL.z_tyR, DL.z_tyL, DL.z_tyD, DL.z_isiII, DL.z_isiBI, DL.z_isiBB, DL.z_isiIB, DL.z_isiTT, DL.z_isiLL, DL.z_isiSS, DL.z_isiNI, DL.z_isiNB, DL.z_isiNT, DL.z_isiNL, DL.z_cndT, DL.z_cndF, DL.z_app, DL.z_ins, DL.z_pop0, DL.z_popAt, DL.z_rev, DL.z_clear, DL.z_setQ, DL.z_setkQ, DL.z_isLR, DL.z_isLF, DL.z_listOfF, DL.z_itR, DL.z_itF, DL.z_itT, DL.z_rng1, DL.z_rng2, DL.z_enum, DL.z_zip, List.getElem?_cons_zero, List.getElem?_cons_succ, List.set_cons_zero, List.set_cons_succ, List.length_cons, List.length_nil, List.length_map, Nat.reduceAdd, Nat.reduceLT, Nat.reduceLeDiff, Int.reduceToNat, Int.reducePow, Int.reduceLE, Int.reduceLT, Nat.reducePow, Int.reduceNeg, ne_eq, Int.reduceEq, not_false_eq_true, and_self, Int.reduceMul, Int.reduceAdd, Int.reduceSub, decide_true, decide_false, List.length_map, true_and, Bool.not_true, Bool.not_false, Bool.true_and, Bool.and_true])
local macro_rules | `(tactic| walk_at "f") => `(tactic| try simp only [*, DL.ups_ne, DL.atL, DL.atQ, DL.uDNewN, DL.uMethX, DL.uInT, DL.z_inT, DL.z_tOf1, DL.z_tOf2, DL.z_wT1, DL.keysOf_two, DL.uDPopN, DL.vDSubN, DL.z_ltT2, DL.uDLit, DL.uSlV, DL.uKGet, DL.uKGet2, DL.z_kg2, DL.z_remove, DL.uM1, DL.z_tupL, DL.uFld, DL.uSFld, DL.uMeth, DL.uMake, DL.z_fld, DL.z_sf, DL.z_mth, DL.z_insK, DL.putD, DL.vSl, DL.z_vSl, DL.uDNewT, DL.uDIxT, DL.vDSubT, DL.uItDT, DL.uLockST, DL.z_dxT, DL.z_dstT, DL.z_indexC, DL.z_mulS, DL.uItS, DL.z_str1, DL.z_intS, DL.z_join, DL.z_split, DL.z_part, DL.z_inC, DL.z_notinC, DL.z_itS, DL.z_isSs, DL.uIsiS, DL.uCallX, DL.uIsE, DL.uFldE, DL.uRaise, DL.uRaiseO, DL.isE_non, DL.isE_exc, DL.fldE_exc, DL.isNon_exc, DL.uSeq, DL.uSet, DL.uRet, DL.uRetN, DL.uIf, DL.uTest, DL.uOp, DL.uVar, DL.uC, DL.uCons, DL.uNil, DL.uTup, DL.uLst, DL.uCall, DL.uCB, DL.uIxk, DL.nthQ, DL.uNext, DL.uDrop, DL.uAsg, DL.uPar, DL.uAnd, DL.uOr, DL.uNot, DL.uAndV, DL.uOrV, DL.uNotV, DL.uIsi, DL.uNeg, DL.uFgt, DL.uFgtT, DL.vName, DL.vCons, DL.vNil, DL.vTup, DL.vSub, DL.uBM, DL.uChain, DL.uNever, DL.cnd_not, DL.ups_same, DL.ups_ups, DL.vSubk, DL.uIt, DL.uRng1, DL.uRng2, DL.uEnum, DL.uZip, DL.uSlL, DL.uNoPart, DL.uPart, DL.uBreak, DL.uCont, DL.uYes, DL.uFor, DL.uLoop, DL.uLc, DL.wipe2, DL.stayT, DL.z_getO, DL.z_onS, DL.z_addI, DL.z_addS, DL.z_addL, DL.z_addT, DL.z_sortedP, DL.z_mulL, DL.enc_nat, DL.enc_int, DL.enc_bl, DL.enc_rat, DL.enc_opt, DL.cut3_2, DL.isNon_eTO, DL.eTO_none, DL.eTO_some, Option.isNone_none, Option.isNone_some, DL.z_slT, DL.z_slS, DL.z_slR, DL.z_slF, DL.uSlG, DL.z_sub, DL.z_mul, DL.z_mod, DL.z_fdiv, DL.z_pow, DL.z_lt, DL.z_le, DL.z_gt, DL.z_ge, DL.z_isN, DL.z_isB, DL.z_isnN, DL.z_isnB, DL.uSlK, DL.uRevL, DL.uLenSetI, DL.uLenSetT, DL.z_succ, Int.ofNat_lt, DL.uDNew, DL.uDGet1, DL.uDPop1, DL.vDSub, DL.uListRg, DL.z_dOf1, DL.z_dOf2, DL.z_wOf, DL.z_keyI, DL.z_dix, DL.z_dictOf, DL.z_neE, DL.z_setD, DL.z_isDc, DL.z_exs, DL.uItD, DL.uLockS, DL.zs_jj, DL.zs_lj, DL.zs_tj, DL.zs_ll, DL.zs_tl, DL.dget_eM, DL.ddrop_eM, Option.getD_some, Option.getD_none, Option.map_some, Option.map_none, Function.comp_apply, DL.eDd_1, DL.zs_never, DL.zs_always, DL.zs_at, DL.z_nonN, DL.z_nonI, DL.z_nonB, DL.z_nonS, DL.z_nonT, DL.z_nonR, DL.z_nonF, DL.z_eqI, DL.z_eqB, DL.z_eqS, DL.z_neI, DL.z_neB, DL.z_neS, DL.z_eqQ, DL.z_neQ, DL.z_neMt, DL.z_eqLL, DL.z_neLL, DL.z_eqO, DL.z_neO, DL.z_eqQN, DL.z_neQN, DL.z_eqOQ, DL.z_neOQ, DL.z_eqON, DL.z_eqNN', DL.z_neNN', DL.z_eqNQ, DL.z_neNQ, DL.z_eqNO, DL.z_neNO, DL.z_eqQO, DL.z_neQO, DL.z_oL, DL.z_listOfR, DL.cutD_map, DL.cutG_1, DL.isNon_eCv, DL.z_neCv, List.drop_succ_cons, List.drop_zero, DL.z_neON, DL.isNon_eO, eq_self, DL.eO_none, DL.eO_some, Int.toNat_natCast, DL.z_ixT, DL.z_ixF, DL.z_ixR, DL.z_ixS, DL.z_ixg, DL.z_igT, DL.z_igF, DL.z_igR, DL.z_igS, DL.z_lenS, DL.z_lenT, DL.z_lenF, DL.z_lenR, DL.z_abs, DL.z_max, DL.z_min, DL.z_intI, DL.z_intB, DL.z_listT, DL.z_listF, DL.z_listR, DL.z_tupT, DL.z_tupF, DL.z_tupR, DL.z_any, DL.z_all, DL.z_sorted, DL.z_tyN, DL.z_tyB, DL.z_tyI, DL.z_tyS, DL.z_tyT, DL.z_tyF, DL.z_tyR, DL.z_tyL, DL.z_tyD, DL.z_isiII, DL.z_isiBI, DL.z_isiBB, DL.z_isiIB, DL.z_isiTT, DL.z_isiLL, DL.z_isiSS, DL.z_isiNI, DL.z_isiNB, DL.z_isiNT, DL.z_isiNL, DL.z_cndT, DL.z_cndF, DL.z_app, DL.z_ins, DL.z_pop0, DL.z_popAt, DL.z_rev, DL.z_clear, DL.z_setQ, DL.z_setkQ, DL.z_isLR, DL.z_isLF, DL.z_listOfF, DL.z_itR, DL.z_itF, DL.z_itT, DL.z_rng1, DL.z_rng2, DL.z_enum, DL.z_zip, List.getElem?_cons_zero, List.getElem?_cons_succ, List.set_cons_zero, List.set_cons_succ, List.length_cons, List.length_nil, List.length_map, Nat.reduceAdd, Nat.reduceLT, Nat.reduceLeDiff, Int.reduceToNat, Int.reducePow, Int.reduceLE, Int.reduceLT, Nat.reducePow, Int.reduceNeg, ne_eq, Int.reduceEq, not_false_eq_true, and_self, Int.reduceMul, Int.reduceAdd, Int.reduceSub, decide_true, decide_false, List.length_map, true_and, Bool.not_true, Bool.not_false, Bool.true_and, Bool.and_true])
abbrev N_l_lowest : List Str := ["_law_top", "_law_bottom", "_law_one", "_law_other"]
theorem sc_l_lowest : FnScope N_l_lowest ["_law_top", "_law_bottom"] (defScope s_l_lowest) := ⟨rfl, rfl, rfl, by decide +kernel, rfl, by decide +kernel, by decide +kernel⟩
abbrev N_l_take : List Str := ["_law_pen_here", "_law_many", "_law_digit", "_law_number"]
theorem sc_l_take : FnScope N_l_take ["_law_pen_here", "_law_many"] (defScope s_l_take) := ⟨rfl, rfl, rfl, by decide +kernel, rfl, by decide +kernel, by decide +kernel⟩
abbrev N_l_far : List Str := ["_law_pen_here", "_law_number"]
theorem sc_l_far : FnScope N_l_far ["_law_pen_here"] (defScope s_l_far) := ⟨rfl, rfl, rfl, by decide +kernel, rfl, by decide +kernel, by decide +kernel⟩
abbrev N_l_small : List Str := ["_law_pen_here"]
theorem sc_l_small : FnScope N_l_small ["_law_pen_here"] (defScope s_l_small) := ⟨rfl, rfl, rfl, by decide +kernel, rfl, by decide +kernel, by decide +kernel⟩
abbrev N_l_log : List Str := ["_law_pen_here", "_law_many", "_law_parts", "_law_turn", "_law_log_here", "_law_running", "_law_joined", "_law_k", "_law_time", "_law_way"]
theorem sc_l_log : FnScope N_l_log ["_law_pen_here", "_law_many"] (defScope s_l_log) := ⟨rfl, rfl, rfl, by decide +kernel, rfl, by decide +kernel, by decide +kernel⟩
abbrev N_l_pen : List Str := ["_law_script", "_law_k", "_law_cell"]
theorem sc_l_pen : FnScope N_l_pen ["_law_script", "_law_k"] (defScope s_l_pen) := ⟨rfl, rfl, rfl, by decide +kernel, rfl, by decide +kernel, by decide +kernel⟩
abbrev N_is_less : List Str := ["a", "b"]
theorem sc_is_less : FnScope N_is_less ["a", "b"] (defScope s_is_less) := ⟨rfl, rfl, rfl, by decide +kernel, rfl, by decide +kernel, by decide +kernel⟩
abbrev N_fits : List Str := ["deed", "running", "ahead"]
theorem sc_fits : FnScope N_fits ["deed", "running", "ahead"] (defScope s_fits) := ⟨rfl, rfl, rfl, by decide +kernel, rfl, by decide +kernel, by decide +kernel⟩
abbrev N_common : List Str := ["one", "other"]
theorem sc_common : FnScope N_common ["one", "other"] (defScope s_common) := ⟨rfl, rfl, rfl, by decide +kernel, rfl, by decide +kernel, by decide +kernel⟩
abbrev N_is_whole : List Str := ["thing"]
theorem sc_is_whole : FnScope N_is_whole ["thing"] (defScope s_is_whole) := ⟨rfl, rfl, rfl, by decide +kernel, rfl, by decide +kernel, by decide +kernel⟩
abbrev N_is_number : List Str := ["thing"]
theorem sc_is_number : FnScope N_is_number ["thing"] (defScope s_is_number) := ⟨rfl, rfl, rfl, by decide +kernel, rfl, by decide +kernel, by decide +kernel⟩
abbrev N_is_small : List Str := ["thing"]
theorem sc_is_small : FnScope N_is_small ["thing"] (defScope s_is_small) := ⟨rfl, rfl, rfl, by decide +kernel, rfl, by decide +kernel, by decide +kernel⟩
abbrev N_is_deed : List Str := ["thing"]
theorem sc_is_deed : FnScope N_is_deed ["thing"] (defScope s_is_deed) := ⟨rfl, rfl, rfl, by decide +kernel, rfl, by decide +kernel, by decide +kernel⟩
abbrev N_first_wrong : List Str := ["deeds", "running", "joined", "ahead", "at", "deed"]
theorem sc_first_wrong : FnScope N_first_wrong ["deeds"] (defScope s_first_wrong) := ⟨rfl, rfl, rfl, by decide +kernel, rfl, by decide +kernel, by decide +kernel⟩
abbrev N_log_of : List Str := ["thing", "at"]
theorem sc_log_of : FnScope N_log_of ["thing"] (defScope s_log_of) := ⟨rfl, rfl, rfl, by decide +kernel, rfl, by decide +kernel, by decide +kernel⟩
abbrev N_l_refused : List Str := ["_law_thing", "_law_caught", "e"]
theorem sc_l_refused : FnScope N_l_refused ["_law_thing"] (defScope s_l_refused) := ⟨rfl, rfl, rfl, by decide +kernel, rfl, by decide +kernel, by decide +kernel⟩
abbrev N_l_no_number : List Str := ["_law_pen_here", "_law_some"]
theorem sc_l_no_number : FnScope N_l_no_number ["_law_pen_here"] (defScope s_l_no_number) := ⟨rfl, rfl, rfl, by decide +kernel, rfl, by decide +kernel, by decide +kernel⟩
abbrev N_l_bad : List Str := ["_law_pen_here", "_law_time", "_law_good", "_law_way", "_law_some", "_law_bad_here", "_law_runner"]
theorem sc_l_bad : FnScope N_l_bad ["_law_pen_here", "_law_time"] (defScope s_l_bad) := ⟨rfl, rfl, rfl, by decide +kernel, rfl, by decide +kernel, by decide +kernel⟩
abbrev N_l_left : List Str := ["_law_log_here", "_law_at", "_law_gone", "_law_deed"]
theorem sc_l_left : FnScope N_l_left ["_law_log_here", "_law_at"] (defScope s_l_left) := ⟨rfl, rfl, rfl, by decide +kernel, rfl, by decide +kernel, by decide +kernel⟩
abbrev N_l_spoilt : List Str := ["_law_pen_here", "_law_log_here", "_law_way", "_law_at", "_law_time", "_law_ahead", "_law_early", "_law_some", "_law_found", "_law_k"]
theorem sc_l_spoilt : FnScope N_l_spoilt ["_law_pen_here", "_law_log_here"] (defScope s_l_spoilt) := ⟨rfl, rfl, rfl, by decide +kernel, rfl, by decide +kernel, by decide +kernel⟩
abbrev N_law : List Str := ["_law_script", "_law_k", "_law_pen_here", "_law_many", "_law_log_here", "_law_thing", "_law_at", "_law_kept"]
theorem sc_law : FnScope N_law ["_law_script"] (defScope s_law) := ⟨rfl, rfl, rfl, by decide +kernel, rfl, by decide +kernel, by decide +kernel⟩
theorem sci_NoLog : FnScope ["self", "at"] ["self", "at"] (defScope si_NoLog) := ⟨rfl, rfl, rfl, by decide +kernel, rfl, by decide +kernel, by decide +kernel⟩
structure Txt (K : PySem.W.Frag) (mg : Str → Option Value) (w : World) : Prop where
  tb_SIZES : TabC K mg w "SIZES" [("join", DL.D.int 4), ("leave", DL.D.int 3), ("turn", DL.D.int 4)]
  b_ValueError : mg "ValueError" = none
  b_abs : mg "abs" = none
  b_bool : mg "bool" = none
  b_enumerate : mg "enumerate" = none
  b_int : mg "int" = none
  b_isinstance : mg "isinstance" = none
  b_len : mg "len" = none
  b_list : mg "list" = none
  b_range : mg "range" = none
  b_repr : mg "repr" = none
  b_str : mg "str" = none
  b_tuple : mg "tuple" = none
  err : ErrT K mg ["NoLog"] ["LeadError", "NoKey", "NoLog", "NoNumber", "NoRow", "NoText", "NoTime"]
  lead : LeadC K mg
  r_NoLog : RaisI K mg "NoLog" "NoLog.__init__" si_NoLog ["self", "at"]
  nf_NoLog : PySem.W.findIn K (.ref (cA K "NoLog")) "at" = some none
  fl_at : FldE K "NoLog" "at"
  q_MOST_BOTTOM : ConAt K mg "MOST_BOTTOM" (DL.D.int 12)
  q_MOST_DEEDS : ConAt K mg "MOST_DEEDS" (DL.D.int 40)
  q_MOST_RUNNING : ConAt K mg "MOST_RUNNING" (DL.D.int 8)
  q_MOST_TOP : ConAt K mg "MOST_TOP" (DL.D.int 1000000000)
  f_l_lowest : FunAt K mg "_law_lowest" s_l_lowest ["_law_top", "_law_bottom"]
  f_l_take : FunAt K mg "_law_take" s_l_take ["_law_pen_here", "_law_many"]
  f_l_far : FunAt K mg "_law_far" s_l_far ["_law_pen_here"]
  f_l_small : FunAt K mg "_law_small" s_l_small ["_law_pen_here"]
  f_l_log : FunAt K mg "_law_log" s_l_log ["_law_pen_here", "_law_many"]
  f_l_pen : FunAt K mg "_law_pen" s_l_pen ["_law_script", "_law_k"]
  f_is_less : FunAt K mg "is_less" s_is_less ["a", "b"]
  f_fits : FunAt K mg "fits" s_fits ["deed", "running", "ahead"]
  f_common : FunAt K mg "common" s_common ["one", "other"]
  f_is_whole : FunAt K mg "is_whole" s_is_whole ["thing"]
  f_is_number : FunAt K mg "is_number" s_is_number ["thing"]
  f_is_small : FunAt K mg "is_small" s_is_small ["thing"]
  f_is_deed : FunAt K mg "is_deed" s_is_deed ["thing"]
  f_first_wrong : FunAt K mg "first_wrong" s_first_wrong ["deeds"]
  f_log_of : FunAt K mg "log_of" s_log_of ["thing"]
  f_l_refused : FunAt K mg "_law_refused" s_l_refused ["_law_thing"]
  f_l_no_number : FunAt K mg "_law_no_number" s_l_no_number ["_law_pen_here"]
  f_l_bad : FunAt K mg "_law_bad" s_l_bad ["_law_pen_here", "_law_time"]
  f_l_left : FunAt K mg "_law_left" s_l_left ["_law_log_here", "_law_at"]
  f_l_spoilt : FunAt K mg "_law_spoilt" s_l_spoilt ["_law_pen_here", "_law_log_here"]
  f_law : FunAt K mg "law" s_law ["_law_script"]
theorem oi_NoLog {P : Program} {w : World} {K : PySem.W.Frag} {mg : Str → Option Value} {base : Heap} (T : Txt K mg w) {fI : Addr} {fd : FuncData} (F : Fun K "__init__" "NoLog.__init__" si_NoLog fI fd) : FnOk P w K mg base CX0 1 fI fd ["self", "at"] (spInit (cA K "NoLog") "at") := by
  refine F.ok sci_NoLog (fun vs H Q E h => ?_) (fun cdv A outer s H vs Q E hr h => ?_)
  · obtain ⟨a, i, rfl, _⟩ := h
    rfl
  · obtain ⟨a, i, rfl, ha, q⟩ := h
    refine ⟨_, pss_cons (ps_expr (pe_leadinit (by rfl) T.lead (pa_cons (pv 0) (pa_cons pe_str pa_nil)))) (pss_one (ps_ost (pv 0) (pv 1))), ?_⟩
    refine ⟨_, rfl, a, cA K "NoLog", [.str _], rfl, (by show 1 ≤ 1000; decide), T.r_NoLog.T, ha, ?_⟩
    exact ⟨_, rfl, _, rfl, a, cA K "NoLog", rfl, T.r_NoLog.T, T.nf_NoLog, .inl ⟨ha, fun d nd hd => q d nd hd⟩⟩
theorem ro_NoLog {P : Program} {w : World} {K : PySem.W.Frag} {mg : Str → Option Value} {base : Heap} (T : Txt K mg w) : RaisO P w K mg base "NoLog" "at" := T.r_NoLog.o fun fI fd F => oi_NoLog T F
section
variable {P : Program} {w : World} {K : PySem.W.Frag} {mg : Str → Option Value} {base : Heap}
def sp_l_lowest : Sp2 := fun ds S Q _ => match ds with
  | [.int t, .int b] => 0 < b ∧ Sz 9000 b ∧ Q (eQ ((t : Rat) / (b : Rat))) S
  | _ => False
theorem st_l_lowest (x0 x1 : DL.D) : start2 N_l_lowest [x0, x1] = [some x0, some x1, none, none] := rfl
set_option maxHeartbeats 8000000 in
theorem ok_l_lowest (T : Txt K mg w) : Fn P w K mg base 1 "_law_lowest" sp_l_lowest := by
  refine fn_intro2 T.f_l_lowest sc_l_lowest (fun ds S Q E h => ?_) (fun cdv A outer s H E f hr => ⟨_, (ss_cons (s_set 2 sc_l_lowest.nd rfl (by first | exact .inl rfl | exact .inr rfl) (.inl rfl) (q_abs T.b_abs (by rfl) (a_cons (qv 0 (pv 0)) a_nil)))
 (ss_cons (s_set 3 sc_l_lowest.nd rfl (by first | exact .inl rfl | exact .inr rfl) (.inl rfl) (qv 1 (pv 1)))
 (ss_cons (s_while .never (t_gt (qv 3 (pv 3)) q_int)
 (ss_one (s_par 2 3 rfl sc_l_lowest.nd rfl rfl (by decide) rfl rfl (a_cons (qv 3 (pv 3)) (a_cons (q_mod (qv 2 (pv 2)) (qv 3 (pv 3))) a_nil)) (by rfl))))
 (ss_one (s_ret (q_tup (a_cons (q_fdiv (qv 0 (pv 0)) (qv 2 (pv 2))) (a_cons (q_fdiv (qv 1 (pv 1)) (qv 2 (pv 2))) a_nil)))))))), fun ds S Q E h => ?_⟩)
  ·   unfold sp_l_lowest at h
      split at h
      · rfl
      · exact h.elim
  · unfold sp_l_lowest at h
    split at h
    · rename_i t b
      obtain ⟨hb0, hs, q⟩ := h
      have hb : b ≠ 0 := by omega
      rw [st_l_lowest]
      walk_at "d"
      rw [abs_nat]
      refine ⟨fun m τ S' => ∃ x : Nat, τ = [some (.int t), some (.int b), some (.int (x : Nat)), some (.int (m : Nat))] ∧ S' = S ∧ Nat.gcd x m = Int.gcd t b, ⟨b.natAbs, t.natAbs, by rw [show ((b.natAbs : Nat) : Int) = b by omega], rfl, rfl⟩, ?_⟩
      rintro m τ S' ⟨x, rfl, rfl, e⟩
      walk_at "d"
      refine cnd_dec (fun hm => ?_) (fun hm => ?_)
      · refine ⟨by omega, x % m, Nat.mod_lt _ (by omega), m, ?_, ?_⟩
        · rw [fmod_nat]
        · rw [gcd_stepN]; exact e
      · have : m = 0 := by omega
        subst this
        rw [Nat.gcd_zero_right] at e
        subst e
        have e1 := low_num (t := t) hb
        have e2 := low_den (t := t) hb
        rw [if_neg (by omega)] at e1 e2
        rw [e1, e2]
        exact ⟨gcd_div_ok hb hs, gcd_div_ok hb hs, _, .refl _, q⟩
    · exact h.elim
def sp_l_take : Sp2 := fun ds S Q _ => ∃ a n m, ds = [.ref a, .int m] ∧ PenC S a n ∧ n ≤ 100000 ∧ 0 < m ∧ Sz 9000 m ∧ ∀ r x y z, 0 ≤ r → r < m → 0 ≤ z → z ≤ ((n + 1 : Nat) : Int) → Q (.int r) (ups S a (penC x y z))
theorem st_l_take (x0 x1 : DL.D) : start2 N_l_take [x0, x1] = [some x0, some x1, none, none] := rfl
set_option maxHeartbeats 8000000 in
theorem ok_l_take (T : Txt K mg w) : Fn P w K mg base 1 "_law_take" sp_l_take := by
  refine fn_intro2 T.f_l_take sc_l_take (fun ds S Q E h => ?_) (fun cdv A outer s H E f hr => ⟨_, (ss_cons (s_if (t_gt (q_ixk 0 (qv 0 (pv 0))) q_int)
 (ss_cons (s_set 2 sc_l_take.nd rfl (by first | exact .inl rfl | exact .inr rfl) (.inl rfl) (q_mod (q_ixk 0 (qv 0 (pv 0))) (qv 1 (pv 1))))
 (ss_cons (s_asg (q_fdiv (q_ixk 0 (qv 0 (pv 0))) (qv 1 (pv 1))) (g_subk 0 (qv 0 (pv 0))))
 (ss_one (s_ret (qv 2 (pv 2))))))
 ss_nil)
 (ss_cons (s_asg (q_add (q_ixk 2 (qv 0 (pv 0))) q_int) (g_subk 2 (qv 0 (pv 0))))
 (ss_cons (s_set 3 sc_l_take.nd rfl (by first | exact .inl rfl | exact .inr rfl) (.inl rfl) (q_mod (q_mul (q_mod (q_add (q_ixk 1 (qv 0 (pv 0))) (q_mul (q_mul (q_ixk 2 (qv 0 (pv 0))) (q_ixk 2 (qv 0 (pv 0)))) q_int)) q_int) q_int) q_int))
 (ss_cons (s_set 3 sc_l_take.nd rfl (by first | exact .inl rfl | exact .inr rfl) (.inl rfl) (q_mod (q_add (q_add (q_mul (qv 3 (pv 3)) (qv 3 (pv 3))) (q_mul q_int (qv 3 (pv 3)))) (q_ixk 2 (qv 0 (pv 0)))) q_int))
 (ss_one (s_ret (q_mod (q_fdiv (qv 3 (pv 3)) q_int) (qv 1 (pv 1))))))))), fun ds S Q E h => ?_⟩)
  · obtain ⟨a, n, m, rfl, _⟩ := h
    rfl
  · obtain ⟨a, n, m, rfl, ⟨x, y, z, h0, z0, z1⟩, hn, hm, hz, q⟩ := h
    rw [st_l_take]
    unfold penC at h0
    walk_at "f"
    refine cnd_dec (fun c => ?_) (fun c => ?_)
    · exact ⟨by omega, ⟨by omega, hz⟩, _, .refl _, q _ _ _ _ (fmod_lt hm).1 (fmod_lt hm).2 z0 (by omega)⟩
    · have h2 : Sz 64 (z + 1) := Sz.lit (by omega)
      exact ⟨.inr (.inl h2), .inr (.inr (Sz.lit (by decide))), .inr (.inr (Sz.lit (by decide))), .inr (.inl (Sz.fmod (by decide) (Sz.lit (by decide)))), .inr (.inl (Sz.lit (by decide))), divOk_lit (by decide) (by decide), by omega, _, .refl _, q _ _ _ _ (fmod_lt hm).1 (fmod_lt hm).2 (by omega) (by omega)⟩
def sp_l_far : Sp2 := fun ds S Q _ => ∃ a n, ds = [.ref a] ∧ PenC S a n ∧ n ≤ 90000 ∧ ∀ r x y z, r.natAbs < 10 ^ 9 → 0 ≤ z → z ≤ ((n + 4 : Nat) : Int) → Q (.int r) (ups S a (penC x y z))
theorem st_l_far (x0 : DL.D) : start2 N_l_far [x0] = [some x0, none] := rfl
set_option maxHeartbeats 8000000 in
theorem ok_l_far (T : Txt K mg w) : Fn P w K mg base 2 "_law_far" sp_l_far := by
  refine fn_intro2 T.f_l_far sc_l_far (fun ds S Q E h => ?_) (fun cdv A outer s H E f hr => ⟨_, (ss_cons (s_set 1 sc_l_far.nd rfl (by first | exact .inl rfl | exact .inr rfl) (.inl rfl) (q_add (q_add (q_mul (q_call (ok_l_take T) (hr.mono (by decide)) (by rfl) (a_cons (qv 0 (pv 0)) (a_cons q_int a_nil))) (q_powk 1000000 (by decide +kernel) (by decide +kernel))) (q_mul (q_call (ok_l_take T) (hr.mono (by decide)) (by rfl) (a_cons (qv 0 (pv 0)) (a_cons q_int a_nil))) q_int)) (q_call (ok_l_take T) (hr.mono (by decide)) (by rfl) (a_cons (qv 0 (pv 0)) (a_cons q_int a_nil)))))
 (ss_one (s_ret (q_ixg (fun _ _ => rfl) (q_lst (a_cons (qv 1 (pv 1)) (a_cons (q_sub q_int (qv 1 (pv 1))) a_nil))) (q_call (ok_l_take T) (hr.mono (by decide)) (by rfl) (a_cons (qv 0 (pv 0)) (a_cons q_int a_nil))))))), fun ds S Q E h => ?_⟩)
  · obtain ⟨a, n, rfl, _⟩ := h
    rfl
  · obtain ⟨a, n, rfl, hp, hn, q⟩ := h
    rw [st_l_far]
    walk_at "d"
    refine ⟨a, n, _, rfl, hp, by omega, by decide, Sz.lit (by decide), fun r1 x1 y1 z1 r10 r11 z10 z11 => ?_⟩
    walk_at "d"
    refine ⟨.inr (.inr (Sz.lit (by decide))), ?_⟩
    refine ⟨a, n + 1, _, rfl, penC_again z10 z11, by omega, by decide, Sz.lit (by decide), fun r2 x2 y2 z2 r20 r21 z20 z21 => ?_⟩
    walk_at "d"
    refine ⟨.inr (.inr (Sz.lit (by decide))), ?_⟩
    refine ⟨a, n + 2, _, rfl, penC_again z20 z21, by omega, by decide, Sz.lit (by decide), fun r3 x3 y3 z3 r30 r31 z30 z31 => ?_⟩
    walk_at "d"
    intro p np
    have hne := PenC.ne (penC_again z30 z31) np
    refine ⟨a, n + 3, _, rfl, (penC_again z30 z31).new np, by omega, by decide, Sz.lit (by decide), fun w x4 y4 z4 w0 w1 z40 z41 => ?_⟩
    walk_at "d"
    rw [ups_ne hne.symm]
    walk_at "d"
    rw [atI_get2 w0 w1]
    split
    · walk_at "d"
      exact ⟨_, Sub.drop1 np hne, by rw [ups_ups]; exact q _ _ _ _ (by omega) z40 (by omega)⟩
    · walk_at "d"
      exact ⟨_, Sub.drop1 np hne, by rw [ups_ups]; exact q _ _ _ _ (by omega) z40 (by omega)⟩
def sp_l_small : Sp2 := fun ds S Q _ => ∃ a n, ds = [.ref a] ∧ PenC S a n ∧ n ≤ 80000 ∧ ∀ r x y z, SmX r → 0 ≤ z → z ≤ ((n + 6 : Nat) : Int) → Q (eQ r) (ups S a (penC x y z))
theorem st_l_small (x0 : DL.D) : start2 N_l_small [x0] = [some x0] := rfl
set_option maxHeartbeats 8000000 in
theorem ok_l_small (T : Txt K mg w) : Fn P w K mg base 3 "_law_small" sp_l_small := by
  refine fn_intro2 T.f_l_small sc_l_small (fun ds S Q E h => ?_) (fun cdv A outer s H E f hr => ⟨_, (ss_cons (s_if (t_gt (q_call (ok_l_take T) (hr.mono (by decide)) (by rfl) (a_cons (qv 0 (pv 0)) (a_cons q_int a_nil))) q_int)
 (ss_one (s_ret (q_tup (a_cons (q_sub (q_call (ok_l_take T) (hr.mono (by decide)) (by rfl) (a_cons (qv 0 (pv 0)) (a_cons q_int a_nil))) q_int) (a_cons q_int a_nil)))))
 ss_nil)
 (ss_one (s_ret (q_call (ok_l_lowest T) (hr.mono (by decide)) (by rfl) (a_cons (q_call (ok_l_far T) (hr.mono (by decide)) (by rfl) (a_cons (qv 0 (pv 0)) a_nil)) (a_cons (q_add q_int (q_call (ok_l_take T) (hr.mono (by decide)) (by rfl) (a_cons (qv 0 (pv 0)) (a_cons q_int a_nil)))) a_nil)))))), fun ds S Q E h => ?_⟩)
  · obtain ⟨a, n, rfl, _⟩ := h
    rfl
  · obtain ⟨a, n, rfl, hp, hn, q⟩ := h
    rw [st_l_small]
    walk_at "d"
    refine ⟨a, n, _, rfl, hp, by omega, by decide, Sz.lit (by decide), fun r x y z r0 r1 z0 z1 => ?_⟩
    walk_at "d"
    have hp1 : PenC (ups S a (penC x y z)) a (n + 1) := penC_again z0 z1
    refine cnd_dec (fun _ => ?_) (fun _ => ?_)
    · refine ⟨a, n + 1, _, rfl, hp1, by omega, by decide, Sz.lit (by decide), fun r x' y' z' r0 r1 z0' z1' => ?_⟩
      walk_at "d"
      exact ⟨_, .refl _, q ((r - 3 : Int) : Rat) x' y' z' (SmX.int (by omega)) z0' (by omega)⟩
    · refine ⟨a, n + 1, rfl, hp1, by omega, fun r x y z r0 z0 z1 => ?_⟩
      walk_at "d"
      refine ⟨a, n + 5, _, rfl, penC_again z0 z1, by omega, by decide, Sz.lit (by decide), fun b x' y' z' b0 b1 z0' z1' => ?_⟩
      walk_at "d"
      exact ⟨by omega, (Sz.lit (m := 10) (by omega)).le (by decide), _, .refl _, by first | exact q _ x' y' z' (SmX.quo (by omega) (by omega) (by omega)) z0' (by omega) | (simp only [ups_ups]; exact q _ x' y' z' (SmX.quo (by omega) (by omega) (by omega)) z0' (by omega))⟩
def sp_l_log : Sp2 := fun ds S Q _ => ∃ (a : Addr) (n m : Nat), ds = [.ref a, .int (m : Int)] ∧ PenC S a n ∧ n ≤ 10000 ∧ m ≤ 40 ∧ ∀ S' f D, Fr S S' a → PenC S' a (n + 1000) → S f = none → S' f = some (.lst (D.map eDd)) → LogX D → D.length = m → (∀ d ∈ D, d.t ≤ ((220 : Int) : Rat)) → Q (.ref f) S'
theorem st_l_log (x0 x1 : DL.D) : start2 N_l_log [x0, x1] = [some x0, some x1, none, none, none, none, none, none, none, none] := rfl
set_option maxHeartbeats 8000000 in
theorem ok_l_log (T : Txt K mg w) : Fn P w K mg base 4 "_law_log" sp_l_log := by
  refine fn_intro2 T.f_l_log sc_l_log (fun ds S Q E h => ?_) (fun cdv A outer s H E f hr => ⟨_, (ss_cons (s_set 2 sc_l_log.nd rfl (by first | exact .inl rfl | exact .inr rfl) (.inl rfl) (q_ixg (fun _ _ => rfl) (q_lst (a_cons q_int (a_cons q_int (a_cons (q_add q_int (q_call (ok_l_take T) (hr.mono (by decide)) (by rfl) (a_cons (qv 0 (pv 0)) (a_cons q_int a_nil)))) a_nil)))) (q_call (ok_l_take T) (hr.mono (by decide)) (by rfl) (a_cons (qv 0 (pv 0)) (a_cons q_int a_nil)))))
 (ss_cons (s_set 3 sc_l_log.nd rfl (by first | exact .inl rfl | exact .inr rfl) (.inl rfl) (q_sub (q_call (ok_l_take T) (hr.mono (by decide)) (by rfl) (a_cons (qv 0 (pv 0)) (a_cons q_int a_nil))) q_int))
 (ss_cons (s_set 4 sc_l_log.nd rfl (by first | exact .inl rfl | exact .inr rfl) (.inl rfl) (q_lst a_nil))
 (ss_cons (s_set 5 sc_l_log.nd rfl (by first | exact .inl rfl | exact .inr rfl) (.inl rfl) (q_lst a_nil))
 (ss_cons (s_set 6 sc_l_log.nd rfl (by first | exact .inl rfl | exact .inr rfl) (.inl rfl) q_int)
 (ss_cons (s_for .never rfl (i_rng1 T.b_range (by rfl) (a_cons (qv 1 (pv 1)) a_nil)) (g_name (i := 7) sc_l_log.nd rfl (by first | exact .inl rfl | exact .inr rfl) (.inl rfl))
 (ss_cons (s_set 3 sc_l_log.nd rfl (by first | exact .inl rfl | exact .inr rfl) (.inl rfl) (q_add (qv 3 (pv 3)) (q_ixg (fun _ _ => rfl) (q_lst (a_cons q_int (a_cons q_int (a_cons q_int (a_cons q_int (a_cons q_int (a_cons q_int a_nil))))))) (q_call (ok_l_take T) (hr.mono (by decide)) (by rfl) (a_cons (qv 0 (pv 0)) (a_cons q_int a_nil))))))
 (ss_cons (s_set 8 sc_l_log.nd rfl (by first | exact .inl rfl | exact .inr rfl) (.inl rfl) (q_call (ok_l_lowest T) (hr.mono (by decide)) (by rfl) (a_cons (qv 3 (pv 3)) (a_cons (qv 2 (pv 2)) a_nil))))
 (ss_cons (s_set 9 sc_l_log.nd rfl (by first | exact .inl rfl | exact .inr rfl) (.inl rfl) (q_call (ok_l_take T) (hr.mono (by decide)) (by rfl) (a_cons (qv 0 (pv 0)) (a_cons q_int a_nil))))
 (ss_one (s_if (PW.pt (w_or (t_eq hr (qv 5 (pv 5)) (q_lst a_nil)) (w_or1 (PW.pt (w_and (t_lt (qv 9 (pv 9)) q_int) (w_and1 (t_lt (q_len T.b_len (by rfl) (a_cons (qv 5 (pv 5)) a_nil)) q_int)))))))
 (ss_cons (s_expr (q_append (qv 4 (pv 4)) (a_cons (q_tup (a_cons q_str (a_cons (qv 8 (pv 8)) (a_cons (q_call (ok_l_small T) (hr.mono (by decide)) (by rfl) (a_cons (qv 0 (pv 0)) a_nil)) (a_cons (q_call (ok_l_small T) (hr.mono (by decide)) (by rfl) (a_cons (qv 0 (pv 0)) a_nil)) a_nil))))) a_nil)))
 (ss_cons (s_expr (q_append (qv 5 (pv 5)) (a_cons (qv 6 (pv 6)) a_nil)))
 (ss_one (s_set 6 sc_l_log.nd rfl (by first | exact .inl rfl | exact .inr rfl) (.inl rfl) (q_add (qv 6 (pv 6)) q_int)))))
 (ss_one (s_if (t_eq hr (qv 9 (pv 9)) q_int)
 (ss_one (s_expr (q_append (qv 4 (pv 4)) (a_cons (q_tup (a_cons q_str (a_cons (qv 8 (pv 8)) (a_cons (q_popAt (qv 5 (pv 5)) (a_cons (q_call (ok_l_take T) (hr.mono (by decide)) (by rfl) (a_cons (qv 0 (pv 0)) (a_cons (q_len T.b_len (by rfl) (a_cons (qv 5 (pv 5)) a_nil)) a_nil))) a_nil)) a_nil)))) a_nil))))
 (ss_one (s_expr (q_append (qv 4 (pv 4)) (a_cons (q_tup (a_cons q_str (a_cons (qv 8 (pv 8)) (a_cons (q_ixg (fun _ _ => rfl) (qv 5 (pv 5)) (q_call (ok_l_take T) (hr.mono (by decide)) (by rfl) (a_cons (qv 0 (pv 0)) (a_cons (q_len T.b_len (by rfl) (a_cons (qv 5 (pv 5)) a_nil)) a_nil)))) (a_cons (q_call (ok_l_small T) (hr.mono (by decide)) (by rfl) (a_cons (qv 0 (pv 0)) a_nil)) a_nil))))) a_nil))))))))))))
 (ss_one (s_ret (qv 4 (pv 4)))))))))), fun ds S Q E h => ?_⟩)
  · obtain ⟨_, _, _, rfl, _⟩ := h
    rfl
  · obtain ⟨a, n, m, rfl, hp, hn, hm, q⟩ := h
    rw [st_l_log]
    walk_at "d"
    refine ⟨a, n + 1, _, rfl, hp.le (by omega), by omega, by decide, Sz.lit (by decide), fun r2 x2 y2 z2 r20 r21 z20 z21 => ?_⟩
    walk_at "d"
    intro p1 n1
    obtain ⟨h1a, n1⟩ := ups_no n1
    refine ⟨a, n + 2, _, rfl, (penC_again z20 z21).upd h1a.symm, by omega, by decide, Sz.lit (by decide), fun r3 x y z r30 r31 z0 z1 => ?_⟩
    walk_at "d"
    rw [ups_ne h1a]
    walk_at "d"
    obtain ⟨g, _, hg, e⟩ := atI_map (e := DL.D.int) (xs := [1, 1, 1 + r2]) r30 r31
    have e' : atI [DL.D.int 1, DL.D.int 1, DL.D.int (1 + r2)] r3 = some (DL.D.int g) := e
    rw [e']
    walk_at "d"
    have hg1 : 1 ≤ g ∧ g ≤ 12 := by
      simp only [List.mem_cons, List.not_mem_nil, or_false] at hg
      omega
    clear e e' hg
    refine ⟨a, n + 3, _, rfl, penC_again z0 z1, by omega, by decide, Sz.lit (by decide), fun r4 x y z r40 r41 z0 z1 => ?_⟩
    walk_at "d"
    intro f nf
    obtain ⟨hfa, nf⟩ := ups_no nf
    obtain ⟨hf1, nf⟩ := ups_no nf
    have nf := (ups_no nf).2
    intro rr nr
    obtain ⟨hrf, nr⟩ := ups_no nr
    obtain ⟨hra, nr⟩ := ups_no nr
    obtain ⟨hr1, nr⟩ := ups_no nr
    have nr := (ups_no nr).2
    refine ⟨by omega, ?_⟩
    have L0 : Lg S (ups (ups (ups (ups (ups S a (penC x2 y2 z2)) p1 (O.lst [D.int 1, D.int 1, D.int (1 + r2)])) a (penC x y z)) f (.lst [])) rr (.lst [])) a f rr (n + 4) (.lst (([] : List Dd).map eDd)) (.lst (([] : List Nat).map eN)) :=
      ⟨(((((((Fr.refl S a).wr).own n1).wr).own nf).own nr)), ((penC_again z0 z1).upd hfa.symm).upd hra.symm, by rw [ups_ne hrf.symm, ups_same]; rfl, by rw [ups_same]; rfl, nf, nr, hfa, hra, hrf.symm⟩
    generalize ups (ups (ups (ups (ups S a (penC x2 y2 z2)) p1 (O.lst [D.int 1, D.int 1, D.int (1 + r2)])) a (penC x y z)) f (.lst [])) rr (.lst []) = S0 at *
    clear hf1 h1a hr1 n1
    refine loop_r0 (fun i τ S' => ∃ (D : List Dd) (turn : Int), Lg S S' a f rr (n + 4 + 15 * i) (.lst (D.map eDd)) (.lst ((keysM (runM D).1).map eN)) ∧ LogX D ∧ D.length = i ∧ (runM D).1.length ≤ 8 ∧ turn.natAbs ≤ 20 + 5 * i ∧ (∀ d ∈ D, d.t ≤ (turn : Rat) / (g : Rat)) ∧ ∃ v7 v8 v9, τ = [some (.ref a), some (.int (m : Int)), some (.int g), some (.int turn), some (.ref f), some (.ref rr), some (.int ((runM D).2 : Nat)), v7, v8, v9]) ⟨[], r4 - 20, L0, .nil, rfl, Nat.zero_le _, by omega, by simp, _, _, _, rfl⟩ ?_ ?_
    · rintro i τ S1 hi ⟨D, turn, L, hD, hDl, hMl, ht, hlast, v7, v8, v9, rfl⟩
      have hkl := runM_length D
      walk_at "d"
      intro p np
      have hpa := L.na np
      have L := L.new (o := .lst [.int 0, .int 1, .int 2, .int 1, .int 0, .int 5]) np
      refine ⟨a, _, _, rfl, L.pen, by omega, by decide, Sz.lit (by decide), fun r x y z r0 r6 z0 z1 => ?_⟩
      have L := L.wr (x := x) (y := y) z0 z1
      walk_at "d"
      rw [ups_ne hpa]
      walk_at "d"
      obtain ⟨inc, _, hinc, e⟩ := atI_map (e := DL.D.int) (xs := [0, 1, 2, 1, 0, 5]) r0 r6
      have e' : atI [DL.D.int 0, DL.D.int 1, DL.D.int 2, DL.D.int 1, DL.D.int 0, DL.D.int 5] r = some (DL.D.int inc) := e
      rw [e']
      have hinc1 : 0 ≤ inc ∧ inc ≤ 5 := by
        simp only [List.mem_cons, List.not_mem_nil, or_false] at hinc
        omega
      clear e e' hinc
      walk_at "d"
      refine ⟨by omega, (Sz.lit (m := 10) (by omega)).le (by decide), ?_⟩
      have su : SmX (((turn + inc : Int) : Rat) / (g : Rat)) := SmX.quo (by omega) (by omega) (by omega)
      have hlast : ∀ d ∈ D, d.t ≤ ((turn + inc : Int) : Rat) / (g : Rat) := fun d hd => Rat.le_trans (hlast d hd) (quo_le (by omega) (by omega))
      have ht : (turn + inc).natAbs ≤ 20 + 5 * (i + 1) := by omega
      generalize turn + inc = turn' at *
      generalize hu : ((turn' : Int) : Rat) / (g : Rat) = u at *
      generalize ups (ups S1 p _) a (penC x y z) = S2 at *
      walk_at "d"
      refine ⟨a, _, _, rfl, L.pen, by omega, by decide, Sz.lit (by decide), fun way x y z w0 w6 z0 z1 => ?_⟩
      have L := L.wr (x := x) (y := y) z0 z1
      generalize ups S2 a (penC x y z) = S3 at *
      walk_at "d"
      intro q1 nq1
      have hq := ne_of_st L.hr nq1
      have L := L.new (o := .lst []) nq1
      have hq1 : ups S3 q1 (.lst []) q1 = some (.lst (([] : List Nat).map eN)) := ups_same
      generalize ups S3 q1 (.lst []) = S4 at *
      refine eq_refs (α := Nat) (xs := keysM (runM D).1) (ys := []) L.hr hq1 ?_
      walk_at "d"
      refine cnd_dec (fun c0 => ?_) (fun c0 => cnd_dec (fun c1 => ?_) (fun c1 => ?_))
      · have hM8 : (runM D).1.length < 8 := by rw [← hkl, c0]; decide
        walk_at "d"
        rw [L.hf]
        walk_at "d"
        refine ⟨⟨_, rfl⟩, a, _, rfl, L.pen, by omega, fun p' x y z sp z0 z1 => ?_⟩
        have L := L.wr (x := x) (y := y) z0 z1
        generalize ups S4 a (penC x y z) = S5 at *
        refine ⟨a, _, rfl, L.pen, by omega, fun m' x y z sm z0 z1 => ?_⟩
        have L := L.wr (x := x) (y := y) z0 z1
        generalize ups S5 a (penC x y z) = S6 at *
        walk_at "d"
        rw [L.hf]
        walk_at "d"
        have L := L.setf (o := .lst (D.map eDd ++ [.tup [.str "join", eQ u, eQ p', eQ m']]))
        rw [L.hr]
        walk_at "d"
        have L := L.setr (o := .lst ((keysM (runM D).1).map eN ++ [eN (runM D).2]))
        have ek : keysM (runM (D ++ [Dd.join u p' m'])).1 = keysM (runM D).1 ++ [(runM D).2] := by rw [runM_snoc]; unfold stepM keysM; rw [List.map_append]; rfl
        rw [← eDd_j, map_snoc (f := eDd), map_snoc (f := eN), ← ek] at L
        have hD2 : LogX (D ++ [Dd.join u p' m']) := hD.snoc ⟨su, sp, sm⟩ trivial hlast (fun _ => hM8) (by omega)
        refine ⟨small1000 (by omega), ⟨_, rfl⟩, small1000 (by omega), D ++ [Dd.join u p' m'], turn', ?_, hD2, by rw [List.length_append, List.length_singleton]; omega, by rw [runM_snoc]; have := step_len (runM D) (Dd.join u p' m'); omega, ht, ?_, _, _, _, by rw [runM_snoc]; rfl⟩
        · rw [← eDd_j, map_snoc (f := eDd), map_snoc (f := eN), ← ek]
          exact L.le (by omega)
        · intro d hd
          rw [hu]
          rcases List.mem_append.mp hd with h | h
          · exact hlast d h
          · rw [List.mem_singleton.mp h]; exact Rat.le_refl
      · rw [L.hr]
        walk_at "d"
        refine cnd_dec (fun c2 => ?_) (fun c2 => ?_)
        · have hM8 : (runM D).1.length < 8 := by omega
          walk_at "d"
          rw [L.hf]
          walk_at "d"
          refine ⟨⟨_, rfl⟩, a, _, rfl, L.pen, by omega, fun p' x y z sp z0 z1 => ?_⟩
          have L := L.wr (x := x) (y := y) z0 z1
          generalize ups S4 a (penC x y z) = S5 at *
          refine ⟨a, _, rfl, L.pen, by omega, fun m' x y z sm z0 z1 => ?_⟩
          have L := L.wr (x := x) (y := y) z0 z1
          generalize ups S5 a (penC x y z) = S6 at *
          walk_at "d"
          rw [L.hf]
          walk_at "d"
          have L := L.setf (o := .lst (D.map eDd ++ [.tup [.str "join", eQ u, eQ p', eQ m']]))
          rw [L.hr]
          walk_at "d"
          have L := L.setr (o := .lst ((keysM (runM D).1).map eN ++ [eN (runM D).2]))
          have ek : keysM (runM (D ++ [Dd.join u p' m'])).1 = keysM (runM D).1 ++ [(runM D).2] := by rw [runM_snoc]; unfold stepM keysM; rw [List.map_append]; rfl
          rw [← eDd_j, map_snoc (f := eDd), map_snoc (f := eN), ← ek] at L
          have hD2 : LogX (D ++ [Dd.join u p' m']) := hD.snoc ⟨su, sp, sm⟩ trivial hlast (fun _ => hM8) (by omega)
          refine ⟨small1000 (by omega), ⟨_, rfl⟩, small1000 (by omega), D ++ [Dd.join u p' m'], turn', ?_, hD2, by rw [List.length_append, List.length_singleton]; omega, by rw [runM_snoc]; have := step_len (runM D) (Dd.join u p' m'); omega, ht, ?_, _, _, _, by rw [runM_snoc]; rfl⟩
          · rw [← eDd_j, map_snoc (f := eDd), map_snoc (f := eN), ← ek]
            exact L.le (by omega)
          · intro d hd
            rw [hu]
            rcases List.mem_append.mp hd with h | h
            · exact hlast d h
            · rw [List.mem_singleton.mp h]; exact Rat.le_refl
        · have hpos : 0 < (keysM (runM D).1).length := List.length_pos_iff.mpr c0
          walk_at "d"
          refine cnd_dec (fun c3 => ?_) (fun c3 => ?_)
          · refine ⟨⟨_, L.hf⟩, ⟨_, by first | exact L.hr | rfl⟩, ?_⟩
            try rw [L.hr]
            try walk_at "d"
            refine ⟨a, _, _, rfl, L.pen, by omega, by omega, (Sz.lit (m := 10) (by omega)).le (by decide), fun j x y z j0 j1 z0 z1 => ?_⟩
            have L := L.wr (x := x) (y := y) z0 z1
            generalize ups S4 a (penC x y z) = S5 at *
            obtain ⟨j, rfl⟩ := Int.eq_ofNat_of_zero_le j0
            have hj : j < (keysM (runM D).1).length := by omega
            walk_at "d"
            rw [L.hr]
            walk_at "d"
            rw [seq_nat hj]
            walk_at "d"
            rw [List.getElem?_map, List.getElem?_eq_getElem hj]
            walk_at "d"
            have L := L.setr (o := .lst (((keysM (runM D).1).map eN).eraseIdx j))
            rw [L.hf]
            walk_at "d"
            have L := L.setf (o := .lst (D.map eDd ++ [.tup [.str "leave", eQ u, .int ((keysM (runM D).1)[j] : Nat)]]))
            have ek := keys_drop hj u
            have hD2 : LogX (D ++ [Dd.leave u (keysM (runM D).1)[j]]) := hD.snoc su (List.getElem_mem hj) hlast (fun z => z.elim) (by omega)
            have rm : (runM (D ++ [Dd.leave u (keysM (runM D).1)[j]])).1.length ≤ 8 := by
              have := runM_length (D ++ [Dd.leave u (keysM (runM D).1)[j]])
              rw [ek, List.length_eraseIdx_of_lt hj] at this
              omega
            refine ⟨⟨by omega, by omega⟩, small1000 (by omega), D ++ [Dd.leave u (keysM (runM D).1)[j]], turn', ?_, hD2, by rw [List.length_append, List.length_singleton]; omega, rm, ht, ?_, _, _, _, by rw [runM_snoc]; rfl⟩
            · rw [← eDd_l, map_snoc (f := eDd), erase_map, ← ek] at L
              rw [← eDd_l, map_snoc (f := eDd), erase_map, ← ek]
              exact L.le (by omega)
            · intro d hd
              rw [hu]
              rcases List.mem_append.mp hd with h | h
              · exact hlast d h
              · rw [List.mem_singleton.mp h]; exact Rat.le_refl
          · refine ⟨⟨_, L.hf⟩, ?_⟩
            try rw [L.hr]
            try walk_at "d"
            refine ⟨a, _, _, rfl, L.pen, by omega, by omega, (Sz.lit (m := 10) (by omega)).le (by decide), fun j x y z j0 j1 z0 z1 => ?_⟩
            have L := L.wr (x := x) (y := y) z0 z1
            generalize ups S4 a (penC x y z) = S5 at *
            obtain ⟨j, rfl⟩ := Int.eq_ofNat_of_zero_le j0
            have hj : j < (keysM (runM D).1).length := by omega
            walk_at "d"
            rw [L.hr]
            walk_at "d"
            rw [atI_nat (xs := (keysM (runM D).1).map eN) (j := j) (v := eN (keysM (runM D).1)[j]) (by rw [List.getElem?_map, List.getElem?_eq_getElem hj]; rfl)]
            walk_at "d"
            refine ⟨a, _, rfl, L.pen, by omega, fun m' x y z sm z0 z1 => ?_⟩
            have L := L.wr (x := x) (y := y) z0 z1
            generalize ups S5 a (penC x y z) = S6 at *
            walk_at "d"
            rw [L.hf]
            walk_at "d"
            have L := L.setf (o := .lst (D.map eDd ++ [.tup [.str "turn", eQ u, .int ((keysM (runM D).1)[j] : Nat), eQ m']]))
            have ek : keysM (runM (D ++ [Dd.turn u (keysM (runM D).1)[j] m'])).1 = keysM (runM D).1 := by rw [runM_snoc]; exact keys_mset _ _ _
            have rm : (runM (D ++ [Dd.turn u (keysM (runM D).1)[j] m'])).1.length ≤ 8 := by
              have := runM_length (D ++ [Dd.turn u (keysM (runM D).1)[j] m'])
              rw [ek] at this
              omega
            have hD2 : LogX (D ++ [Dd.turn u (keysM (runM D).1)[j] m']) := hD.snoc ⟨su, sm⟩ (List.getElem_mem hj) hlast (fun z => z.elim) (by omega)
            refine ⟨small1000 (by omega), D ++ [Dd.turn u (keysM (runM D).1)[j] m'], turn', ?_, hD2, by rw [List.length_append, List.length_singleton]; omega, rm, ht, ?_, _, _, _, by rw [runM_snoc]; rfl⟩
            · rw [← eDd_t, map_snoc (f := eDd)] at L
              rw [← eDd_t, map_snoc (f := eDd), ek]
              exact L.le (by omega)
            · intro d hd
              rw [hu]
              rcases List.mem_append.mp hd with h | h
              · exact hlast d h
              · rw [List.mem_singleton.mp h]; exact Rat.le_refl
      · have hpos : 0 < (keysM (runM D).1).length := List.length_pos_iff.mpr c0
        walk_at "d"
        refine cnd_dec (fun c3 => ?_) (fun c3 => ?_)
        · refine ⟨⟨_, L.hf⟩, ⟨_, by first | exact L.hr | rfl⟩, ?_⟩
          try rw [L.hr]
          try walk_at "d"
          refine ⟨a, _, _, rfl, L.pen, by omega, by omega, (Sz.lit (m := 10) (by omega)).le (by decide), fun j x y z j0 j1 z0 z1 => ?_⟩
          have L := L.wr (x := x) (y := y) z0 z1
          generalize ups S4 a (penC x y z) = S5 at *
          obtain ⟨j, rfl⟩ := Int.eq_ofNat_of_zero_le j0
          have hj : j < (keysM (runM D).1).length := by omega
          walk_at "d"
          rw [L.hr]
          walk_at "d"
          rw [seq_nat hj]
          walk_at "d"
          rw [List.getElem?_map, List.getElem?_eq_getElem hj]
          walk_at "d"
          have L := L.setr (o := .lst (((keysM (runM D).1).map eN).eraseIdx j))
          rw [L.hf]
          walk_at "d"
          have L := L.setf (o := .lst (D.map eDd ++ [.tup [.str "leave", eQ u, .int ((keysM (runM D).1)[j] : Nat)]]))
          have ek := keys_drop hj u
          have hD2 : LogX (D ++ [Dd.leave u (keysM (runM D).1)[j]]) := hD.snoc su (List.getElem_mem hj) hlast (fun z => z.elim) (by omega)
          have rm : (runM (D ++ [Dd.leave u (keysM (runM D).1)[j]])).1.length ≤ 8 := by
            have := runM_length (D ++ [Dd.leave u (keysM (runM D).1)[j]])
            rw [ek, List.length_eraseIdx_of_lt hj] at this
            omega
          refine ⟨⟨by omega, by omega⟩, small1000 (by omega), D ++ [Dd.leave u (keysM (runM D).1)[j]], turn', ?_, hD2, by rw [List.length_append, List.length_singleton]; omega, rm, ht, ?_, _, _, _, by rw [runM_snoc]; rfl⟩
          · rw [← eDd_l, map_snoc (f := eDd), erase_map, ← ek] at L
            rw [← eDd_l, map_snoc (f := eDd), erase_map, ← ek]
            exact L.le (by omega)
          · intro d hd
            rw [hu]
            rcases List.mem_append.mp hd with h | h
            · exact hlast d h
            · rw [List.mem_singleton.mp h]; exact Rat.le_refl
        · refine ⟨⟨_, L.hf⟩, ?_⟩
          try rw [L.hr]
          try walk_at "d"
          refine ⟨a, _, _, rfl, L.pen, by omega, by omega, (Sz.lit (m := 10) (by omega)).le (by decide), fun j x y z j0 j1 z0 z1 => ?_⟩
          have L := L.wr (x := x) (y := y) z0 z1
          generalize ups S4 a (penC x y z) = S5 at *
          obtain ⟨j, rfl⟩ := Int.eq_ofNat_of_zero_le j0
          have hj : j < (keysM (runM D).1).length := by omega
          walk_at "d"
          rw [L.hr]
          walk_at "d"
          rw [atI_nat (xs := (keysM (runM D).1).map eN) (j := j) (v := eN (keysM (runM D).1)[j]) (by rw [List.getElem?_map, List.getElem?_eq_getElem hj]; rfl)]
          walk_at "d"
          refine ⟨a, _, rfl, L.pen, by omega, fun m' x y z sm z0 z1 => ?_⟩
          have L := L.wr (x := x) (y := y) z0 z1
          generalize ups S5 a (penC x y z) = S6 at *
          walk_at "d"
          rw [L.hf]
          walk_at "d"
          have L := L.setf (o := .lst (D.map eDd ++ [.tup [.str "turn", eQ u, .int ((keysM (runM D).1)[j] : Nat), eQ m']]))
          have ek : keysM (runM (D ++ [Dd.turn u (keysM (runM D).1)[j] m'])).1 = keysM (runM D).1 := by rw [runM_snoc]; exact keys_mset _ _ _
          have rm : (runM (D ++ [Dd.turn u (keysM (runM D).1)[j] m'])).1.length ≤ 8 := by
            have := runM_length (D ++ [Dd.turn u (keysM (runM D).1)[j] m'])
            rw [ek] at this
            omega
          have hD2 : LogX (D ++ [Dd.turn u (keysM (runM D).1)[j] m']) := hD.snoc ⟨su, sm⟩ (List.getElem_mem hj) hlast (fun z => z.elim) (by omega)
          refine ⟨small1000 (by omega), D ++ [Dd.turn u (keysM (runM D).1)[j] m'], turn', ?_, hD2, by rw [List.length_append, List.length_singleton]; omega, rm, ht, ?_, _, _, _, by rw [runM_snoc]; rfl⟩
          · rw [← eDd_t, map_snoc (f := eDd)] at L
            rw [← eDd_t, map_snoc (f := eDd), ek]
            exact L.le (by omega)
          · intro d hd
            rw [hu]
            rcases List.mem_append.mp hd with h | h
            · exact hlast d h
            · rw [List.mem_singleton.mp h]; exact Rat.le_refl
    · rintro τ S1 ⟨D, turn, L, hD, hDl, hMl, ht, hlast, v7, v8, v9, rfl⟩
      walk_at "d"
      exact ⟨_, .refl _, q S1 f D L.fr (L.pen.le (by omega)) L.nf L.hf hD hDl fun d hd => Rat.le_trans (hlast d hd) (quo_top (by omega) (by omega))⟩
def sp_l_pen : Sp2 := fun ds S Q _ => ∃ (sc : List Int) (k : Nat), ds = [.fl (sc.map D.int), .int (k : Int)] ∧ k < 6 ∧ ∀ p x y z, S p = none → 0 ≤ z → z ≤ ((1 : Nat) : Int) → Q (.ref p) (ups S p (penC x y z))
theorem st_l_pen (x0 x1 : DL.D) : start2 N_l_pen [x0, x1] = [some x0, some x1, none] := rfl
set_option maxHeartbeats 8000000 in
theorem ok_l_pen (T : Txt K mg w) : Fn P w K mg base 1 "_law_pen" sp_l_pen := by
  refine fn_intro2 T.f_l_pen sc_l_pen (fun ds S Q E h => ?_) (fun cdv A outer s H E f hr => ⟨_, (ss_cons (s_set 2 sc_l_pen.nd rfl (by first | exact .inl rfl | exact .inr rfl) (.inl rfl) (q_add (q_add (q_mul (q_mul q_int (qv 1 (pv 1))) (qv 1 (pv 1))) (q_mul q_int (qv 1 (pv 1)))) q_int))
 (ss_cons (s_if (t_lt (qv 1 (pv 1)) (q_len T.b_len (by rfl) (a_cons (qv 0 (pv 0)) a_nil)))
 (ss_one (s_set 2 sc_l_pen.nd rfl (by first | exact .inl rfl | exact .inr rfl) (.inl rfl) (q_ixg (fun _ _ => rfl) (qv 0 (pv 0)) (qv 1 (pv 1)))))
 (ss_one (s_if (t_gt (q_len T.b_len (by rfl) (a_cons (qv 0 (pv 0)) a_nil)) q_int)
 (ss_one (s_set 2 sc_l_pen.nd rfl (by first | exact .inl rfl | exact .inr rfl) (.inl rfl) (q_add (q_mod (q_ixg (fun _ _ => rfl) (qv 0 (pv 0)) (q_mod (q_mul (qv 1 (pv 1)) q_int) (q_len T.b_len (by rfl) (a_cons (qv 0 (pv 0)) a_nil)))) (q_powk 100000000000000000 (by decide +kernel) (by decide +kernel))) (q_mul q_int (qv 1 (pv 1))))))
 ss_nil)))
 (ss_cons (s_if (t_ge (qv 2 (pv 2)) (q_powk 1000000000000000000 (by decide +kernel) (by decide +kernel)))
 (ss_one (s_ret (q_lst (a_cons (q_sub (qv 2 (pv 2)) (q_powk 1000000000000000000 (by decide +kernel) (by decide +kernel))) (a_cons (q_add (q_mod (qv 2 (pv 2)) q_int) (qv 1 (pv 1))) (a_cons q_int a_nil))))))
 ss_nil)
 (ss_one (s_ret (q_lst (a_cons q_int (a_cons (q_add (q_mod (qv 2 (pv 2)) q_int) (q_mul q_int (qv 1 (pv 1)))) (a_cons q_int a_nil))))))))), fun ds S Q E h => ?_⟩)
  · obtain ⟨sc, k, rfl, _⟩ := h
    rfl
  · obtain ⟨sc, k, rfl, hk, q⟩ := h
    rw [st_l_pen]
    walk_at "d"
    have k64 : Sz 64 (k : Int) := Sz.lit (by omega)
    refine ⟨.inr (.inl (Sz.lit (by decide))), .inr (.inr k64), .inr (.inr k64), ?_⟩
    refine cnd_dec (fun c => ?_) (fun c => ?_)
    · obtain ⟨v, hv⟩ := atI_ints (sc := sc) (show (0 : Int) ≤ (k : Int) by omega) (by omega)
      rw [hv]
      walk_at "d"
      refine cnd_dec (fun c => ?_) (fun c => ?_)
      · intro p np
        exact ⟨_, .refl _, q p _ _ _ np (by decide) (by decide)⟩
      · refine ⟨.inr (.inr k64), fun p np => ?_⟩
        exact ⟨_, .refl _, q p _ _ _ np (by decide) (by decide)⟩
    · refine cnd_dec (fun c => ?_) (fun c => ?_)
      · obtain ⟨v, hv⟩ := atI_ints (sc := sc) (fmod_lt (a := ((k : Int) * 7)) (m := (sc.length : Int)) c).1 (fmod_lt c).2
        refine ⟨.inr (.inl k64), by omega, ?_⟩
        rw [hv]
        walk_at "d"
        refine ⟨.inr (.inr k64), ?_⟩
        refine cnd_dec (fun c => ?_) (fun c => ?_)
        · intro p np
          exact ⟨_, .refl _, q p _ _ _ np (by decide) (by decide)⟩
        · refine ⟨.inr (.inr k64), fun p np => ?_⟩
          exact ⟨_, .refl _, q p _ _ _ np (by decide) (by decide)⟩
      · refine cnd_dec (fun c => ?_) (fun c => ?_)
        · intro p np
          exact ⟨_, .refl _, q p _ _ _ np (by decide) (by decide)⟩
        · refine ⟨.inr (.inr k64), fun p np => ?_⟩
          exact ⟨_, .refl _, q p _ _ _ np (by decide) (by decide)⟩
def sp_is_less : Sp2 := fun ds S Q _ => ∃ a b : Rat, ds = [eQ a, eQ b] ∧ Nz 9000 a ∧ Nz 9000 b ∧ Q (.bl (decide (a < b))) S
theorem st_is_less (x0 x1 : DL.D) : start2 N_is_less [x0, x1] = [some x0, some x1] := rfl
set_option maxHeartbeats 8000000 in
theorem ok_is_less (T : Txt K mg w) : Fn P w K mg base 1 "is_less" sp_is_less := by
  refine fn_intro2 T.f_is_less sc_is_less (fun ds S Q E h => ?_) (fun cdv A outer s H E f hr => ⟨_, (ss_one (s_ret (q_lt (q_mul (q_ixk 0 (qv 0 (pv 0))) (q_ixk 1 (qv 1 (pv 1)))) (q_mul (q_ixk 0 (qv 1 (pv 1))) (q_ixk 1 (qv 0 (pv 0))))))), fun ds S Q E h => ?_⟩)
  · obtain ⟨a, b, rfl, _⟩ := h
    rfl
  · obtain ⟨a, b, rfl, ha, hb, q⟩ := h
    rw [st_is_less]
    walk_at "d"
    refine ⟨.inl ⟨_, _, ha.1, hb.2, by decide⟩, .inl ⟨_, _, hb.1, ha.2, by decide⟩, ?_⟩
    rw [lt_quo]
    exact ⟨S, .refl S, q⟩
def tOkB (o : Option Dd) (t : Rat) : Bool := match o with
  | none => true
  | some a => !decide (t < a.t)
def sp_fits : Sp2 := fun ds S Q _ => ∃ (x : DL.D) (p : Addr) (M : Mp) (o : Option Dd) (t : Rat), ds = [x, .ref p, eO' o] ∧ S p = some (.lst ((keysM M).map eN)) ∧ SmX t ∧ (∀ a, o = some a → SmXD a) ∧ M.length ≤ 100 ∧ ((∃ u m, x = eDd (.join t u m)) ∧ Q (.bl (tOkB o t && decide (M.length < 8))) S ∨ ∃ (r : Int) (m : DL.D), (x = .tup [.str "leave", eQ t, .int r] ∨ x = .tup [.str "turn", eQ t, .int r, m]) ∧ Q (.bl (tOkB o t && decide (r ∈ KM M))) S)
theorem st_fits (x0 x1 x2 : DL.D) : start2 N_fits [x0, x1, x2] = [some x0, some x1, some x2] := rfl
set_option maxHeartbeats 8000000 in
theorem ok_fits (T : Txt K mg w) : Fn P w K mg base 2 "fits" sp_fits := by
  refine fn_intro2 T.f_fits sc_fits (fun ds S Q E h => ?_) (fun cdv A outer s H E f hr => ⟨_, (ss_cons (s_if (PW.pt (w_and (t_isnot (qv 2 (pv 2)) q_non) (w_and1 (t_val (q_call (ok_is_less T) (hr.mono (by decide)) (by rfl) (a_cons (q_ixk 1 (qv 0 (pv 0))) (a_cons (q_ixk 1 (qv 2 (pv 2))) a_nil)))))))
 (ss_one (s_ret q_bl))
 ss_nil)
 (ss_cons (s_if (t_eq hr (q_ixk 0 (qv 0 (pv 0))) q_str)
 (ss_one (s_ret (q_lt (q_len T.b_len (by rfl) (a_cons (qv 1 (pv 1)) a_nil)) (q_con T.q_MOST_RUNNING (by rfl)))))
 ss_nil)
 (ss_one (s_ret (q_in hr (q_ixk 2 (qv 0 (pv 0))) (qv 1 (pv 1))))))), fun ds S Q E h => ?_⟩)
  · obtain ⟨x, p, M, o, t, rfl, _⟩ := h
    rfl
  · obtain ⟨x, p, M, o, t, rfl, hp, ht, ho, hl, hq⟩ := h
    rw [st_fits]
    have hk : (keysM M).length = M.length := by unfold keysM; simp
    have eK : (keysM M).map eN = (KM M).map D.int := by unfold KM; rw [List.map_map]; rfl
    have inK : ∀ (r : Int) (K : VK2), K (.bl (decide (r ∈ KM M))) S → rIn (.int r) (.ref p) S K := fun r K k => in_ref (α := Int) (xs := KM M) (x := r) (by rw [hp, eK]; rfl) k
    cases o with
    | none =>
      rcases hq with ⟨⟨u, m, rfl⟩, q⟩ | ⟨r, m, rfl | rfl, q⟩
      · rw [eDd_j]
        unfold eO'
        walk_at "d"
        rw [hp]
        walk_at "d"
        rw [hk]
        refine ⟨S, .refl S, ?_⟩
        rw [show decide ((M.length : Int) < 8) = decide (M.length < 8) from decide_eq_decide.mpr (by omega)]
        exact q
      · unfold eO'
        walk_at "d"
        exact inK r _ ⟨_, .refl _, q⟩
      · unfold eO'
        walk_at "d"
        exact inK r _ ⟨_, .refl _, q⟩
    | some a =>
      have ha := ho a rfl
      have za : Nz 9000 a.t := ha.t.sm.nz.le (by decide)
      have zt : Nz 9000 t := ht.sm.nz.le (by decide)
      have eT : tOkB (some a) t = !decide (t < a.t) := rfl
      rw [eT] at hq
      unfold eO'
      rcases hq with ⟨⟨u, m, rfl⟩, q⟩ | ⟨r, m, rfl | rfl, q⟩
      · rw [eDd_j]
        cases a with
        | join t2 _ _ | leave t2 _ | turn t2 _ _ =>
          unfold eDd
          walk_at "d"
          refine ⟨t, t2, rfl, zt, za, ?_⟩
          replace q : Q (.bl (!decide (t < t2) && _)) S := q
          refine cnd_dec (fun c => ?_) (fun c => ?_)
          · rw [decide_eq_true c] at q
            exact ⟨_, .refl _, q⟩
          · rw [decide_eq_false c] at q
            rw [hp]
            walk_at "d"
            rw [hk]
            refine ⟨S, .refl S, ?_⟩
            rw [show decide ((M.length : Int) < 8) = decide (M.length < 8) from decide_eq_decide.mpr (by omega)]
            exact q
      all_goals
        cases a with
        | join t2 _ _ | leave t2 _ | turn t2 _ _ =>
          unfold eDd
          walk_at "d"
          refine ⟨t, t2, rfl, zt, za, ?_⟩
          replace q : Q (.bl (!decide (t < t2) && _)) S := q
          refine cnd_dec (fun c => ?_) (fun c => ?_)
          · rw [decide_eq_true c] at q
            exact ⟨_, .refl _, q⟩
          · rw [decide_eq_false c] at q
            try walk_at "d"
            exact inK r _ ⟨_, .refl _, q⟩
def sp_common : Sp2 := fun ds S Q _ => match ds with
  | [.int a, .int b] => Q (.int (Int.gcd a b : Nat)) S
  | _ => False
theorem st_common (x0 x1 : DL.D) : start2 N_common [x0, x1] = [some x0, some x1] := rfl
set_option maxHeartbeats 8000000 in
theorem ok_common (T : Txt K mg w) : Fn P w K mg base 1 "common" sp_common := by
  refine fn_intro2 T.f_common sc_common (fun ds S Q E h => ?_) (fun cdv A outer s H E f hr => ⟨_, (ss_cons (s_set 0 sc_common.nd rfl (by first | exact .inl rfl | exact .inr rfl) (.inl rfl) (q_abs T.b_abs (by rfl) (a_cons (qv 0 (pv 0)) a_nil)))
 (ss_cons (s_set 1 sc_common.nd rfl (by first | exact .inl rfl | exact .inr rfl) (.inl rfl) (q_abs T.b_abs (by rfl) (a_cons (qv 1 (pv 1)) a_nil)))
 (ss_cons (s_while .never (t_gt (qv 1 (pv 1)) q_int)
 (ss_one (s_par 0 1 rfl sc_common.nd rfl rfl (by decide) rfl rfl (a_cons (qv 1 (pv 1)) (a_cons (q_mod (qv 0 (pv 0)) (qv 1 (pv 1))) a_nil)) (by rfl))))
 (ss_one (s_ret (qv 0 (pv 0))))))), fun ds S Q E h => ?_⟩)
  ·   unfold sp_common at h
      split at h
      · rfl
      · exact h.elim
  · unfold sp_common at h
    split at h
    · rw [st_common]
      walk_at "d"
      rw [abs_nat, abs_nat]
      rename_i a b
      refine ⟨fun m τ S' => ∃ x : Nat, τ = [some (.int (x : Nat)), some (.int (m : Nat))] ∧ S' = S ∧ Nat.gcd x m = Int.gcd a b, ⟨b.natAbs, a.natAbs, rfl, rfl, rfl⟩, ?_⟩
      rintro m τ S' ⟨x, rfl, rfl, e⟩
      walk_at "d"
      refine cnd_dec (fun hm => ?_) (fun hm => ?_)
      · refine ⟨by omega, x % m, Nat.mod_lt _ (by omega), m, ?_, ?_⟩
        · rw [fmod_nat]
        · rw [gcd_stepN]; exact e
      · have : m = 0 := by omega
        subst this
        rw [Nat.gcd_zero_right] at e
        subst e
        exact ⟨_, .refl _, h⟩
    · exact h.elim
def sp_is_whole : Sp2 := fun ds S Q _ => match ds with
  | [d] => ∃ T, tyOf S d = some T ∧ Q (.bl (isiT T .int && !isiT T .bool)) S
  | _ => False
theorem st_is_whole (x0 : DL.D) : start2 N_is_whole [x0] = [some x0] := rfl
set_option maxHeartbeats 8000000 in
theorem ok_is_whole (T : Txt K mg w) : Fn P w K mg base 1 "is_whole" sp_is_whole := by
  refine fn_intro2 T.f_is_whole sc_is_whole (fun ds S Q E h => ?_) (fun cdv A outer s H E f hr => ⟨_, (ss_one (s_ret (q_and (q_isi .int T.b_isinstance (by rfl) T.b_int (by rfl) PyProof.Rows.boot_int rfl (qv 0 (pv 0))) (q_one (q_not (q_isi .bool T.b_isinstance (by rfl) T.b_bool (by rfl) PyProof.Rows.boot_bool rfl (qv 0 (pv 0)))))))), fun ds S Q E h => ?_⟩)
  ·   unfold sp_is_whole at h
      split at h
      · rfl
      · exact h.elim
  · unfold sp_is_whole at h
    split at h
    · obtain ⟨T, hT, q⟩ := h
      rw [st_is_whole]
      walk_at "d"
      rw [hT]
      walk_at "d"
      refine cnd_by (fun e => ?_) (fun e => ?_) <;> rw [e] at q
      · exact ⟨S, .refl S, q⟩
      · exact ⟨S, .refl S, q⟩
    · exact h.elim
def sp_is_number : Sp2 := fun ds S Q _ => match ds with
  | [d] => Th S d ∧ (∀ t b, d = .tup [.int t, .int b] → Sz 9000 b) ∧ Q (.bl (isNumD d)) S
  | _ => False
theorem st_is_number (x0 : DL.D) : start2 N_is_number [x0] = [some x0] := rfl
set_option maxHeartbeats 8000000 in
theorem ok_is_number (T : Txt K mg w) : Fn P w K mg base 2 "is_number" sp_is_number := by
  refine fn_intro2 T.f_is_number sc_is_number (fun ds S Q E h => ?_) (fun cdv A outer s H E f hr => ⟨_, (ss_cons (s_if (PW.pt (w_or (t_not (t_val (q_isi .tup T.b_isinstance (by rfl) T.b_tuple (by rfl) PyProof.Rows.boot_tuple rfl (qv 0 (pv 0))))) (w_or (t_ne hr (q_len T.b_len (by rfl) (a_cons (qv 0 (pv 0)) a_nil)) q_int) (w_or (t_not (t_val (q_call (ok_is_whole T) (hr.mono (by decide)) (by rfl) (a_cons (q_ixk 0 (qv 0 (pv 0))) a_nil)))) (w_or1 (t_not (t_val (q_call (ok_is_whole T) (hr.mono (by decide)) (by rfl) (a_cons (q_ixk 1 (qv 0 (pv 0))) a_nil)))))))))
 (ss_one (s_ret q_bl))
 ss_nil)
 (ss_one (s_ret (q_and (q_gt (q_ixk 1 (qv 0 (pv 0))) q_int) (q_one (q_eq hr (q_call (ok_common T) (hr.mono (by decide)) (by rfl) (a_cons (q_ixk 0 (qv 0 (pv 0))) (a_cons (q_ixk 1 (qv 0 (pv 0))) a_nil))) q_int)))))), fun ds S Q E h => ?_⟩)
  ·   unfold sp_is_number at h
      split at h
      · rfl
      · exact h.elim
  · unfold sp_is_number at h
    split at h
    · rename_i d
      obtain ⟨⟨⟨T, hT⟩, h2⟩, hz, q⟩ := h
      rw [st_is_number]
      walk_at "d"
      rw [hT]
      walk_at "d"
      cases e : isiT T .tup with
      | false =>
        rw [notTup hT e] at q
        exact ⟨S, .refl S, q⟩
      | true =>
        obtain ⟨ds, rfl⟩ := isTup hT e
        walk_at "d"
        refine cnd_dec (fun hn => ?_) (fun hn => ?_)
        rotate_left
        · rw [notTwo (fun z => hn (by rw [z]; rfl))] at q
          exact ⟨S, .refl S, q⟩
        obtain ⟨x, y, rfl⟩ := twoOf (by omega : ds.length = 2)
        obtain ⟨⟨T1, h1⟩, T2, h3⟩ := h2 x y rfl
        walk_at "d"
        refine ⟨T1, h1, ?_⟩
        walk_at "d"
        show Cnd (isW T1) _ _
        cases e1 : isW T1 with
        | false =>
          rw [isNum_not1 h1 e1] at q
          exact ⟨S, .refl S, q⟩
        | true =>
          refine ⟨T2, h3, ?_⟩
          walk_at "d"
          show Cnd (isW T2) _ _
          cases e2 : isW T2 with
          | false =>
            rw [isNum_not2 h3 e2] at q
            exact ⟨S, .refl S, q⟩
          | true =>
            obtain ⟨t, rfl⟩ := isW_int h1 e1
            obtain ⟨b, rfl⟩ := isW_int h3 e2
            show Cnd _ _ _
            walk_at "d"
            have hz := hz t b rfl
            have e : isNumD (.tup [.int t, .int b]) = (decide (0 < b) && decide (Int.gcd t b = 1)) := rfl
            rw [e] at q
            refine cnd_dec (fun h => ?_) (fun h => ?_)
            · rw [decide_eq_true h, Bool.true_and] at q
              show sp_common [.int t, .int b] S _ _
              unfold sp_common
              walk_at "d"
              rw [show decide (((Int.gcd t b : Nat) : Int) = 1) = decide (Int.gcd t b = 1) from decide_eq_decide.mpr (by omega)]
              exact ⟨S, .refl S, q⟩
            · rw [decide_eq_false h, Bool.false_and] at q
              exact ⟨S, .refl S, q⟩
    · exact h.elim
def sp_is_small : Sp2 := fun ds S Q _ => ∃ x : D, ds = [x] ∧ ThN S x ∧ Q (.bl (smB x)) S
theorem st_is_small (x0 : DL.D) : start2 N_is_small [x0] = [some x0] := rfl
set_option maxHeartbeats 8000000 in
theorem ok_is_small (T : Txt K mg w) : Fn P w K mg base 3 "is_small" sp_is_small := by
  refine fn_intro2 T.f_is_small sc_is_small (fun ds S Q E h => ?_) (fun cdv A outer s H E f hr => ⟨_, (ss_one (s_ret (q_and (q_call (ok_is_number T) (hr.mono (by decide)) (by rfl) (a_cons (qv 0 (pv 0)) a_nil)) (q_and (q_lt (q_abs T.b_abs (by rfl) (a_cons (q_ixk 0 (qv 0 (pv 0))) a_nil)) (q_con T.q_MOST_TOP (by rfl))) (q_one (q_le (q_ixk 1 (qv 0 (pv 0))) (q_con T.q_MOST_BOTTOM (by rfl)))))))), fun ds S Q E h => ?_⟩)
  · obtain ⟨x, rfl, _⟩ := h
    rfl
  · obtain ⟨x, rfl, hx, q⟩ := h
    rw [st_is_small]
    walk_at "d"
    refine ⟨hx.1, hx.2, ?_⟩
    cases e : isNumD x with
    | false =>
      rw [smB_not e] at q
      walk_at "d"
      exact ⟨_, .refl _, q⟩
    | true =>
      obtain ⟨t, b, rfl⟩ : ∃ t b, x = .tup [.int t, .int b] := by
        unfold isNumD at e
        split at e
        · exact ⟨_, _, rfl⟩
        · cases e
      have eb : smB (.tup [.int t, .int b]) = (decide (t.natAbs < 10 ^ 9) && decide (b ≤ 12)) := by
        show (isNumD (.tup [.int t, .int b]) && _) = _
        rw [e, Bool.true_and]
      rw [eb] at q
      walk_at "d"
      rw [abs_nat]
      generalize hc : decide ((t.natAbs : Int) < 1000000000) = c
      cases c with
      | true =>
        have hc := of_decide_eq_true hc
        rw [decide_eq_true (show t.natAbs < 10 ^ 9 by omega), Bool.true_and] at q
        exact cnd_t rfl ⟨_, .refl _, q⟩
      | false =>
        have hc := of_decide_eq_false hc
        rw [decide_eq_false (show ¬ t.natAbs < 10 ^ 9 by omega), Bool.false_and] at q
        exact cnd_f rfl ⟨_, .refl _, q⟩
def sp_is_deed : Sp2 := fun ds S Q _ => ∃ x : D, ds = [x] ∧ ThD S x ∧ Q (.bl (dB x)) S
theorem st_is_deed (x0 : DL.D) : start2 N_is_deed [x0] = [some x0] := rfl
set_option maxHeartbeats 8000000 in
theorem ok_is_deed (T : Txt K mg w) : Fn P w K mg base 4 "is_deed" sp_is_deed := by
  refine fn_intro2 T.f_is_deed sc_is_deed (fun ds S Q E h => ?_) (fun cdv A outer s H E f hr => ⟨_, (ss_cons (s_if (PW.pt (w_or (t_not (t_val (q_isi .tup T.b_isinstance (by rfl) T.b_tuple (by rfl) PyProof.Rows.boot_tuple rfl (qv 0 (pv 0))))) (w_or (t_lt (q_len T.b_len (by rfl) (a_cons (qv 0 (pv 0)) a_nil)) q_int) (w_or1 (t_not (t_val (q_isi .str T.b_isinstance (by rfl) T.b_str (by rfl) PyProof.Rows.boot_str rfl (q_ixk 0 (qv 0 (pv 0))))))))))
 (ss_one (s_ret q_bl))
 ss_nil)
 (ss_cons (s_if (PW.pt (w_or (t_ne hr (q_kget T.tb_SIZES (by rfl) (q_ixk 0 (qv 0 (pv 0)))) (q_len T.b_len (by rfl) (a_cons (qv 0 (pv 0)) a_nil))) (w_or1 (t_not (t_val (q_call (ok_is_small T) (hr.mono (by decide)) (by rfl) (a_cons (q_ixk 1 (qv 0 (pv 0))) a_nil)))))))
 (ss_one (s_ret q_bl))
 ss_nil)
 (ss_cons (s_if (t_eq hr (q_ixk 0 (qv 0 (pv 0))) q_str)
 (ss_one (s_ret (q_and (q_call (ok_is_small T) (hr.mono (by decide)) (by rfl) (a_cons (q_ixk 2 (qv 0 (pv 0))) a_nil)) (q_one (q_call (ok_is_small T) (hr.mono (by decide)) (by rfl) (a_cons (q_ixk 3 (qv 0 (pv 0))) a_nil))))))
 ss_nil)
 (ss_one (s_ret (q_and (q_call (ok_is_whole T) (hr.mono (by decide)) (by rfl) (a_cons (q_ixk 2 (qv 0 (pv 0))) a_nil)) (q_one (q_or (q_eq hr (q_ixk 0 (qv 0 (pv 0))) q_str) (q_one (q_call (ok_is_small T) (hr.mono (by decide)) (by rfl) (a_cons (q_ixk 3 (qv 0 (pv 0))) a_nil))))))))))), fun ds S Q E h => ?_⟩)
  · obtain ⟨x, rfl, _⟩ := h
    rfl
  · obtain ⟨x, rfl, ⟨⟨T, hT⟩, hx⟩, q⟩ := h
    rw [st_is_deed]
    walk_at "d"
    rw [hT]
    walk_at "d"
    cases eT : isiT T .tup with
    | false =>
      refine cnd_f rfl ⟨_, .refl _, ?_⟩
      have : dB x = false := by
        cases x with
        | tup ds =>
          have hT : some Ty.tup = some T := hT
          cases hT
          exact absurd eT (by decide)
        | _ => rfl
      rwa [this] at q
    | true =>
    refine cnd_t rfl ?_
    obtain ⟨ds, rfl⟩ := isTup hT eT
    have hm : ∀ y ∈ ds, ThN S y := hx ds rfl
    clear hx hT eT
    have two : ∀ (A B : D), A ∈ ds → ThN S A := fun A _ h => hm A h
    walk_at "d"
    by_cases h3 : ds.length < 3
    · refine cnd_t (decide_eq_true (by omega)) ⟨_, .refl _, ?_⟩
      have : dB (.tup ds) = false := by
        unfold dB
        split
        · next e => cases e; exact absurd h3 (by simp)
        · next e => cases e; exact absurd h3 (by simp)
        · rfl
      rwa [this] at q
    refine cnd_f (decide_eq_false (by omega)) ?_
    obtain ⟨k, ds, rfl⟩ : ∃ k r, ds = k :: r := by cases ds with
      | nil => exact absurd (by simp) h3
      | cons k r => exact ⟨k, r, rfl⟩
    obtain ⟨t, ds, rfl⟩ : ∃ k r, ds = k :: r := by cases ds with
      | nil => exact absurd (by simp) h3
      | cons k r => exact ⟨k, r, rfl⟩
    obtain ⟨p, ds, rfl⟩ : ∃ k r, ds = k :: r := by cases ds with
      | nil => exact absurd (by simp) h3
      | cons k r => exact ⟨k, r, rfl⟩
    obtain ⟨Tk, hTk⟩ := (hm k (by simp)).1.1
    have ht := hm t (by simp)
    have hp := hm p (by simp)
    have hds : ∀ y ∈ ds, ThN S y := fun y hy => hm y (by simp [hy])
    clear hm two h3
    walk_at "d"
    rw [hTk]
    walk_at "d"
    cases eK : isiT Tk .str with
    | false =>
      refine cnd_f rfl ⟨_, .refl _, ?_⟩
      have : dB (.tup (k :: t :: p :: ds)) = false := by
        unfold dB
        split
        · next e => cases e; cases hTk; exact absurd eK (by decide)
        · next e => cases e; cases hTk; exact absurd eK (by decide)
        · rfl
      rwa [this] at q
    | true =>
    refine cnd_t rfl ?_
    obtain ⟨z, rfl⟩ : ∃ z, k = .str z := by
      cases k with
      | str z => exact ⟨z, rfl⟩
      | ref a =>
        have e : tyO (S a) = some Tk := hTk
        unfold tyO at e
        split at e <;> cases e <;> exact absurd eK (by decide)
      | _ => first | (cases hTk; exact absurd eK (by decide)) | cases hTk
    clear hTk eK
    walk_at "d"
    have n1 : ("leave" : Str) ≠ "join" := by decide +kernel
    have n2 : ("turn" : Str) ≠ "join" := by decide +kernel
    have n3 : ("turn" : Str) ≠ "leave" := by decide +kernel
    have n4 : ("join" : Str) ≠ "leave" := by decide +kernel
    have n5 : ("join" : Str) ≠ "turn" := by decide +kernel
    have n6 : ("leave" : Str) ≠ "turn" := by decide +kernel
    have small : ∀ (y : D) (K : VK2), ThN S y → K (.bl (smB y)) S → sp_is_small [y] S K fun _ _ _ => False := fun y K h k => ⟨y, rfl, h, k⟩
    have w4 : ∀ (y t p : D) (k : Str), dB (.tup [.str k, t, p, y]) = (decide (k = "join") && smB t && smB p && smB y || decide (k = "turn") && smB t && whB p && smB y) := fun _ _ _ _ => rfl
    have w3 : ∀ (t p : D) (k : Str), dB (.tup [.str k, t, p]) = (decide (k = "leave") && smB t && whB p) := fun _ _ _ => rfl
    have w5 : ∀ (a b t p : D) (k : Str) (r : List D), dB (.tup (.str k :: t :: p :: a :: b :: r)) = false := fun _ _ _ _ _ _ => rfl
    by_cases z1 : z = "join"
    · subst z1
      rw [show List.lookup (Str.ofString "join") [(Str.ofString "join", D.int 4), (Str.ofString "leave", D.int 3), (Str.ofString "turn", D.int 4)] = some (.int 4) from lk_join]
      walk_at "d"
      refine cnd_dec (fun c => ?_) (fun c => ?_)
      rotate_left
      · have : dB (.tup (.str "join" :: t :: p :: ds)) = false := by
          cases ds with
          | nil => rw [w3, decide_eq_false n4]; rfl
          | cons m ds =>
            cases ds with
            | nil => exact absurd rfl c
            | cons _ _ => exact w5 _ _ _ _ _ _
        rw [this] at q
        exact ⟨_, .refl _, q⟩
      have c : ds.length = 1 := by omega
      obtain ⟨m, rfl⟩ := List.length_eq_one_iff.mp c
      have hm := hds m (by simp)
      have eB : dB (.tup [.str "join", t, p, m]) = (smB t && smB p && smB m) := by
        rw [w4, decide_eq_true rfl, decide_eq_false n5]
        simp
      rw [eB] at q
      refine small t _ ht ?_
      cases hs : smB t with
      | false => rw [hs] at q; exact ⟨_, .refl _, q⟩
      | true =>
      rw [hs, Bool.true_and] at q
      walk_at "d"
      refine small p _ hp ?_
      cases hs2 : smB p with
      | false => rw [hs2] at q; exact ⟨_, .refl _, q⟩
      | true =>
      rw [hs2, Bool.true_and] at q
      walk_at "d"
      exact small m _ hm ⟨_, .refl _, q⟩
    by_cases z2 : z = "leave"
    · subst z2
      rw [show List.lookup (Str.ofString "leave") [(Str.ofString "join", D.int 4), (Str.ofString "leave", D.int 3), (Str.ofString "turn", D.int 4)] = some (.int 3) from lk_leave]
      walk_at "d"
      refine cnd_dec (fun c => ?_) (fun c => ?_)
      rotate_left
      · have : dB (.tup (.str "leave" :: t :: p :: ds)) = false := by
          cases ds with
          | nil => exact absurd rfl c
          | cons m ds =>
            cases ds with
            | nil => rw [w4, decide_eq_false n1, decide_eq_false n6]; rfl
            | cons _ _ => exact w5 _ _ _ _ _ _
        rw [this] at q
        exact ⟨_, .refl _, q⟩
      have c : ds.length = 0 := by omega
      obtain rfl := List.length_eq_zero_iff.mp c
      rw [w3, decide_eq_true rfl, Bool.true_and] at q
      refine small t _ ht ?_
      cases hs : smB t with
      | false => rw [hs] at q; exact ⟨_, .refl _, q⟩
      | true =>
      rw [hs, Bool.true_and] at q
      walk_at "d"
      try refine cnd_f (decide_eq_false n1) ?_
      obtain ⟨Tp, hTp⟩ := hp.1.1
      refine ⟨Tp, hTp, ?_⟩
      show Cnd (isW Tp) _ _
      cases ew : isW Tp with
      | false =>
        have : whB p = false := by
          cases p <;> first | rfl | exact absurd rfl (isW_not hTp ew _)
        rw [this] at q
        exact cnd_f rfl ⟨_, .refl _, q⟩
      | true =>
        obtain ⟨i, rfl⟩ := isW_int hTp ew
        refine cnd_t rfl ?_
        exact ⟨_, .refl _, q⟩
    by_cases z3 : z = "turn"
    · subst z3
      rw [show List.lookup (Str.ofString "turn") [(Str.ofString "join", D.int 4), (Str.ofString "leave", D.int 3), (Str.ofString "turn", D.int 4)] = some (.int 4) from lk_turn]
      walk_at "d"
      refine cnd_dec (fun c => ?_) (fun c => ?_)
      rotate_left
      · have : dB (.tup (.str "turn" :: t :: p :: ds)) = false := by
          cases ds with
          | nil => rw [w3, decide_eq_false n3]; rfl
          | cons m ds =>
            cases ds with
            | nil => exact absurd rfl c
            | cons _ _ => exact w5 _ _ _ _ _ _
        rw [this] at q
        exact ⟨_, .refl _, q⟩
      have c : ds.length = 1 := by omega
      obtain ⟨m, rfl⟩ := List.length_eq_one_iff.mp c
      have hm := hds m (by simp)
      have eB : dB (.tup [.str "turn", t, p, m]) = (smB t && whB p && smB m) := by
        rw [w4, decide_eq_false n2, decide_eq_true (show ("turn" : Str) = "turn" from rfl)]
        simp
      rw [eB] at q
      refine small t _ ht ?_
      cases hs : smB t with
      | false => rw [hs] at q; exact ⟨_, .refl _, q⟩
      | true =>
      rw [hs, Bool.true_and] at q
      walk_at "d"
      try refine cnd_f (decide_eq_false n2) ?_
      obtain ⟨Tp, hTp⟩ := hp.1.1
      refine ⟨Tp, hTp, ?_⟩
      show Cnd (isW Tp) _ _
      cases ew : isW Tp with
      | false =>
        have : whB p = false := by
          cases p <;> first | rfl | exact absurd rfl (isW_not hTp ew _)
        rw [this] at q
        exact cnd_f rfl ⟨_, .refl _, q⟩
      | true =>
        obtain ⟨i, rfl⟩ := isW_int hTp ew
        refine cnd_t rfl ?_
        try refine cnd_f (decide_eq_false n3) ?_
        walk_at "d"
        exact small m _ hm ⟨_, .refl _, q⟩
    have hno : List.lookup z [(Str.ofString "join", D.int 4), (Str.ofString "leave", D.int 3), (Str.ofString "turn", D.int 4)] = none := by
      have e1 : (z == Str.ofString "join") = false := by simpa using z1
      have e2 : (z == Str.ofString "leave") = false := by simpa using z2
      have e3 : (z == Str.ofString "turn") = false := by simpa using z3
      simp only [List.lookup, e1, e2, e3]
    rw [hno]
    walk_at "d"
    have : dB (.tup (.str z :: t :: p :: ds)) = false := by
      cases ds with
      | nil => rw [w3, decide_eq_false z2]; rfl
      | cons m ds =>
        cases ds with
        | nil => rw [w4, decide_eq_false z1, decide_eq_false z3]; rfl
        | cons _ _ => exact w5 _ _ _ _ _ _
    rw [this] at q
    refine ⟨false, ⟨.none, .int _, .non, .int _, rfl, rfl, rfl⟩, ?_⟩
    exact ⟨_, .refl _, q⟩
def sp_first_wrong : Sp2 := fun ds S Q _ => ∃ (p : Addr) (D : List Dd) (zs : List DL.D), ds = [.ref p] ∧ S p = some (.lst (D.map eDd ++ zs)) ∧ LogX D ∧ ((zs = [] ∧ Q .non S) ∨ ∃ x ys, zs = x :: ys ∧ ThD S x ∧ BadX D x ∧ Q (.int (D.length : Int)) S)
theorem st_first_wrong (x0 : DL.D) : start2 N_first_wrong [x0] = [some x0, none, none, none, none, none] := rfl
set_option maxHeartbeats 8000000 in
theorem ok_first_wrong (T : Txt K mg w) : Fn P w K mg base 5 "first_wrong" sp_first_wrong := by
  refine fn_intro2 T.f_first_wrong sc_first_wrong (fun ds S Q E h => ?_) (fun cdv A outer s H E f hr => ⟨_, (ss_cons (s_set 1 sc_first_wrong.nd rfl (by first | exact .inl rfl | exact .inr rfl) (.inl rfl) (q_lst a_nil))
 (ss_cons (s_set 2 sc_first_wrong.nd rfl (by first | exact .inl rfl | exact .inr rfl) (.inl rfl) q_int)
 (ss_cons (s_set 3 sc_first_wrong.nd rfl (by first | exact .inl rfl | exact .inr rfl) (.inl rfl) q_non)
 (ss_cons (s_for .never rfl (i_enum T.b_enumerate (by rfl) (a_cons (qv 0 (pv 0)) a_nil)) (g_tup (n := 2) rfl (gs_cons (g_name (i := 4) sc_first_wrong.nd rfl (by first | exact .inl rfl | exact .inr rfl) (.inl rfl)) (gs_cons (g_name (i := 5) sc_first_wrong.nd rfl (by first | exact .inl rfl | exact .inr rfl) (.inl rfl)) gs_nil)))
 (ss_cons (s_if (PW.pt (w_or (t_eq hr (qv 4 (pv 4)) (q_con T.q_MOST_DEEDS (by rfl))) (w_or (t_not (t_val (q_call (ok_is_deed T) (hr.mono (by decide)) (by rfl) (a_cons (qv 5 (pv 5)) a_nil)))) (w_or1 (t_not (t_val (q_call (ok_fits T) (hr.mono (by decide)) (by rfl) (a_cons (qv 5 (pv 5)) (a_cons (qv 1 (pv 1)) (a_cons (qv 3 (pv 3)) a_nil))))))))))
 (ss_one (s_ret (qv 4 (pv 4))))
 ss_nil)
 (ss_cons (s_set 3 sc_first_wrong.nd rfl (by first | exact .inl rfl | exact .inr rfl) (.inl rfl) (qv 5 (pv 5)))
 (ss_one (s_if (t_eq hr (q_ixk 0 (qv 5 (pv 5))) q_str)
 (ss_cons (s_expr (q_append (qv 1 (pv 1)) (a_cons (qv 2 (pv 2)) a_nil)))
 (ss_one (s_set 2 sc_first_wrong.nd rfl (by first | exact .inl rfl | exact .inr rfl) (.inl rfl) (q_add (qv 2 (pv 2)) q_int))))
 (ss_one (s_if (t_eq hr (q_ixk 0 (qv 5 (pv 5))) q_str)
 (ss_one (s_expr (q_remove (qv 1 (pv 1)) (a_cons (q_ixk 2 (qv 5 (pv 5))) a_nil))))
 ss_nil)))))))
 (ss_one (s_ret q_non)))))), fun ds S Q E h => ?_⟩)
  · obtain ⟨p, D, x, rfl, _⟩ := h
    rfl
  · obtain ⟨p, D, zs, rfl, hp, hD, hz⟩ := h
    rw [st_first_wrong]
    walk_at "d"
    intro r nr
    have hpr := ne_of_st hp nr
    rw [ups_ne hpr, hp]
    walk_at "d"
    have exs : D.map eDd ++ zs = (D.map Sum.inl ++ zs.map Sum.inr).map fun o : Dd ⊕ DL.D => o.elim eDd id := by
      rw [List.map_append, List.map_map, List.map_map]
      have e1 : ((fun o : Dd ⊕ DL.D => o.elim eDd id) ∘ Sum.inl) = eDd := rfl
      have e2 : ((fun o : Dd ⊕ DL.D => o.elim eDd id) ∘ Sum.inr) = id := rfl
      rw [e1, e2, List.map_id]
    rw [exs]
    refine loop_enum (α := Dd ⊕ DL.D) (e := fun o => o.elim eDd id) (xs := D.map Sum.inl ++ zs.map Sum.inr) (fun dn rest τ S' => ∃ P R, D = P ++ R ∧ dn = P.map Sum.inl ∧ rest = R.map Sum.inl ++ zs.map Sum.inr ∧ DL.Sub S S' ∧ S' r = some (.lst ((keysM (runM P).1).map eN)) ∧ ∃ v4 v5, τ = [some (.ref p), some (.ref r), some (.int ((runM P).2 : Nat)), some (eO' P.getLast?), v4, v5]) (⟨[], D, rfl, rfl, rfl, Sub.drop nr, ups_same, _, _, rfl⟩) (fun dn rest τ S' _ h => ?_) ?_ ?_
    · obtain ⟨_, _, _, _, _, hs, _⟩ := h
      exact (hs _ _ hp).trans (by rw [exs])
    · rintro dn o rest τ S1 e h
      obtain ⟨P, R, eD, rfl, er, sub, hr1, v4, v5, rfl⟩ := h
      have hpre : LogX P := by have := hD; rw [eD] at this; exact this.pre
      have hroom := hpre.room
      have ho : ∀ a, P.getLast? = some a → SmXD a := fun a h => hpre.mem (List.mem_of_getLast? h)
      have kl : (keysM (runM P).1).length = (runM P).1.length := by unfold keysM; simp
      have kd := keyOk_run P
      have hlP : P.length ≤ 40 := hpre.len
      have hPn : ((P.map Sum.inl : List (Dd ⊕ DL.D)).length) = P.length := List.length_map ..
      cases R with
      | cons d R =>
        rw [List.map_cons, List.cons_append] at er
        obtain ⟨rfl, rfl⟩ := List.cons.inj er
        have hlt : P.length < 40 := by
          have := hD.len
          rw [eD, List.length_append, List.length_cons] at this
          omega
        obtain ⟨h1, h2, h3, h4⟩ := hD.ok P d R eD
        have el : (P ++ [d]).getLast? = some d := last_snoc _ _
        have ht : ∀ a, P.getLast? = some a → a.t ≤ d.t := fun a h => h3 a (List.mem_of_getLast? h)
        have hT : tOkB P.getLast? d.t = true := by
          cases q : P.getLast? with
          | none => rfl
          | some a => show (!decide (d.t < a.t)) = true; rw [decide_eq_false (Rat.not_lt.mpr (ht a q))]; rfl
        dsimp only [Sum.elim, id]
        walk_at "d"
        refine cnd_f (decide_eq_false (by omega)) ?_
        refine ⟨eDd d, rfl, thd_eDd h1, ?_⟩
        rw [dB_eDd h1]
        walk_at "d"
        have eP : D = (P ++ [d]) ++ R := by rw [eD]; simp
        cases d with
        | join t u m =>
          refine ⟨_, r, (runM P).1, P.getLast?, t, rfl, hr1, h1.1, ho, by omega, .inl ⟨⟨u, m, rfl⟩, ?_⟩⟩
          rw [show tOkB P.getLast? t = true from hT, decide_eq_true (h4 trivial)]
          have ek : keysM (runM (P ++ [Dd.join t u m])).1 = keysM (runM P).1 ++ [(runM P).2] := by rw [runM_snoc]; unfold stepM keysM; rw [List.map_append]; rfl
          rw [eDd_j]
          walk_at "d"
          rw [hr1]
          walk_at "d"
          refine ⟨⟨_, rfl⟩, small1000 (by omega), ⟨P ++ [Dd.join t u m], R, eP, by rw [List.map_append]; rfl, rfl, sub.own nr, by rw [ek, List.map_append]; rfl, _, _, by rw [el, runM_snoc]; rfl⟩⟩
        | leave t k =>
          refine ⟨_, r, (runM P).1, P.getLast?, t, rfl, hr1, h1, ho, by omega, .inr ⟨(k : Int), .non, .inl rfl, ?_⟩⟩
          rw [show tOkB P.getLast? t = true from hT, decide_eq_true (KM_mem.mpr ⟨k, rfl, h2⟩)]
          have ek : keysM (runM (P ++ [Dd.leave t k])).1 = (keysM (runM P).1).erase k := by rw [runM_snoc]; exact keys_dropX kd.1
          rw [eDd_l]
          walk_at "d"
          rw [hr1]
          refine ⟨⟨_, rfl⟩, (keysM (runM P).1).map fun k : Nat => (k : Int), by rw [eN_ints], List.mem_map.mpr ⟨k, h2, rfl⟩, ⟨P ++ [Dd.leave t k], R, eP, by rw [List.map_append]; rfl, rfl, sub.own nr, by rw [ek, erase_ints], _, _, by rw [el, runM_snoc]; rfl⟩⟩
        | turn t k m =>
          refine ⟨_, r, (runM P).1, P.getLast?, t, rfl, hr1, h1.1, ho, by omega, .inr ⟨(k : Int), eQ m, .inr rfl, ?_⟩⟩
          rw [show tOkB P.getLast? t = true from hT, decide_eq_true (KM_mem.mpr ⟨k, rfl, h2⟩)]
          have ek : keysM (runM (P ++ [Dd.turn t k m])).1 = keysM (runM P).1 := by rw [runM_snoc]; exact keys_mset _ _ _
          rw [eDd_t]
          walk_at "d"
          exact ⟨P ++ [Dd.turn t k m], R, eP, by rw [List.map_append]; rfl, rfl, sub, by rw [ek]; exact hr1, _, _, by rw [el, runM_snoc]; rfl⟩
      | nil =>
        have er2 : zs.map Sum.inr = o :: rest := er.symm
        rcases hz with ⟨rfl, _⟩ | ⟨x, ys, rfl, hx, hno, q⟩
        · cases er2
        obtain ⟨rfl, rfl⟩ := List.cons.inj er2
        rw [List.append_nil] at eD
        have eD' := eD.symm
        clear eD
        subst eD'
        dsimp only [Sum.elim, id]
        have bad : ∃ S0, DL.Sub S0 S1 ∧ Q (.int (P.length : Int)) S0 := ⟨S, sub, q⟩
        walk_at "d"
        refine cnd_dec (fun c => bad) (fun c => ?_)
        have hlt : P.length < 40 := by omega
        refine ⟨x, rfl, hx.sub sub, ?_⟩
        cases hd : dB x with
        | false =>
          walk_at "d"
          exact bad
        | true =>
        walk_at "d"
        have hTo : ∀ {t : Rat}, tOkB P.getLast? t = true → ∀ y ∈ P, y.t ≤ t := fun {t} h y hy => by
          rcases List.eq_nil_or_concat P with e | ⟨P0, a, e⟩
          · rw [e] at hy; cases hy
          · rw [List.concat_eq_append] at e
            have hl : P.getLast? = some a := by rw [e]; exact last_snoc _ _
            rw [hl] at h
            have h : (!decide (t < a.t)) = true := h
            have hat : a.t ≤ t := by
              refine Rat.not_lt.mp fun z => ?_
              rw [decide_eq_true z] at h
              cases h
            rw [e] at hy
            rcases List.mem_append.mp hy with hy | hy
            · exact Rat.le_trans ((hD.ok P0 a [] e).2.2.1 y hy) hat
            · rw [List.mem_singleton.mp hy]; exact hat
        have hFr : ∀ {t : Rat} {d : Dd}, LogX (P ++ [d]) → d.t = t → tOkB P.getLast? t = true := fun {t d} h e => by
          cases q : P.getLast? with
          | none => rfl
          | some a =>
            show (!decide (t < a.t)) = true
            have := (h.ok P d [] rfl).2.2.1 a (List.mem_of_getLast? q)
            rw [e] at this
            rw [decide_eq_false (Rat.not_lt.mpr this)]
            rfl
        rcases dB_to hd with ⟨t, u, m, rfl, st, su, sm⟩ | ⟨t, k, rfl, st⟩ | ⟨t, k, m, rfl, st, sm⟩
        · refine ⟨_, r, (runM P).1, P.getLast?, t, rfl, hr1, st, ho, by omega, .inl ⟨⟨u, m, rfl⟩, ?_⟩⟩
          cases hb : tOkB P.getLast? t && decide ((runM P).1.length < 8) with
          | false =>
            walk_at "d"
            exact bad
          | true =>
            rw [Bool.and_eq_true, decide_eq_true_iff] at hb
            have ok : ∃ d, eDd (.join t u m) = eDd d ∧ LogX (P ++ [d]) := ⟨_, rfl, hD.snoc ⟨st, su, sm⟩ trivial (hTo hb.1) (fun _ => hb.2) hlt⟩
            exact absurd ok hno
        · refine ⟨_, r, (runM P).1, P.getLast?, t, rfl, hr1, st, ho, by omega, .inr ⟨k, .non, .inl rfl, ?_⟩⟩
          cases hb : tOkB P.getLast? t && decide (k ∈ KM (runM P).1) with
          | false =>
            walk_at "d"
            exact bad
          | true =>
            rw [Bool.and_eq_true, decide_eq_true_iff] at hb
            obtain ⟨k', rfl, hk⟩ := KM_mem.mp hb.2
            have ok : ∃ d, (.tup [.str "leave", eQ t, .int (k' : Int)] : DL.D) = eDd d ∧ LogX (P ++ [d]) := ⟨.leave t k', rfl, hD.snoc st hk (hTo hb.1) (fun z => z.elim) hlt⟩
            exact absurd ok hno
        · refine ⟨_, r, (runM P).1, P.getLast?, t, rfl, hr1, st, ho, by omega, .inr ⟨k, eQ m, .inr rfl, ?_⟩⟩
          cases hb : tOkB P.getLast? t && decide (k ∈ KM (runM P).1) with
          | false =>
            walk_at "d"
            exact bad
          | true =>
            rw [Bool.and_eq_true, decide_eq_true_iff] at hb
            obtain ⟨k', rfl, hk⟩ := KM_mem.mp hb.2
            have ok : ∃ d, (.tup [.str "turn", eQ t, .int (k' : Int), eQ m] : DL.D) = eDd d ∧ LogX (P ++ [d]) := ⟨.turn t k' m, rfl, hD.snoc ⟨st, sm⟩ hk (hTo hb.1) (fun z => z.elim) hlt⟩
            exact absurd ok hno
    · rintro τ S1 ⟨P, R, eD, _, er, sub, _, v4, v5, rfl⟩
      have er2 := er.symm
      rw [List.append_eq_nil_iff] at er2
      obtain ⟨_, er2⟩ := er2
      rcases hz with ⟨rfl, q⟩ | ⟨x, ys, rfl, _⟩
      · walk_at "d"
        exact ⟨_, sub, q⟩
      · cases er2
def spx_log_of : Sp2 := fun ds S Q E => ∃ (x : DL.D), ds = [x] ∧ ((∃ (p : Addr) (D : List Dd), x = .ref p ∧ S p = some (.lst (D.map eDd)) ∧ LogX D ∧ ∀ g, S g = none → Q (.ref g) (ups S g (.lst (D.map eDd)))) ∨ (∃ (p : Addr) (D : List Dd) (y : DL.D) (ys : List DL.D), x = .ref p ∧ S p = some (.lst (D.map eDd ++ y :: ys)) ∧ LogX D ∧ ThD S y ∧ BadX D y ∧ E "NoLog" (some ("at", (D.length : Int))) S) ∨ ((∃ T, tyOf S x = some T ∧ isiT T .lst = false) ∧ E "NoLog" (some ("at", 0)) S))
theorem st_log_of (x0 : DL.D) : start2 N_log_of [x0] = [some x0, none] := rfl
set_option maxHeartbeats 8000000 in
theorem okx_log_of (T : Txt K mg w) : FnX P w K mg base 6 "log_of" spx_log_of := by
  refine fn_introX T.f_log_of sc_log_of (fun ds S Q E h => ?_) (fun cdv A outer s H E f EE hr tk pso => ⟨_, (ss_cons (s_if (t_not (t_val (q_isi .lst T.b_isinstance (by rfl) T.b_list (by rfl) PyProof.Rows.boot_list rfl (qv 0 (pv 0)))))
 (ss_one (s_raiseO (ro_NoLog T) tk (hr.mono (by decide)) rfl (by rfl) (a_cons q_int a_nil)))
 ss_nil)
 (ss_cons (s_set 1 sc_log_of.nd rfl (by first | exact .inl rfl | exact .inr rfl) (.inl rfl) (q_call (ok_first_wrong T) (hr.mono (by decide)) (by rfl) (a_cons (qv 0 (pv 0)) a_nil)))
 (ss_cons (s_if (t_isnot (qv 1 (pv 1)) q_non)
 (ss_one (s_raiseO (ro_NoLog T) tk (hr.mono (by decide)) rfl (by rfl) (a_cons (qv 1 (pv 1)) a_nil)))
 ss_nil)
 (ss_one (s_ret (q_list T.b_list (by rfl) (a_cons (qv 0 (pv 0)) a_nil))))))), fun ds S Q E hE h => ?_⟩)
  · obtain ⟨_, rfl, _⟩ := h
    rfl
  · obtain ⟨x, rfl, h⟩ := h
    rw [st_log_of]
    rcases h with ⟨p, D, rfl, hp, hD, q⟩ | ⟨p, D, y, ys, rfl, hp, hD, hy, hb, q⟩ | ⟨⟨T, hT, hi⟩, q⟩
    · walk_at "f"
      refine ⟨p, D, [], rfl, by rw [List.append_nil]; exact hp, hD, .inl ⟨rfl, ?_⟩⟩
      refine cnd_t rfl ?_
      rw [hp]
      walk_at "d"
      intro g ng
      exact ⟨_, .refl _, q g ng⟩
    · walk_at "f"
      refine ⟨p, D, _, rfl, hp, hD, .inr ⟨y, ys, rfl, hy, hb, ?_⟩⟩
      refine cnd_f rfl ?_
      exact ⟨_, rfl, hE _ _ _ _ (.refl S) q⟩
    · walk_at "f"
      exact ⟨_, rfl, hE _ _ _ _ (.refl S) q⟩
def sp_log_of : Sp2 := fun ds S Q _ => ∃ (p : Addr) (D : List Dd), ds = [.ref p] ∧ S p = some (.lst (D.map eDd)) ∧ LogX D ∧ ∀ g, S g = none → Q (.ref g) (ups S g (.lst (D.map eDd)))
theorem ok_log_of (T : Txt K mg w) : Fn P w K mg base 6 "log_of" sp_log_of := Fn.ofX (okx_log_of T) fun ds S Q E h => by
    obtain ⟨p, D, rfl, hp, hD, q⟩ := h
    exact ⟨.ref p, rfl, .inl ⟨p, D, rfl, hp, hD, q⟩⟩
def sp_l_refused : Sp2 := fun ds S Q _ => ∃ (x : DL.D), ds = [x] ∧ ((∃ (p : Addr) (D : List Dd) (y : DL.D) (ys : List DL.D), x = .ref p ∧ S p = some (.lst (D.map eDd ++ y :: ys)) ∧ LogX D ∧ ThD S y ∧ BadX D y ∧ ∀ S', Sub S S' → Q (.int (D.length : Int)) S') ∨ ((∃ T, tyOf S x = some T ∧ isiT T .lst = false) ∧ ∀ S', Sub S S' → Q (.int 0) S'))
theorem st_l_refused (x0 : DL.D) : start2 N_l_refused [x0] = [some x0, none, none] := rfl
set_option maxHeartbeats 8000000 in
theorem ok_l_refused (T : Txt K mg w) : Fn P w K mg base 7 "_law_refused" sp_l_refused := by
  refine fn_introB T.f_l_refused sc_l_refused (fun ds S Q E h => ?_) (fun cdv A outer s H E f hr => ⟨_, (bs_cons (b_of (s_set 1 sc_l_refused.nd rfl (by first | exact .inl rfl | exact .inr rfl) (.inl rfl) q_non))
 (bs_cons (b_try 2 1 rfl rfl rfl sc_l_refused.nd rfl rfl rfl rfl T.err (by decide) (by rfl) (fun _ _ => rfl) (fun _ _ => pv 2) (fun W2 pn xe tk pso => (ss_one (s_expr (q_callX tk (okx_log_of T) (hr.mono (by decide)) (by rfl) (a_cons (qv 0 (pv 0)) a_nil))))))
 (bs_of (ss_cons (s_if (PW.pt (w_or (t_not (t_val (q_isE T.err (by decide) T.b_isinstance (by rfl) (by rfl) (qv 1 (pv 1))))) (w_or1 (t_not (t_val (q_isEV T.err T.b_isinstance (by rfl) T.b_ValueError (by rfl) (qv 1 (pv 1))))))))
 (ss_one (s_ret q_non))
 ss_nil)
 (ss_cons (s_if (PW.pt (w_or (t_val (q_isET T.err ["NoKey", "NoNumber", "NoRow", "NoText", "NoTime"] (by decide) T.b_isinstance (by rfl) (qv 1 (pv 1)) (by decide) (pa_cls T.err (by decide) (by rfl) (pa_cls T.err (by decide) (by rfl) (pa_cls T.err (by decide) (by rfl) (pa_cls T.err (by decide) (by rfl) (pa_cls T.err (by decide) (by rfl) pa_cls0))))))) (w_or1 (t_val (q_isi .bool T.b_isinstance (by rfl) T.b_bool (by rfl) PyProof.Rows.boot_bool rfl (q_fldE T.fl_at (qv 1 (pv 1))))))))
 (ss_one (s_ret q_non))
 ss_nil)
 (ss_one (s_ret (q_fldE T.fl_at (qv 1 (pv 1)))))))))), fun ds S Q E h => ?_⟩)
  · obtain ⟨_, rfl, _⟩ := h
    rfl
  · obtain ⟨x, rfl, h⟩ := h
    rw [st_l_refused]
    walk_at "d"
    unfold uTryE
    walk_at "d"
    refine ⟨x, rfl, ?_⟩
    rcases h with ⟨p, D, y, ys, rfl, hp, hD, hy, hb, q⟩ | ⟨hT, q⟩
    · refine .inr (.inl ⟨p, D, y, ys, rfl, hp, hD, hy, hb, by decide, ?_⟩)
      refine ⟨by decide, ?_⟩
      rw [show List.any (["NoLog"] : List Str) (isub "NoLog") = true from by decide]
      refine cnd_t rfl ⟨by decide, ?_⟩
      rw [show List.any (["ValueError"] : List Str) (isub "NoLog") = true from by decide]
      refine cnd_t rfl ⟨by decide, ?_⟩
      rw [show List.any (["NoKey", "NoNumber", "NoRow", "NoText", "NoTime"] : List Str) (isub "NoLog") = false from by decide]
      refine cnd_f rfl ⟨rfl, rfl, ?_⟩
      walk_at "d"
      exact ⟨_, .refl _, q _ (.refl _)⟩
    · refine .inr (.inr ⟨hT, by decide, ?_⟩)
      refine ⟨by decide, ?_⟩
      rw [show List.any (["NoLog"] : List Str) (isub "NoLog") = true from by decide]
      refine cnd_t rfl ⟨by decide, ?_⟩
      rw [show List.any (["ValueError"] : List Str) (isub "NoLog") = true from by decide]
      refine cnd_t rfl ⟨by decide, ?_⟩
      rw [show List.any (["NoKey", "NoNumber", "NoRow", "NoText", "NoTime"] : List Str) (isub "NoLog") = false from by decide]
      refine cnd_f rfl ⟨rfl, rfl, ?_⟩
      walk_at "d"
      exact ⟨_, .refl _, q _ (.refl _)⟩
def sp_l_no_number : Sp2 := fun ds S Q _ => ∃ a n, ds = [.ref a] ∧ PenC S a n ∧ n ≤ 80000 ∧ ∀ v S', Fr S S' a → PenC S' a (n + 1) → (∀ T, Fr S' T a → OddN T v) → Q v S'
theorem st_l_no_number (x0 : DL.D) : start2 N_l_no_number [x0] = [some x0, none] := rfl
set_option maxHeartbeats 8000000 in
theorem ok_l_no_number (T : Txt K mg w) : Fn P w K mg base 2 "_law_no_number" sp_l_no_number := by
  refine fn_intro2 T.f_l_no_number sc_l_no_number (fun ds S Q E h => ?_) (fun cdv A outer s H E f hr => ⟨_, (ss_cons (s_set 1 sc_l_no_number.nd rfl (by first | exact .inl rfl | exact .inr rfl) (.inl rfl) (q_lst (a_cons (q_tup (a_cons (q_powk 1000000000 (by decide +kernel) (by decide +kernel)) (a_cons q_int a_nil))) (a_cons (q_tup (a_cons (q_neg (q_powk 1000000000 (by decide +kernel) (by decide +kernel))) (a_cons q_int a_nil))) (a_cons (q_tup (a_cons q_int (a_cons q_int a_nil))) (a_cons (q_tup (a_cons q_int (a_cons q_int a_nil))) (a_cons (q_tup (a_cons q_int (a_cons q_int a_nil))) (a_cons (q_tup (a_cons q_int (a_cons q_int a_nil))) (a_cons (q_tup (a_cons q_int (a_cons (q_neg q_int) a_nil))) (a_cons (q_tup (a_cons q_bl (a_cons q_int a_nil))) (a_cons (q_tup (a_cons q_int (a_cons q_bl a_nil))) (a_cons (q_tup (a_cons q_int a_nil)) (a_cons q_int a_nil)))))))))))))
 (ss_cons (s_set 1 sc_l_no_number.nd rfl (by first | exact .inl rfl | exact .inr rfl) (.inl rfl) (q_add (qv 1 (pv 1)) (q_lst (a_cons q_non (a_cons (q_tup (a_cons q_int (a_cons q_int (a_cons q_int a_nil)))) (a_cons (q_lst (a_cons q_int (a_cons q_int a_nil))) (a_cons q_str (a_cons (q_tup (a_cons (q_powk 100000000000000000000000000000000000000000000000000000000000 (by decide +kernel) (by decide +kernel)) (a_cons q_int a_nil))) (a_cons (q_tup a_nil) (a_cons (q_tup (a_cons q_int (a_cons q_non a_nil))) a_nil))))))))))
 (ss_one (s_ret (q_ixg (fun _ _ => rfl) (qv 1 (pv 1)) (q_call (ok_l_take T) (hr.mono (by decide)) (by rfl) (a_cons (qv 0 (pv 0)) (a_cons (q_len T.b_len (by rfl) (a_cons (qv 1 (pv 1)) a_nil)) a_nil)))))))), fun ds S Q E h => ?_⟩)
  · obtain ⟨_, _, rfl, _⟩ := h
    rfl
  · obtain ⟨a, n, rfl, hp, hn, q⟩ := h
    rw [st_l_no_number]
    refine seq_cut (fun τ S' => ∃ g xs, Fr S S' a ∧ PenC S' a n ∧ S' g = some (.lst xs) ∧ g ≠ a ∧ xs.length = 11 ∧ (∀ x ∈ xs, ∀ T, Fr S' T a → OddN T x) ∧ τ = [some (.ref a), some (.ref g)]) (fun τ S1 k1 => ?_) (fun R hR => ?_)
    rotate_left
    · walk_at "d"
      intro g ng
      refine hR _ _ ⟨g, _, (Fr.refl S a).new ng, hp.new ng, ups_same, (hp.ne ng).symm, rfl, fun x hx T _ => ?_, rfl⟩
      simp only [List.mem_cons, List.not_mem_nil, or_false] at hx
      rcases hx with rfl | rfl | rfl | rfl | rfl | rfl | rfl | rfl | rfl | rfl | rfl <;> exact odd_lit (by decide +kernel)
    obtain ⟨g, xs, fr, hp, hg, hga, hl, hx, rfl⟩ := k1
    refine seq_cut (fun τ S' => ∃ g xs, Fr S S' a ∧ PenC S' a n ∧ S' g = some (.lst xs) ∧ g ≠ a ∧ xs.length = 18 ∧ (∀ x ∈ xs, ∀ T, Fr S' T a → OddN T x) ∧ τ = [some (.ref a), some (.ref g)]) (fun τ S2 k2 => ?_) (fun R hR => ?_)
    rotate_left
    · walk_at "d"
      intro p np
      have hpa := (hp.ne np).symm
      have fr := fr.new np (o := .lst [D.int 1, D.int 1])
      have hp := hp.new np (o := .lst [D.int 1, D.int 1])
      have hg := (Sub.drop np (o := .lst [D.int 1, D.int 1])) _ _ hg
      have hx : ∀ x ∈ xs, ∀ T, Fr (ups S1 p (.lst [D.int 1, D.int 1])) T a → OddN T x := fun x h T f => hx x h T (((Fr.refl S1 a).new np).trans f)
      have h1 : ups S1 p (.lst [D.int 1, D.int 1]) p = _ := ups_same
      generalize ups S1 p (.lst [D.int 1, D.int 1]) = S3 at *
      intro u nu
      rw [ups_ne (ne_of_st hg nu), hg]
      walk_at "d"
      refine ⟨short_line (by omega), fun g2 ng2 => ?_⟩
      have f3 := ((Fr.refl S3 a).new nu (o := .lst [D.non, D.tup [D.int 1, D.int 2, D.int 3], D.ref p, D.str (Str.ofString "1"), D.tup [D.int 100000000000000000000000000000000000000000000000000000000000, D.int 7], D.tup [], D.tup [D.int 1, D.non]]))
      refine hR _ _ ⟨g2, _, (fr.trans f3).new ng2, (hp.new nu).new ng2, ups_same, ((hp.new nu).ne ng2).symm, by rw [List.length_append, hl]; rfl, fun x h T f => ?_, rfl⟩
      have f := (f3.new ng2).trans f
      rcases List.mem_append.mp h with h | h
      · exact hx x h T f
      simp only [List.mem_cons, List.not_mem_nil, or_false] at h
      rcases h with rfl | rfl | rfl | rfl | rfl | rfl | rfl
      · exact odd_lit (by decide +kernel)
      · exact odd_lit (by decide +kernel)
      · exact (odd_ref (f _ _ hpa h1) (by decide) (by decide)).1
      · exact odd_lit (by decide +kernel)
      · exact odd_lit (by decide +kernel)
      · exact odd_lit (by decide +kernel)
      · exact odd_lit (by decide +kernel)
    clear fr hp hg hx
    obtain ⟨g, xs, fr, hp, hg, hga, hl, hx, rfl⟩ := k2
    walk_at "d"
    rw [hg]
    walk_at "d"
    refine ⟨a, n, _, rfl, hp, by omega, by omega, (Sz.lit (m := 10) (by omega)).le (by decide), fun r x y z r0 r1 z0 z1 => ?_⟩
    walk_at "d"
    rw [ups_ne hga, hg]
    walk_at "d"
    obtain ⟨v, _, hv, e⟩ := atI_map (e := fun z : D => z) (xs := xs) r0 r1
    rw [List.map_id'] at e
    rw [e]
    exact ⟨_, .refl _, q v _ fr.wr (penC_again z0 z1) fun T f => hx v hv T (((Fr.refl S2 a).wr).trans f)⟩
def sp_l_bad : Sp2 := fun ds S Q _ => ∃ a n t, ds = [.ref a, eQ t] ∧ PenC S a n ∧ n ≤ 70000 ∧ SmX t ∧ ∀ y S', Fr S S' a → PenC S' a (n + 4) → (∀ T, Fr S' T a → OddD T y) → Q y S'
theorem st_l_bad (x0 x1 : DL.D) : start2 N_l_bad [x0, x1] = [some x0, some x1, none, none, none, none, none] := rfl
set_option maxHeartbeats 8000000 in
theorem ok_l_bad (T : Txt K mg w) : Fn P w K mg base 3 "_law_bad" sp_l_bad := by
  refine fn_intro2 T.f_l_bad sc_l_bad (fun ds S Q E h => ?_) (fun cdv A outer s H E f hr => ⟨_, (ss_cons (s_set 2 sc_l_bad.nd rfl (by first | exact .inl rfl | exact .inr rfl) (.inl rfl) (q_tup (a_cons q_int (a_cons q_int a_nil))))
 (ss_cons (s_set 3 sc_l_bad.nd rfl (by first | exact .inl rfl | exact .inr rfl) (.inl rfl) (q_call (ok_l_take T) (hr.mono (by decide)) (by rfl) (a_cons (qv 0 (pv 0)) (a_cons q_int a_nil))))
 (ss_cons (s_if (t_eq hr (qv 3 (pv 3)) q_int)
 (ss_cons (s_set 4 sc_l_bad.nd rfl (by first | exact .inl rfl | exact .inr rfl) (.inl rfl) (q_lst (a_cons q_non (a_cons q_int (a_cons q_str (a_cons (q_lst a_nil) (a_cons (q_tup a_nil) (a_cons q_bl (a_cons q_dnew (a_cons (q_tup (a_cons q_str a_nil)) (a_cons (q_lst (a_cons q_str (a_cons (qv 1 (pv 1)) (a_cons (qv 2 (pv 2)) (a_cons (qv 2 (pv 2)) a_nil))))) a_nil)))))))))))
 (ss_one (s_ret (q_ixg (fun _ _ => rfl) (q_add (qv 4 (pv 4)) (q_lst (a_cons (q_tup (a_cons (q_tup (a_cons q_str (a_cons (qv 1 (pv 1)) (a_cons (qv 2 (pv 2)) (a_cons (qv 2 (pv 2)) a_nil))))) a_nil)) a_nil))) (q_call (ok_l_take T) (hr.mono (by decide)) (by rfl) (a_cons (qv 0 (pv 0)) (a_cons q_int a_nil)))))))
 ss_nil)
 (ss_cons (s_if (t_eq hr (qv 3 (pv 3)) q_int)
 (ss_cons (s_set 4 sc_l_bad.nd rfl (by first | exact .inl rfl | exact .inr rfl) (.inl rfl) (q_lst (a_cons (q_tup (a_cons q_str (a_cons (qv 1 (pv 1)) (a_cons (qv 2 (pv 2)) (a_cons (qv 2 (pv 2)) a_nil))))) (a_cons (q_tup (a_cons q_str (a_cons (qv 1 (pv 1)) (a_cons q_int a_nil)))) (a_cons (q_tup (a_cons q_non (a_cons (qv 1 (pv 1)) (a_cons q_int a_nil)))) (a_cons (q_tup (a_cons q_int (a_cons (qv 1 (pv 1)) (a_cons q_int (a_cons (qv 2 (pv 2)) a_nil))))) (a_cons (q_tup (a_cons q_str (a_cons (qv 1 (pv 1)) (a_cons q_int a_nil)))) a_nil)))))))
 (ss_cons (s_set 4 sc_l_bad.nd rfl (by first | exact .inl rfl | exact .inr rfl) (.inl rfl) (q_add (qv 4 (pv 4)) (q_lst (a_cons (q_tup (a_cons q_str (a_cons (qv 1 (pv 1)) (a_cons (qv 2 (pv 2)) a_nil)))) (a_cons (q_tup (a_cons q_str (a_cons (qv 1 (pv 1)) (a_cons (qv 2 (pv 2)) (a_cons (qv 2 (pv 2)) (a_cons (qv 2 (pv 2)) a_nil)))))) (a_cons (q_tup (a_cons q_str (a_cons (qv 1 (pv 1)) a_nil))) (a_cons (q_tup (a_cons q_str (a_cons (qv 1 (pv 1)) (a_cons q_int a_nil)))) a_nil)))))))
 (ss_cons (s_set 4 sc_l_bad.nd rfl (by first | exact .inl rfl | exact .inr rfl) (.inl rfl) (q_add (qv 4 (pv 4)) (q_lst (a_cons (q_tup (a_cons q_str (a_cons (qv 1 (pv 1)) (a_cons q_int (a_cons (qv 2 (pv 2)) a_nil))))) (a_cons (q_tup (a_cons q_str (a_cons (qv 1 (pv 1)) (a_cons q_int (a_cons (qv 2 (pv 2)) (a_cons q_int a_nil)))))) (a_cons (q_tup (a_cons (q_tup (a_cons q_str a_nil)) (a_cons (qv 1 (pv 1)) (a_cons q_int a_nil)))) (a_cons (q_tup (a_cons (q_lst (a_cons q_str a_nil)) (a_cons (qv 1 (pv 1)) (a_cons q_int a_nil)))) a_nil)))))))
 (ss_one (s_ret (q_ixg (fun _ _ => rfl) (qv 4 (pv 4)) (q_call (ok_l_take T) (hr.mono (by decide)) (by rfl) (a_cons (qv 0 (pv 0)) (a_cons q_int a_nil)))))))))
 ss_nil)
 (ss_cons (s_if (t_lt (qv 3 (pv 3)) q_int)
 (ss_cons (s_set 5 sc_l_bad.nd rfl (by first | exact .inl rfl | exact .inr rfl) (.inl rfl) (q_call (ok_l_no_number T) (hr.mono (by decide)) (by rfl) (a_cons (qv 0 (pv 0)) a_nil)))
 (ss_cons (s_set 4 sc_l_bad.nd rfl (by first | exact .inl rfl | exact .inr rfl) (.inl rfl) (q_lst (a_cons (q_tup (a_cons q_str (a_cons (qv 5 (pv 5)) (a_cons (qv 2 (pv 2)) (a_cons (qv 2 (pv 2)) a_nil))))) (a_cons (q_tup (a_cons q_str (a_cons (qv 1 (pv 1)) (a_cons (qv 5 (pv 5)) (a_cons (qv 2 (pv 2)) a_nil))))) (a_cons (q_tup (a_cons q_str (a_cons (qv 1 (pv 1)) (a_cons (qv 2 (pv 2)) (a_cons (qv 5 (pv 5)) a_nil))))) (a_cons (q_tup (a_cons q_str (a_cons (qv 5 (pv 5)) (a_cons q_int a_nil)))) a_nil))))))
 (ss_one (s_ret (q_ixg (fun _ _ => rfl) (q_add (qv 4 (pv 4)) (q_lst (a_cons (q_tup (a_cons q_str (a_cons (qv 5 (pv 5)) (a_cons q_int (a_cons (qv 2 (pv 2)) a_nil))))) (a_cons (q_tup (a_cons q_str (a_cons (qv 1 (pv 1)) (a_cons q_int (a_cons (qv 5 (pv 5)) a_nil))))) a_nil)))) (q_call (ok_l_take T) (hr.mono (by decide)) (by rfl) (a_cons (qv 0 (pv 0)) (a_cons q_int a_nil))))))))
 ss_nil)
 (ss_cons (s_set 6 sc_l_bad.nd rfl (by first | exact .inl rfl | exact .inr rfl) (.inl rfl) (q_ixg (fun _ _ => rfl) (q_lst (a_cons (q_neg q_int) (a_cons q_int (a_cons (q_powk 100000000000000000000000000000000000000000000000000000000000 (by decide +kernel) (by decide +kernel)) (a_cons q_bl (a_cons q_bl (a_cons q_non (a_cons q_str (a_cons (q_tup (a_cons q_int (a_cons q_int a_nil))) (a_cons (q_lst (a_cons q_int a_nil)) (a_cons q_int a_nil))))))))))) (q_call (ok_l_take T) (hr.mono (by decide)) (by rfl) (a_cons (qv 0 (pv 0)) (a_cons q_int a_nil)))))
 (ss_one (s_ret (q_ixg (fun _ _ => rfl) (q_lst (a_cons (q_tup (a_cons q_str (a_cons (qv 1 (pv 1)) (a_cons (qv 6 (pv 6)) a_nil)))) (a_cons (q_tup (a_cons q_str (a_cons (qv 1 (pv 1)) (a_cons (qv 6 (pv 6)) (a_cons (qv 2 (pv 2)) a_nil))))) a_nil))) (q_call (ok_l_take T) (hr.mono (by decide)) (by rfl) (a_cons (qv 0 (pv 0)) (a_cons q_int a_nil)))))))))))), fun ds S Q E h => ?_⟩)
  · obtain ⟨_, _, _, rfl, _⟩ := h
    rfl
  · obtain ⟨a, n, t, rfl, hp, hn, ht, q⟩ := h
    rw [st_l_bad]
    refine seq_cut (fun τ S' => S' = S ∧ τ = [some (.ref a), some (eQ t), some (eQ 1), none, none, none, none]) (fun τ S1 k1 => ?_) (fun R hR => ?_)
    rotate_left
    · walk_at "d"
      exact hR _ _ ⟨rfl, rfl⟩
    obtain ⟨rfl, rfl⟩ := k1
    refine seq_cut (fun τ S' => ∃ w : Int, 0 ≤ w ∧ w < 9 ∧ Fr S1 S' a ∧ PenC S' a (n + 1) ∧ τ = [some (.ref a), some (eQ t), some (eQ 1), some (.int w), none, none, none]) (fun τ S2 k2 => ?_) (fun R hR => ?_)
    rotate_left
    · walk_at "d"
      refine ⟨a, n, _, rfl, hp, by omega, by decide, Sz.lit (by decide), fun w x y z w0 w1 z0 z1 => ?_⟩
      walk_at "d"
      exact hR _ _ ⟨w, w0, w1, (Fr.refl S1 a).wr, penC_again z0 z1, rfl⟩
    obtain ⟨w, w0, w9, fr, hp, rfl⟩ := k2
    refine seq_cut (fun τ S' => S' = S2 ∧ w ≠ 0 ∧ τ = [some (.ref a), some (eQ t), some (eQ 1), some (.int w), none, none, none]) (fun τ S3 k3 => ?_) (fun R hR => ?_)
    rotate_left
    · walk_at "d"
      refine cnd_dec (fun _ => ?_) (fun c => hR _ _ ⟨rfl, c, rfl⟩)
      intro p1 np1
      have sp1 : DL.Sub S2 (ups S2 p1 (.lst [])) := DL.Sub.drop np1
      first | replace fr := sp1 _ _ fr | replace fr := fr.sub sp1 | replace fr := fr.trans sp1
      have e1 : ups S2 p1 (.lst []) p1 = some (.lst []) := ups_same
      generalize ups S2 p1 (.lst []) = T1 at *
      have h1a := (hp.ne np1).symm
      first | replace hp := sp1 _ _ hp | replace hp := hp.sub sp1 | replace hp := hp.trans sp1
      intro p2 np2
      have sp2 : DL.Sub T1 (ups T1 p2 (.dic [])) := DL.Sub.drop np2
      first | replace fr := sp2 _ _ fr | replace fr := fr.sub sp2 | replace fr := fr.trans sp2
      first | replace e1 := sp2 _ _ e1 | replace e1 := e1.sub sp2 | replace e1 := e1.trans sp2
      have e2 : ups T1 p2 (.dic []) p2 = some (.dic []) := ups_same
      generalize ups T1 p2 (.dic []) = T2 at *
      have h2a := (hp.ne np2).symm
      first | replace hp := sp2 _ _ hp | replace hp := hp.sub sp2 | replace hp := hp.trans sp2
      intro p3 np3
      have sp3 : DL.Sub T2 (ups T2 p3 (.lst [D.str (Str.ofString "join"), eQ t, eQ 1, eQ 1])) := DL.Sub.drop np3
      first | replace fr := sp3 _ _ fr | replace fr := fr.sub sp3 | replace fr := fr.trans sp3
      first | replace e1 := sp3 _ _ e1 | replace e1 := e1.sub sp3 | replace e1 := e1.trans sp3
      first | replace e2 := sp3 _ _ e2 | replace e2 := e2.sub sp3 | replace e2 := e2.trans sp3
      have e3 : ups T2 p3 (.lst [D.str (Str.ofString "join"), eQ t, eQ 1, eQ 1]) p3 = some (.lst [D.str (Str.ofString "join"), eQ t, eQ 1, eQ 1]) := ups_same
      generalize ups T2 p3 (.lst [D.str (Str.ofString "join"), eQ t, eQ 1, eQ 1]) = T3 at *
      have h3a := (hp.ne np3).symm
      first | replace hp := sp3 _ _ hp | replace hp := hp.sub sp3 | replace hp := hp.trans sp3
      intro p4 np4
      have sp4 : DL.Sub T3 (ups T3 p4 (.lst [D.non, D.int 7, D.str (Str.ofString "join"), D.ref p1, D.tup [], D.bl true, D.ref p2, D.tup [D.str (Str.ofString "join")], D.ref p3])) := DL.Sub.drop np4
      first | replace fr := sp4 _ _ fr | replace fr := fr.sub sp4 | replace fr := fr.trans sp4
      first | replace hp := sp4 _ _ hp | replace hp := hp.sub sp4 | replace hp := hp.trans sp4
      first | replace e1 := sp4 _ _ e1 | replace e1 := e1.sub sp4 | replace e1 := e1.trans sp4
      first | replace e2 := sp4 _ _ e2 | replace e2 := e2.sub sp4 | replace e2 := e2.trans sp4
      first | replace e3 := sp4 _ _ e3 | replace e3 := e3.sub sp4 | replace e3 := e3.trans sp4
      have e4 : ups T3 p4 (.lst [D.non, D.int 7, D.str (Str.ofString "join"), D.ref p1, D.tup [], D.bl true, D.ref p2, D.tup [D.str (Str.ofString "join")], D.ref p3]) p4 = some (.lst [D.non, D.int 7, D.str (Str.ofString "join"), D.ref p1, D.tup [], D.bl true, D.ref p2, D.tup [D.str (Str.ofString "join")], D.ref p3]) := ups_same
      generalize ups T3 p4 (.lst [D.non, D.int 7, D.str (Str.ofString "join"), D.ref p1, D.tup [], D.bl true, D.ref p2, D.tup [D.str (Str.ofString "join")], D.ref p3]) = T4 at *
      intro p5 np5
      have sp5 : DL.Sub T4 (ups T4 p5 (.lst [D.tup [D.tup [D.str (Str.ofString "join"), eQ t, eQ 1, eQ 1]]])) := DL.Sub.drop np5
      first | replace fr := sp5 _ _ fr | replace fr := fr.sub sp5 | replace fr := fr.trans sp5
      first | replace hp := sp5 _ _ hp | replace hp := hp.sub sp5 | replace hp := hp.trans sp5
      first | replace e1 := sp5 _ _ e1 | replace e1 := e1.sub sp5 | replace e1 := e1.trans sp5
      first | replace e2 := sp5 _ _ e2 | replace e2 := e2.sub sp5 | replace e2 := e2.trans sp5
      first | replace e3 := sp5 _ _ e3 | replace e3 := e3.sub sp5 | replace e3 := e3.trans sp5
      first | replace e4 := sp5 _ _ e4 | replace e4 := e4.sub sp5 | replace e4 := e4.trans sp5
      have e5 : ups T4 p5 (.lst [D.tup [D.tup [D.str (Str.ofString "join"), eQ t, eQ 1, eQ 1]]]) p5 = some (.lst [D.tup [D.tup [D.str (Str.ofString "join"), eQ t, eQ 1, eQ 1]]]) := ups_same
      generalize ups T4 p5 (.lst [D.tup [D.tup [D.str (Str.ofString "join"), eQ t, eQ 1, eQ 1]]]) = T5 at *
      rw [e4]
      walk_at "d"
      refine ⟨short_line (by first | omega | simp), fun p6 np6 => ?_⟩
      have h6a := (hp.ne np6).symm
      refine ⟨a, n + 1, _, rfl, hp.new np6, by omega, by omega, Sz.lit (by decide), fun r x y z r0 r1 z0 z1 => ?_⟩
      walk_at "d"
      rw [ups_ne h6a, ups_same]
      walk_at "d"
      obtain ⟨v, _, hv, e⟩ := atI_map (e := fun z : D => z) (xs := [D.non, D.int 7, D.str (Str.ofString "join"), D.ref p1, D.tup [], D.bl true, D.ref p2, D.tup [D.str (Str.ofString "join")], D.ref p3, D.tup [D.tup [D.str (Str.ofString "join"), eQ t, eQ 1, eQ 1]]]) r0 r1
      rw [List.map_id'] at e
      refine (show onS (atI [D.non, D.int 7, D.str (Str.ofString "join"), D.ref p1, D.tup [], D.bl true, D.ref p2, D.tup [D.str (Str.ofString "join")], D.ref p3, D.tup [D.tup [D.str (Str.ofString "join"), eQ t, eQ 1, eQ 1]]] r) _ from ?_)
      rw [e]
      refine ⟨_, .refl _, q v _ ((fr.new np6).wr) ((penC_again z0 z1).le (by omega)) fun T f => ?_⟩
      have f := (((Fr.refl T5 a).new np6).wr).trans f
      have e1 := f _ _ h1a e1
      have e2 := f _ _ h2a e2
      have e3 := f _ _ h3a e3
      have okj : ∀ z ∈ [D.str (Str.ofString "join"), eQ t, eQ 1, eQ 1], Ok1 T z := fun z hz => by
        simp only [List.mem_cons, List.not_mem_nil, or_false] at hz
        rcases hz with rfl | rfl | rfl | rfl
        · exact ok1_lit (by decide +kernel)
        · exact ok1_q ht
        · exact ok1_q sm1
        · exact ok1_q sm1
      simp only [List.mem_cons, List.not_mem_nil, or_false] at hv
      rcases hv with rfl | rfl | rfl | rfl | rfl | rfl | rfl | rfl | rfl | rfl
      · exact odd_flat rfl
      · exact odd_flat (by decide +kernel)
      · exact odd_flat (by decide +kernel)
      · exact odd_lst1 e1 (by simp) (by decide)
      · exact odd_tup1 (by simp) rfl (by decide)
      · exact odd_flat rfl
      · exact odd_dic e2
      · exact odd_tup1 (fun z hz => by rw [List.mem_singleton.mp hz]; exact ok1_lit (by decide +kernel)) rfl (by decide)
      · exact odd_lst1 e3 okj (by simp)
      · exact odd_tup2 okj (by simp) (by simp)
    obtain ⟨rfl, hw0, rfl⟩ := k3
    refine seq_cut (fun τ S' => S' = S3 ∧ τ = [some (.ref a), some (eQ t), some (eQ 1), some (.int w), none, none, none]) (fun τ S4 k4 => ?_) (fun R hR => ?_)
    rotate_left
    · walk_at "d"
      refine cnd_dec (fun _ => ?_) (fun c => hR _ _ ⟨rfl, rfl⟩)
      intro p1 np1
      have sp1 : DL.Sub S3 (ups S3 p1 (.lst [D.tup [D.str (Str.ofString "joins"), eQ t, eQ 1, eQ 1], D.tup [D.str (Str.ofString "Leave"), eQ t, D.int 0], D.tup [D.non, eQ t, D.int 0], D.tup [D.int 0, eQ t, D.int 0, eQ 1], D.tup [D.str (Str.ofString ""), eQ t, D.int 0]])) := DL.Sub.drop np1
      first | replace fr := sp1 _ _ fr | replace fr := fr.sub sp1 | replace fr := fr.trans sp1
      first | replace hp := sp1 _ _ hp | replace hp := hp.sub sp1 | replace hp := hp.trans sp1
      have e1 : ups S3 p1 (.lst [D.tup [D.str (Str.ofString "joins"), eQ t, eQ 1, eQ 1], D.tup [D.str (Str.ofString "Leave"), eQ t, D.int 0], D.tup [D.non, eQ t, D.int 0], D.tup [D.int 0, eQ t, D.int 0, eQ 1], D.tup [D.str (Str.ofString ""), eQ t, D.int 0]]) p1 = some (.lst [D.tup [D.str (Str.ofString "joins"), eQ t, eQ 1, eQ 1], D.tup [D.str (Str.ofString "Leave"), eQ t, D.int 0], D.tup [D.non, eQ t, D.int 0], D.tup [D.int 0, eQ t, D.int 0, eQ 1], D.tup [D.str (Str.ofString ""), eQ t, D.int 0]]) := ups_same
      generalize ups S3 p1 (.lst [D.tup [D.str (Str.ofString "joins"), eQ t, eQ 1, eQ 1], D.tup [D.str (Str.ofString "Leave"), eQ t, D.int 0], D.tup [D.non, eQ t, D.int 0], D.tup [D.int 0, eQ t, D.int 0, eQ 1], D.tup [D.str (Str.ofString ""), eQ t, D.int 0]]) = T1 at *
      intro p2 np2
      have sp2 : DL.Sub T1 (ups T1 p2 (.lst [D.tup [D.str (Str.ofString "join"), eQ t, eQ 1], D.tup [D.str (Str.ofString "join"), eQ t, eQ 1, eQ 1, eQ 1], D.tup [D.str (Str.ofString "leave"), eQ t], D.tup [D.str (Str.ofString "turn"), eQ t, D.int 0]])) := DL.Sub.drop np2
      first | replace fr := sp2 _ _ fr | replace fr := fr.sub sp2 | replace fr := fr.trans sp2
      first | replace hp := sp2 _ _ hp | replace hp := hp.sub sp2 | replace hp := hp.trans sp2
      first | replace e1 := sp2 _ _ e1 | replace e1 := e1.sub sp2 | replace e1 := e1.trans sp2
      have e2 : ups T1 p2 (.lst [D.tup [D.str (Str.ofString "join"), eQ t, eQ 1], D.tup [D.str (Str.ofString "join"), eQ t, eQ 1, eQ 1, eQ 1], D.tup [D.str (Str.ofString "leave"), eQ t], D.tup [D.str (Str.ofString "turn"), eQ t, D.int 0]]) p2 = some (.lst [D.tup [D.str (Str.ofString "join"), eQ t, eQ 1], D.tup [D.str (Str.ofString "join"), eQ t, eQ 1, eQ 1, eQ 1], D.tup [D.str (Str.ofString "leave"), eQ t], D.tup [D.str (Str.ofString "turn"), eQ t, D.int 0]]) := ups_same
      generalize ups T1 p2 (.lst [D.tup [D.str (Str.ofString "join"), eQ t, eQ 1], D.tup [D.str (Str.ofString "join"), eQ t, eQ 1, eQ 1, eQ 1], D.tup [D.str (Str.ofString "leave"), eQ t], D.tup [D.str (Str.ofString "turn"), eQ t, D.int 0]]) = T2 at *
      rw [e1]
      walk_at "d"
      refine ⟨short_line (by first | omega | simp), ?_⟩
      intro p3 np3
      have sp3 : DL.Sub T2 (ups T2 p3 (.lst ([D.tup [D.str (Str.ofString "joins"), eQ t, eQ 1, eQ 1], D.tup [D.str (Str.ofString "Leave"), eQ t, D.int 0], D.tup [D.non, eQ t, D.int 0], D.tup [D.int 0, eQ t, D.int 0, eQ 1], D.tup [D.str (Str.ofString ""), eQ t, D.int 0]] ++ [D.tup [D.str (Str.ofString "join"), eQ t, eQ 1], D.tup [D.str (Str.ofString "join"), eQ t, eQ 1, eQ 1, eQ 1], D.tup [D.str (Str.ofString "leave"), eQ t], D.tup [D.str (Str.ofString "turn"), eQ t, D.int 0]]))) := DL.Sub.drop np3
      first | replace fr := sp3 _ _ fr | replace fr := fr.sub sp3 | replace fr := fr.trans sp3
      first | replace hp := sp3 _ _ hp | replace hp := hp.sub sp3 | replace hp := hp.trans sp3
      have e3 : ups T2 p3 (.lst ([D.tup [D.str (Str.ofString "joins"), eQ t, eQ 1, eQ 1], D.tup [D.str (Str.ofString "Leave"), eQ t, D.int 0], D.tup [D.non, eQ t, D.int 0], D.tup [D.int 0, eQ t, D.int 0, eQ 1], D.tup [D.str (Str.ofString ""), eQ t, D.int 0]] ++ [D.tup [D.str (Str.ofString "join"), eQ t, eQ 1], D.tup [D.str (Str.ofString "join"), eQ t, eQ 1, eQ 1, eQ 1], D.tup [D.str (Str.ofString "leave"), eQ t], D.tup [D.str (Str.ofString "turn"), eQ t, D.int 0]])) p3 = some (.lst ([D.tup [D.str (Str.ofString "joins"), eQ t, eQ 1, eQ 1], D.tup [D.str (Str.ofString "Leave"), eQ t, D.int 0], D.tup [D.non, eQ t, D.int 0], D.tup [D.int 0, eQ t, D.int 0, eQ 1], D.tup [D.str (Str.ofString ""), eQ t, D.int 0]] ++ [D.tup [D.str (Str.ofString "join"), eQ t, eQ 1], D.tup [D.str (Str.ofString "join"), eQ t, eQ 1, eQ 1, eQ 1], D.tup [D.str (Str.ofString "leave"), eQ t], D.tup [D.str (Str.ofString "turn"), eQ t, D.int 0]])) := ups_same
      generalize ups T2 p3 (.lst ([D.tup [D.str (Str.ofString "joins"), eQ t, eQ 1, eQ 1], D.tup [D.str (Str.ofString "Leave"), eQ t, D.int 0], D.tup [D.non, eQ t, D.int 0], D.tup [D.int 0, eQ t, D.int 0, eQ 1], D.tup [D.str (Str.ofString ""), eQ t, D.int 0]] ++ [D.tup [D.str (Str.ofString "join"), eQ t, eQ 1], D.tup [D.str (Str.ofString "join"), eQ t, eQ 1, eQ 1, eQ 1], D.tup [D.str (Str.ofString "leave"), eQ t], D.tup [D.str (Str.ofString "turn"), eQ t, D.int 0]])) = T3 at *
      intro p4 np4
      have sp4 : DL.Sub T3 (ups T3 p4 (.lst [D.str (Str.ofString "join")])) := DL.Sub.drop np4
      first | replace fr := sp4 _ _ fr | replace fr := fr.sub sp4 | replace fr := fr.trans sp4
      first | replace e3 := sp4 _ _ e3 | replace e3 := e3.sub sp4 | replace e3 := e3.trans sp4
      have e4 : ups T3 p4 (.lst [D.str (Str.ofString "join")]) p4 = some (.lst [D.str (Str.ofString "join")]) := ups_same
      generalize ups T3 p4 (.lst [D.str (Str.ofString "join")]) = T4 at *
      have h4a := (hp.ne np4).symm
      first | replace hp := sp4 _ _ hp | replace hp := hp.sub sp4 | replace hp := hp.trans sp4
      intro p5 np5
      have sp5 : DL.Sub T4 (ups T4 p5 (.lst [D.tup [D.str (Str.ofString "leave"), eQ t, D.int 0, eQ 1], D.tup [D.str (Str.ofString "turn"), eQ t, D.int 0, eQ 1, D.int 0], D.tup [D.tup [D.str (Str.ofString "join")], eQ t, D.int 0], D.tup [D.ref p4, eQ t, D.int 0]])) := DL.Sub.drop np5
      first | replace fr := sp5 _ _ fr | replace fr := fr.sub sp5 | replace fr := fr.trans sp5
      first | replace hp := sp5 _ _ hp | replace hp := hp.sub sp5 | replace hp := hp.trans sp5
      first | replace e3 := sp5 _ _ e3 | replace e3 := e3.sub sp5 | replace e3 := e3.trans sp5
      first | replace e4 := sp5 _ _ e4 | replace e4 := e4.sub sp5 | replace e4 := e4.trans sp5
      have e5 : ups T4 p5 (.lst [D.tup [D.str (Str.ofString "leave"), eQ t, D.int 0, eQ 1], D.tup [D.str (Str.ofString "turn"), eQ t, D.int 0, eQ 1, D.int 0], D.tup [D.tup [D.str (Str.ofString "join")], eQ t, D.int 0], D.tup [D.ref p4, eQ t, D.int 0]]) p5 = some (.lst [D.tup [D.str (Str.ofString "leave"), eQ t, D.int 0, eQ 1], D.tup [D.str (Str.ofString "turn"), eQ t, D.int 0, eQ 1, D.int 0], D.tup [D.tup [D.str (Str.ofString "join")], eQ t, D.int 0], D.tup [D.ref p4, eQ t, D.int 0]]) := ups_same
      generalize ups T4 p5 (.lst [D.tup [D.str (Str.ofString "leave"), eQ t, D.int 0, eQ 1], D.tup [D.str (Str.ofString "turn"), eQ t, D.int 0, eQ 1, D.int 0], D.tup [D.tup [D.str (Str.ofString "join")], eQ t, D.int 0], D.tup [D.ref p4, eQ t, D.int 0]]) = T5 at *
      rw [e3]
      walk_at "d"
      refine ⟨short_line (by first | omega | simp), fun p6 np6 => ?_⟩
      have h6a := (hp.ne np6).symm
      refine ⟨a, n + 1, _, rfl, hp.new np6, by omega, by omega, Sz.lit (by decide), fun r x y z r0 r1 z0 z1 => ?_⟩
      walk_at "d"
      rw [ups_ne h6a, ups_same]
      walk_at "d"
      obtain ⟨v, _, hv, e⟩ := atI_map (e := fun z : D => z) (xs := [D.tup [D.str (Str.ofString "joins"), eQ t, eQ 1, eQ 1], D.tup [D.str (Str.ofString "Leave"), eQ t, D.int 0], D.tup [D.non, eQ t, D.int 0], D.tup [D.int 0, eQ t, D.int 0, eQ 1], D.tup [D.str (Str.ofString ""), eQ t, D.int 0], D.tup [D.str (Str.ofString "join"), eQ t, eQ 1], D.tup [D.str (Str.ofString "join"), eQ t, eQ 1, eQ 1, eQ 1], D.tup [D.str (Str.ofString "leave"), eQ t], D.tup [D.str (Str.ofString "turn"), eQ t, D.int 0], D.tup [D.str (Str.ofString "leave"), eQ t, D.int 0, eQ 1], D.tup [D.str (Str.ofString "turn"), eQ t, D.int 0, eQ 1, D.int 0], D.tup [D.tup [D.str (Str.ofString "join")], eQ t, D.int 0], D.tup [D.ref p4, eQ t, D.int 0]]) r0 r1
      rw [List.map_id'] at e
      refine (show onS (atI [D.tup [D.str (Str.ofString "joins"), eQ t, eQ 1, eQ 1], D.tup [D.str (Str.ofString "Leave"), eQ t, D.int 0], D.tup [D.non, eQ t, D.int 0], D.tup [D.int 0, eQ t, D.int 0, eQ 1], D.tup [D.str (Str.ofString ""), eQ t, D.int 0], D.tup [D.str (Str.ofString "join"), eQ t, eQ 1], D.tup [D.str (Str.ofString "join"), eQ t, eQ 1, eQ 1, eQ 1], D.tup [D.str (Str.ofString "leave"), eQ t], D.tup [D.str (Str.ofString "turn"), eQ t, D.int 0], D.tup [D.str (Str.ofString "leave"), eQ t, D.int 0, eQ 1], D.tup [D.str (Str.ofString "turn"), eQ t, D.int 0, eQ 1, D.int 0], D.tup [D.tup [D.str (Str.ofString "join")], eQ t, D.int 0], D.tup [D.ref p4, eQ t, D.int 0]] r) _ from ?_)
      rw [e]
      refine ⟨_, .refl _, q v _ ((fr.new np6).wr) ((penC_again z0 z1).le (by omega)) fun T f => ?_⟩
      have f := (((Fr.refl T5 a).new np6).wr).trans f
      have e4 := f _ _ h4a e4
      have okt : Ok1 T (eQ t) := ok1_q ht
      have ok1 : Ok1 T (eQ 1) := ok1_q sm1
      have ok0 : Ok1 T (.int 0) := ok1_lit rfl
      have okr : Ok1 T (.ref p4) := (odd_ref e4 (by decide +kernel) (by decide)).1.ok1
      have okj : Ok1 T (.tup [D.str (Str.ofString "join")]) := ok1_lit (by decide +kernel)
      have oks : ∀ s : Str, fl0 (.str s) = true → Ok1 T (.str s) := fun s h => ok1_lit h
      simp only [List.mem_cons, List.not_mem_nil, or_false] at hv
      have nk : ∀ s : Str, decide (s = "leave") = false → ∀ u w, dB (.tup [.str s, u, w]) = false := fun s h u w => by rw [dB3, h]; rfl
      have nk4 : ∀ s : Str, decide (s = "join") = false → decide (s = "turn") = false → ∀ u w x, dB (.tup [.str s, u, w, x]) = false := fun s h h' u w x => by rw [dB4, h, h']; rfl
      rcases hv with rfl | rfl | rfl | rfl | rfl | rfl | rfl | rfl | rfl | rfl | rfl | rfl | rfl
      · refine odd_tup1 (fun z hz => ?_) (nk4 _ (by decide +kernel) (by decide +kernel) _ _ _) (by simp)
        simp only [List.mem_cons, List.not_mem_nil, or_false] at hz
        rcases hz with rfl | rfl | rfl | rfl
        · exact oks _ (by decide +kernel)
        · exact okt
        · exact ok1
        · exact ok1
      · refine odd_tup1 (fun z hz => ?_) (nk _ (by decide +kernel) _ _) (by simp)
        simp only [List.mem_cons, List.not_mem_nil, or_false] at hz
        rcases hz with rfl | rfl | rfl
        · exact oks _ (by decide +kernel)
        · exact okt
        · exact ok0
      · refine odd_tup1 (fun z hz => ?_) rfl (by simp)
        simp only [List.mem_cons, List.not_mem_nil, or_false] at hz
        rcases hz with rfl | rfl | rfl
        · exact ok1_lit rfl
        · exact okt
        · exact ok0
      · refine odd_tup1 (fun z hz => ?_) rfl (by simp)
        simp only [List.mem_cons, List.not_mem_nil, or_false] at hz
        rcases hz with rfl | rfl | rfl | rfl
        · exact ok0
        · exact okt
        · exact ok0
        · exact ok1
      · refine odd_tup1 (fun z hz => ?_) (nk _ (by decide +kernel) _ _) (by simp)
        simp only [List.mem_cons, List.not_mem_nil, or_false] at hz
        rcases hz with rfl | rfl | rfl
        · exact oks _ (by decide +kernel)
        · exact okt
        · exact ok0
      · refine odd_tup1 (fun z hz => ?_) (nk _ (by decide +kernel) _ _) (by simp)
        simp only [List.mem_cons, List.not_mem_nil, or_false] at hz
        rcases hz with rfl | rfl | rfl
        · exact oks _ (by decide +kernel)
        · exact okt
        · exact ok1
      · refine odd_tup1 (fun z hz => ?_) rfl (by simp)
        simp only [List.mem_cons, List.not_mem_nil, or_false] at hz
        rcases hz with rfl | rfl | rfl | rfl | rfl
        · exact oks _ (by decide +kernel)
        · exact okt
        · exact ok1
        · exact ok1
        · exact ok1
      · refine odd_tup1 (fun z hz => ?_) rfl (by simp)
        simp only [List.mem_cons, List.not_mem_nil, or_false] at hz
        rcases hz with rfl | rfl
        · exact oks _ (by decide +kernel)
        · exact okt
      · refine odd_tup1 (fun z hz => ?_) (nk _ (by decide +kernel) _ _) (by simp)
        simp only [List.mem_cons, List.not_mem_nil, or_false] at hz
        rcases hz with rfl | rfl | rfl
        · exact oks _ (by decide +kernel)
        · exact okt
        · exact ok0
      · refine odd_tup1 (fun z hz => ?_) (nk4 _ (by decide +kernel) (by decide +kernel) _ _ _) (by simp)
        simp only [List.mem_cons, List.not_mem_nil, or_false] at hz
        rcases hz with rfl | rfl | rfl | rfl
        · exact oks _ (by decide +kernel)
        · exact okt
        · exact ok0
        · exact ok1
      · refine odd_tup1 (fun z hz => ?_) rfl (by simp)
        simp only [List.mem_cons, List.not_mem_nil, or_false] at hz
        rcases hz with rfl | rfl | rfl | rfl | rfl
        · exact oks _ (by decide +kernel)
        · exact okt
        · exact ok0
        · exact ok1
        · exact ok0
      · refine odd_tup1 (fun z hz => ?_) rfl (by simp)
        simp only [List.mem_cons, List.not_mem_nil, or_false] at hz
        rcases hz with rfl | rfl | rfl
        · exact okj
        · exact okt
        · exact ok0
      · refine odd_tup1 (fun z hz => ?_) rfl (by simp)
        simp only [List.mem_cons, List.not_mem_nil, or_false] at hz
        rcases hz with rfl | rfl | rfl
        · exact okr
        · exact okt
        · exact ok0
    obtain ⟨rfl, rfl⟩ := k4
    refine seq_cut (fun τ S' => S' = S4 ∧ τ = [some (.ref a), some (eQ t), some (eQ 1), some (.int w), none, none, none]) (fun τ S5 k5 => ?_) (fun R hR => ?_)
    rotate_left
    · walk_at "d"
      refine cnd_dec (fun _ => ?_) (fun c => hR _ _ ⟨rfl, rfl⟩)
      refine ⟨a, n + 1, rfl, hp, by omega, fun v S5 fr5 hp hv => ?_⟩
      have fr := fr.trans fr5
      clear fr5
      walk_at "d"
      intro p1 np1
      have sp1 : DL.Sub S5 (ups S5 p1 (.lst [D.tup [D.str (Str.ofString "join"), v, eQ 1, eQ 1], D.tup [D.str (Str.ofString "join"), eQ t, v, eQ 1], D.tup [D.str (Str.ofString "join"), eQ t, eQ 1, v], D.tup [D.str (Str.ofString "leave"), v, D.int 0]])) := DL.Sub.drop np1
      first | replace fr := sp1 _ _ fr | replace fr := fr.sub sp1 | replace fr := fr.trans sp1
      first | replace hp := sp1 _ _ hp | replace hp := hp.sub sp1 | replace hp := hp.trans sp1
      have e1 : ups S5 p1 (.lst [D.tup [D.str (Str.ofString "join"), v, eQ 1, eQ 1], D.tup [D.str (Str.ofString "join"), eQ t, v, eQ 1], D.tup [D.str (Str.ofString "join"), eQ t, eQ 1, v], D.tup [D.str (Str.ofString "leave"), v, D.int 0]]) p1 = some (.lst [D.tup [D.str (Str.ofString "join"), v, eQ 1, eQ 1], D.tup [D.str (Str.ofString "join"), eQ t, v, eQ 1], D.tup [D.str (Str.ofString "join"), eQ t, eQ 1, v], D.tup [D.str (Str.ofString "leave"), v, D.int 0]]) := ups_same
      generalize ups S5 p1 (.lst [D.tup [D.str (Str.ofString "join"), v, eQ 1, eQ 1], D.tup [D.str (Str.ofString "join"), eQ t, v, eQ 1], D.tup [D.str (Str.ofString "join"), eQ t, eQ 1, v], D.tup [D.str (Str.ofString "leave"), v, D.int 0]]) = T1 at *
      intro p2 np2
      have sp2 : DL.Sub T1 (ups T1 p2 (.lst [D.tup [D.str (Str.ofString "turn"), v, D.int 0, eQ 1], D.tup [D.str (Str.ofString "turn"), eQ t, D.int 0, v]])) := DL.Sub.drop np2
      first | replace fr := sp2 _ _ fr | replace fr := fr.sub sp2 | replace fr := fr.trans sp2
      first | replace hp := sp2 _ _ hp | replace hp := hp.sub sp2 | replace hp := hp.trans sp2
      first | replace e1 := sp2 _ _ e1 | replace e1 := e1.sub sp2 | replace e1 := e1.trans sp2
      have e2 : ups T1 p2 (.lst [D.tup [D.str (Str.ofString "turn"), v, D.int 0, eQ 1], D.tup [D.str (Str.ofString "turn"), eQ t, D.int 0, v]]) p2 = some (.lst [D.tup [D.str (Str.ofString "turn"), v, D.int 0, eQ 1], D.tup [D.str (Str.ofString "turn"), eQ t, D.int 0, v]]) := ups_same
      generalize ups T1 p2 (.lst [D.tup [D.str (Str.ofString "turn"), v, D.int 0, eQ 1], D.tup [D.str (Str.ofString "turn"), eQ t, D.int 0, v]]) = T2 at *
      rw [e1]
      walk_at "d"
      refine ⟨short_line (by first | omega | simp), fun p6 np6 => ?_⟩
      have h6a := (hp.ne np6).symm
      refine ⟨a, n + 1 + 1, _, rfl, hp.new np6, by omega, by omega, Sz.lit (by decide), fun r x y z r0 r1 z0 z1 => ?_⟩
      walk_at "d"
      rw [ups_ne h6a, ups_same]
      walk_at "d"
      obtain ⟨y, _, hy, e⟩ := atI_map (e := fun z : D => z) (xs := [D.tup [D.str (Str.ofString "join"), v, eQ 1, eQ 1], D.tup [D.str (Str.ofString "join"), eQ t, v, eQ 1], D.tup [D.str (Str.ofString "join"), eQ t, eQ 1, v], D.tup [D.str (Str.ofString "leave"), v, D.int 0], D.tup [D.str (Str.ofString "turn"), v, D.int 0, eQ 1], D.tup [D.str (Str.ofString "turn"), eQ t, D.int 0, v]]) r0 r1
      rw [List.map_id'] at e
      refine (show onS (atI [D.tup [D.str (Str.ofString "join"), v, eQ 1, eQ 1], D.tup [D.str (Str.ofString "join"), eQ t, v, eQ 1], D.tup [D.str (Str.ofString "join"), eQ t, eQ 1, v], D.tup [D.str (Str.ofString "leave"), v, D.int 0], D.tup [D.str (Str.ofString "turn"), v, D.int 0, eQ 1], D.tup [D.str (Str.ofString "turn"), eQ t, D.int 0, v]] r) _ from ?_)
      rw [e]
      refine ⟨_, .refl _, q y _ ((fr.new np6).wr) ((penC_again z0 z1).le (by omega)) fun T f => ?_⟩
      have f := ((((((Fr.refl S5 a).sub sp1).sub sp2).new np6).wr).trans f)
      have hv := hv T f
      have okv := hv.ok1
      have okt : Ok1 T (eQ t) := ok1_q ht
      have ok1 : Ok1 T (eQ 1) := ok1_q sm1
      have ok0 : Ok1 T (.int 0) := ok1_lit rfl
      have oks : ∀ s : Str, fl0 (.str s) = true → Ok1 T (.str s) := fun s h => ok1_lit h
      have nj : decide ((Str.ofString "join") = "turn") = false := by decide +kernel
      have nt : decide ((Str.ofString "turn") = "join") = false := by decide +kernel
      simp only [List.mem_cons, List.not_mem_nil, or_false] at hy
      rcases hy with rfl | rfl | rfl | rfl | rfl | rfl
      · refine odd_tup1 (fun z hz => ?_) (by rw [dB4, hv.no, nj]; simp) (by simp)
        simp only [List.mem_cons, List.not_mem_nil, or_false] at hz
        rcases hz with rfl | rfl | rfl | rfl
        · exact oks _ (by decide +kernel)
        · exact okv
        · exact ok1
        · exact ok1
      · refine odd_tup1 (fun z hz => ?_) (by rw [dB4, hv.no, nj]; simp) (by simp)
        simp only [List.mem_cons, List.not_mem_nil, or_false] at hz
        rcases hz with rfl | rfl | rfl | rfl
        · exact oks _ (by decide +kernel)
        · exact okt
        · exact okv
        · exact ok1
      · refine odd_tup1 (fun z hz => ?_) (by rw [dB4, hv.no, nj]; simp) (by simp)
        simp only [List.mem_cons, List.not_mem_nil, or_false] at hz
        rcases hz with rfl | rfl | rfl | rfl
        · exact oks _ (by decide +kernel)
        · exact okt
        · exact ok1
        · exact okv
      · refine odd_tup1 (fun z hz => ?_) (by rw [dB3, hv.no]; simp) (by simp)
        simp only [List.mem_cons, List.not_mem_nil, or_false] at hz
        rcases hz with rfl | rfl | rfl
        · exact oks _ (by decide +kernel)
        · exact okv
        · exact ok0
      · refine odd_tup1 (fun z hz => ?_) (by rw [dB4, hv.no, nt]; simp) (by simp)
        simp only [List.mem_cons, List.not_mem_nil, or_false] at hz
        rcases hz with rfl | rfl | rfl | rfl
        · exact oks _ (by decide +kernel)
        · exact okv
        · exact ok0
        · exact ok1
      · refine odd_tup1 (fun z hz => ?_) (by rw [dB4, hv.no, nt]; simp) (by simp)
        simp only [List.mem_cons, List.not_mem_nil, or_false] at hz
        rcases hz with rfl | rfl | rfl | rfl
        · exact oks _ (by decide +kernel)
        · exact okt
        · exact ok0
        · exact okv
    obtain ⟨rfl, rfl⟩ := k5
    walk_at "d"
    intro p1 np1
    have sp1 : DL.Sub S5 (ups S5 p1 (.lst [D.int 0])) := DL.Sub.drop np1
    first | replace fr := sp1 _ _ fr | replace fr := fr.sub sp1 | replace fr := fr.trans sp1
    have e1 : ups S5 p1 (.lst [D.int 0]) p1 = some (.lst [D.int 0]) := ups_same
    generalize ups S5 p1 (.lst [D.int 0]) = T1 at *
    have h1a := (hp.ne np1).symm
    first | replace hp := sp1 _ _ hp | replace hp := hp.sub sp1 | replace hp := hp.trans sp1
    intro p6 np6
    have h6a := (hp.ne np6).symm
    refine ⟨a, n + 1, _, rfl, hp.new np6, by omega, by omega, Sz.lit (by decide), fun r x y z r0 r1 z0 z1 => ?_⟩
    walk_at "d"
    rw [ups_ne h6a, ups_same]
    walk_at "d"
    obtain ⟨u, _, hu, e⟩ := atI_map (e := fun z : D => z) (xs := [D.int (-1), D.int 41, D.int 100000000000000000000000000000000000000000000000000000000000, D.bl true, D.bl false, D.non, D.str (Str.ofString "0"), D.tup [D.int 0, D.int 1], D.ref p1, D.int 99]) r0 r1
    rw [List.map_id'] at e
    rw [e]
    walk_at "d"
    have hor : ∀ T, Fr T1 T a → OddR T u := fun T f => by
      have e1 := f _ _ h1a e1
      simp only [List.mem_cons, List.not_mem_nil, or_false] at hu
      rcases hu with rfl | rfl | rfl | rfl | rfl | rfl | rfl | rfl | rfl | rfl
      · exact oddr_int (by decide) (by decide)
      · exact oddr_int (by decide) (by decide)
      · exact oddr_int (by decide) (by decide)
      · exact oddr_lit rfl
      · exact oddr_lit rfl
      · exact oddr_lit rfl
      · exact oddr_lit (by decide +kernel)
      · exact oddr_lit (by decide +kernel)
      · exact (odd_ref e1 (by decide) (by decide)).2
      · exact oddr_int (by decide) (by decide)
    have fr := (fr.new np6 (o := .lst [D.int (-1), D.int 41, D.int 100000000000000000000000000000000000000000000000000000000000, D.bl true, D.bl false, D.non, D.str (Str.ofString "0"), D.tup [D.int 0, D.int 1], D.ref p1, D.int 99])).wr (o := penC x y z)
    have hf1 := (((Fr.refl T1 a).new np6 (o := .lst [D.int (-1), D.int 41, D.int 100000000000000000000000000000000000000000000000000000000000, D.bl true, D.bl false, D.non, D.str (Str.ofString "0"), D.tup [D.int 0, D.int 1], D.ref p1, D.int 99])).wr (o := penC x y z))
    have hp := penC_again (S := ups T1 p6 (.lst [D.int (-1), D.int 41, D.int 100000000000000000000000000000000000000000000000000000000000, D.bl true, D.bl false, D.non, D.str (Str.ofString "0"), D.tup [D.int 0, D.int 1], D.ref p1, D.int 99])) (a := a) (x := x) (y := y) z0 z1
    generalize ups (ups T1 p6 (.lst [D.int (-1), D.int 41, D.int 100000000000000000000000000000000000000000000000000000000000, D.bl true, D.bl false, D.non, D.str (Str.ofString "0"), D.tup [D.int 0, D.int 1], D.ref p1, D.int 99])) a (penC x y z) = T2 at *
    intro p7 np7
    have h7a := (hp.ne np7).symm
    refine ⟨a, n + 1 + 1, _, rfl, hp.new np7, by omega, by omega, Sz.lit (by decide), fun r x y z r0 r1 z0 z1 => ?_⟩
    walk_at "d"
    rw [ups_ne h7a, ups_same]
    walk_at "d"
    obtain ⟨v, _, hv, e⟩ := atI_map (e := fun z : D => z) (xs := [D.tup [D.str (Str.ofString "leave"), eQ t, u], D.tup [D.str (Str.ofString "turn"), eQ t, u, eQ 1]]) r0 r1
    rw [List.map_id'] at e
    rw [e]
    refine ⟨_, .refl _, q v _ ((fr.new np7).wr) ((penC_again z0 z1).le (by omega)) fun T f => ?_⟩
    have ho := hor T ((hf1.trans (((Fr.refl T2 a).new np7).wr)).trans f)
    simp only [List.mem_cons, List.not_mem_nil, or_false] at hv
    rcases hv with rfl | rfl
    · exact odd_leave ht ho
    · exact odd_turn ht sm1 ho
def sp_l_left : Sp2 := fun ds S Q _ => ∃ p E k, ds = [.ref p, .int ((k : Nat) : Int)] ∧ S p = some (.lst (E.map eDd)) ∧ LogX E ∧ k ≤ E.length ∧ Q (.int ((leftR (E.take k) : Nat) : Int)) S
theorem st_l_left (x0 x1 : DL.D) : start2 N_l_left [x0, x1] = [some x0, some x1, none, none] := rfl
set_option maxHeartbeats 8000000 in
theorem ok_l_left (T : Txt K mg w) : Fn P w K mg base 1 "_law_left" sp_l_left := by
  refine fn_intro2 T.f_l_left sc_l_left (fun ds S Q E h => ?_) (fun cdv A outer s H E f hr => ⟨_, (ss_cons (s_setLc [3] (own := [("_law_deed", 3)]) 2 rfl sc_l_left.nd rfl rfl (sw_true rfl rfl rfl (by decide +kernel)) (i_val (q_slG (qv 0 (pv 0)) o_none (o_some (qv 1 (pv 1))))) (blkOk_by (N := N_l_left) (sc := defScope s_l_left) (by decide +kernel)) rfl (by decide) (fun _ _ _ _ _ => (g_name (i := 3) sc_l_left.nd rfl (.inl rfl) (.inr rfl))) (fun _ _ _ _ _ => (ts_one (t_eq hr (q_ixk 0 (qv 3 (pv 3))) q_str))) (fun _ _ _ _ _ => (q_ixk 2 (qv 3 (pv 3)))))
 (ss_one (s_ret (q_ixk 0 (q_add (qv 2 (pv 2)) (q_lst (a_cons q_int a_nil))))))), fun ds S Q E h => ?_⟩)
  · obtain ⟨_, _, _, rfl, _⟩ := h
    rfl
  · obtain ⟨p, E, k, rfl, hp, hE, hk, q⟩ := h
    rw [st_l_left]
    walk_at "d"
    rw [hp]
    walk_at "d"
    rw [cutG_to]
    intro p1 n1
    have h1 : ups S p1 (.lst ((E.take k).map eDd)) p1 = _ := ups_same
    have s1 : DL.Sub S (ups S p1 (.lst ((E.take k).map eDd))) := Sub.drop n1
    generalize ups S p1 (.lst ((E.take k).map eDd)) = S1 at *
    have hle : (E.take k).length ≤ 40 := by have := hE.len; rw [List.length_take]; omega
    refine lc_map (e := eDd) (f := goneF) (xs := E.take k) (by omega) (fun S2 s2 => s2 _ _ h1) (fun d hd S2 s2 N Y hN hY => ?_) (fun g ng => ?_)
    · walk_at "d"
      cases d with
      | join t u m =>
        rw [eDd_j]
        walk_at "d"
        first | exact hN rfl _ (.refl _) | (refine cnd_f (by decide +kernel) ?_; exact hN rfl _ (.refl _))
      | leave t r =>
        rw [eDd_l]
        walk_at "d"
        first | exact hY _ rfl _ (.refl _) | (refine cnd_t (by decide +kernel) ?_; exact hY _ rfl _ (.refl _))
      | turn t r m =>
        rw [eDd_t]
        walk_at "d"
        first | exact hN rfl _ (.refl _) | (refine cnd_f (by decide +kernel) ?_; exact hN rfl _ (.refl _))
    · rw [gone_f]
      have hgl := gone_len (E.take k)
      intro u nu
      have hgu : g ≠ u := ne_of_st ups_same nu
      walk_at "d"
      rw [ups_ne hgu, ups_same]
      walk_at "d"
      refine ⟨short_line (by omega), fun w nw => ?_⟩
      have key : ∀ X : List Nat, nthQ (X.map (fun r : Nat => DL.D.int (r : Int)) ++ [DL.D.int 40]) 0 (fun x => Q x S) ↔ Q (.int (((X ++ [40]).headD 40 : Nat) : Int)) S := fun X => by
        cases X <;> exact Iff.rfl
      have hs := (((Sub.refl S).trans (show DL.Sub S S1 from s1)).trans (Sub.drop ng (o := .lst ((goneL (E.take k)).map fun r : Nat => DL.D.int (r : Int))))).trans (Sub.drop nu (o := .lst [.int 40]))
      have h2 := (key (goneL (E.take k))).mpr q
      have hs := hs.trans (Sub.drop nw (o := .lst ((goneL (E.take k)).map (fun r : Nat => DL.D.int (r : Int)) ++ [DL.D.int 40])))
      generalize (goneL (E.take k)).map (fun r : Nat => DL.D.int (r : Int)) ++ [DL.D.int 40] = X at *
      cases X with
      | nil => exact h2
      | cons x X => exact ⟨S, hs, h2⟩
def sp_l_spoilt : Sp2 := fun ds S Q _ => ∃ (a : Addr) (n : Nat) (p : Addr) (E : List Dd), ds = [.ref a, .ref p] ∧ PenC S a n ∧ n ≤ 60000 ∧ S p = some (.lst (E.map eDd)) ∧ p ≠ a ∧ LogX E ∧ E ≠ [] ∧ (∀ d ∈ E, d.t ≤ ((220 : Int) : Rat)) ∧ ∀ S' q x i, Fr S S' a → PenC S' a (n + 12) → S' q = some (.lst [x, .int i]) → Spl S' x i → Q (.ref q) S'
theorem st_l_spoilt (x0 x1 : DL.D) : start2 N_l_spoilt [x0, x1] = [some x0, some x1, none, none, none, none, none, none, none, none] := rfl
set_option maxHeartbeats 8000000 in
theorem ok_l_spoilt (T : Txt K mg w) : Fn P w K mg base 4 "_law_spoilt" sp_l_spoilt := by
  refine fn_intro2 T.f_l_spoilt sc_l_spoilt (fun ds S Q E h => ?_) (fun cdv A outer s H E f hr => ⟨_, (ss_cons (s_set 2 sc_l_spoilt.nd rfl (by first | exact .inl rfl | exact .inr rfl) (.inl rfl) (q_call (ok_l_take T) (hr.mono (by decide)) (by rfl) (a_cons (qv 0 (pv 0)) (a_cons q_int a_nil))))
 (ss_cons (s_set 3 sc_l_spoilt.nd rfl (by first | exact .inl rfl | exact .inr rfl) (.inl rfl) (q_call (ok_l_take T) (hr.mono (by decide)) (by rfl) (a_cons (qv 0 (pv 0)) (a_cons (q_len T.b_len (by rfl) (a_cons (qv 1 (pv 1)) a_nil)) a_nil))))
 (ss_cons (s_set 4 sc_l_spoilt.nd rfl (by first | exact .inl rfl | exact .inr rfl) (.inl rfl) (q_ixk 1 (q_ixg (fun _ _ => rfl) (qv 1 (pv 1)) (qv 3 (pv 3)))))
 (ss_cons (s_if (t_eq hr (qv 2 (pv 2)) q_int)
 (ss_one (s_ret (q_lst (a_cons (q_ixg (fun _ _ => rfl) (q_lst (a_cons q_non (a_cons q_int (a_cons q_str (a_cons (q_tuple T.b_tuple (by rfl) (a_cons (qv 1 (pv 1)) a_nil)) (a_cons q_dnew (a_cons q_bl (a_cons (q_tup (a_cons q_str (a_cons (qv 4 (pv 4)) (a_cons (qv 4 (pv 4)) (a_cons (qv 4 (pv 4)) a_nil))))) a_nil)))))))) (q_call (ok_l_take T) (hr.mono (by decide)) (by rfl) (a_cons (qv 0 (pv 0)) (a_cons q_int a_nil)))) (a_cons q_int a_nil)))))
 ss_nil)
 (ss_cons (s_if (PW.pt (w_and (t_eq hr (qv 2 (pv 2)) q_int) (w_and1 (t_gt (qv 3 (pv 3)) q_int))))
 (ss_cons (s_set 5 sc_l_spoilt.nd rfl (by first | exact .inl rfl | exact .inr rfl) (.inl rfl) (q_ixk 1 (q_ixg (fun _ _ => rfl) (qv 1 (pv 1)) (q_sub (qv 3 (pv 3)) q_int))))
 (ss_cons (s_set 6 sc_l_spoilt.nd rfl (by first | exact .inl rfl | exact .inr rfl) (.inl rfl) (q_call (ok_l_lowest T) (hr.mono (by decide)) (by rfl) (a_cons (q_sub (q_sub (q_fdiv (q_ixk 0 (qv 5 (pv 5))) (q_ixk 1 (qv 5 (pv 5)))) q_int) (q_call (ok_l_take T) (hr.mono (by decide)) (by rfl) (a_cons (qv 0 (pv 0)) (a_cons q_int a_nil)))) (a_cons q_int a_nil))))
 (ss_one (s_ret (q_lst (a_cons (q_add (q_add (q_slG (qv 1 (pv 1)) o_none (o_some (qv 3 (pv 3)))) (q_lst (a_cons (q_tup (a_cons q_str (a_cons (qv 6 (pv 6)) (a_cons (qv 6 (pv 6)) (a_cons (qv 6 (pv 6)) a_nil))))) a_nil))) (q_slG (qv 1 (pv 1)) (o_some (q_add (qv 3 (pv 3)) q_int)) o_none)) (a_cons (qv 3 (pv 3)) a_nil)))))))
 ss_nil)
 (ss_cons (s_if (t_eq hr (qv 2 (pv 2)) q_int)
 (ss_one (s_ret (q_lst (a_cons (q_add (q_add (q_slG (qv 1 (pv 1)) o_none (o_some (qv 3 (pv 3)))) (q_lst (a_cons (q_tup (a_cons q_str (a_cons (qv 4 (pv 4)) (a_cons (q_call (ok_l_left T) (hr.mono (by decide)) (by rfl) (a_cons (qv 1 (pv 1)) (a_cons (qv 3 (pv 3)) a_nil))) a_nil)))) a_nil))) (q_slG (qv 1 (pv 1)) (o_some (qv 3 (pv 3))) o_none)) (a_cons (qv 3 (pv 3)) a_nil)))))
 ss_nil)
 (ss_cons (s_if (t_eq hr (qv 2 (pv 2)) q_int)
 (ss_cons (s_setLc [9] (own := [("_law_k", 9)]) 7 rfl sc_l_spoilt.nd rfl rfl (sw_true rfl rfl rfl (by decide +kernel)) (i_rng1 T.b_range (by rfl) (a_cons q_int a_nil)) (blkOk_by (N := N_l_spoilt) (sc := defScope s_l_spoilt) (by decide +kernel)) rfl (by decide) (fun _ _ _ _ _ => (g_name (i := 9) sc_l_spoilt.nd rfl (.inl rfl) (.inr rfl))) (fun _ _ _ _ _ => ts_nil) (fun _ _ _ _ _ => (q_tup (a_cons q_str (a_cons (q_tup (a_cons q_int (a_cons q_int a_nil))) (a_cons (q_tup (a_cons (qv 9 (pv 9)) (a_cons q_int a_nil))) (a_cons (q_tup (a_cons q_int (a_cons q_int a_nil))) a_nil)))))))
 (ss_one (s_ret (q_lst (a_cons (q_add (qv 7 (pv 7)) (q_mul (q_lst (a_cons q_non a_nil)) (q_call (ok_l_take T) (hr.mono (by decide)) (by rfl) (a_cons (qv 0 (pv 0)) (a_cons q_int a_nil))))) (a_cons q_int a_nil))))))
 ss_nil)
 (ss_cons (s_if (t_eq hr (qv 2 (pv 2)) q_int)
 (ss_cons (s_set 7 sc_l_spoilt.nd rfl (by first | exact .inl rfl | exact .inr rfl) (.inl rfl) (q_add (q_lst (a_cons (q_tup (a_cons q_str (a_cons (q_tup (a_cons q_int (a_cons q_int a_nil))) (a_cons (q_tup (a_cons q_int (a_cons q_int a_nil))) (a_cons (q_tup (a_cons q_int (a_cons q_int a_nil))) a_nil))))) a_nil)) (q_lc [9] (own := [("_law_k", 9)]) rfl sc_l_spoilt.nd (i_rng1 T.b_range (by rfl) (a_cons q_int a_nil)) (blkOk_by (N := N_l_spoilt) (sc := defScope s_l_spoilt) (by decide +kernel)) rfl (by decide) (fun _ _ _ _ _ => (g_name (i := 9) sc_l_spoilt.nd rfl (.inl rfl) (.inr rfl))) (fun _ _ _ _ _ => (ts_one (t_gt (q_mod (qv 9 (pv 9)) q_int) q_int))) (fun _ _ _ _ _ => (q_tup (a_cons q_str (a_cons (q_tup (a_cons q_int (a_cons q_int a_nil))) (a_cons q_int (a_cons (q_tup (a_cons (qv 9 (pv 9)) (a_cons q_int a_nil))) a_nil)))))))))
 (ss_cons (s_set 7 sc_l_spoilt.nd rfl (by first | exact .inl rfl | exact .inr rfl) (.inl rfl) (q_slG (q_add (qv 7 (pv 7)) (q_mul (q_lst (a_cons (q_tup (a_cons q_str (a_cons (q_tup (a_cons q_int (a_cons q_int a_nil))) (a_cons q_int (a_cons (q_tup (a_cons q_int (a_cons q_int a_nil))) a_nil))))) a_nil)) q_int)) o_none (o_some q_int)))
 (ss_one (s_ret (q_lst (a_cons (q_add (qv 7 (pv 7)) (q_lst (a_cons (q_ixg (fun _ _ => rfl) (q_lst (a_cons (q_tup (a_cons q_str (a_cons (q_tup (a_cons q_int (a_cons q_int a_nil))) (a_cons q_int a_nil)))) (a_cons q_non (a_cons (q_tup (a_cons q_str (a_cons (q_tup (a_cons q_int (a_cons q_int a_nil))) (a_cons q_int (a_cons (q_tup (a_cons q_int (a_cons q_int a_nil))) a_nil))))) a_nil)))) (q_call (ok_l_take T) (hr.mono (by decide)) (by rfl) (a_cons (qv 0 (pv 0)) (a_cons q_int a_nil)))) a_nil))) (a_cons q_int a_nil)))))))
 ss_nil)
 (ss_cons (s_set 8 sc_l_spoilt.nd rfl (by first | exact .inl rfl | exact .inr rfl) (.inl rfl) (q_add (q_add (q_slG (qv 1 (pv 1)) o_none (o_some (qv 3 (pv 3)))) (q_lst (a_cons (q_call (ok_l_bad T) (hr.mono (by decide)) (by rfl) (a_cons (qv 0 (pv 0)) (a_cons (qv 4 (pv 4)) a_nil))) a_nil))) (q_slG (qv 1 (pv 1)) (o_some (q_add (qv 3 (pv 3)) q_int)) o_none)))
 (ss_one (s_ret (q_lst (a_cons (q_add (qv 8 (pv 8)) (q_mul (q_lst (a_cons q_non a_nil)) (q_call (ok_l_take T) (hr.mono (by decide)) (by rfl) (a_cons (qv 0 (pv 0)) (a_cons q_int a_nil))))) (a_cons (qv 3 (pv 3)) a_nil)))))))))))))), fun ds S Q E h => ?_⟩)
  · obtain ⟨_, _, _, _, rfl, _⟩ := h
    rfl
  · obtain ⟨a, n, p, E, rfl, hp, hn, hE, hpa, hX, hne, h220, q⟩ := h
    rw [st_l_spoilt]
    have hlen := hX.len
    have hpos : 0 < E.length := List.length_pos_iff.mpr hne
    have hall : ∀ d ∈ E, SmXD d ∧ ∀ t r m, (d = .leave t r ∨ d = .turn t r m) → r < 10 ^ 60 := fun d hd => ⟨hX.mem hd, hX.keyk hd⟩
    refine seq_cut (fun τ S' => ∃ w : Int, 0 ≤ w ∧ w < 8 ∧ Fr S S' a ∧ PenC S' a (n + 1) ∧ τ = [some (.ref a), some (.ref p), some (.int w), none, none, none, none, none, none, none]) (fun τ S1 k1 => ?_) (fun R hR => ?_)
    rotate_left
    · walk_at "d"
      refine ⟨a, n, _, rfl, hp, by omega, by decide, Sz.lit (by decide), fun w x y z w0 w1 z0 z1 => ?_⟩
      walk_at "d"
      exact hR _ _ ⟨w, w0, w1, (Fr.refl S a).wr, penC_again z0 z1, rfl⟩
    clear hp
    obtain ⟨w, w0, w8, fr, hp, rfl⟩ := k1
    refine seq_cut (fun τ S' => ∃ i : Nat, i < E.length ∧ Fr S S' a ∧ PenC S' a (n + 2) ∧ τ = [some (.ref a), some (.ref p), some (.int w), some (.int (i : Int)), none, none, none, none, none, none]) (fun τ S2 k2 => ?_) (fun R hR => ?_)
    rotate_left
    · have hE1 := fr _ _ hpa hE
      walk_at "d"
      rw [hE1]
      walk_at "d"
      refine ⟨a, n + 1, _, rfl, hp, by omega, by omega, (Sz.lit (m := 10) (by omega)).le (by decide), fun j x y z j0 j1 z0 z1 => ?_⟩
      obtain ⟨j, rfl⟩ := Int.eq_ofNat_of_zero_le j0
      walk_at "d"
      exact hR _ _ ⟨j, by omega, fr.wr, penC_again z0 z1, rfl⟩
    clear fr hp
    obtain ⟨i, hi, fr, hp, rfl⟩ := k2
    have hE2 := fr _ _ hpa hE
    obtain ⟨dd, hdd⟩ : ∃ dd, E[i]? = some dd := ⟨_, List.getElem?_eq_getElem hi⟩
    have hdm := List.mem_of_getElem? hdd
    have htX := (hX.mem hdm).t
    have hP : LogX (E.take i) := by
      have h := hX
      rw [← List.take_append_drop i E] at h
      exact h.pre
    have hallP : ∀ d ∈ E.take i, SmXD d ∧ ∀ t r m, (d = .leave t r ∨ d = .turn t r m) → r < 10 ^ 60 := fun d hd => hall d (List.mem_of_mem_take hd)
    have hPl : (E.take i).length = i := by rw [List.length_take]; omega
    have hFd : ∀ j, (∀ d ∈ E.drop j, SmXD d ∧ ∀ t r m, (d = .leave t r ∨ d = .turn t r m) → r < 10 ^ 60) ∧ (E.drop j).length ≤ 45 := fun j => ⟨fun d hd => hall d (List.mem_of_mem_drop hd), by rw [List.length_drop]; omega⟩
    have hFl : ∀ j, (E.drop j).length ≤ 40 := fun j => by rw [List.length_drop]; omega
    refine seq_cut (fun τ S' => S' = S2 ∧ τ = [some (.ref a), some (.ref p), some (.int w), some (.int (i : Int)), some (eQ dd.t), none, none, none, none, none]) (fun τ S3 k3 => ?_) (fun R hR => ?_)
    rotate_left
    · walk_at "d"
      rw [hE2]
      walk_at "d"
      obtain ⟨d', hd', e⟩ := atM (e := eDd) (xs := E) hi
      rw [e]
      walk_at "d"
      rw [hdd] at hd'
      cases hd'
      exact hR _ _ ⟨rfl, rfl⟩
    obtain ⟨rfl, rfl⟩ := k3
    have fin : ∀ (T : Sto) (q0 : Addr) (x : D) (j : Int), Fr S T a → PenC T a (n + 12) → Spl T x j → T q0 = none → ∃ S0, DL.Sub S0 (ups T q0 (.lst [x, .int j])) ∧ Q (.ref q0) S0 := fun T q0 x j f h hs hn => ⟨_, .refl _, q _ q0 x j (f.new hn) (h.new hn) ups_same (hs.sub (Sub.drop hn))⟩
    -- way 0
    refine seq_cut (fun τ S' => S' = S3 ∧ τ = [some (.ref a), some (.ref p), some (.int w), some (.int (i : Int)), some (eQ dd.t), none, none, none, none, none]) (fun τ S4 k4 => ?_) (fun R hR => ?_)
    rotate_left
    · walk_at "d"
      refine cnd_dec (fun _ => ?_) (fun c => hR _ _ ⟨rfl, rfl⟩)
      rw [hE2]
      intro p1 np1
      have sp1 : DL.Sub S3 (ups S3 p1 (.dic [])) := DL.Sub.drop np1
      first | replace fr := sp1 _ _ fr | replace fr := fr.sub sp1 | replace fr := fr.trans sp1
      first | replace hE2 := sp1 _ _ hE2 | replace hE2 := hE2.sub sp1 | replace hE2 := hE2.trans sp1
      have e1 : ups S3 p1 (.dic []) p1 = some (.dic []) := ups_same
      generalize ups S3 p1 (.dic []) = T1 at *
      have h1a := (hp.ne np1).symm
      first | replace hp := sp1 _ _ hp | replace hp := hp.sub sp1 | replace hp := hp.trans sp1
      intro p6 np6
      have h6a := (hp.ne np6).symm
      refine ⟨a, n + 2, _, rfl, hp.new np6, by omega, by omega, Sz.lit (by decide), fun r x y z r0 r1 z0 z1 => ?_⟩
      walk_at "d"
      rw [ups_ne h6a, ups_same]
      walk_at "d"
      obtain ⟨v, _, hv, e⟩ := atI_map (e := fun z : D => z) (xs := [D.non, D.int 3, D.str (Str.ofString "log"), D.tup (E.map eDd), D.ref p1, D.bl true, D.tup [D.str (Str.ofString "join"), eQ dd.t, eQ dd.t, eQ dd.t]]) r0 r1
      rw [List.map_id'] at e
      rw [e]
      intro q0 nq0
      have e1' := ((((Fr.refl T1 a).new np6 (o := .lst [D.non, D.int 3, D.str (Str.ofString "log"), D.tup (E.map eDd), D.ref p1, D.bl true, D.tup [D.str (Str.ofString "join"), eQ dd.t, eQ dd.t, eQ dd.t]])).wr (o := penC x y z))) _ _ h1a e1
      refine fin _ q0 v 0 ((fr.new np6).wr) ((penC_again z0 z1).le (by omega)) ?_ nq0
      simp only [List.mem_cons, List.not_mem_nil, or_false] at hv
      rcases hv with rfl | rfl | rfl | rfl | rfl | rfl | rfl
      · exact ⟨Rp.non.shown (by decide) (by decide), .inr ⟨⟨_, rfl, rfl⟩, rfl⟩⟩
      · exact ⟨(Rp.int (by decide)).shown (by decide) (by decide), .inr ⟨⟨_, rfl, rfl⟩, rfl⟩⟩
      · exact ⟨(Rp.str (by decide +kernel) (by decide +kernel)).shown (by decide) (by decide), .inr ⟨⟨_, rfl, rfl⟩, rfl⟩⟩
      · exact ⟨(Rp.tup (Rps.of hX)).shown (by omega) (by decide), .inr ⟨⟨_, rfl, rfl⟩, rfl⟩⟩
      · exact ⟨⟨_, .inr (.inl ⟨p1, rfl, e1', rfl⟩)⟩, .inr ⟨⟨.dic, by show tyO _ = _; rw [e1']; rfl, rfl⟩, rfl⟩⟩
      · exact ⟨Rp.bl.shown (by decide) (by decide), .inr ⟨⟨_, rfl, rfl⟩, rfl⟩⟩
      · refine ⟨(Rp.tup (Rps.all fun z hz => ?_)).shown (n := 4005) (k := 5) (by decide) (by decide), .inr ⟨⟨_, rfl, rfl⟩, rfl⟩⟩
        simp only [List.mem_cons, List.not_mem_nil, or_false] at hz
        rcases hz with rfl | rfl | rfl | rfl
        · exact (ok1_lit (by decide +kernel)).2
        · exact (ok1_q htX).2
        · exact (ok1_q htX).2
        · exact (ok1_q htX).2
    obtain ⟨rfl, rfl⟩ := k4
    refine seq_cut (fun τ S' => S' = S4 ∧ ∃ v5 v6, τ = [some (.ref a), some (.ref p), some (.int w), some (.int (i : Int)), some (eQ dd.t), v5, v6, none, none, none]) (fun τ S5 k5 => ?_) (fun R hR => ?_)
    rotate_left
    · walk_at "d"
      refine cnd_dec (fun _ => ?_) (fun c => hR _ _ ⟨rfl, _, _, rfl⟩)
      refine cnd_dec (fun c => ?_) (fun c => hR _ _ ⟨rfl, _, _, rfl⟩)
      have c : 0 < i := by omega
      rw [hE2]
      walk_at "d"
      rw [show (i : Int) - 1 = ((i - 1 : Nat) : Int) by omega]
      obtain ⟨d', hd', e⟩ := atM (e := eDd) (xs := E) (i := i - 1) (by omega)
      rw [e]
      walk_at "d"
      have hx1 := (hX.mem (List.mem_of_getElem? hd')).t
      have hlast : (E.take i).getLast? = some d' := by
        rw [List.getLast?_eq_getElem?, hPl, List.getElem?_take_of_lt (by omega)]
        exact hd'
      refine ⟨⟨by have := d'.t.den_pos; omega, (Sz.lit (m := 10) (by have := hx1.2; omega)).le (by decide)⟩, a, n + 2, _, rfl, hp, by omega, by decide, Sz.lit (by decide), fun r x y z r0 r1 z0 z1 => ?_⟩
      have fr := fr.wr (o := penC x y z)
      have hE3 := (ups_ne (o := penC x y z) hpa).trans hE2
      have hp := penC_again (S := S4) (a := a) (x := x) (y := y) z0 z1
      generalize ups S4 a (penC x y z) = S5 at *
      walk_at "d"
      refine ⟨by decide, (Sz.lit (m := 10) (by decide)).le (by decide), ?_⟩
      rw [by_one]
      walk_at "d"
      rw [hE3]
      walk_at "d"
      rw [cutG_to]
      intro p1 np1
      have sp1 : DL.Sub S5 (ups S5 p1 (.lst ((E.take i).map eDd))) := DL.Sub.drop np1
      first | replace fr := sp1 _ _ fr | replace fr := fr.sub sp1 | replace fr := fr.trans sp1
      first | replace hp := sp1 _ _ hp | replace hp := hp.sub sp1 | replace hp := hp.trans sp1
      first | replace hE3 := sp1 _ _ hE3 | replace hE3 := hE3.sub sp1 | replace hE3 := hE3.trans sp1
      have e1 : ups S5 p1 (.lst ((E.take i).map eDd)) p1 = some (.lst ((E.take i).map eDd)) := ups_same
      generalize ups S5 p1 (.lst ((E.take i).map eDd)) = T1 at *
      intro p2 np2
      have sp2 : DL.Sub T1 (ups T1 p2 (.lst [D.tup [D.str (Str.ofString "join"), eQ ((d'.t.num.fdiv (d'.t.den : Int) - 1 - r : Int) : Rat), eQ ((d'.t.num.fdiv (d'.t.den : Int) - 1 - r : Int) : Rat), eQ ((d'.t.num.fdiv (d'.t.den : Int) - 1 - r : Int) : Rat)]])) := DL.Sub.drop np2
      first | replace fr := sp2 _ _ fr | replace fr := fr.sub sp2 | replace fr := fr.trans sp2
      first | replace hp := sp2 _ _ hp | replace hp := hp.sub sp2 | replace hp := hp.trans sp2
      first | replace hE3 := sp2 _ _ hE3 | replace hE3 := hE3.sub sp2 | replace hE3 := hE3.trans sp2
      first | replace e1 := sp2 _ _ e1 | replace e1 := e1.sub sp2 | replace e1 := e1.trans sp2
      have e2 : ups T1 p2 (.lst [D.tup [D.str (Str.ofString "join"), eQ ((d'.t.num.fdiv (d'.t.den : Int) - 1 - r : Int) : Rat), eQ ((d'.t.num.fdiv (d'.t.den : Int) - 1 - r : Int) : Rat), eQ ((d'.t.num.fdiv (d'.t.den : Int) - 1 - r : Int) : Rat)]]) p2 = some (.lst [D.tup [D.str (Str.ofString "join"), eQ ((d'.t.num.fdiv (d'.t.den : Int) - 1 - r : Int) : Rat), eQ ((d'.t.num.fdiv (d'.t.den : Int) - 1 - r : Int) : Rat), eQ ((d'.t.num.fdiv (d'.t.den : Int) - 1 - r : Int) : Rat)]]) := ups_same
      generalize ups T1 p2 (.lst [D.tup [D.str (Str.ofString "join"), eQ ((d'.t.num.fdiv (d'.t.den : Int) - 1 - r : Int) : Rat), eQ ((d'.t.num.fdiv (d'.t.den : Int) - 1 - r : Int) : Rat), eQ ((d'.t.num.fdiv (d'.t.den : Int) - 1 - r : Int) : Rat)]]) = T2 at *
      rw [e1]
      walk_at "d"
      refine ⟨short_line (by (try simp only [List.length_map]); omega), ?_⟩
      intro p3 np3
      have sp3 : DL.Sub T2 (ups T2 p3 (.lst ((E.take i).map eDd ++ [D.tup [D.str (Str.ofString "join"), eQ ((d'.t.num.fdiv (d'.t.den : Int) - 1 - r : Int) : Rat), eQ ((d'.t.num.fdiv (d'.t.den : Int) - 1 - r : Int) : Rat), eQ ((d'.t.num.fdiv (d'.t.den : Int) - 1 - r : Int) : Rat)]]))) := DL.Sub.drop np3
      first | replace fr := sp3 _ _ fr | replace fr := fr.sub sp3 | replace fr := fr.trans sp3
      first | replace hp := sp3 _ _ hp | replace hp := hp.sub sp3 | replace hp := hp.trans sp3
      first | replace hE3 := sp3 _ _ hE3 | replace hE3 := hE3.sub sp3 | replace hE3 := hE3.trans sp3
      have e3 : ups T2 p3 (.lst ((E.take i).map eDd ++ [D.tup [D.str (Str.ofString "join"), eQ ((d'.t.num.fdiv (d'.t.den : Int) - 1 - r : Int) : Rat), eQ ((d'.t.num.fdiv (d'.t.den : Int) - 1 - r : Int) : Rat), eQ ((d'.t.num.fdiv (d'.t.den : Int) - 1 - r : Int) : Rat)]])) p3 = some (.lst ((E.take i).map eDd ++ [D.tup [D.str (Str.ofString "join"), eQ ((d'.t.num.fdiv (d'.t.den : Int) - 1 - r : Int) : Rat), eQ ((d'.t.num.fdiv (d'.t.den : Int) - 1 - r : Int) : Rat), eQ ((d'.t.num.fdiv (d'.t.den : Int) - 1 - r : Int) : Rat)]])) := ups_same
      generalize ups T2 p3 (.lst ((E.take i).map eDd ++ [D.tup [D.str (Str.ofString "join"), eQ ((d'.t.num.fdiv (d'.t.den : Int) - 1 - r : Int) : Rat), eQ ((d'.t.num.fdiv (d'.t.den : Int) - 1 - r : Int) : Rat), eQ ((d'.t.num.fdiv (d'.t.den : Int) - 1 - r : Int) : Rat)]])) = T3 at *
      rw [hE3]
      walk_at "d"
      rw [cutG_from]
      intro p4 np4
      have sp4 : DL.Sub T3 (ups T3 p4 (.lst ((E.drop (i + 1)).map eDd))) := DL.Sub.drop np4
      first | replace fr := sp4 _ _ fr | replace fr := fr.sub sp4 | replace fr := fr.trans sp4
      first | replace hp := sp4 _ _ hp | replace hp := hp.sub sp4 | replace hp := hp.trans sp4
      first | replace e3 := sp4 _ _ e3 | replace e3 := e3.sub sp4 | replace e3 := e3.trans sp4
      have e4 : ups T3 p4 (.lst ((E.drop (i + 1)).map eDd)) p4 = some (.lst ((E.drop (i + 1)).map eDd)) := ups_same
      generalize ups T3 p4 (.lst ((E.drop (i + 1)).map eDd)) = T4 at *
      rw [e3]
      walk_at "d"
      have hfl := hFl (i + 1)
      refine ⟨short_line (by (try simp only [List.length_append, List.length_map, List.length_singleton]); omega), ?_⟩
      intro p5 np5
      have sp5 : DL.Sub T4 (ups T4 p5 (.lst ((E.take i).map eDd ++ [D.tup [D.str (Str.ofString "join"), eQ ((d'.t.num.fdiv (d'.t.den : Int) - 1 - r : Int) : Rat), eQ ((d'.t.num.fdiv (d'.t.den : Int) - 1 - r : Int) : Rat), eQ ((d'.t.num.fdiv (d'.t.den : Int) - 1 - r : Int) : Rat)]] ++ (E.drop (i + 1)).map eDd))) := DL.Sub.drop np5
      first | replace fr := sp5 _ _ fr | replace fr := fr.sub sp5 | replace fr := fr.trans sp5
      first | replace hp := sp5 _ _ hp | replace hp := hp.sub sp5 | replace hp := hp.trans sp5
      have e5 : ups T4 p5 (.lst ((E.take i).map eDd ++ [D.tup [D.str (Str.ofString "join"), eQ ((d'.t.num.fdiv (d'.t.den : Int) - 1 - r : Int) : Rat), eQ ((d'.t.num.fdiv (d'.t.den : Int) - 1 - r : Int) : Rat), eQ ((d'.t.num.fdiv (d'.t.den : Int) - 1 - r : Int) : Rat)]] ++ (E.drop (i + 1)).map eDd)) p5 = some (.lst ((E.take i).map eDd ++ [D.tup [D.str (Str.ofString "join"), eQ ((d'.t.num.fdiv (d'.t.den : Int) - 1 - r : Int) : Rat), eQ ((d'.t.num.fdiv (d'.t.den : Int) - 1 - r : Int) : Rat), eQ ((d'.t.num.fdiv (d'.t.den : Int) - 1 - r : Int) : Rat)]] ++ (E.drop (i + 1)).map eDd)) := ups_same
      generalize ups T4 p5 (.lst ((E.take i).map eDd ++ [D.tup [D.str (Str.ofString "join"), eQ ((d'.t.num.fdiv (d'.t.den : Int) - 1 - r : Int) : Rat), eQ ((d'.t.num.fdiv (d'.t.den : Int) - 1 - r : Int) : Rat), eQ ((d'.t.num.fdiv (d'.t.den : Int) - 1 - r : Int) : Rat)]] ++ (E.drop (i + 1)).map eDd)) = T5 at *
      intro q0 nq0
      obtain ⟨t1, t2, t3⟩ := odd_early (S := T5) hlast hx1 (k := d'.t.num.fdiv (d'.t.den : Int) - 1 - r) (by omega) (by omega)
      have hs := spl_list (T := T5) (p := p5) (P := E.take i) (F := E.drop (i + 1)) (n := 0) (by rw [e5]; simp) hP (hFd (i + 1)).1 ⟨(hFd (i + 1)).2, by decide⟩ t1 t2 (.inl t3)
      rw [hPl] at hs
      exact fin _ q0 _ _ fr (hp.le (by omega)) hs nq0
    obtain ⟨rfl, v5, v6, rfl⟩ := k5
    refine seq_cut (fun τ S' => S' = S5 ∧ τ = [some (.ref a), some (.ref p), some (.int w), some (.int (i : Int)), some (eQ dd.t), v5, v6, none, none, none]) (fun τ S6 k6 => ?_) (fun R hR => ?_)
    rotate_left
    · walk_at "d"
      refine cnd_dec (fun _ => ?_) (fun c => hR _ _ ⟨rfl, rfl⟩)
      rw [hE2]
      walk_at "d"
      rw [cutG_to]
      intro p1 np1
      have sp1 : DL.Sub S5 (ups S5 p1 (.lst ((E.take i).map eDd))) := DL.Sub.drop np1
      first | replace fr := sp1 _ _ fr | replace fr := fr.sub sp1 | replace fr := fr.trans sp1
      first | replace hp := sp1 _ _ hp | replace hp := hp.sub sp1 | replace hp := hp.trans sp1
      first | replace hE2 := sp1 _ _ hE2 | replace hE2 := hE2.sub sp1 | replace hE2 := hE2.trans sp1
      have e1 : ups S5 p1 (.lst ((E.take i).map eDd)) p1 = some (.lst ((E.take i).map eDd)) := ups_same
      generalize ups S5 p1 (.lst ((E.take i).map eDd)) = T1 at *
      refine ⟨p, E, i, rfl, hE2, hX, by omega, ?_⟩
      walk_at "d"
      intro p2 np2
      have sp2 : DL.Sub T1 (ups T1 p2 (.lst [D.tup [D.str (Str.ofString "leave"), eQ dd.t, D.int ((leftR (E.take i) : Nat) : Int)]])) := DL.Sub.drop np2
      first | replace fr := sp2 _ _ fr | replace fr := fr.sub sp2 | replace fr := fr.trans sp2
      first | replace hp := sp2 _ _ hp | replace hp := hp.sub sp2 | replace hp := hp.trans sp2
      first | replace hE2 := sp2 _ _ hE2 | replace hE2 := hE2.sub sp2 | replace hE2 := hE2.trans sp2
      first | replace e1 := sp2 _ _ e1 | replace e1 := e1.sub sp2 | replace e1 := e1.trans sp2
      have e2 : ups T1 p2 (.lst [D.tup [D.str (Str.ofString "leave"), eQ dd.t, D.int ((leftR (E.take i) : Nat) : Int)]]) p2 = some (.lst [D.tup [D.str (Str.ofString "leave"), eQ dd.t, D.int ((leftR (E.take i) : Nat) : Int)]]) := ups_same
      generalize ups T1 p2 (.lst [D.tup [D.str (Str.ofString "leave"), eQ dd.t, D.int ((leftR (E.take i) : Nat) : Int)]]) = T2 at *
      rw [e1]
      walk_at "d"
      refine ⟨short_line (by (try simp only [List.length_map]); omega), ?_⟩
      intro p3 np3
      have sp3 : DL.Sub T2 (ups T2 p3 (.lst ((E.take i).map eDd ++ [D.tup [D.str (Str.ofString "leave"), eQ dd.t, D.int ((leftR (E.take i) : Nat) : Int)]]))) := DL.Sub.drop np3
      first | replace fr := sp3 _ _ fr | replace fr := fr.sub sp3 | replace fr := fr.trans sp3
      first | replace hp := sp3 _ _ hp | replace hp := hp.sub sp3 | replace hp := hp.trans sp3
      first | replace hE2 := sp3 _ _ hE2 | replace hE2 := hE2.sub sp3 | replace hE2 := hE2.trans sp3
      have e3 : ups T2 p3 (.lst ((E.take i).map eDd ++ [D.tup [D.str (Str.ofString "leave"), eQ dd.t, D.int ((leftR (E.take i) : Nat) : Int)]])) p3 = some (.lst ((E.take i).map eDd ++ [D.tup [D.str (Str.ofString "leave"), eQ dd.t, D.int ((leftR (E.take i) : Nat) : Int)]])) := ups_same
      generalize ups T2 p3 (.lst ((E.take i).map eDd ++ [D.tup [D.str (Str.ofString "leave"), eQ dd.t, D.int ((leftR (E.take i) : Nat) : Int)]])) = T3 at *
      rw [hE2]
      walk_at "d"
      rw [cutG_from]
      intro p4 np4
      have sp4 : DL.Sub T3 (ups T3 p4 (.lst ((E.drop i).map eDd))) := DL.Sub.drop np4
      first | replace fr := sp4 _ _ fr | replace fr := fr.sub sp4 | replace fr := fr.trans sp4
      first | replace hp := sp4 _ _ hp | replace hp := hp.sub sp4 | replace hp := hp.trans sp4
      first | replace e3 := sp4 _ _ e3 | replace e3 := e3.sub sp4 | replace e3 := e3.trans sp4
      have e4 : ups T3 p4 (.lst ((E.drop i).map eDd)) p4 = some (.lst ((E.drop i).map eDd)) := ups_same
      generalize ups T3 p4 (.lst ((E.drop i).map eDd)) = T4 at *
      rw [e3]
      walk_at "d"
      have hfl := hFl i
      refine ⟨short_line (by (try simp only [List.length_append, List.length_map, List.length_singleton]); omega), ?_⟩
      intro p5 np5
      have sp5 : DL.Sub T4 (ups T4 p5 (.lst ((E.take i).map eDd ++ [D.tup [D.str (Str.ofString "leave"), eQ dd.t, D.int ((leftR (E.take i) : Nat) : Int)]] ++ (E.drop i).map eDd))) := DL.Sub.drop np5
      first | replace fr := sp5 _ _ fr | replace fr := fr.sub sp5 | replace fr := fr.trans sp5
      first | replace hp := sp5 _ _ hp | replace hp := hp.sub sp5 | replace hp := hp.trans sp5
      have e5 : ups T4 p5 (.lst ((E.take i).map eDd ++ [D.tup [D.str (Str.ofString "leave"), eQ dd.t, D.int ((leftR (E.take i) : Nat) : Int)]] ++ (E.drop i).map eDd)) p5 = some (.lst ((E.take i).map eDd ++ [D.tup [D.str (Str.ofString "leave"), eQ dd.t, D.int ((leftR (E.take i) : Nat) : Int)]] ++ (E.drop i).map eDd)) := ups_same
      generalize ups T4 p5 (.lst ((E.take i).map eDd ++ [D.tup [D.str (Str.ofString "leave"), eQ dd.t, D.int ((leftR (E.take i) : Nat) : Int)]] ++ (E.drop i).map eDd)) = T5 at *
      intro q0 nq0
      obtain ⟨t1, t2, t3⟩ := odd_left (S := T5) hP htX
      have hs := spl_list (T := T5) (p := p5) (P := E.take i) (F := E.drop i) (n := 0) (by rw [e5]; simp) hP (hFd i).1 ⟨(hFd i).2, by decide⟩ t1 t2 (.inl t3)
      rw [hPl] at hs
      exact fin _ q0 _ _ fr (hp.le (by omega)) hs nq0
    obtain ⟨rfl, rfl⟩ := k6
    refine seq_cut (fun τ S' => S' = S6 ∧ ∃ v7 v8 v9, τ = [some (.ref a), some (.ref p), some (.int w), some (.int (i : Int)), some (eQ dd.t), v5, v6, v7, v8, v9]) (fun τ S7 k7 => ?_) (fun R hR => ?_)
    rotate_left
    · walk_at "d"
      refine cnd_dec (fun _ => ?_) (fun c => hR _ _ ⟨rfl, _, _, _, rfl⟩)
      refine lc_map (e := fun i : Nat => DL.D.int (0 + (i : Int))) (f := fun k : Nat => some (eDd (.join 5 ((k : Int) : Rat) 0))) (xs := List.range 9) (by simp) (fun _ _ => trivial) (fun k hk S2 s2 N Y hN hY => ?_) (fun o no => ?_)
      · rw [Int.zero_add]
        walk_at "d"
        exact hY _ rfl _ (.refl _)
      rw [List.filterMap_eq_map', show (List.range 9).map (fun k : Nat => eDd (.join 5 ((k : Int) : Rat) 0)) = (joinsE 9).map eDd by unfold joinsE; rw [List.map_map]; rfl]
      have so : DL.Sub S6 (ups S6 o (.lst ((joinsE 9).map eDd))) := DL.Sub.drop no
      first | replace fr := so _ _ fr | replace fr := fr.sub so | replace fr := fr.trans so
      first | replace hp := so _ _ hp | replace hp := hp.sub so | replace hp := hp.trans so
      have eo : ups S6 o (.lst ((joinsE 9).map eDd)) o = some (.lst ((joinsE 9).map eDd)) := ups_same
      have hoa : o ≠ a := fun z => by obtain ⟨x, y, c, e, _⟩ := hp; rw [← z, eo] at e; cases e
      generalize ups S6 o (.lst ((joinsE 9).map eDd)) = T0 at *
      intro p1 np1
      have sp1 : DL.Sub T0 (ups T0 p1 (.lst [D.non])) := DL.Sub.drop np1
      first | replace fr := sp1 _ _ fr | replace fr := fr.sub sp1 | replace fr := fr.trans sp1
      first | replace eo := sp1 _ _ eo | replace eo := eo.sub sp1 | replace eo := eo.trans sp1
      have e1 : ups T0 p1 (.lst [D.non]) p1 = some (.lst [D.non]) := ups_same
      generalize ups T0 p1 (.lst [D.non]) = T1 at *
      have h1a := (hp.ne np1).symm
      first | replace hp := sp1 _ _ hp | replace hp := hp.sub sp1 | replace hp := hp.trans sp1
      refine ⟨a, n + 2, _, rfl, hp, by omega, by decide, Sz.lit (by decide), fun r x y z r0 r1 z0 z1 => ?_⟩
      have fr := fr.wr (o := penC x y z)
      have e1 := (ups_ne (o := penC x y z) h1a).trans e1
      have eo := (ups_ne (o := penC x y z) hoa).trans eo
      have hp := penC_again (S := T1) (a := a) (x := x) (y := y) z0 z1
      generalize ups T1 a (penC x y z) = T2 at *
      walk_at "d"
      rw [e1]
      walk_at "d"
      refine ⟨⟨by omega, by omega, by first | decide | simp⟩, ?_⟩
      rw [flat_rep]
      intro p3 np3
      have sp3 : DL.Sub T2 (ups T2 p3 (.lst (List.replicate r.toNat D.non))) := DL.Sub.drop np3
      first | replace fr := sp3 _ _ fr | replace fr := fr.sub sp3 | replace fr := fr.trans sp3
      first | replace hp := sp3 _ _ hp | replace hp := hp.sub sp3 | replace hp := hp.trans sp3
      first | replace eo := sp3 _ _ eo | replace eo := eo.sub sp3 | replace eo := eo.trans sp3
      have e3 : ups T2 p3 (.lst (List.replicate r.toNat D.non)) p3 = some (.lst (List.replicate r.toNat D.non)) := ups_same
      generalize ups T2 p3 (.lst (List.replicate r.toNat D.non)) = T3 at *
      rw [eo]
      walk_at "d"
      refine ⟨short_line (by (try simp only [List.length_append, List.length_map, List.length_replicate, joinsE, List.length_range]); omega), ?_⟩
      intro p5 np5
      have sp5 : DL.Sub T3 (ups T3 p5 (.lst ((joinsE 9).map eDd ++ List.replicate r.toNat D.non))) := DL.Sub.drop np5
      first | replace fr := sp5 _ _ fr | replace fr := fr.sub sp5 | replace fr := fr.trans sp5
      first | replace hp := sp5 _ _ hp | replace hp := hp.sub sp5 | replace hp := hp.trans sp5
      have e5 : ups T3 p5 (.lst ((joinsE 9).map eDd ++ List.replicate r.toNat D.non)) p5 = some (.lst ((joinsE 9).map eDd ++ List.replicate r.toNat D.non)) := ups_same
      generalize ups T3 p5 (.lst ((joinsE 9).map eDd ++ List.replicate r.toNat D.non)) = T5 at *
      intro q0 nq0
      obtain ⟨t1, t3⟩ := ninth_parts (S := T5)
      have hs := spl_list (T := T5) (p := p5) (P := joinsE 8) (F := []) (n := r.toNat) (by rw [e5, joins_nine]; simp) (joins_ok 8 (Nat.le_refl _)).1 (fun d hd => by cases hd) ⟨by decide, by omega⟩ t1 ninth_bad (.inl t3)
      exact fin _ q0 _ _ fr (hp.le (by omega)) hs nq0
    obtain ⟨rfl, v7, v8, v9, rfl⟩ := k7
    refine seq_cut (fun τ S' => S' = S7 ∧ ∃ v7 v8 v9, τ = [some (.ref a), some (.ref p), some (.int w), some (.int (i : Int)), some (eQ dd.t), v5, v6, v7, v8, v9]) (fun τ S8 k8 => ?_) (fun R hR => ?_)
    rotate_left
    · walk_at "d"
      refine cnd_dec (fun _ => ?_) (fun c => hR _ _ ⟨rfl, _, _, _, rfl⟩)
      intro p1 np1
      have sp1 : DL.Sub S7 (ups S7 p1 (.lst [D.tup [D.str (Str.ofString "join"), D.tup [D.int 5, D.int 1], D.tup [D.int 0, D.int 1], D.tup [D.int 0, D.int 1]]])) := DL.Sub.drop np1
      first | replace fr := sp1 _ _ fr | replace fr := fr.sub sp1 | replace fr := fr.trans sp1
      first | replace hp := sp1 _ _ hp | replace hp := hp.sub sp1 | replace hp := hp.trans sp1
      have e1 : ups S7 p1 (.lst [D.tup [D.str (Str.ofString "join"), D.tup [D.int 5, D.int 1], D.tup [D.int 0, D.int 1], D.tup [D.int 0, D.int 1]]]) p1 = some (.lst [D.tup [D.str (Str.ofString "join"), D.tup [D.int 5, D.int 1], D.tup [D.int 0, D.int 1], D.tup [D.int 0, D.int 1]]]) := ups_same
      generalize ups S7 p1 (.lst [D.tup [D.str (Str.ofString "join"), D.tup [D.int 5, D.int 1], D.tup [D.int 0, D.int 1], D.tup [D.int 0, D.int 1]]]) = T1 at *
      refine lc_map (e := fun i : Nat => DL.D.int (0 + (i : Int))) (f := fun k : Nat => (if decide (0 < (k : Int).fmod 7) = true then some (sevQ k) else none).map fun m => eDd (.turn 5 0 m)) (xs := List.range 39) (by simp) (fun _ _ => trivial) (fun k hk S2 s2 N Y hN hY => ?_) (fun o no => ?_)
      · rw [Int.zero_add]
        walk_at "d"
        refine cnd_dec (fun c => ?_) (fun c => ?_)
        · obtain ⟨e, _⟩ := sev_eq (List.mem_range.mp hk) c
          have e2 : D.tup [D.str (Str.ofString "turn"), D.tup [D.int 5, D.int 1], D.int 0, D.tup [D.int (k : Int), D.int 7]] = eDd (.turn 5 0 (sevQ k)) := by rw [eDd_t, e]; rfl
          rw [e2]
          exact hY _ (by rw [if_pos (decide_eq_true c)]; rfl) _ (.refl _)
        · exact hN (by rw [if_neg (by rw [decide_eq_false c]; decide)]; rfl) _ (.refl _)
      rw [show (List.range 39).filterMap (fun k : Nat => (if decide (0 < (k : Int).fmod 7) = true then some (sevQ k) else none).map fun m => eDd (.turn 5 0 m)) = sevs.map (fun m => eDd (.turn 5 0 m)) by unfold sevs; rw [List.map_filterMap]]
      have so : DL.Sub T1 (ups T1 o (.lst (sevs.map fun m => eDd (.turn 5 0 m)))) := DL.Sub.drop no
      first | replace fr := so _ _ fr | replace fr := fr.sub so | replace fr := fr.trans so
      first | replace hp := so _ _ hp | replace hp := hp.sub so | replace hp := hp.trans so
      first | replace e1 := so _ _ e1 | replace e1 := e1.sub so | replace e1 := e1.trans so
      have eo : ups T1 o (.lst (sevs.map fun m => eDd (.turn 5 0 m))) o = some (.lst (sevs.map fun m => eDd (.turn 5 0 m))) := ups_same
      generalize ups T1 o (.lst (sevs.map fun m => eDd (.turn 5 0 m))) = T2 at *
      walk_at "d"
      rw [e1]
      walk_at "d"
      rw [eo]
      walk_at "d"
      have hsl := sevs_len
      refine ⟨short_line (by (try simp only [List.length_map, sevs_len]); omega), ?_⟩
      intro p2 np2
      have sp2 : DL.Sub T2 (ups T2 p2 (.lst ([D.tup [D.str (Str.ofString "join"), D.tup [D.int 5, D.int 1], D.tup [D.int 0, D.int 1], D.tup [D.int 0, D.int 1]]] ++ sevs.map fun m => eDd (.turn 5 0 m)))) := DL.Sub.drop np2
      first | replace fr := sp2 _ _ fr | replace fr := fr.sub sp2 | replace fr := fr.trans sp2
      first | replace hp := sp2 _ _ hp | replace hp := hp.sub sp2 | replace hp := hp.trans sp2
      have e3 : ups T2 p2 (.lst ([D.tup [D.str (Str.ofString "join"), D.tup [D.int 5, D.int 1], D.tup [D.int 0, D.int 1], D.tup [D.int 0, D.int 1]]] ++ sevs.map fun m => eDd (.turn 5 0 m))) p2 = some (.lst ([D.tup [D.str (Str.ofString "join"), D.tup [D.int 5, D.int 1], D.tup [D.int 0, D.int 1], D.tup [D.int 0, D.int 1]]] ++ sevs.map fun m => eDd (.turn 5 0 m))) := ups_same
      generalize ups T2 p2 (.lst ([D.tup [D.str (Str.ofString "join"), D.tup [D.int 5, D.int 1], D.tup [D.int 0, D.int 1], D.tup [D.int 0, D.int 1]]] ++ sevs.map fun m => eDd (.turn 5 0 m))) = T3 at *
      intro p3 np3
      have sp3 : DL.Sub T3 (ups T3 p3 (.lst [D.tup [D.str (Str.ofString "turn"), D.tup [D.int 5, D.int 1], D.int 0, D.tup [D.int 1, D.int 1]]])) := DL.Sub.drop np3
      first | replace fr := sp3 _ _ fr | replace fr := fr.sub sp3 | replace fr := fr.trans sp3
      first | replace hp := sp3 _ _ hp | replace hp := hp.sub sp3 | replace hp := hp.trans sp3
      first | replace e3 := sp3 _ _ e3 | replace e3 := e3.sub sp3 | replace e3 := e3.trans sp3
      have e4 : ups T3 p3 (.lst [D.tup [D.str (Str.ofString "turn"), D.tup [D.int 5, D.int 1], D.int 0, D.tup [D.int 1, D.int 1]]]) p3 = some (.lst [D.tup [D.str (Str.ofString "turn"), D.tup [D.int 5, D.int 1], D.int 0, D.tup [D.int 1, D.int 1]]]) := ups_same
      generalize ups T3 p3 (.lst [D.tup [D.str (Str.ofString "turn"), D.tup [D.int 5, D.int 1], D.int 0, D.tup [D.int 1, D.int 1]]]) = T4 at *
      intro p4 np4
      have sp4 : DL.Sub T4 (ups T4 p4 (.lst (List.replicate 8 [D.tup [D.str (Str.ofString "turn"), D.tup [D.int 5, D.int 1], D.int 0, D.tup [D.int 1, D.int 1]]]).flatten)) := DL.Sub.drop np4
      first | replace fr := sp4 _ _ fr | replace fr := fr.sub sp4 | replace fr := fr.trans sp4
      first | replace hp := sp4 _ _ hp | replace hp := hp.sub sp4 | replace hp := hp.trans sp4
      first | replace e3 := sp4 _ _ e3 | replace e3 := e3.sub sp4 | replace e3 := e3.trans sp4
      have e5 : ups T4 p4 (.lst (List.replicate 8 [D.tup [D.str (Str.ofString "turn"), D.tup [D.int 5, D.int 1], D.int 0, D.tup [D.int 1, D.int 1]]]).flatten) p4 = some (.lst (List.replicate 8 [D.tup [D.str (Str.ofString "turn"), D.tup [D.int 5, D.int 1], D.int 0, D.tup [D.int 1, D.int 1]]]).flatten) := ups_same
      generalize ups T4 p4 (.lst (List.replicate 8 [D.tup [D.str (Str.ofString "turn"), D.tup [D.int 5, D.int 1], D.int 0, D.tup [D.int 1, D.int 1]]]).flatten) = T5 at *
      rw [e3]
      walk_at "d"
      rw [flat_rep]
      have ecut : DL.cutD ([D.tup [D.str (Str.ofString "join"), D.tup [D.int 5, D.int 1], D.tup [D.int 0, D.int 1], D.tup [D.int 0, D.int 1]]] ++ sevs.map (fun m => eDd (.turn 5 0 m)) ++ List.replicate 8 (D.tup [D.str (Str.ofString "turn"), D.tup [D.int 5, D.int 1], D.int 0, D.tup [D.int 1, D.int 1]])) none (some 40) = (turnsE ms40).map eDd := by
        have := cutD_map (e := fun z : D => z) (xs := [D.tup [D.str (Str.ofString "join"), D.tup [D.int 5, D.int 1], D.tup [D.int 0, D.int 1], D.tup [D.int 0, D.int 1]]] ++ sevs.map (fun m => eDd (.turn 5 0 m)) ++ List.replicate 8 (D.tup [D.str (Str.ofString "turn"), D.tup [D.int 5, D.int 1], D.int 0, D.tup [D.int 1, D.int 1]])) (lo := none) (hi := some ((40 : Nat) : Int))
        rw [List.map_id', List.map_id', cutG_to] at this
        rw [← turns_eq]
        exact this
      rw [ecut]
      refine ⟨short_line (by simp only [List.length_append, List.length_map, List.length_replicate, List.length_singleton, sevs_len]; decide), ?_⟩
      intro p5 np5
      have sp5 : DL.Sub T5 (ups T5 p5 (.lst ([D.tup [D.str (Str.ofString "join"), D.tup [D.int 5, D.int 1], D.tup [D.int 0, D.int 1], D.tup [D.int 0, D.int 1]]] ++ sevs.map (fun m => eDd (.turn 5 0 m)) ++ List.replicate 8 (D.tup [D.str (Str.ofString "turn"), D.tup [D.int 5, D.int 1], D.int 0, D.tup [D.int 1, D.int 1]])))) := DL.Sub.drop np5
      first | replace fr := sp5 _ _ fr | replace fr := fr.sub sp5 | replace fr := fr.trans sp5
      first | replace hp := sp5 _ _ hp | replace hp := hp.sub sp5 | replace hp := hp.trans sp5
      have e6 : ups T5 p5 (.lst ([D.tup [D.str (Str.ofString "join"), D.tup [D.int 5, D.int 1], D.tup [D.int 0, D.int 1], D.tup [D.int 0, D.int 1]]] ++ sevs.map (fun m => eDd (.turn 5 0 m)) ++ List.replicate 8 (D.tup [D.str (Str.ofString "turn"), D.tup [D.int 5, D.int 1], D.int 0, D.tup [D.int 1, D.int 1]]))) p5 = some (.lst ([D.tup [D.str (Str.ofString "join"), D.tup [D.int 5, D.int 1], D.tup [D.int 0, D.int 1], D.tup [D.int 0, D.int 1]]] ++ sevs.map (fun m => eDd (.turn 5 0 m)) ++ List.replicate 8 (D.tup [D.str (Str.ofString "turn"), D.tup [D.int 5, D.int 1], D.int 0, D.tup [D.int 1, D.int 1]]))) := ups_same
      generalize ups T5 p5 (.lst ([D.tup [D.str (Str.ofString "join"), D.tup [D.int 5, D.int 1], D.tup [D.int 0, D.int 1], D.tup [D.int 0, D.int 1]]] ++ sevs.map (fun m => eDd (.turn 5 0 m)) ++ List.replicate 8 (D.tup [D.str (Str.ofString "turn"), D.tup [D.int 5, D.int 1], D.int 0, D.tup [D.int 1, D.int 1]]))) = T6 at *
      intro p6 np6
      have sp6 : DL.Sub T6 (ups T6 p6 (.lst ((turnsE ms40).map eDd))) := DL.Sub.drop np6
      first | replace fr := sp6 _ _ fr | replace fr := fr.sub sp6 | replace fr := fr.trans sp6
      have e7 : ups T6 p6 (.lst ((turnsE ms40).map eDd)) p6 = some (.lst ((turnsE ms40).map eDd)) := ups_same
      generalize ups T6 p6 (.lst ((turnsE ms40).map eDd)) = T7 at *
      have h6a := (hp.ne np6).symm
      first | replace hp := sp6 _ _ hp | replace hp := hp.sub sp6 | replace hp := hp.trans sp6
      intro p7 np7
      have h7a := (hp.ne np7).symm
      refine ⟨a, n + 2, _, rfl, hp.new np7, by omega, by decide, Sz.lit (by decide), fun r x y z r0 r1 z0 z1 => ?_⟩
      walk_at "d"
      rw [ups_ne h7a, ups_same]
      walk_at "d"
      obtain ⟨v, _, hv, e⟩ := atI_map (e := fun z : D => z) (xs := [D.tup [D.str (Str.ofString "leave"), D.tup [D.int 5, D.int 1], D.int 0], D.non, D.tup [D.str (Str.ofString "turn"), D.tup [D.int 6, D.int 1], D.int 0, D.tup [D.int 1, D.int 1]]]) r0 r1
      rw [List.map_id'] at e
      rw [e]
      walk_at "d"
      have hv2 : v = eDd (.leave 5 0) ∨ v = .non ∨ v = eDd (.turn ((6 : Int) : Rat) 0 1) := by
        simp only [List.mem_cons, List.not_mem_nil, or_false] at hv
        rcases hv with rfl | rfl | rfl
        · exact .inl rfl
        · exact .inr (.inl rfl)
        · exact .inr (.inr rfl)
      have fr := ((fr.new np7 (o := .lst [D.tup [D.str (Str.ofString "leave"), D.tup [D.int 5, D.int 1], D.int 0], D.non, D.tup [D.str (Str.ofString "turn"), D.tup [D.int 6, D.int 1], D.int 0, D.tup [D.int 1, D.int 1]]])).wr (o := penC x y z))
      have e7 := ((((Fr.refl T7 a).new np7 (o := .lst [D.tup [D.str (Str.ofString "leave"), D.tup [D.int 5, D.int 1], D.int 0], D.non, D.tup [D.str (Str.ofString "turn"), D.tup [D.int 6, D.int 1], D.int 0, D.tup [D.int 1, D.int 1]]])).wr (o := penC x y z))) _ _ h6a e7
      have hp := penC_again (S := ups T7 p7 (.lst [D.tup [D.str (Str.ofString "leave"), D.tup [D.int 5, D.int 1], D.int 0], D.non, D.tup [D.str (Str.ofString "turn"), D.tup [D.int 6, D.int 1], D.int 0, D.tup [D.int 1, D.int 1]]])) (a := a) (x := x) (y := y) z0 z1
      generalize ups (ups T7 p7 (.lst [D.tup [D.str (Str.ofString "leave"), D.tup [D.int 5, D.int 1], D.int 0], D.non, D.tup [D.str (Str.ofString "turn"), D.tup [D.int 6, D.int 1], D.int 0, D.tup [D.int 1, D.int 1]]])) a (penC x y z) = T8 at *
      intro p8 np8
      have sp8 : DL.Sub T8 (ups T8 p8 (.lst [v])) := DL.Sub.drop np8
      first | replace fr := sp8 _ _ fr | replace fr := fr.sub sp8 | replace fr := fr.trans sp8
      first | replace hp := sp8 _ _ hp | replace hp := hp.sub sp8 | replace hp := hp.trans sp8
      first | replace e7 := sp8 _ _ e7 | replace e7 := e7.sub sp8 | replace e7 := e7.trans sp8
      have e8 : ups T8 p8 (.lst [v]) p8 = some (.lst [v]) := ups_same
      generalize ups T8 p8 (.lst [v]) = T9 at *
      rw [e7]
      walk_at "d"
      refine ⟨short_line (by (try simp only [List.length_map]); rw [turns40.2]; decide), ?_⟩
      intro p9 np9
      have sp9 : DL.Sub T9 (ups T9 p9 (.lst ((turnsE ms40).map eDd ++ [v]))) := DL.Sub.drop np9
      first | replace fr := sp9 _ _ fr | replace fr := fr.sub sp9 | replace fr := fr.trans sp9
      first | replace hp := sp9 _ _ hp | replace hp := hp.sub sp9 | replace hp := hp.trans sp9
      have e9 : ups T9 p9 (.lst ((turnsE ms40).map eDd ++ [v])) p9 = some (.lst ((turnsE ms40).map eDd ++ [v])) := ups_same
      generalize ups T9 p9 (.lst ((turnsE ms40).map eDd ++ [v])) = T10 at *
      intro q0 nq0
      obtain ⟨t1, t3⟩ := last_parts (S := T10) hv2
      have hs := spl_list (T := T10) (p := p9) (P := turnsE ms40) (F := []) (n := 0) (by rw [e9]; simp) turns40.1 (fun d hd => by cases hd) ⟨by decide, by decide⟩ t1 (full_bad ms40_len v) (.inl t3)
      rw [turns40.2] at hs
      exact fin _ q0 _ _ fr (hp.le (by omega)) hs nq0
    obtain ⟨rfl, v7, v8, v9, rfl⟩ := k8
    walk_at "d"
    rw [hE2]
    walk_at "d"
    rw [cutG_to]
    intro p1 np1
    have sp1 : DL.Sub S8 (ups S8 p1 (.lst ((E.take i).map eDd))) := DL.Sub.drop np1
    first | replace fr := sp1 _ _ fr | replace fr := fr.sub sp1 | replace fr := fr.trans sp1
    first | replace hE2 := sp1 _ _ hE2 | replace hE2 := hE2.sub sp1 | replace hE2 := hE2.trans sp1
    have e1 : ups S8 p1 (.lst ((E.take i).map eDd)) p1 = some (.lst ((E.take i).map eDd)) := ups_same
    generalize ups S8 p1 (.lst ((E.take i).map eDd)) = T1 at *
    have h1a := (hp.ne np1).symm
    first | replace hp := sp1 _ _ hp | replace hp := hp.sub sp1 | replace hp := hp.trans sp1
    refine ⟨a, n + 2, dd.t, rfl, hp, by omega, htX, fun y T2 fr2 hp hy => ?_⟩
    have fr := fr.trans fr2
    have hE2 := fr2 _ _ hpa hE2
    have e1 := fr2 _ _ h1a e1
    clear fr2
    walk_at "d"
    have hy0 := hy T2 (Fr.refl _ _)
    intro p2 np2
    have sp2 : DL.Sub T2 (ups T2 p2 (.lst [y])) := DL.Sub.drop np2
    first | replace fr := sp2 _ _ fr | replace fr := fr.sub sp2 | replace fr := fr.trans sp2
    first | replace hp := sp2 _ _ hp | replace hp := hp.sub sp2 | replace hp := hp.trans sp2
    first | replace hE2 := sp2 _ _ hE2 | replace hE2 := hE2.sub sp2 | replace hE2 := hE2.trans sp2
    first | replace e1 := sp2 _ _ e1 | replace e1 := e1.sub sp2 | replace e1 := e1.trans sp2
    have e2 : ups T2 p2 (.lst [y]) p2 = some (.lst [y]) := ups_same
    generalize ups T2 p2 (.lst [y]) = T3 at *
    rw [e1]
    walk_at "d"
    refine ⟨short_line (by (try simp only [List.length_map]); omega), ?_⟩
    intro p3 np3
    have sp3 : DL.Sub T3 (ups T3 p3 (.lst ((E.take i).map eDd ++ [y]))) := DL.Sub.drop np3
    first | replace fr := sp3 _ _ fr | replace fr := fr.sub sp3 | replace fr := fr.trans sp3
    first | replace hp := sp3 _ _ hp | replace hp := hp.sub sp3 | replace hp := hp.trans sp3
    first | replace hE2 := sp3 _ _ hE2 | replace hE2 := hE2.sub sp3 | replace hE2 := hE2.trans sp3
    have e3 : ups T3 p3 (.lst ((E.take i).map eDd ++ [y])) p3 = some (.lst ((E.take i).map eDd ++ [y])) := ups_same
    generalize ups T3 p3 (.lst ((E.take i).map eDd ++ [y])) = T4 at *
    rw [hE2]
    walk_at "d"
    rw [cutG_from]
    intro p4 np4
    have sp4 : DL.Sub T4 (ups T4 p4 (.lst ((E.drop (i + 1)).map eDd))) := DL.Sub.drop np4
    first | replace fr := sp4 _ _ fr | replace fr := fr.sub sp4 | replace fr := fr.trans sp4
    first | replace hp := sp4 _ _ hp | replace hp := hp.sub sp4 | replace hp := hp.trans sp4
    first | replace e3 := sp4 _ _ e3 | replace e3 := e3.sub sp4 | replace e3 := e3.trans sp4
    have e4 : ups T4 p4 (.lst ((E.drop (i + 1)).map eDd)) p4 = some (.lst ((E.drop (i + 1)).map eDd)) := ups_same
    generalize ups T4 p4 (.lst ((E.drop (i + 1)).map eDd)) = T5 at *
    rw [e3]
    walk_at "d"
    have hfl := hFl (i + 1)
    refine ⟨short_line (by (try simp only [List.length_append, List.length_map, List.length_singleton]); omega), ?_⟩
    intro p5 np5
    have sp5 : DL.Sub T5 (ups T5 p5 (.lst ((E.take i).map eDd ++ [y] ++ (E.drop (i + 1)).map eDd))) := DL.Sub.drop np5
    first | replace fr := sp5 _ _ fr | replace fr := fr.sub sp5 | replace fr := fr.trans sp5
    have e5 : ups T5 p5 (.lst ((E.take i).map eDd ++ [y] ++ (E.drop (i + 1)).map eDd)) p5 = some (.lst ((E.take i).map eDd ++ [y] ++ (E.drop (i + 1)).map eDd)) := ups_same
    generalize ups T5 p5 (.lst ((E.take i).map eDd ++ [y] ++ (E.drop (i + 1)).map eDd)) = T6 at *
    have h5a := (hp.ne np5).symm
    first | replace hp := sp5 _ _ hp | replace hp := hp.sub sp5 | replace hp := hp.trans sp5
    intro p6 np6
    have sp6 : DL.Sub T6 (ups T6 p6 (.lst [D.non])) := DL.Sub.drop np6
    first | replace fr := sp6 _ _ fr | replace fr := fr.sub sp6 | replace fr := fr.trans sp6
    first | replace e5 := sp6 _ _ e5 | replace e5 := e5.sub sp6 | replace e5 := e5.trans sp6
    have e6 : ups T6 p6 (.lst [D.non]) p6 = some (.lst [D.non]) := ups_same
    generalize ups T6 p6 (.lst [D.non]) = T7 at *
    have h6a := (hp.ne np6).symm
    first | replace hp := sp6 _ _ hp | replace hp := hp.sub sp6 | replace hp := hp.trans sp6
    refine ⟨a, n + 2 + 4, _, rfl, hp, by omega, by decide, Sz.lit (by decide), fun r x y' z r0 r1 z0 z1 => ?_⟩
    have hsub : Fr T2 (ups T7 a (penC x y' z)) a := ((((((Fr.refl T2 a).sub sp2).sub sp3).sub sp4).sub sp5).sub sp6).wr
    have fr := fr.wr (o := penC x y' z)
    have e5 := (ups_ne (o := penC x y' z) h5a).trans e5
    have e6 := (ups_ne (o := penC x y' z) h6a).trans e6
    have hp := penC_again (S := T7) (a := a) (x := x) (y := y') z0 z1
    have hy1 := hy _ hsub
    generalize ups T7 a (penC x y' z) = T8 at *
    walk_at "d"
    rw [e6]
    walk_at "d"
    refine ⟨⟨by omega, by omega, by first | decide | simp⟩, ?_⟩
    rw [flat_rep]
    intro p7 np7
    have sp7 : DL.Sub T8 (ups T8 p7 (.lst (List.replicate r.toNat D.non))) := DL.Sub.drop np7
    first | replace fr := sp7 _ _ fr | replace fr := fr.sub sp7 | replace fr := fr.trans sp7
    first | replace hp := sp7 _ _ hp | replace hp := hp.sub sp7 | replace hp := hp.trans sp7
    first | replace e5 := sp7 _ _ e5 | replace e5 := e5.sub sp7 | replace e5 := e5.trans sp7
    first | replace hy1 := sp7 _ _ hy1 | replace hy1 := hy1.sub sp7 | replace hy1 := hy1.trans sp7
    have e7 : ups T8 p7 (.lst (List.replicate r.toNat D.non)) p7 = some (.lst (List.replicate r.toNat D.non)) := ups_same
    generalize ups T8 p7 (.lst (List.replicate r.toNat D.non)) = T9 at *
    rw [e5]
    walk_at "d"
    refine ⟨short_line (by (try simp only [List.length_append, List.length_map, List.length_replicate, List.length_singleton]); omega), ?_⟩
    intro p8 np8
    have sp8 : DL.Sub T9 (ups T9 p8 (.lst ((E.take i).map eDd ++ [y] ++ (E.drop (i + 1)).map eDd ++ List.replicate r.toNat D.non))) := DL.Sub.drop np8
    first | replace fr := sp8 _ _ fr | replace fr := fr.sub sp8 | replace fr := fr.trans sp8
    first | replace hp := sp8 _ _ hp | replace hp := hp.sub sp8 | replace hp := hp.trans sp8
    first | replace hy1 := sp8 _ _ hy1 | replace hy1 := hy1.sub sp8 | replace hy1 := hy1.trans sp8
    have e8 : ups T9 p8 (.lst ((E.take i).map eDd ++ [y] ++ (E.drop (i + 1)).map eDd ++ List.replicate r.toNat D.non)) p8 = some (.lst ((E.take i).map eDd ++ [y] ++ (E.drop (i + 1)).map eDd ++ List.replicate r.toNat D.non)) := ups_same
    generalize ups T9 p8 (.lst ((E.take i).map eDd ++ [y] ++ (E.drop (i + 1)).map eDd ++ List.replicate r.toNat D.non)) = T10 at *
    intro q0 nq0
    have hs := spl_list (T := T10) (p := p8) (P := E.take i) (F := E.drop (i + 1)) (n := r.toNat) (by rw [e8]; simp) hP (hFd (i + 1)).1 ⟨(hFd (i + 1)).2, by omega⟩ hy1.th (hy1.no _ hP) hy1.rp
    rw [hPl] at hs
    exact fin _ q0 _ _ fr (hp.le (by omega)) hs nq0
def sp_law : Sp2 := fun ds S Q _ => ∃ sc : List Int, ds = [.fl (sc.map DL.D.int)] ∧ ∀ S', Q (.bl true) S'
theorem st_law (x0 : DL.D) : start2 N_law [x0] = [some x0, none, none, none, none, none, none, none] := rfl
set_option maxHeartbeats 8000000 in
theorem ok_law (T : Txt K mg w) {f : Addr} {fd : FuncData} (F : Fun K "law" "law" s_law f fd) : LawOk P w K mg base f := by
  refine law_core (k := 7) (sp := sp_law) F sc_law (fun _ _ _ _ _ _ _ _ => .of_eq rfl) ⟨rfl, by decide, by decide⟩ (fun cdv s H E hr hgd => ⟨_, (ss_cons (s_for .never rfl (i_rng1 T.b_range (by rfl) (a_cons q_int a_nil)) (g_name (i := 1) sc_law.nd rfl (by first | exact .inl rfl | exact .inr rfl) (.inl rfl))
 (ss_cons (s_set 2 sc_law.nd rfl (by first | exact .inl rfl | exact .inr rfl) (.inl rfl) (q_call (ok_l_pen T) (hr.mono (by decide)) (by rfl) (a_cons (qv 0 (pv 0)) (a_cons (qv 1 (pv 1)) a_nil))))
 (ss_cons (s_set 3 sc_law.nd rfl (by first | exact .inl rfl | exact .inr rfl) (.inl rfl) (q_add q_int (q_call (ok_l_take T) (hr.mono (by decide)) (by rfl) (a_cons (qv 2 (pv 2)) (a_cons q_int a_nil)))))
 (ss_cons (s_if (t_eq hr (q_call (ok_l_take T) (hr.mono (by decide)) (by rfl) (a_cons (qv 2 (pv 2)) (a_cons q_int a_nil))) q_int)
 (ss_one (s_set 3 sc_law.nd rfl (by first | exact .inl rfl | exact .inr rfl) (.inl rfl) q_int))
 ss_nil)
 (ss_cons (s_set 4 sc_law.nd rfl (by first | exact .inl rfl | exact .inr rfl) (.inl rfl) (q_call (ok_l_log T) (hr.mono (by decide)) (by rfl) (a_cons (qv 2 (pv 2)) (a_cons (qv 3 (pv 3)) a_nil))))
 (ss_cons (s_asg (q_call (ok_l_spoilt T) (hr.mono (by decide)) (by rfl) (a_cons (qv 2 (pv 2)) (a_cons (qv 4 (pv 4)) a_nil))) (g_tupL (n := 2) rfl (gs_cons (g_name (i := 5) sc_law.nd rfl (by first | exact .inl rfl | exact .inr rfl) (.inl rfl)) (gs_cons (g_name (i := 6) sc_law.nd rfl (by first | exact .inl rfl | exact .inr rfl) (.inl rfl)) gs_nil))))
 (ss_cons (s_set 7 sc_law.nd rfl (by first | exact .inl rfl | exact .inr rfl) (.inl rfl) (q_repr hgd hr T.b_repr (by rfl) (a_cons (qv 5 (pv 5)) a_nil)))
 (ss_cons (s_if (PW.pt (w_or (t_ne hr (q_call (ok_log_of T) (hr.mono (by decide)) (by rfl) (a_cons (q_list T.b_list (by rfl) (a_cons (qv 4 (pv 4)) a_nil)) a_nil)) (qv 4 (pv 4))) (w_or (t_ne hr (q_call (ok_l_refused T) (hr.mono (by decide)) (by rfl) (a_cons (qv 5 (pv 5)) a_nil)) (qv 6 (pv 6))) (w_or1 (t_ne hr (q_repr hgd hr T.b_repr (by rfl) (a_cons (qv 5 (pv 5)) a_nil)) (qv 7 (pv 7)))))))
 (ss_one (s_ret q_bl))
 ss_nil)
 (ss_one (s_if (t_ne hr (q_call (ok_log_of T) (hr.mono (by decide)) (by rfl) (a_cons (q_list T.b_list (by rfl) (a_cons (qv 4 (pv 4)) a_nil)) a_nil)) (qv 4 (pv 4)))
 (ss_one (s_ret q_bl))
 ss_nil))))))))))
 (ss_one (s_ret q_bl))), fun ds S Q E h => ?_⟩) (fun sc S => ⟨sc, rfl, fun _ => rfl⟩)
  · obtain ⟨sc, rfl, q⟩ := h
    rw [st_law]
    walk_at "d"
    refine loop_r0 (n := 6) (fun k τ S' => ∃ v1 v2 v3 v4 v5 v6 v7, τ = [some (.fl (sc.map DL.D.int)), v1, v2, v3, v4, v5, v6, v7]) ⟨_, _, _, _, _, _, _, rfl⟩ ?_ ?_
    rotate_left
    · rintro τ S1 ⟨v1, v2, v3, v4, v5, v6, v7, rfl⟩
      walk_at "d"
      exact ⟨_, .refl _, q _⟩
    rintro k τ S1 hk ⟨v1, v2, v3, v4, v5, v6, v7, rfl⟩
    refine (show uSeq _ _ _ [some (.fl (sc.map DL.D.int)), some (.int (k : Int)), v2, v3, v4, v5, v6, v7] S1 from ?_)
    refine seq_cut (fun τ S' => ∃ a, PenC S' a 1 ∧ τ = [some (.fl (sc.map DL.D.int)), some (.int (k : Int)), some (.ref a), v3, v4, v5, v6, v7]) (fun τ S2 k2 => ?_) (fun R hR => ?_)
    rotate_left
    · walk_at "d"
      refine ⟨sc, k, rfl, hk, fun a x y z na z0 z1 => ?_⟩
      exact hR _ _ ⟨a, penC_again z0 z1, rfl⟩
    obtain ⟨a, hp, rfl⟩ := k2
    refine seq_cut (fun τ S' => ∃ m : Nat, 1 ≤ m ∧ m ≤ 40 ∧ PenC S' a 2 ∧ τ = [some (.fl (sc.map DL.D.int)), some (.int (k : Int)), some (.ref a), some (.int (m : Int)), v4, v5, v6, v7]) (fun τ S3 k3 => ?_) (fun R hR => ?_)
    rotate_left
    · walk_at "d"
      refine ⟨a, 1, _, rfl, hp, by decide, by decide, Sz.lit (by decide), fun r x y z r0 r1 z0 z1 => ?_⟩
      obtain ⟨r, rfl⟩ := Int.eq_ofNat_of_zero_le r0
      walk_at "d"
      rw [show (1 : Int) + (r : Int) = ((r + 1 : Nat) : Int) by omega]
      exact hR _ _ ⟨r + 1, by omega, by omega, penC_again z0 z1, rfl⟩
    clear hp
    obtain ⟨m, hm1, hm, hp, rfl⟩ := k3
    refine seq_cut (fun τ S' => ∃ m : Nat, 1 ≤ m ∧ m ≤ 40 ∧ PenC S' a 3 ∧ τ = [some (.fl (sc.map DL.D.int)), some (.int (k : Int)), some (.ref a), some (.int (m : Int)), v4, v5, v6, v7]) (fun τ S4 k4 => ?_) (fun R hR => ?_)
    rotate_left
    · walk_at "d"
      refine ⟨a, 2, _, rfl, hp, by decide, by decide, Sz.lit (by decide), fun r x y z r0 r1 z0 z1 => ?_⟩
      walk_at "d"
      refine cnd_dec (fun _ => ?_) (fun _ => ?_)
      · exact hR _ _ ⟨40, by decide, by decide, penC_again z0 z1, rfl⟩
      · exact hR _ _ ⟨m, hm1, hm, penC_again z0 z1, rfl⟩
    clear hp hm1 hm
    obtain ⟨m, hm1, hm, hp, rfl⟩ := k4
    refine seq_cut (fun τ S' => ∃ (p : Addr) (E : List Dd), PenC S' a 1003 ∧ S' p = some (.lst (E.map eDd)) ∧ p ≠ a ∧ LogX E ∧ E ≠ [] ∧ (∀ d ∈ E, d.t ≤ ((220 : Int) : Rat)) ∧ τ = [some (.fl (sc.map DL.D.int)), some (.int (k : Int)), some (.ref a), some (.int (m : Int)), some (.ref p), v5, v6, v7]) (fun τ S5 k5 => ?_) (fun R hR => ?_)
    rotate_left
    · walk_at "d"
      refine ⟨a, 3, m, rfl, hp, by decide, hm, fun S' f D fr hp2 nf hf hD hl h220 => ?_⟩
      exact hR _ _ ⟨f, D, hp2.le (by omega), hf, (hp.ne nf).symm, hD, fun z => by rw [z] at hl; simp at hl; omega, h220, rfl⟩
    clear hp
    obtain ⟨p, E, hp, hE, hpa, hX, hne, h220, rfl⟩ := k5
    have hlen := hX.len
    refine seq_cut (fun τ S' => ∃ (x : D) (i : Int), S' p = some (.lst (E.map eDd)) ∧ Spl S' x i ∧ τ = [some (.fl (sc.map DL.D.int)), some (.int (k : Int)), some (.ref a), some (.int (m : Int)), some (.ref p), some x, some (.int i), v7]) (fun τ S6 k6 => ?_) (fun R hR => ?_)
    rotate_left
    · walk_at "d"
      refine ⟨a, 1003, p, E, rfl, hp, by decide, hE, hpa, hX, hne, h220, fun S' g x i fr hp2 hg hs => ?_⟩
      walk_at "d"
      rw [hg]
      walk_at "d"
      exact hR _ _ ⟨x, i, fr _ _ hpa hE, hs, rfl⟩
    clear hp hE
    obtain ⟨x, i, hE, ⟨⟨z, hz⟩, hs⟩, rfl⟩ := k6
    refine seq_cut (fun τ S' => S' = S6 ∧ τ = [some (.fl (sc.map DL.D.int)), some (.int (k : Int)), some (.ref a), some (.int (m : Int)), some (.ref p), some x, some (.int i), some (.str z)]) (fun τ S7 k7 => ?_) (fun R hR => ?_)
    rotate_left
    · walk_at "d"
      exact ⟨z, hz, hR _ _ ⟨rfl, rfl⟩⟩
    obtain ⟨rfl, rfl⟩ := k7
    walk_at "d"
    rw [hE]
    walk_at "d"
    have hsp : Spl S7 x i := ⟨⟨z, hz⟩, hs⟩
    clear hs
    intro u1 nu1
    have su1 : DL.Sub S7 (ups S7 u1 (.lst (E.map eDd))) := DL.Sub.drop nu1
    first | replace hE := su1 _ _ hE | replace hE := hE.sub su1 | replace hE := hE.trans su1
    first | replace hsp := su1 _ _ hsp | replace hsp := hsp.sub su1 | replace hsp := hsp.trans su1
    first | replace hz := su1 _ _ hz | replace hz := hz.sub su1 | replace hz := hz.trans su1
    have e1 : ups S7 u1 (.lst (E.map eDd)) u1 = some (.lst (E.map eDd)) := ups_same
    generalize ups S7 u1 (.lst (E.map eDd)) = T1 at *
    refine ⟨u1, E, rfl, e1, hX, fun g ng => ?_⟩
    have eg : ups T1 g (.lst (E.map eDd)) g = some (.lst (E.map eDd)) := ups_same
    have sg : DL.Sub T1 (ups T1 g (.lst (E.map eDd))) := DL.Sub.drop ng
    first | replace hE := sg _ _ hE | replace hE := hE.sub sg | replace hE := hE.trans sg
    first | replace hsp := sg _ _ hsp | replace hsp := hsp.sub sg | replace hsp := hsp.trans sg
    first | replace hz := sg _ _ hz | replace hz := hz.sub sg | replace hz := hz.trans sg
    generalize ups T1 g (.lst (E.map eDd)) = T2 at *
    refine ne_self eg hE self_log ?_
    walk_at "d"
    refine ⟨x, rfl, ?_⟩
    have rest : ∀ T3, DL.Sub T2 T3 → (rRepr [x] T3 fun x_5 S1 =>
        DL.rNe x_5 (D.str z) S1 fun x_6 S1 =>
          match x_6 with
          | D.bl k_3 =>
            Cnd k_3 (∃ S0, DL.Sub S0 S1 ∧ Q (D.bl false) S0)
              (getO (S1 p) fun xs =>
                ∀ (p_2 : Addr),
                  S1 p_2 = none →
                    sp_log_of [D.ref p_2] (ups S1 p_2 (O.lst xs))
                      (fun x_7 S1 =>
                        DL.rNe x_7 (D.ref p) S1 fun x_8 S1 =>
                          match x_8 with
                          | D.bl k_4 =>
                            Cnd k_4 (∃ S0, DL.Sub S0 S1 ∧ Q (D.bl false) S0)
                              (∃ v1 v2 v3 v4 v5 v6 v7,
                                [some (D.fl (List.map D.int sc)), some (D.int ↑k), some (D.ref a),
                                    some (D.int ↑m), some (D.ref p), some x, some (D.int i),
                                    some (D.str z)] =
                                  [some (D.fl (List.map D.int sc)), v1, v2, v3, v4, v5, v6, v7])
                          | x => False)
                      fun x x_7 x_8 => False)
          | x => False) := fun T3 s3 => by
      refine ⟨z, hz.sub s3, ?_⟩
      have hE := s3 _ _ hE
      walk_at "d"
      rw [hE]
      walk_at "d"
      intro u2 nu2
      have su2 : DL.Sub T3 (ups T3 u2 (.lst (E.map eDd))) := DL.Sub.drop nu2
      first | replace hE := su2 _ _ hE | replace hE := hE.sub su2 | replace hE := hE.trans su2
      have e2 : ups T3 u2 (.lst (E.map eDd)) u2 = some (.lst (E.map eDd)) := ups_same
      generalize ups T3 u2 (.lst (E.map eDd)) = T4 at *
      refine ⟨u2, E, rfl, e2, hX, fun g2 ng2 => ?_⟩
      refine ne_self ups_same ((Sub.drop ng2) _ _ hE) self_log ?_
      walk_at "d"
      exact ⟨_, _, _, _, _, _, _, rfl⟩
    obtain ⟨_, hs⟩ := hsp
    rcases hs with ⟨p2, E2, y, ys, rfl, h1, h2, h3, h4, rfl⟩ | ⟨hT, rfl⟩
    · refine .inl ⟨p2, E2, y, ys, rfl, h1, h2, h3, h4, fun T3 s3 => ?_⟩
      walk_at "d"
      exact rest T3 s3
    · refine .inr ⟨hT, fun T3 s3 => ?_⟩
      walk_at "d"
      exact rest T3 s3
end
end Claim
open PySem PySem.W PySem.Calls PyProof.Rows
set_option maxHeartbeats 0 in
theorem PySem.Challenge.cw_leadtimes_k30_no_logs_holds : PySem.Challenge.rw_leadtimes_k30_no_logs.Holds := by
  w_on; o_law
  refine HandSHeadRun.head_any (r := PySem.W.OpenLaw.row PySem.Challenge.rw_leadtimes_k30_no_logs) (q := PySem.W.view HeadJ.R.prog [36]) (H := DL.hookP HeadJ.as HeadJ.ps) (ob := DL.obP HeadJ.as HeadJ.ps) (M := 2521) (loose := HeadJ.names) (d := HandSHeadRun.topDef HeadJ.R.prog 36) (kwd := []) DL.obP_eq (by kernel_rfl) (fun s => by kernel_rfl) (fun w => DL.runs_all (HeadJ.run w) ⟨HeadJ.part0 w, trivial⟩) (by kernel_rfl) (by kernel_rfl) (by kernel_rfl) (by rfl) (by first | assumption | decide +kernel) (by decide +kernel) ⟨rfl, rfl, rfl, rfl, rfl, by decide +kernel⟩ ?hw ?hc
  case hw => w_witness2
  case hc =>
    refine DL.walk_G (l := PySem.Challenge.rw_leadtimes_k30_no_logs) (n := 63) rfl (by decide) (by kernel_rfl) ?F
    intro w mg fa h Y G hmg0
    obtain ⟨K, KX, c⟩ := Y
    have c0 : DL.SaysJ HeadJ.p0.1 HeadJ.p0.2.1 HeadJ.p0.2.2 w K := DL.SaysP.at c 0
    have hmg : mg ("law" : PySem.Str) = some (.ref fa) := by
      have e : (HandSHeadRun.topDef HeadJ.R.prog 36).name = ("law" : PySem.Str) := by kernel_rfl
      rw [← e]
      exact hmg0
    have T : Claim.Txt K mg w := {
      b_ValueError := He.free_ok KX G (c0.b 0)
      b_abs := He.free_ok KX G (c0.b 1)
      b_bool := He.free_ok KX G (c0.b 2)
      b_enumerate := He.free_ok KX G (c0.b 3)
      b_int := He.free_ok KX G (c0.b 4)
      b_isinstance := He.free_ok KX G (c0.b 5)
      b_len := He.free_ok KX G (c0.b 6)
      b_list := He.free_ok KX G (c0.b 7)
      b_range := He.free_ok KX G (c0.b 8)
      b_repr := He.free_ok KX G (c0.b 9)
      b_str := He.free_ok KX G (c0.b 10)
      b_tuple := He.free_ok KX G (c0.b 11)
      q_MOST_BOTTOM := DL.con_intJ KX G (c0.b 12)
      q_MOST_DEEDS := DL.con_intJ KX G (c0.b 13)
      q_MOST_RUNNING := DL.con_intJ KX G (c0.b 14)
      q_MOST_TOP := DL.con_intJ KX G (c0.b 15)
      err := DL.errT_ok KX G (c0.b 16)
      lead := DL.leadJ KX G (c0.b 17)
      r_NoLog := DL.raisI_ok KX G (c0.b 18) (DL.met_atJ KX (c0.df 0) (c0.b 19) (fun _ _ _ _ _ _ us hl => match us, hl with | [_, _], _ => rfl))
      nf_NoLog := of_decide_eq_true (c0.b 20)
      fl_at := DL.fldE_ok (c0.b 21)
      tb_SIZES := DL.tabC_ok KX G (c0.b 22) (c0.tab 0)
      f_l_lowest := DL.fun_atJ KX G (c0.df 1) (c0.b 23) (fun _ _ _ _ _ _ us hl => match us, hl with | [_, _], _ => rfl)
      f_l_take := DL.fun_atJ KX G (c0.df 2) (c0.b 24) (fun _ _ _ _ _ _ us hl => match us, hl with | [_, _], _ => rfl)
      f_l_far := DL.fun_atJ KX G (c0.df 3) (c0.b 25) (fun _ _ _ _ _ _ us hl => match us, hl with | [_], _ => rfl)
      f_l_small := DL.fun_atJ KX G (c0.df 4) (c0.b 26) (fun _ _ _ _ _ _ us hl => match us, hl with | [_], _ => rfl)
      f_l_log := DL.fun_atJ KX G (c0.df 5) (c0.b 27) (fun _ _ _ _ _ _ us hl => match us, hl with | [_, _], _ => rfl)
      f_l_pen := DL.fun_atJ KX G (c0.df 6) (c0.b 28) (fun _ _ _ _ _ _ us hl => match us, hl with | [_, _], _ => rfl)
      f_is_less := DL.fun_atJ KX G (c0.df 7) (c0.b 29) (fun _ _ _ _ _ _ us hl => match us, hl with | [_, _], _ => rfl)
      f_fits := DL.fun_atJ KX G (c0.df 8) (c0.b 30) (fun _ _ _ _ _ _ us hl => match us, hl with | [_, _, _], _ => rfl)
      f_common := DL.fun_atJ KX G (c0.df 9) (c0.b 31) (fun _ _ _ _ _ _ us hl => match us, hl with | [_, _], _ => rfl)
      f_is_whole := DL.fun_atJ KX G (c0.df 10) (c0.b 32) (fun _ _ _ _ _ _ us hl => match us, hl with | [_], _ => rfl)
      f_is_number := DL.fun_atJ KX G (c0.df 11) (c0.b 33) (fun _ _ _ _ _ _ us hl => match us, hl with | [_], _ => rfl)
      f_is_small := DL.fun_atJ KX G (c0.df 12) (c0.b 34) (fun _ _ _ _ _ _ us hl => match us, hl with | [_], _ => rfl)
      f_is_deed := DL.fun_atJ KX G (c0.df 13) (c0.b 35) (fun _ _ _ _ _ _ us hl => match us, hl with | [_], _ => rfl)
      f_first_wrong := DL.fun_atJ KX G (c0.df 14) (c0.b 36) (fun _ _ _ _ _ _ us hl => match us, hl with | [_], _ => rfl)
      f_log_of := DL.fun_atJ KX G (c0.df 15) (c0.b 37) (fun _ _ _ _ _ _ us hl => match us, hl with | [_], _ => rfl)
      f_l_refused := DL.fun_atJ KX G (c0.df 16) (c0.b 38) (fun _ _ _ _ _ _ us hl => match us, hl with | [_], _ => rfl)
      f_l_no_number := DL.fun_atJ KX G (c0.df 17) (c0.b 39) (fun _ _ _ _ _ _ us hl => match us, hl with | [_], _ => rfl)
      f_l_bad := DL.fun_atJ KX G (c0.df 18) (c0.b 40) (fun _ _ _ _ _ _ us hl => match us, hl with | [_, _], _ => rfl)
      f_l_left := DL.fun_atJ KX G (c0.df 19) (c0.b 41) (fun _ _ _ _ _ _ us hl => match us, hl with | [_, _], _ => rfl)
      f_l_spoilt := DL.fun_atJ KX G (c0.df 20) (c0.b 42) (fun _ _ _ _ _ _ us hl => match us, hl with | [_, _], _ => rfl)
      f_law := DL.fun_atJ KX G (c0.df 21) (c0.b 43) (fun _ _ _ _ _ _ us hl => match us, hl with | [_], _ => rfl)
    }
    exact ⟨K, KX, DL.lawG_at (P := (PySem.Challenge.rw_leadtimes_k30_no_logs).prog) (w := w) T.f_law hmg (fun base f fd F => Claim.ok_law T F)⟩
