import PyProof.Rows.All
import Wide.All
import OpenK.AllK
import Wide.FinOn
import HandS.ForMost
import HandS.ForExc
import HandS.TupAny
import HandS.TupMul
import HandS.IsInst
import HandS.Style
import HandS.Defaults
import HandS.Zip
import HandS.Walk
import HandS.TryMany
import KE.GoesMore
import KE.GoesZip
import KE.GoesEnum
import HandS.HeadHook1
import HandS.Head0
import HandS.Head1
import HandS.Head2
import HandS.HeadEnd
import HandS.HeadHook2
import HandS.List
import HandS.Strs
import HandS.Sort
import KE.SortData
import KE.KDictZip
import PyProof.TupleOfStr
import HandS.TupLe
import HandS.TupSets
import HandS.SetFor
import HandS.Text
import KE.KStateDown
import Lean
import PySem.Challenge.RW_trackedcues_k72_shows_written_and_read
set_option Elab.async false
set_option linter.all false
set_option maxRecDepth 100000
/-! TC, part a: data by value, the data heap, the lifted judgements, first rules. -/
namespace TC
open PySem PySem.Spec L2

/-- a value by content: tuples by what they hold, all else that lives in the heap by its address -/
inductive D where
  | non | bl (b : Bool) | int (i : Int) | str (x : Str) | tup (xs : List D) | ref (a : Addr) | ty (n : String)
  /-- a list that nobody writes (the script) -/
  | rl (xs : List D)
  /-- a tuple that is known to the object and has no dict of its own; a tuple that may be a key -/
  | ft (xs : List D) | kt (xs : List D)

/-- a list that stands still: locked, or of the written part -/
def SqF (K : W.Frag) (H : Hp) (a : Addr) (xs : List V) : Prop :=
  (∃ o, H a = some (.frz o (.lst xs))) ∨
    ∃ (o : Obj) (its : Array Value) (n : Nat), K.lookup a = some o ∧ o.cls = .type "list" ∧ o.dict = none ∧ o.data = .seq its n ∧ its.size ≤ sizeLine ∧ Vals xs its.toList
theorem SqF.sq {K : W.Frag} {H : Hp} {a : Addr} {xs : List V} (h : SqF K H a xs) : SqL K H a xs := by
  rcases h with ⟨o, h⟩ | h
  · exact .inl (.inr ⟨o, h⟩)
  · exact .inr h

mutual
def Rep (K : W.Frag) (H : Hp) : D → V → Prop
  | .non, v => v = .non
  | .bl b, v => v = .bl b
  | .int i, v => v = .int i
  | .str x, v => v = .str x
  | .tup ds, v => ∃ a vs, v = .ref a ∧ Rd H a (.tup vs) ∧ Reps K H ds vs
  | .ft ds, v => ∃ a vs, v = .ref a ∧ (∃ o, H a = some (.frz o (.tup vs)) ∧ o.dict = none) ∧ Reps K H ds vs
  | .kt ds, v => ∃ a vs, v = .ref a ∧ H a = some (.tup vs) ∧ Reps K H ds vs
  | .ref a, v => v = .ref a
  | .ty n, v => v = .ty n
  | .rl ds, v => ∃ a vs, v = .ref a ∧ SqF K H a vs ∧ Reps K H ds vs
def Reps (K : W.Frag) (H : Hp) : List D → List V → Prop
  | [], vs => vs = []
  | d :: ds, vs => ∃ v r, vs = v :: r ∧ Rep K H d v ∧ Reps K H ds r
end

/-- what a data address holds -/
inductive DO where
  /-- a list that may be written -/
  | lst (xs : List D)
  /-- dicts: keys ints and texts; keys tuples of such -/
  | dK (kvs : List (Key × D)) | dT (kvs : List (List Key × D))
  /-- the same, read alone (while they are walked) -/
  | rdK (kvs : List (Key × D)) | rdT (kvs : List (List Key × D))
  /-- an instance -/
  | ins (C : Addr) (fs : List (Str × D))
  /-- any other thing as it lies -/
  | raw (o : HO)

abbrev DHp := Addr → Option DO
def updD (G : DHp) (a : Addr) (o : DO) : DHp := fun b => if b = a then some o else G b
theorem updD_same {G : DHp} {a : Addr} {o : DO} : updD G a o a = some o := by unfold updD; rw [if_pos rfl]
theorem updD_ne {G : DHp} {a b : Addr} {o : DO} (h : b ≠ a) : updD G a o b = G b := by unfold updD; rw [if_neg h]
theorem updD_updD {G : DHp} {a : Addr} {o u : DO} : updD (updD G a o) a u = updD G a u := by
  funext b; unfold updD; split <;> rfl

/-- pairs with data at the right, against pairs with values -/
def RepKV {κ : Type} (K : W.Frag) (H : Hp) : List (κ × D) → List (κ × V) → Prop
  | [], vs => vs = []
  | (k, d) :: ds, vs => ∃ v r, vs = (k, v) :: r ∧ Rep K H d v ∧ RepKV K H ds r

def plainO : HO → Prop
  | .tup _ => False
  | .frz _ (.tup _) => False
  | .frz _ (.lst _) => False
  | _ => True

def RepO (K : W.Frag) (H : Hp) (a : Addr) : DO → Prop
  | .lst ds => ∃ vs, H a = some (.lst vs) ∧ Reps K H ds vs
  | .dK kvs => ∃ vs, H a = some (.dK vs) ∧ RepKV K H kvs vs
  | .dT kvs => ∃ vs, H a = some (.dT vs) ∧ RepKV K H kvs vs
  | .rdK kvs => ∃ o vs, H a = some (.frz o (.dK vs)) ∧ RepKV K H kvs vs
  | .rdT kvs => ∃ o vs, H a = some (.frz o (.dT vs)) ∧ RepKV K H kvs vs
  | .ins C fs => ∃ dx vs, H a = some (.ins C dx vs) ∧ RepKV K H fs vs
  | .raw o => H a = some o ∧ plainO o

def HR (K : W.Frag) (G : DHp) (H : Hp) : Prop := ∀ a o, G a = some o → RepO K H a o

/-- a step: what is not told stays untold and as it is -/
structure Stp (G : DHp) (H : Hp) (G' : DHp) (H' : Hp) : Prop where
  keep : ∀ a o, G a = none → H a = some o → H' a = some o
  hid : ∀ a o, G a = none → H a = some o → G' a = none
  /-- what is locked stays -/
  frz : ∀ a o u, H a = some (.frz o u) → H' a = some (.frz o u)

theorem Stp.refl {G : DHp} {H : Hp} : Stp G H G H := ⟨fun _ _ _ h => h, fun _ _ h _ => h, fun _ _ _ h => h⟩
theorem Stp.trans {G G1 G2 : DHp} {H H1 H2 : Hp} (a : Stp G H G1 H1) (b : Stp G1 H1 G2 H2) : Stp G H G2 H2 :=
  ⟨fun x o g h => b.keep x o (a.hid x o g h) (a.keep x o g h), fun x o g h => b.hid x o (a.hid x o g h) (a.keep x o g h), fun x o u h => b.frz x o u (a.frz x o u h)⟩

section
variable {K : W.Frag} {G G' G1 G2 : DHp} {H H' H1 H2 : Hp} {a p : Addr} {o : DO}

theorem HR.notTup (r : HR K G H) {xs : List V} (h : H a = some (.tup xs)) : G a = none := by
  cases e : G a with
  | none => rfl
  | some o =>
    exfalso
    have q := r a o e
    cases o with
    | lst ds => obtain ⟨vs, h1, _⟩ := q; rw [h] at h1; cases h1
    | dK _ => obtain ⟨vs, h1, _⟩ := q; rw [h] at h1; cases h1
    | dT _ => obtain ⟨vs, h1, _⟩ := q; rw [h] at h1; cases h1
    | rdK _ => obtain ⟨_, vs, h1, _⟩ := q; rw [h] at h1; cases h1
    | rdT _ => obtain ⟨_, vs, h1, _⟩ := q; rw [h] at h1; cases h1
    | ins _ _ => obtain ⟨_, vs, h1, _⟩ := q; rw [h] at h1; cases h1
    | raw u => obtain ⟨h1, h2⟩ := q; rw [h] at h1; cases h1; exact h2
theorem HR.notFrz (r : HR K G H) {ob : Obj} {u : HO} (h : H a = some (.frz ob u)) (hu : (∃ xs, u = .tup xs) ∨ ∃ xs, u = .lst xs) : G a = none := by
  cases e : G a with
  | none => rfl
  | some o =>
    exfalso
    have q := r a o e
    cases o with
    | lst ds => obtain ⟨vs, h1, _⟩ := q; rw [h] at h1; cases h1
    | dK _ => obtain ⟨vs, h1, _⟩ := q; rw [h] at h1; cases h1
    | dT _ => obtain ⟨vs, h1, _⟩ := q; rw [h] at h1; cases h1
    | rdK _ => obtain ⟨_, vs, h1, _⟩ := q; rw [h] at h1; cases h1; rcases hu with ⟨_, e⟩ | ⟨_, e⟩ <;> cases e
    | rdT _ => obtain ⟨_, vs, h1, _⟩ := q; rw [h] at h1; cases h1; rcases hu with ⟨_, e⟩ | ⟨_, e⟩ <;> cases e
    | ins _ _ => obtain ⟨_, vs, h1, _⟩ := q; rw [h] at h1; cases h1
    | raw u => obtain ⟨h1, h2⟩ := q; rw [h] at h1; cases h1; rcases hu with ⟨_, rfl⟩ | ⟨_, rfl⟩ <;> exact h2
/-- tuples stay -/
theorem Stp.tup (s : Stp G H G' H') (r : HR K G H) {xs : List V} (h : H a = some (.tup xs)) : H' a = some (.tup xs) := s.keep a _ (r.notTup h) h
theorem Stp.fl (s : Stp G H G' H') (r : HR K G H) {xs : List V} (h : SqF K H a xs) : SqF K H' a xs := by
  rcases h with ⟨ob, h⟩ | h
  · exact .inl ⟨ob, s.keep a _ (r.notFrz h (.inr ⟨_, rfl⟩)) h⟩
  · exact .inr h
/-- what content leans on stays -/
structure Mn (K : W.Frag) (H H' : Hp) : Prop where
  tup : ∀ a xs, H a = some (.tup xs) → H' a = some (.tup xs)
  fl : ∀ a xs, SqF K H a xs → SqF K H' a xs
  fz : ∀ a o xs, H a = some (.frz o (.tup xs)) → H' a = some (.frz o (.tup xs))
theorem Mn.refl : Mn K H H := ⟨fun _ _ h => h, fun _ _ h => h, fun _ _ _ h => h⟩
theorem Mn.trans {H1 H2 : Hp} (a : Mn K H H1) (b : Mn K H1 H2) : Mn K H H2 := ⟨fun x xs h => b.tup x xs (a.tup x xs h), fun x xs h => b.fl x xs (a.fl x xs h), fun x o xs h => b.fz x o xs (a.fz x o xs h)⟩
theorem Stp.mn (s : Stp G H G' H') (r : HR K G H) : Mn K H H' := ⟨fun _ _ h => s.tup r h, fun _ _ h => s.fl r h, fun a o xs h => s.keep a _ (r.notFrz h (.inl ⟨_, rfl⟩)) h⟩
theorem Mn.rd (m : Mn K H H') {xs : List V} (h : Rd H a (.tup xs)) : Rd H' a (.tup xs) := h.elim (fun h => .inl (m.tup a xs h)) fun ⟨o, h⟩ => .inr ⟨o, m.fz a o xs h⟩
theorem Stp.rd (s : Stp G H G' H') (r : HR K G H) {xs : List V} (h : Rd H a (.tup xs)) : Rd H' a (.tup xs) := (s.mn r).rd h

mutual
theorem Rep.mono (m : Mn K H H') : ∀ {d : D} {v : V}, Rep K H d v → Rep K H' d v
  | .non, _, h => h
  | .bl _, _, h => h
  | .int _, _, h => h
  | .str _, _, h => h
  | .ref _, _, h => h
  | .ty _, _, h => h
  | .tup ds, v, h => by
    obtain ⟨a, vs, e, s, r⟩ := h
    exact ⟨a, vs, e, m.rd s, Reps.mono m r⟩
  | .ft ds, v, h => by
    obtain ⟨a, vs, e, ⟨o, s, q⟩, r⟩ := h
    exact ⟨a, vs, e, ⟨o, m.fz a o vs s, q⟩, Reps.mono m r⟩
  | .kt ds, v, h => by
    obtain ⟨a, vs, e, s, r⟩ := h
    exact ⟨a, vs, e, m.tup a vs s, Reps.mono m r⟩
  | .rl ds, v, h => by
    obtain ⟨a, vs, e, s, r⟩ := h
    exact ⟨a, vs, e, m.fl a vs s, Reps.mono m r⟩
theorem Reps.mono (m : Mn K H H') : ∀ {ds : List D} {vs : List V}, Reps K H ds vs → Reps K H' ds vs
  | [], _, h => h
  | d :: ds, vs, h => by
    obtain ⟨v, r, e, h1, h2⟩ := h
    exact ⟨v, r, e, Rep.mono m h1, Reps.mono m h2⟩
end
theorem RepKV.mono {κ : Type} (m : Mn K H H') : ∀ {ds : List (κ × D)} {vs : List (κ × V)}, RepKV K H ds vs → RepKV K H' ds vs
  | [], _, h => h
  | (k, d) :: ds, vs, h => by
    obtain ⟨v, r, e, h1, h2⟩ := h
    exact ⟨v, r, e, Rep.mono m h1, RepKV.mono m h2⟩
theorem Reps.length : ∀ {ds : List D} {vs : List V}, Reps K H ds vs → ds.length = vs.length
  | [], _, h => by cases h; rfl
  | d :: ds, vs, h => by
    obtain ⟨v, r, e, _, h2⟩ := h
    subst e
    simp [Reps.length h2]
theorem Reps.append : ∀ {ds es : List D} {vs ws : List V}, Reps K H ds vs → Reps K H es ws → Reps K H (ds ++ es) (vs ++ ws)
  | [], _, _, _, h, h' => by cases h; exact h'
  | d :: ds, es, vs, ws, h, h' => by
    obtain ⟨v, r, e, h1, h2⟩ := h
    subst e
    exact ⟨v, r ++ ws, rfl, h1, Reps.append h2 h'⟩
theorem Reps.get : ∀ {ds : List D} {vs : List V} {i : Nat} {d : D}, Reps K H ds vs → ds[i]? = some d → ∃ v, vs[i]? = some v ∧ Rep K H d v
  | [], _, _, _, _, e => by simp at e
  | d :: ds, vs, 0, x, h, e => by
    obtain ⟨v, r, e1, h1, _⟩ := h
    subst e1
    simp at e; subst e
    exact ⟨v, rfl, h1⟩
  | d :: ds, vs, i + 1, x, h, e => by
    obtain ⟨v, r, e1, _, h2⟩ := h
    subst e1
    obtain ⟨u, q1, q2⟩ := Reps.get (i := i) (d := x) h2 (by simpa using e)
    exact ⟨u, by simpa using q1, q2⟩
theorem Reps.getV : ∀ {ds : List D} {vs : List V} {i : Nat} {v : V}, Reps K H ds vs → vs[i]? = some v → ∃ d, ds[i]? = some d ∧ Rep K H d v := fun {ds vs i v} h e => by
  have hl := h.length
  have hi : i < ds.length := by rw [hl]; exact (List.getElem?_eq_some_iff.mp e).1
  have e2 : ds[i]? = some ds[i] := List.getElem?_eq_getElem hi
  obtain ⟨u, q1, q2⟩ := h.get e2
  rw [e] at q1; cases q1
  exact ⟨_, e2, q2⟩
theorem Reps.take : ∀ {ds : List D} {vs : List V} (n : Nat), Reps K H ds vs → Reps K H (ds.take n) (vs.take n)
  | _, _, 0, _ => by simp [Reps]
  | [], _, _ + 1, h => by cases h; simp [Reps]
  | d :: ds, vs, n + 1, h => by
    obtain ⟨v, r, e, h1, h2⟩ := h
    subst e
    exact ⟨v, r.take n, by simp, h1, Reps.take n h2⟩
theorem Reps.drop : ∀ {ds : List D} {vs : List V} (n : Nat), Reps K H ds vs → Reps K H (ds.drop n) (vs.drop n)
  | _, _, 0, h => by simpa using h
  | [], _, _ + 1, h => by cases h; simp [Reps]
  | d :: ds, vs, n + 1, h => by
    obtain ⟨v, r, e, h1, h2⟩ := h
    subst e
    simpa using Reps.drop n h2
theorem Reps.one {d : D} {v : V} (h : Rep K H d v) : Reps K H [d] [v] := ⟨v, [], rfl, h, rfl⟩
theorem Reps.set {d : D} {v : V} (h : Rep K H d v) : ∀ {ds : List D} {vs : List V} (i : Nat), Reps K H ds vs → Reps K H (ds.set i d) (vs.set i v)
  | [], _, _, q => by cases q; simp [Reps]
  | _ :: ds, vs, 0, q => by
    obtain ⟨_, r, e, _, h2⟩ := q
    subst e
    exact ⟨v, r, rfl, h, h2⟩
  | _ :: ds, vs, i + 1, q => by
    obtain ⟨u, r, e, h1, h2⟩ := q
    subst e
    exact ⟨u, r.set i v, rfl, h1, Reps.set h i h2⟩
theorem Reps.ints : ∀ {ns : List Int} {vs : List V}, Reps K H (ns.map D.int) vs → vs = ns.map V.int
  | [], _, h => h
  | n :: ns, vs, h => by
    obtain ⟨v, r, e, h1, h2⟩ := h
    cases h1
    rw [e, Reps.ints h2]; rfl
theorem Reps.ofInts : ∀ {ns : List Int}, Reps K H (ns.map D.int) (ns.map V.int)
  | [] => rfl
  | n :: ns => ⟨_, _, rfl, rfl, Reps.ofInts⟩
theorem Reps.strs : ∀ {ns : List Str} {vs : List V}, Reps K H (ns.map D.str) vs → vs = ns.map V.str
  | [], _, h => h
  | n :: ns, vs, h => by
    obtain ⟨v, r, e, h1, h2⟩ := h
    cases h1
    rw [e, Reps.strs h2]; rfl
theorem Reps.ofStrs : ∀ {ns : List Str}, Reps K H (ns.map D.str) (ns.map V.str)
  | [] => rfl
  | n :: ns => ⟨_, _, rfl, rfl, Reps.ofStrs⟩
theorem Reps.bls : ∀ {ns : List Bool} {vs : List V}, Reps K H (ns.map D.bl) vs → vs = ns.map V.bl
  | [], _, h => h
  | n :: ns, vs, h => by
    obtain ⟨v, r, e, h1, h2⟩ := h
    cases h1
    rw [e, Reps.bls h2]; rfl
theorem Reps.ofBls : ∀ {ns : List Bool}, Reps K H (ns.map D.bl) (ns.map V.bl)
  | [] => rfl
  | n :: ns => ⟨_, _, rfl, rfl, Reps.ofBls⟩

/-- what is told goes over to a heap in which its object is the same and tuples stay -/
theorem RepO.mono (m : Mn K H H') (e : H' a = H a) : ∀ {o : DO}, RepO K H a o → RepO K H' a o
  | .lst _, ⟨vs, h1, h2⟩ => ⟨vs, by rw [e]; exact h1, h2.mono m⟩
  | .dK _, ⟨vs, h1, h2⟩ => ⟨vs, by rw [e]; exact h1, h2.mono m⟩
  | .dT _, ⟨vs, h1, h2⟩ => ⟨vs, by rw [e]; exact h1, h2.mono m⟩
  | .rdK _, ⟨o, vs, h1, h2⟩ => ⟨o, vs, by rw [e]; exact h1, h2.mono m⟩
  | .rdT _, ⟨o, vs, h1, h2⟩ => ⟨o, vs, by rw [e]; exact h1, h2.mono m⟩
  | .ins _ _, ⟨dx, vs, h1, h2⟩ => ⟨dx, vs, by rw [e]; exact h1, h2.mono m⟩
  | .raw _, ⟨h1, h2⟩ => ⟨by rw [e]; exact h1, h2⟩

theorem mn_upd {x : HO} (hn : H p = none) : Mn K H (upd H p x) := ⟨fun a xs h => by rw [upd_ne (ne_of_none h hn)]; exact h, fun a xs h => by
  rcases h with ⟨ob, h⟩ | h
  · exact .inl ⟨ob, by rw [upd_ne (ne_of_none h hn)]; exact h⟩
  · exact .inr h, fun a o xs h => by rw [upd_ne (ne_of_none h hn)]; exact h⟩
theorem RepO.there {o : DO} (q : RepO K H p o) : ∃ u, H p = some u := by
  cases o with
  | lst ds => obtain ⟨vs, h1, _⟩ := q; exact ⟨_, h1⟩
  | dK _ => obtain ⟨vs, h1, _⟩ := q; exact ⟨_, h1⟩
  | dT _ => obtain ⟨vs, h1, _⟩ := q; exact ⟨_, h1⟩
  | rdK _ => obtain ⟨_, vs, h1, _⟩ := q; exact ⟨_, h1⟩
  | rdT _ => obtain ⟨_, vs, h1, _⟩ := q; exact ⟨_, h1⟩
  | ins _ _ => obtain ⟨_, vs, h1, _⟩ := q; exact ⟨_, h1⟩
  | raw u => obtain ⟨h1, _⟩ := q; exact ⟨_, h1⟩
/-- G at a free place -/
theorem HR.free (r : HR K G H) (hn : H p = none) : G p = none := by
  cases e : G p with
  | none => rfl
  | some o =>
    obtain ⟨u, h⟩ := (r p o e).there
    rw [hn] at h; cases h
theorem HR.ne (r : HR K G H) (hn : H p = none) (e : G a = some o) : a ≠ p := by
  rintro rfl
  rw [r.free hn] at e; cases e
/-- a new tracked thing that is told -/
theorem HR.new (r : HR K G H) (hn : H p = none) {x : HO} (q : RepO K (upd H p x) p o) : HR K (updD G p o) (upd H p x) := fun a u e => by
  by_cases h : a = p
  · subst h; rw [updD_same] at e; cases e; exact q
  · rw [updD_ne h] at e
    exact (r a u e).mono (mn_upd hn) (upd_ne h)
theorem Stp.new (r : HR K G H) (hn : H p = none) {x : HO} : Stp G H (updD G p o) (upd H p x) :=
  ⟨fun a u g h => by rw [upd_ne (ne_of_none h hn)]; exact h, fun a u g h => by rw [updD_ne (ne_of_none h hn)]; exact g, fun a u w h => by rw [upd_ne (ne_of_none h hn)]; exact h⟩
/-- a new thing that isn't told -/
theorem HR.newU (r : HR K G H) (hn : H p = none) {x : HO} : HR K G (upd H p x) := fun a u e => (r a u e).mono (mn_upd hn) (upd_ne (r.ne hn e))
theorem Stp.newU (hn : H p = none) {x : HO} : Stp G H G (upd H p x) := ⟨fun a u g h => by rw [upd_ne (ne_of_none h hn)]; exact h, fun a u g h => g, fun a u w h => by rw [upd_ne (ne_of_none h hn)]; exact h⟩
/-- a told thing is written -/
theorem mn_write {x : HO} (r : HR K G H) (e : G p = some o) : Mn K H (upd H p x) := by
  have ne : ∀ a, G a = none → a ≠ p := fun a g z => by subst z; rw [g] at e; cases e
  refine ⟨fun a xs h => ?_, fun a xs h => ?_, fun a o xs h => by rw [upd_ne (ne a (r.notFrz h (.inl ⟨_, rfl⟩)))]; exact h⟩
  · rw [upd_ne (ne a (r.notTup h))]; exact h
  · rcases h with ⟨ob, h⟩ | h
    · exact .inl ⟨ob, by rw [upd_ne (ne a (r.notFrz h (.inr ⟨_, rfl⟩)))]; exact h⟩
    · exact .inr h
theorem HR.write {x : HO} {u : DO} (r : HR K G H) (e : G p = some o) (q : RepO K (upd H p x) p u) : HR K (updD G p u) (upd H p x) := fun a v ea => by
  by_cases h : a = p
  · subst h; rw [updD_same] at ea; cases ea; exact q
  · rw [updD_ne h] at ea
    exact (r a v ea).mono (mn_write r e) (upd_ne h)
theorem Stp.write {x : HO} {u : DO} (e : G p = some o) {y : HO} (ey : H p = some y) (nf : ∀ q z, y ≠ .frz q z := by intro q z h; cases h) : Stp G H (updD G p u) (upd H p x) := by
  have ne : ∀ a, G a = none → a ≠ p := fun a g z => by subst z; rw [g] at e; cases e
  refine ⟨fun a v g h => by rw [upd_ne (ne a g)]; exact h, fun a v g h => by rw [updD_ne (ne a g)]; exact g, fun a v w h => ?_⟩
  have : a ≠ p := fun z => by subst z; rw [h] at ey; cases ey; exact nf _ _ rfl
  rw [upd_ne this]; exact h
end

/-! ### the lifted judgements -/
abbrev Ro := List (Option D)
/-- slots -/
structure SlD (K : W.Frag) (H : Hp) (ρ : Ro) (σ : St) : Prop where
  len : ρ.length = σ.length
  at_ : ∀ (i : Nat) (d : D), ρ[i]? = some (some d) → ∃ v, σ[i]? = some (some v) ∧ Rep K H d v
theorem SlD.mono {K : W.Frag} {H H' : Hp} {ρ : Ro} {σ : St} (m : Mn K H H') (s : SlD K H ρ σ) : SlD K H' ρ σ := ⟨s.len, fun i d e => let ⟨v, h, r⟩ := s.at_ i d e; ⟨v, h, r.mono m⟩⟩
theorem SlD.set {K : W.Frag} {H : Hp} {ρ : Ro} {σ : St} (s : SlD K H ρ σ) (i : Nat) {d : D} {v : V} (r : Rep K H d v) : SlD K H (ρ.set i (some d)) (σ.set i (some v)) := ⟨by simp [s.len], fun j e h => by
  by_cases q : i = j
  · subst q
    by_cases hi : i < ρ.length
    · rw [List.getElem?_set_self hi] at h
      cases h
      exact ⟨v, by rw [List.getElem?_set_self (by rw [← s.len]; exact hi)], r⟩
    · rw [List.getElem?_eq_none (by simp; omega)] at h; cases h
  · rw [List.getElem?_set_ne q] at h
    rw [List.getElem?_set_ne q]
    exact s.at_ j e h⟩

/-- where one stands: slots, heap, what has happened since the def's entry -/
structure Pt (K : W.Frag) (G0 : DHp) (H0 : Hp) (ρ : Ro) (G : DHp) (σ : St) (H : Hp) : Prop where
  sl : SlD K H ρ σ
  hr : HR K G H
  st : Stp G0 H0 G H
theorem Pt.go {K : W.Frag} {G0 G G' : DHp} {H0 H H' : Hp} {ρ : Ro} {σ : St} (p : Pt K G0 H0 ρ G σ H) (r : HR K G' H') (s : Stp G H G' H') : Pt K G0 H0 ρ G' σ H' := ⟨p.sl.mono (s.mn p.hr), r, p.st.trans s⟩
theorem Pt.mn {K : W.Frag} {G0 G G' : DHp} {H0 H H' : Hp} {ρ : Ro} {σ : St} (p : Pt K G0 H0 ρ G σ H) (s : Stp G H G' H') : Mn K H H' := s.mn p.hr
theorem Pt.set {K : W.Frag} {G0 G : DHp} {H0 H : Hp} {ρ : Ro} {σ : St} (p : Pt K G0 H0 ρ G σ H) (i : Nat) {d : D} {v : V} (r : Rep K H d v) : Pt K G0 H0 (ρ.set i (some d)) G (σ.set i (some v)) H := ⟨p.sl.set i r, p.hr, p.st⟩

abbrev DK := D → DHp → Prop
abbrev WE := Ro → DHp → DK → Prop
abbrev WT := Ro → DHp → (Bool → DHp → Prop) → Prop
abbrev WA := Ro → DHp → (List D → DHp → Prop) → Prop
structure DEnds where
  nx : Ro → DHp → Prop
  rt : DK
  bk : Ro → DHp → Prop := fun _ _ => False
  ct : Ro → DHp → Prop := fun _ _ => False
abbrev WS := DEnds → Ro → DHp → Prop
abbrev WG := D → Ro → DHp → (Ro → DHp → Prop) → Prop
abbrev WGs := List D → Ro → DHp → (Ro → DHp → Prop) → Prop

def LfE (K : W.Frag) (G0 : DHp) (H0 : Hp) (w : WE) : TE := fun σ H Q => ∃ ρ G QD, Pt K G0 H0 ρ G σ H ∧ w ρ G QD ∧ ∀ d G' v H', HR K G' H' → Rep K H' d v → Stp G H G' H' → QD d G' → Q v H'
def LfT (K : W.Frag) (G0 : DHp) (H0 : Hp) (w : WT) : TT := fun σ H Q => ∃ ρ G QD, Pt K G0 H0 ρ G σ H ∧ w ρ G QD ∧ ∀ b G' H', HR K G' H' → Stp G H G' H' → QD b G' → Q b H'
def LfA (K : W.Frag) (G0 : DHp) (H0 : Hp) (w : WA) : TA := fun σ H Q => ∃ ρ G QD, Pt K G0 H0 ρ G σ H ∧ w ρ G QD ∧ ∀ ds G' vs H', HR K G' H' → Reps K H' ds vs → Stp G H G' H' → QD ds G' → Q vs H'
structure LEnds (K : W.Frag) (G0 : DHp) (H0 : Hp) (G : DHp) (H : Hp) (F : DEnds) (E : Ends) : Prop where
  nx : ∀ ρ' G' σ' H', Pt K G0 H0 ρ' G' σ' H' → Stp G H G' H' → F.nx ρ' G' → E.nx σ' H'
  rt : ∀ d G' v H', HR K G' H' → Rep K H' d v → Stp G H G' H' → F.rt d G' → E.rt v H'
  bk : ∀ ρ' G' σ' H', Pt K G0 H0 ρ' G' σ' H' → Stp G H G' H' → F.bk ρ' G' → E.bk σ' H'
  ct : ∀ ρ' G' σ' H', Pt K G0 H0 ρ' G' σ' H' → Stp G H G' H' → F.ct ρ' G' → E.ct σ' H'
def LfS (K : W.Frag) (G0 : DHp) (H0 : Hp) (w : WS) : TS := fun E σ H => ∃ ρ G F, Pt K G0 H0 ρ G σ H ∧ w F ρ G ∧ LEnds K G0 H0 G H F E
def LfG (K : W.Frag) (G0 : DHp) (H0 : Hp) (w : WG) : TG := fun v σ H Q => ∃ d ρ G QD, Pt K G0 H0 ρ G σ H ∧ Rep K H d v ∧ w d ρ G QD ∧ ∀ ρ' G' σ' H', Pt K G0 H0 ρ' G' σ' H' → Stp G H G' H' → QD ρ' G' → Q σ' H'
def LfGs (K : W.Frag) (G0 : DHp) (H0 : Hp) (w : WGs) : TGs := fun vs σ H Q => ∃ ds ρ G QD, Pt K G0 H0 ρ G σ H ∧ Reps K H ds vs ∧ w ds ρ G QD ∧ ∀ ρ' G' σ' H', Pt K G0 H0 ρ' G' σ' H' → Stp G H G' H' → QD ρ' G' → Q σ' H'
theorem LEnds.go {K : W.Frag} {G0 G G' : DHp} {H0 H H' : Hp} {F : DEnds} {E : Ends} (l : LEnds K G0 H0 G H F E) (s : Stp G H G' H') : LEnds K G0 H0 G' H' F E :=
  ⟨fun a b c d p s' => l.nx a b c d p (s.trans s'), fun a b c d p q s' => l.rt a b c d p q (s.trans s'), fun a b c d p s' => l.bk a b c d p (s.trans s'), fun a b c d p s' => l.ct a b c d p (s.trans s')⟩

abbrev DE (X : Cx) (G0 : DHp) (H0 : Hp) (e : Expr) (w : WE) : Prop := PE X e (LfE X.K G0 H0 w)
abbrev DT (X : Cx) (G0 : DHp) (H0 : Hp) (e : Expr) (w : WT) : Prop := PT X e (LfT X.K G0 H0 w)
abbrev DW (X : Cx) (G0 : DHp) (H0 : Hp) (e : Expr) (w : WT) : Prop := PW X e (LfT X.K G0 H0 w)
abbrev DA (X : Cx) (G0 : DHp) (H0 : Hp) (es : List Expr) (w : WA) : Prop := PA X es (LfA X.K G0 H0 w)
abbrev DS (X : Cx) (G0 : DHp) (H0 : Hp) (st : Stmt) (w : WS) : Prop := PS X st (LfS X.K G0 H0 w)
abbrev DSs (X : Cx) (G0 : DHp) (H0 : Hp) (st : List Stmt) (w : WS) : Prop := PSs X st (LfS X.K G0 H0 w)
abbrev DG (X : Cx) (G0 : DHp) (H0 : Hp) (e : Expr) (w : WG) : Prop := PG X e (LfG X.K G0 H0 w)
abbrev DGs (X : Cx) (G0 : DHp) (H0 : Hp) (es : List Expr) (w : WGs) : Prop := PGs X es (LfGs X.K G0 H0 w)

section
variable {X : Cx}
theorem PE.to {e : Expr} {t t' : TE} (h : PE X e t) (i : ∀ σ H Q, t' σ H Q → t σ H Q) : PE X e t' := ⟨fun pins s σ H Q I q => h.run pins s σ H Q I (i _ _ _ q)⟩
theorem PT.to {e : Expr} {t t' : TT} (h : PT X e t) (i : ∀ σ H Q, t' σ H Q → t σ H Q) : PT X e t' := ⟨fun pins s σ H Q I q => h.run pins s σ H Q I (i _ _ _ q)⟩
theorem PW.to {e : Expr} {t t' : TT} (h : PW X e t) (i : ∀ σ H Q, t' σ H Q → t σ H Q) : PW X e t' := ⟨fun w pins s σ H Q I q => h.run w pins s σ H Q I (i _ _ _ q)⟩
theorem PA.to {es : List Expr} {t t' : TA} (h : PA X es t) (i : ∀ σ H Q, t' σ H Q → t σ H Q) : PA X es t' := ⟨fun p pins s σ H Q I q => h.run p pins s σ H Q I (i _ _ _ q)⟩
theorem PS.to {st : Stmt} {t t' : TS} (h : PS X st t) (i : ∀ D σ H, t' D σ H → t D σ H) : PS X st t' := ⟨fun pins s σ H D I q => h.run pins s σ H D I (i _ _ _ q)⟩
theorem PSs.to {st : List Stmt} {t t' : TS} (h : PSs X st t) (i : ∀ D σ H, t' D σ H → t D σ H) : PSs X st t' := ⟨fun pins s σ H D I q => h.run pins s σ H D I (i _ _ _ q)⟩
theorem PG.to {e : Expr} {t t' : TG} (h : PG X e t) (i : ∀ v σ H Q, t' v σ H Q → t v σ H Q) : PG X e t' := ⟨fun pins s σ H v u Q I r q => h.run pins s σ H v u Q I r (i _ _ _ _ q)⟩
theorem PGs.to {es : List Expr} {t t' : TGs} (h : PGs X es t) (i : ∀ v σ H Q, t' v σ H Q → t v σ H Q) : PGs X es t' := ⟨fun pins s σ H v u Q I r q => h.run pins s σ H v u Q I r (i _ _ _ _ q)⟩
end
end TC
set_option maxRecDepth 100000
/-! TC, part b: expressions. -/
namespace TC
open PySem PySem.Spec L2

section
variable {X : Cx} {G0 : DHp} {H0 : Hp} {pos : Pos}

/-! ### names, constants -/
@[simp] def wVar (i : Nat) : WE := fun ρ G Q => match ρ[i]? with
  | some (some d) => Q d G
  | _ => False
@[simp] def wC (d : D) : WE := fun _ G Q => Q d G
theorem de_var {i : Nat} {x : Str} (hN : X.N[i]? = some x) (hv : Vis X.env.scope x) (hd : (x == ("__debug__" : Str)) = false := by decide) (hcd : (x == ("__classdict__" : Str)) = false := by decide) : DE X G0 H0 (.Name x pos) (wVar i) :=
  PE.to (pe_var hN hv hd hcd) fun σ H Q ⟨ρ, G, QD, pt, w, k⟩ => by
    unfold wVar at w
    split at w
    · rename_i d e
      obtain ⟨v, e2, r⟩ := pt.sl.at_ i d e
      exact ⟨v, e2, k d G v H pt.hr r .refl w⟩
    · exact w.elim
theorem de_c {e : Expr} {v : V} {d : D} (h : PE X e (tC v)) (r : ∀ H, Rep X.K H d v) : DE X G0 H0 e (wC d) :=
  PE.to h fun σ H Q ⟨ρ, G, QD, pt, w, k⟩ => k d G v H pt.hr (r H) .refl w
theorem de_int {i j} : DE X G0 H0 (.Constant (.int i) j pos) (wC (.int i)) := de_c pe_int fun _ => rfl
theorem de_bl {b j} : DE X G0 H0 (.Constant (.bool b) j pos) (wC (.bl b)) := de_c pe_bl fun _ => rfl
theorem de_non {j} : DE X G0 H0 (.Constant .none j pos) (wC .non) := de_c pe_non fun _ => rfl
theorem de_str {x j} : DE X G0 H0 (.Constant (.str x) j pos) (wC (.str x)) := de_c pe_str fun _ => rfl
theorem de_glob {x : Str} {v : V} {d : D} {u : Value} (hg : Gl X x) (hm : X.mg x = some u) (r : RelV v u) (q : ∀ H, Rep X.K H d v) (hd : (x == ("__debug__" : Str)) = false := by decide) : DE X G0 H0 (.Name x pos) (wC d) := de_c (pe_glob hg hm r hd) q
theorem de_bltn {x : Str} {v : V} {d : D} {u : Value} (hg : Gl X x) (hm : X.mg x = none) (hv : bootBuiltins x = some u) (r : RelV v u) (q : ∀ H, Rep X.K H d v) (hn : x ≠ "__name__" := by decide) (hd : (x == ("__debug__" : Str)) = false := by decide) : DE X G0 H0 (.Name x pos) (wC d) := de_c (pe_bltn hg hm hv r hn hd) q

/-! ### operators by values -/
abbrev WR1 := D → DHp → DK → Prop
abbrev WR2 := D → D → DHp → DK → Prop
abbrev WRA := List D → DHp → DK → Prop
def OpD (K : W.Frag) (r : R2) (f : WR2) : Prop := ∀ (x y : D) (v u : V) (G : DHp) (H : Hp) (Q : VK) (QD : DK), HR K G H → Rep K H x v → Rep K H y u → f x y G QD →
  (∀ d G' v' H', HR K G' H' → Rep K H' d v' → Stp G H G' H' → QD d G' → Q v' H') → r v u H Q
def UnD (K : W.Frag) (r : V → Hp → VK → Prop) (f : WR1) : Prop := ∀ (x : D) (v : V) (G : DHp) (H : Hp) (Q : VK) (QD : DK), HR K G H → Rep K H x v → f x G QD →
  (∀ d G' v' H', HR K G' H' → Rep K H' d v' → Stp G H G' H' → QD d G' → Q v' H') → r v H Q
def CaD (K : W.Frag) (r : List V → Hp → VK → Prop) (f : WRA) : Prop := ∀ (xs : List D) (vs : List V) (G : DHp) (H : Hp) (Q : VK) (QD : DK), HR K G H → Reps K H xs vs → f xs G QD →
  (∀ d G' v' H', HR K G' H' → Rep K H' d v' → Stp G H G' H' → QD d G' → Q v' H') → r vs H Q
@[simp] def wOp (f : WR2) (a b : WE) : WE := fun ρ G Q => a ρ G fun x G1 => b ρ G1 fun y G2 => f x y G2 Q
@[simp] def wUn (f : WR1) (a : WE) : WE := fun ρ G Q => a ρ G fun x G1 => f x G1 Q
variable {a b c : Expr} {wa wb wc : WE}
/-- two expressions, then what their values ask -/
theorem lf_two {K : W.Frag} {r : R2} {f : WR2} (o : OpD K r f) {σ : St} {H : Hp} {Q : VK} (h : LfE K G0 H0 (wOp f wa wb) σ H Q) : tOp r (LfE K G0 H0 wa) (LfE K G0 H0 wb) σ H Q := by
  obtain ⟨ρ, G, QD, pt, w, k⟩ := h
  refine ⟨ρ, G, _, pt, w, fun x G1 v H1 h1 r1 s1 w1 => ?_⟩
  refine ⟨ρ, G1, _, pt.go h1 s1, w1, fun y G2 u H2 h2 r2 s2 w2 => ?_⟩
  exact o x y v u G2 H2 Q QD h2 (r1.mono (s2.mn h1)) r2 w2 fun d G' v' H' h' r' s' q => k d G' v' H' h' r' ((s1.trans s2).trans s') q
theorem de_op {op : Operator} {r : R2} {f : WR2} (ho : OpR X (binaryOp op) r) (hd : OpD X.K r f) (ha : DE X G0 H0 a wa) (hb : DE X G0 H0 b wb) : DE X G0 H0 (.BinOp a op b pos) (wOp f wa wb) :=
  PE.to (pe_op ho ha hb) fun _ _ _ h => lf_two hd h
theorem de_cmp {op : CmpOp} {r : R2} {f : WR2} (ho : OpR X (compareOp op) r) (hd : OpD X.K r f) (ha : DE X G0 H0 a wa) (hb : DE X G0 H0 b wb) (hm : behindInMarks op b = false) : DE X G0 H0 (.Compare a [op] [b] pos) (wOp f wa wb) :=
  PE.to (pe_cmpR ho ha hb hm) fun _ _ _ h => lf_two hd h
theorem de_un {op : UnaryOp} {r : V → Hp → VK → Prop} {f : WR1} (ho : UnR X (unaryOp op) r) (hd : UnD X.K r f) (ha : DE X G0 H0 a wa) : DE X G0 H0 (.UnaryOp op a pos) (wUn f wa) :=
  PE.to (pe_un ho ha) fun σ H Q ⟨ρ, G, QD, pt, w, k⟩ => ⟨ρ, G, _, pt, w, fun x G1 v H1 h1 r1 s1 w1 => hd x v G1 H1 Q QD h1 r1 w1 fun d G' v' H' h' r' s' q => k d G' v' H' h' r' (s1.trans s') q⟩
theorem de_ix {r : R2} {f : WR2} (ho : IxR X r) (hd : OpD X.K r f) (ha : DE X G0 H0 a wa) (hb : DE X G0 H0 b wb) (hs : PlainIx b) : DE X G0 H0 (.Subscript a b pos) (wOp f wa wb) :=
  PE.to (pe_ix ho ha hb hs) fun _ _ _ h => lf_two hd h
theorem OpD.or {K : W.Frag} {r r' : R2} {f f' : WR2} (h : OpD K r f) (h' : OpD K r' f') : OpD K (fun x y H Q => r x y H Q ∨ r' x y H Q) (fun x y G Q => f x y G Q ∨ f' x y G Q) :=
  fun x y v u G H Q QD hr rx ry w k => w.elim (fun w => .inl (h x y v u G H Q QD hr rx ry w k)) fun w => .inr (h' x y v u G H Q QD hr rx ry w k)
theorem OpD.to {K : W.Frag} {r : R2} {f f' : WR2} (h : OpD K r f) (i : ∀ x y G Q, f' x y G Q → f x y G Q) : OpD K r f' :=
  fun x y v u G H Q QD hr rx ry w k => h x y v u G H Q QD hr rx ry (i _ _ _ _ w) k

/-! ### tests -/
/-- a bool's way -/
def kB (Q : Bool → DHp → Prop) : DK := fun d G => match d with
  | .bl b => Q b G
  | _ => False
@[simp] def wTest (w : WE) : WT := fun ρ G Q => w ρ G (kB Q)
theorem lf_test {K : W.Frag} {w : WE} {σ : St} {H : Hp} {Q : Bool → Hp → Prop} (h : LfT K G0 H0 (wTest w) σ H Q) : LfE K G0 H0 w σ H fun x H1 => ∃ c, x = .bl c ∧ Q c H1 := by
  obtain ⟨ρ, G, QD, pt, w, k⟩ := h
  refine ⟨ρ, G, _, pt, w, fun x G1 v H1 h1 r1 s1 w1 => ?_⟩
  unfold kB at w1
  split at w1
  · cases r1
    exact ⟨_, rfl, k _ G1 H1 h1 s1 w1⟩
  · exact w1.elim
theorem dt_val {w : WE} (h : DE X G0 H0 a w) (he : ∀ whole, isTrue a X.env whole = (do let v ← whole; standAt a.pos; holding [v] (truthy v)) := by intro _; rfl) : DT X G0 H0 a (wTest w) :=
  PT.to (pt_val h he) fun _ _ _ q => lf_test q
theorem dt_cmp {op : CmpOp} {r : R2} {f : WR2} (ho : OpR X (compareOp op) r) (hd : OpD X.K r f) (ha : DE X G0 H0 a wa) (hb : DE X G0 H0 b wb) (hm : behindInMarks op b = false) : DT X G0 H0 (.Compare a [op] [b] pos) (wTest (wOp f wa wb)) :=
  PT.to (pt_cmpR ho ha hb hm) fun σ H Q q => lf_two hd (lf_test q)
@[simp] def wtAnd (a b : WT) : WT := fun ρ G Q => a ρ G fun c G1 => if c = true then b ρ G1 Q else Q false G1
@[simp] def wtOr (a b : WT) : WT := fun ρ G Q => a ρ G fun c G1 => if c = true then Q true G1 else b ρ G1 Q
@[simp] def wtNot (a : WT) : WT := fun ρ G Q => a ρ G fun c G1 => Q (!c) G1
variable {ta tb : WT} {rest : List Expr}
theorem dw_and1 (ha : DT X G0 H0 a ta) : DW X G0 H0 (.BoolOp .And [a] pos) ta := pw_and1 ha
theorem dw_or1 (ha : DT X G0 H0 a ta) : DW X G0 H0 (.BoolOp .Or [a] pos) ta := pw_or1 ha
theorem dw_and (ha : DT X G0 H0 a ta) (hb : DW X G0 H0 (.BoolOp .And (b :: rest) pos) tb) : DW X G0 H0 (.BoolOp .And (a :: b :: rest) pos) (wtAnd ta tb) :=
  PW.to (pw_and ha hb) fun σ H Q ⟨ρ, G, QD, pt, w, k⟩ => ⟨ρ, G, _, pt, w, fun c G1 H1 h1 s1 w1 => by
    cases c with
    | true => exact ⟨ρ, G1, QD, pt.go h1 s1, w1, fun b G' H' h' s' q => k b G' H' h' (s1.trans s') q⟩
    | false => exact k false G1 H1 h1 s1 w1⟩
theorem dw_or (ha : DT X G0 H0 a ta) (hb : DW X G0 H0 (.BoolOp .Or (b :: rest) pos) tb) : DW X G0 H0 (.BoolOp .Or (a :: b :: rest) pos) (wtOr ta tb) :=
  PW.to (pw_or ha hb) fun σ H Q ⟨ρ, G, QD, pt, w, k⟩ => ⟨ρ, G, _, pt, w, fun c G1 H1 h1 s1 w1 => by
    cases c with
    | false => exact ⟨ρ, G1, QD, pt.go h1 s1, w1, fun b G' H' h' s' q => k b G' H' h' (s1.trans s') q⟩
    | true => exact k true G1 H1 h1 s1 w1⟩
theorem dw_dt {w : WT} (h : DW X G0 H0 a w) : DT X G0 H0 a w := h.pt
theorem dt_not (ha : DT X G0 H0 a ta) : DT X G0 H0 (.UnaryOp .Not a pos) (wtNot ta) :=
  PT.to (pt_not ha) fun σ H Q ⟨ρ, G, QD, pt, w, k⟩ => ⟨ρ, G, _, pt, w, fun c G1 H1 h1 s1 w1 => k (!c) G1 H1 h1 s1 w1⟩
/-- .. as values -/
@[simp] def weAnd (a b : WE) : WE := fun ρ G Q => a ρ G (kB fun c G1 => if c = true then b ρ G1 Q else Q (.bl false) G1)
@[simp] def weOr (a b : WE) : WE := fun ρ G Q => a ρ G (kB fun c G1 => if c = true then Q (.bl true) G1 else b ρ G1 Q)
@[simp] def weNot (a : WE) : WE := fun ρ G Q => a ρ G (kB fun c G1 => Q (.bl (!c)) G1)
theorem de_one {op} (ha : DE X G0 H0 a wa) : DE X G0 H0 (.BoolOp op [a] pos) wa := pe_one ha
theorem de_and (ha : DE X G0 H0 a wa) (hb : DE X G0 H0 (.BoolOp .And (b :: rest) pos) wb) : DE X G0 H0 (.BoolOp .And (a :: b :: rest) pos) (weAnd wa wb) :=
  PE.to (pe_and ha hb) fun σ H Q ⟨ρ, G, QD, pt, w, k⟩ => by
    refine ⟨ρ, G, _, pt, w, fun x G1 v H1 h1 r1 s1 w1 => ?_⟩
    unfold kB at w1
    split at w1
    · rename_i c
      cases r1
      refine ⟨c, rfl, ?_⟩
      cases c with
      | true => exact ⟨ρ, G1, QD, pt.go h1 s1, w1, fun b G' v' H' h' r' s' q => k b G' v' H' h' r' (s1.trans s') q⟩
      | false => exact k (.bl false) G1 _ H1 h1 rfl s1 w1
    · exact w1.elim
theorem de_or (ha : DE X G0 H0 a wa) (hb : DE X G0 H0 (.BoolOp .Or (b :: rest) pos) wb) : DE X G0 H0 (.BoolOp .Or (a :: b :: rest) pos) (weOr wa wb) :=
  PE.to (pe_or ha hb) fun σ H Q ⟨ρ, G, QD, pt, w, k⟩ => by
    refine ⟨ρ, G, _, pt, w, fun x G1 v H1 h1 r1 s1 w1 => ?_⟩
    unfold kB at w1
    split at w1
    · rename_i c
      cases r1
      refine ⟨c, rfl, ?_⟩
      cases c with
      | false => exact ⟨ρ, G1, QD, pt.go h1 s1, w1, fun b G' v' H' h' r' s' q => k b G' v' H' h' r' (s1.trans s') q⟩
      | true => exact k (.bl true) G1 _ H1 h1 rfl s1 w1
    · exact w1.elim
theorem de_not (ha : DE X G0 H0 a wa) : DE X G0 H0 (.UnaryOp .Not a pos) (weNot wa) :=
  PE.to (pe_not ha) fun σ H Q ⟨ρ, G, QD, pt, w, k⟩ => by
    refine ⟨ρ, G, _, pt, w, fun x G1 v H1 h1 r1 s1 w1 => ?_⟩
    unfold kB at w1
    split at w1
    · cases r1
      exact ⟨_, rfl, k (.bl _) G1 _ H1 h1 rfl s1 w1⟩
    · exact w1.elim
@[simp] def wIfE (t : WT) (a b : WE) : WE := fun ρ G Q => t ρ G fun c G1 => if c = true then a ρ G1 Q else b ρ G1 Q
theorem de_ifE {c : Expr} (hc : DT X G0 H0 c ta) (ha : DE X G0 H0 a wa) (hb : DE X G0 H0 b wb) : DE X G0 H0 (.IfExp c a b pos) (wIfE ta wa wb) :=
  PE.to (pe_ifExp hc ha hb) fun σ H Q ⟨ρ, G, QD, pt, w, k⟩ => ⟨ρ, G, _, pt, w, fun c G1 H1 h1 s1 w1 => by
    cases c with
    | true => exact ⟨ρ, G1, QD, pt.go h1 s1, w1, fun b G' v' H' h' r' s' q => k b G' v' H' h' r' (s1.trans s') q⟩
    | false => exact ⟨ρ, G1, QD, pt.go h1 s1, w1, fun b G' v' H' h' r' s' q => k b G' v' H' h' r' (s1.trans s') q⟩⟩
/-- a < b < c -/
@[simp] def wChain (f f' : WR2) (a b c : WE) : WE := fun ρ G Q => a ρ G fun x G1 => b ρ G1 fun y G2 => f x y G2 (kB fun k G3 => if k = true then c ρ G3 fun z G4 => f' y z G4 Q else Q (.bl false) G3)
theorem lf_chain {K : W.Frag} {r r' : R2} {f f' : WR2} (o : OpD K r f) (o' : OpD K r' f') {σ : St} {H : Hp} {Q : VK} (h : LfE K G0 H0 (wChain f f' wa wb wc) σ H Q) :
    tChain r r' (LfE K G0 H0 wa) (LfE K G0 H0 wb) (LfE K G0 H0 wc) σ H Q := by
  obtain ⟨ρ, G, QD, pt, w, k⟩ := h
  refine ⟨ρ, G, _, pt, w, fun x G1 v H1 h1 r1 s1 w1 => ?_⟩
  refine ⟨ρ, G1, _, pt.go h1 s1, w1, fun y G2 u H2 h2 r2 s2 w2 => ?_⟩
  refine o x y v u G2 H2 _ _ h2 (r1.mono (s2.mn h1)) r2 w2 fun d G3 v' H3 h3 r3 s3 q => ?_
  unfold kB at q
  split at q
  · rename_i kk
    cases r3
    refine ⟨kk, rfl, ?_⟩
    have s13 := (s1.trans s2).trans s3
    cases kk with
    | false => exact k (.bl false) G3 _ H3 h3 rfl s13 q
    | true =>
      refine ⟨ρ, G3, _, pt.go h3 s13, q, fun z G4 vz H4 h4 r4 s4 w4 => ?_⟩
      exact o' y z u vz G4 H4 Q QD h4 ((r2.mono (s3.mn h2)).mono (s4.mn h3)) r4 w4 fun d G' v' H' h' r' s' q => k d G' v' H' h' r' ((s13.trans s4).trans s') q
  · exact q.elim
theorem de_chain {op op' : CmpOp} {r r' : R2} {f f' : WR2} (ho : OpR X (compareOp op) r) (hd : OpD X.K r f) (ho' : OpR X (compareOp op') r') (hd' : OpD X.K r' f') (ha : DE X G0 H0 a wa) (hb : DE X G0 H0 b wb) (hc : DE X G0 H0 c wc)
    (hm : lastMarks [op, op'] [b, c] = false := by with_unfolding_all rfl) : DE X G0 H0 (.Compare a [op, op'] [b, c] pos) (wChain f f' wa wb wc) := PE.to (pe_chain ho ho' ha hb hc hm) fun _ _ _ h => lf_chain hd hd' h
theorem dt_chain {op op' : CmpOp} {r r' : R2} {f f' : WR2} (ho : OpR X (compareOp op) r) (hd : OpD X.K r f) (ho' : OpR X (compareOp op') r') (hd' : OpD X.K r' f') (ha : DE X G0 H0 a wa) (hb : DE X G0 H0 b wb) (hc : DE X G0 H0 c wc)
    (hm : lastMarks [op, op'] [b, c] = false := by with_unfolding_all rfl) : DT X G0 H0 (.Compare a [op, op'] [b, c] pos) (wTest (wChain f f' wa wb wc)) :=
  PT.to (pt_chain ho ho' ha hb hc hm) fun _ _ _ h => lf_chain hd hd' (lf_test h)
end
end TC
set_option maxRecDepth 100000
/-! TC, part c: operators. -/
namespace TC
open PySem PySem.Spec L2

section
variable {K : W.Frag}
theorem big_line {n : Nat} (h : n ≤ 1000000) : n ≤ sizeLine := by rw [sizeLine_eq]; omega

/-! ### arithmetic -/
def dAdd : WR2
  | .int i, .int j => fun G Q => Q (.int (i + j)) G
  | .str a, .str b => fun G Q => a.length + b.length ≤ 1000000 ∧ Q (.str (a ++ b)) G
  | .tup xs, .tup ys => fun G Q => xs.length + ys.length ≤ 1000000 ∧ Q (.tup (xs ++ ys)) G
  | .ref a, .ref b => fun G Q => ∃ xs ys, G a = some (.lst xs) ∧ G b = some (.lst ys) ∧ xs.length + ys.length ≤ 1000000 ∧ ∀ p, G p = none → Q (.ref p) (updD G p (.lst (xs ++ ys)))
  | _, _ => fun _ _ => False
abbrev rAddA (K : W.Frag) : R2 := fun x y H Q => (rI0 (fun i j => .int (i + j)) x y H Q) ∨ (∃ i j, x = .str i ∧ y = .str j ∧ i.length + j.length ≤ sizeLine ∧ Q (.str (i ++ j)) H) ∨ rCatA K x y H Q ∨ rCat x y H Q
theorem or_add {X : Cx} : OpR X (binaryOp .Add) (rAddA X.K) := op_add.or (op_add_str.or (op_catA.or op_cat))
theorem od_add : OpD K (rAddA K) dAdd := by
  intro x y v u G H Q QD hr rx ry w k
  unfold dAdd at w
  split at w
  · cases rx; cases ry
    exact .inl ⟨_, _, rfl, rfl, k (.int _) G _ H hr rfl .refl w⟩
  · cases rx; cases ry
    exact .inr (.inl ⟨_, _, rfl, rfl, big_line w.1, k (.str _) G _ H hr rfl .refl w.2⟩)
  · rename_i xs ys
    obtain ⟨a, vs, rfl, ha, ra⟩ := rx
    obtain ⟨b, ws, rfl, hb, rb⟩ := ry
    refine .inr (.inr (.inl ⟨a, b, vs, ws, rfl, rfl, .inl ha, .inl hb, by rw [← ra.length, ← rb.length]; exact big_line w.1, fun e => ?_, fun e e2 => ?_, fun e e2 p hp => ?_⟩))
    · subst e
      have : xs = [] := List.eq_nil_of_length_eq_zero ra.length
      subst this
      exact k (.tup ys) G _ H hr ⟨b, ws, rfl, hb, rb⟩ .refl (by simpa using w.2)
    · subst e2
      have : ys = [] := List.eq_nil_of_length_eq_zero rb.length
      subst this
      exact k (.tup xs) G _ H hr ⟨a, vs, rfl, ha, ra⟩ .refl (by simpa using w.2)
    · exact k (.tup (xs ++ ys)) G _ _ (hr.newU hp) ⟨p, vs ++ ws, rfl, .inl upd_same, (ra.append rb).mono (mn_upd hp)⟩ (.newU hp) w.2
  · rename_i a b
    cases rx; cases ry
    obtain ⟨xs, ys, ea, eb, hl, w⟩ := w
    obtain ⟨vs, ha, ra⟩ := hr a _ ea
    obtain ⟨ws, hb, rb⟩ := hr b _ eb
    refine .inr (.inr (.inr ⟨a, b, vs, ws, rfl, rfl, ha, hb, by rw [← ra.length, ← rb.length]; exact big_line hl, fun p hp => ?_⟩))
    exact k (.ref p) _ _ _ (hr.new hp (o := .lst (xs ++ ys)) ⟨_, upd_same, (ra.append rb).mono (mn_upd hp)⟩) rfl (.new hr hp) (w p (hr.free hp))
  · exact w.elim
def dInt2 (C : Int → Int → Prop) (g : Int → Int → D) : WR2
  | .int i, .int j => fun G Q => C i j ∧ Q (g i j) G
  | _, _ => fun _ _ => False
theorem od_int2 {C : Int → Int → Prop} {g : Int → Int → V} {g' : Int → Int → D} (e : ∀ i j H, Rep K H (g' i j) (g i j)) : OpD K (rI C g) (dInt2 C g') := by
  intro x y v u G H Q QD hr rx ry w k
  unfold dInt2 at w
  split at w
  · cases rx; cases ry
    exact ⟨_, _, rfl, rfl, w.1, k _ G _ H hr (e _ _ H) .refl w.2⟩
  · exact w.elim
def dInt0 (g : Int → Int → D) : WR2
  | .int i, .int j => fun G Q => Q (g i j) G
  | _, _ => fun _ _ => False
theorem od_int0 {g : Int → Int → V} {g' : Int → Int → D} (e : ∀ i j H, Rep K H (g' i j) (g i j)) : OpD K (rI0 g) (dInt0 g') := by
  intro x y v u G H Q QD hr rx ry w k
  unfold dInt0 at w
  split at w
  · cases rx; cases ry
    exact ⟨_, _, rfl, rfl, k _ G _ H hr (e _ _ H) .refl w⟩
  · exact w.elim
@[simp] def dSub : WR2 := dInt0 fun i j => .int (i - j)
theorem od_sub : OpD K (rI0 fun i j => .int (i - j)) dSub := od_int0 fun _ _ _ => rfl
@[simp] def dMod : WR2 := dInt2 (fun _ j => 0 < j) fun i j => .int (i % j)
theorem od_mod : OpD K (rI (fun _ j => 0 < j) fun i j => .int (i % j)) dMod := od_int2 fun _ _ _ => rfl
@[simp] def dFdiv : WR2 := dInt2 CDiv fun i j => .int (i / j)
theorem od_fdiv : OpD K (rI CDiv fun i j => .int (i / j)) dFdiv := od_int2 fun _ _ _ => rfl
@[simp] def dPow : WR2 := dInt2 CPow fun i j => .int (i ^ j.toNat)
theorem od_pow : OpD K (rI CPow fun i j => .int (i ^ j.toNat)) dPow := od_int2 fun _ _ _ => rfl

/-! ### order -/
def dOrd (p : Int → Int → Bool) (q : List Nat → List Nat → Bool) : WR2
  | .int i, .int j => fun G Q => Q (.bl (p i j)) G
  | .str a, .str b => fun G Q => Q (.bl (q a.cps.toList b.cps.toList)) G
  | _, _ => fun _ _ => False
abbrev rOrd (p : Int → Int → Bool) (q : List Nat → List Nat → Bool) : R2 := fun x y H Q => (rI0 (fun i j => .bl (p i j)) x y H Q) ∨ (∃ i j, x = .str i ∧ y = .str j ∧ Q (.bl (q i.cps.toList j.cps.toList)) H)
theorem od_ord {p : Int → Int → Bool} {q : List Nat → List Nat → Bool} : OpD K (rOrd p q) (dOrd p q) := by
  intro x y v u G H Q QD hr rx ry w k
  unfold dOrd at w
  split at w
  · cases rx; cases ry
    exact .inl ⟨_, _, rfl, rfl, k (.bl _) G _ H hr rfl .refl w⟩
  · cases rx; cases ry
    exact .inr ⟨_, _, rfl, rfl, k (.bl _) G _ H hr rfl .refl w⟩
  · exact w.elim
abbrev pLt : Int → Int → Bool := fun i j => decide (i < j)
abbrev pLe : Int → Int → Bool := fun i j => decide (i ≤ j)
abbrev pGt : Int → Int → Bool := fun i j => decide (j < i)
abbrev pGe : Int → Int → Bool := fun i j => decide (j ≤ i)
abbrev qLt : List Nat → List Nat → Bool := fun i j => decide (i < j)
abbrev qLe : List Nat → List Nat → Bool := fun i j => !decide (j < i)
abbrev qGt : List Nat → List Nat → Bool := fun i j => decide (j < i)
abbrev qGe : List Nat → List Nat → Bool := fun i j => !decide (i < j)
abbrev dLt := dOrd pLt qLt
abbrev dLe := dOrd pLe qLe
abbrev dGt := dOrd pGt qGt
abbrev dGe := dOrd pGe qGe
theorem or_lt {X : Cx} : OpR X (compareOp .Lt) (rOrd pLt qLt) := op_lt.or op_lt_str
theorem or_le {X : Cx} : OpR X (compareOp .LtE) (rOrd pLe qLe) := op_le.or op_le_str
theorem or_gt {X : Cx} : OpR X (compareOp .Gt) (rOrd pGt qGt) := op_gt.or op_gt_str
theorem or_ge {X : Cx} : OpR X (compareOp .GtE) (rOrd pGe qGe) := op_ge.or op_ge_str

/-! ### is None -/
def isNon : D → Bool
  | .non => true
  | _ => false
def dIsN (neg : Bool) : WR2 := fun x y G Q => match y with
  | .non => Q (.bl (neg != isNon x)) G
  | _ => False
theorem isNon_rep {H : Hp} {x : D} {v : V} (r : Rep K H x v) : decide (v = .non) = isNon x := by
  cases x with
  | non => cases r; rfl
  | bl _ => cases r; rfl
  | int _ => cases r; rfl
  | str _ => cases r; rfl
  | tup _ => obtain ⟨a, vs, rfl, _⟩ := r; rfl
  | ft _ => obtain ⟨a, vs, rfl, _⟩ := r; rfl
  | kt _ => obtain ⟨a, vs, rfl, _⟩ := r; rfl
  | ref _ => cases r; rfl
  | ty _ => cases r; rfl
  | rl _ => obtain ⟨a, vs, rfl, _⟩ := r; rfl
theorem od_isN : OpD K (fun x y H Q => y = .non ∧ Q (.bl (decide (x = .non))) H) (dIsN false) := by
  intro x y v u G H Q QD hr rx ry w k
  unfold dIsN at w
  split at w
  · cases ry
    refine ⟨rfl, ?_⟩
    rw [isNon_rep rx]
    exact k (.bl _) G _ H hr rfl .refl (by simpa using w)
  · exact w.elim
theorem od_notN : OpD K (fun x y H Q => y = .non ∧ Q (.bl (!decide (x = .non))) H) (dIsN true) := by
  intro x y v u G H Q QD hr rx ry w k
  unfold dIsN at w
  split at w
  · cases ry
    refine ⟨rfl, ?_⟩
    rw [isNon_rep rx]
    exact k (.bl _) G _ H hr rfl .refl (by simpa using w)
  · exact w.elim

/-! ### data read off -/
mutual
def rdW (f : Addr → Option PyData) : D → Option PyData
  | .non => some .none
  | .bl b => some (.bool b)
  | .int i => some (.int i)
  | .str x => some (.str x)
  | .tup ds => (rdWs f ds).map .tuple
  | .ft ds => (rdWs f ds).map .tuple
  | .kt ds => (rdWs f ds).map .tuple
  | .ref a => f a
  | .ty _ => none
  | .rl ds => (rdWs f ds).map .list
def rdWs (f : Addr → Option PyData) : List D → Option (List PyData)
  | [] => some []
  | d :: ds => match rdW f d, rdWs f ds with
    | some p, some ps => some (p :: ps)
    | _, _ => none
end
def rfN : Nat → DHp → Addr → Option PyData
  | 0, _, _ => none
  | n + 1, G, a => match G a with
    | some (.lst xs) => (rdWs (rfN n G) xs).map .list
    | _ => none
def rd (G : DHp) (d : D) : Option PyData := rdW (rfN 20 G) d
def rds (G : DHp) (ds : List D) : Option (List PyData) := rdWs (rfN 20 G) ds
section
variable {G : DHp} {H : Hp}
mutual
theorem dp_of {f : Addr → Option PyData} (hf : ∀ a p, f a = some p → Dp K H (.ref a) p) : ∀ {d : D} {v : V} {p : PyData}, rdW f d = some p → Rep K H d v → Dp K H v p
  | .non, _, _, e, r => by cases r; cases e; exact .non
  | .bl _, _, _, e, r => by cases r; cases e; exact .bl _
  | .int _, _, _, e, r => by cases r; cases e; exact .int _
  | .str _, _, _, e, r => by cases r; cases e; exact .str _
  | .tup ds, v, p, e, r => by
    obtain ⟨a, vs, rfl, h, rs⟩ := r
    unfold rdW at e
    obtain ⟨ps, e1, rfl⟩ := Option.map_eq_some_iff.mp e
    exact .tup (.inl h) (dps_of hf e1 rs)
  | .ft ds, v, p, e, r => by
    obtain ⟨a, vs, rfl, ⟨o, h, _⟩, rs⟩ := r
    unfold rdW at e
    obtain ⟨ps, e1, rfl⟩ := Option.map_eq_some_iff.mp e
    exact .tup (.inl (.inr ⟨o, h⟩)) (dps_of hf e1 rs)
  | .kt ds, v, p, e, r => by
    obtain ⟨a, vs, rfl, h, rs⟩ := r
    unfold rdW at e
    obtain ⟨ps, e1, rfl⟩ := Option.map_eq_some_iff.mp e
    exact .tup (.inl (.inl h)) (dps_of hf e1 rs)
  | .ref a, _, _, e, r => by cases r; exact hf a _ (by simpa [rdW] using e)
  | .ty _, _, _, e, r => by cases e
  | .rl ds, v, p, e, r => by
    obtain ⟨a, vs, rfl, h, rs⟩ := r
    unfold rdW at e
    obtain ⟨ps, e1, rfl⟩ := Option.map_eq_some_iff.mp e
    exact .lst h.sq (dps_of hf e1 rs)
theorem dps_of {f : Addr → Option PyData} (hf : ∀ a p, f a = some p → Dp K H (.ref a) p) : ∀ {ds : List D} {vs : List V} {ps : List PyData}, rdWs f ds = some ps → Reps K H ds vs → DpAll K H vs ps
  | [], _, _, e, r => by cases r; cases e; exact .nil
  | d :: ds, vs, ps, e, r => by
    obtain ⟨v, rr, rfl, r1, r2⟩ := r
    unfold rdWs at e
    split at e
    · rename_i p ps' e1 e2
      cases e
      exact .cons (dp_of hf e1 r1) (dps_of hf e2 r2)
    · cases e
end
theorem rfN_dp (hr : HR K G H) : ∀ (n : Nat) (a : Addr) (p : PyData), rfN n G a = some p → Dp K H (.ref a) p
  | 0, _, _, e => by cases e
  | n + 1, a, p, e => by
    unfold rfN at e
    split at e
    · rename_i xs ea
      obtain ⟨ps, e1, rfl⟩ := Option.map_eq_some_iff.mp e
      obtain ⟨vs, h, rs⟩ := hr a _ ea
      exact .lst (SqL.of h) (dps_of (rfN_dp hr n) e1 rs)
    · cases e
theorem rd_dp (hr : HR K G H) {d : D} {v : V} {p : PyData} (e : rd G d = some p) (r : Rep K H d v) : Dp K H v p := dp_of (rfN_dp hr 20) e r
theorem rds_dp (hr : HR K G H) {ds : List D} {vs : List V} {ps : List PyData} (e : rds G ds = some ps) (r : Reps K H ds vs) : DpAll K H vs ps := dps_of (rfN_dp hr 20) e r
end

/-! ### == and != -/
def dEqD (neg : Bool) : WR2 := fun x y G Q => ∃ p q, rd G x = some p ∧ rd G y = some q ∧ SeqAt.shaped p = true ∧ SeqAt.shaped q = true ∧ Q (.bl (neg != PyData.eqv p q)) G
/-- scalars first, then data as a whole -/
def dEq : WR2
  | .int i, .int j => fun G Q => Q (.bl (i == j)) G
  | .str a, .str b => fun G Q => Q (.bl (a == b)) G
  | .bl a, .bl b => fun G Q => Q (.bl (a == b)) G
  | x, y => dEqD false x y
def dNe : WR2
  | .int i, .int j => fun G Q => Q (.bl (!(i == j))) G
  | .str a, .str b => fun G Q => Q (.bl (!(a == b))) G
  | .bl a, .bl b => fun G Q => Q (.bl (!(a == b))) G
  | x, y => dEqD true x y
abbrev rEqA (K : W.Frag) : R2 := fun x y H Q => rEq x y H Q ∨ rEqD K x y H Q
abbrev rNeA (K : W.Frag) : R2 := fun x y H Q => rNe x y H Q ∨ rNeD K x y H Q
theorem or_eq {X : Cx} (hu : X.A.units + 64 < cLine) : OpR X (compareOp .Eq) (rEqA X.K) := op_eq.or (op_eqD hu)
theorem or_ne {X : Cx} (hu : X.A.units + 64 < cLine) : OpR X (compareOp .NotEq) (rNeA X.K) := op_ne.or (op_neD hu)
theorem od_eqD {x y : D} {v u : V} {G : DHp} {H : Hp} {Q : VK} {QD : DK} (hr : HR K G H) (rx : Rep K H x v) (ry : Rep K H y u) (w : dEqD false x y G QD)
    (k : ∀ d G' v' H', HR K G' H' → Rep K H' d v' → Stp G H G' H' → QD d G' → Q v' H') : rEqD K v u H Q := by
  obtain ⟨p, q, e1, e2, s1, s2, w⟩ := w
  exact ⟨p, q, rd_dp hr e1 rx, rd_dp hr e2 ry, s1, s2, k (.bl _) G _ H hr rfl .refl (by simpa using w)⟩
theorem od_neD {x y : D} {v u : V} {G : DHp} {H : Hp} {Q : VK} {QD : DK} (hr : HR K G H) (rx : Rep K H x v) (ry : Rep K H y u) (w : dEqD true x y G QD)
    (k : ∀ d G' v' H', HR K G' H' → Rep K H' d v' → Stp G H G' H' → QD d G' → Q v' H') : rNeD K v u H Q := by
  obtain ⟨p, q, e1, e2, s1, s2, w⟩ := w
  exact ⟨p, q, rd_dp hr e1 rx, rd_dp hr e2 ry, s1, s2, k (.bl _) G _ H hr rfl .refl (by simpa using w)⟩
theorem od_eq : OpD K (rEqA K) dEq := by
  intro x y v u G H Q QD hr rx ry w k
  unfold dEq at w
  split at w
  · cases rx; cases ry
    exact .inl ⟨rfl, by rw [dec_int]; exact k (.bl _) G _ H hr rfl .refl w⟩
  · cases rx; cases ry
    exact .inl ⟨rfl, by rw [dec_str]; exact k (.bl _) G _ H hr rfl .refl w⟩
  · cases rx; cases ry
    exact .inl ⟨rfl, by rw [dec_bl]; exact k (.bl _) G _ H hr rfl .refl w⟩
  · exact .inr (od_eqD hr rx ry w k)
theorem od_ne : OpD K (rNeA K) dNe := by
  intro x y v u G H Q QD hr rx ry w k
  unfold dNe at w
  split at w
  · cases rx; cases ry
    exact .inl ⟨rfl, by rw [dec_int]; exact k (.bl _) G _ H hr rfl .refl w⟩
  · cases rx; cases ry
    exact .inl ⟨rfl, by rw [dec_str]; exact k (.bl _) G _ H hr rfl .refl w⟩
  · cases rx; cases ry
    exact .inl ⟨rfl, by rw [dec_bl]; exact k (.bl _) G _ H hr rfl .refl w⟩
  · exact .inr (od_neD hr rx ry w k)

/-! ### in -/
def flatD : D → Bool
  | .non => true
  | .bl _ => true
  | .int _ => true
  | .str _ => true
  | _ => false
def eqF : D → D → Bool
  | .non, .non => true
  | .bl a, .bl b => a == b
  | .bl a, .int b => (if a then 1 else 0) == b
  | .int a, .bl b => a == (if b then 1 else 0)
  | .int a, .int b => a == b
  | .str a, .str b => a == b
  | _, _ => false
def inF (x : D) (xs : List D) : Bool := xs.any fun y => eqF y x
/-- the items of a list, of a tuple -/
def itemsD (G : DHp) : D → Option (List D)
  | .tup xs => some xs
  | .ft xs => some xs
  | .kt xs => some xs
  | .rl xs => some xs
  | .ref a => match G a with
    | some (.lst xs) => some xs
    | _ => none
  | _ => none
def dInF (neg : Bool) : WR2 := fun x y G Q => match itemsD G y with
  | some xs => flatD x = true ∧ xs.all flatD = true ∧ Q (.bl (neg != inF x xs)) G
  | none => False
/-- one sign in a text -/
def dInS (neg : Bool) : WR2
  | .str a, .str z => fun G Q => ∃ c, a = ⟨#[c]⟩ ∧ Q (.bl (neg != decide (c ∈ z.cps.toList))) G
  | _, _ => fun _ _ => False
theorem flat_rep {H : Hp} {x : D} {v : V} (r : Rep K H x v) (f : flatD x = true) : flatV v = true := by
  cases x <;> first
    | (exact absurd (show false = true from f) Bool.false_ne_true)
    | (cases r; rfl)
theorem eqF_rep {H : Hp} {x y : D} {v u : V} (rx : Rep K H x v) (fx : flatD x = true) (ry : Rep K H y u) (fy : flatD y = true) : eqV v u = eqF x y := by
  cases x <;> first
    | (exact absurd (show false = true from fx) Bool.false_ne_true)
    | (cases y <;> first
        | (exact absurd (show false = true from fy) Bool.false_ne_true)
        | (cases rx; cases ry; rfl))
theorem flats_rep {H : Hp} : ∀ {xs : List D} {vs : List V}, Reps K H xs vs → xs.all flatD = true → vs.all flatV = true
  | [], _, r, _ => by cases r; rfl
  | x :: xs, vs, r, f => by
    obtain ⟨v, rr, rfl, r1, r2⟩ := r
    rw [List.all_cons, Bool.and_eq_true] at f
    rw [List.all_cons, flat_rep r1 f.1, flats_rep r2 f.2]; rfl
theorem inF_rep {H : Hp} {x : D} {v : V} (rx : Rep K H x v) (fx : flatD x = true) : ∀ {xs : List D} {vs : List V}, Reps K H xs vs → xs.all flatD = true → inV v vs = inF x xs
  | [], _, r, _ => by cases r; rfl
  | y :: xs, vs, r, f => by
    obtain ⟨u, rr, rfl, r1, r2⟩ := r
    rw [List.all_cons, Bool.and_eq_true] at f
    have := inF_rep rx fx r2 f.2
    unfold inV inF at *
    rw [List.any_cons, List.any_cons, this, eqF_rep r1 f.1 rx fx]
theorem items_sq {G : DHp} {H : Hp} {y : D} {u : V} {xs : List D} (hr : HR K G H) (r : Rep K H y u) (e : itemsD G y = some xs) : ∃ p vs, u = .ref p ∧ (SqL K H p vs ∨ SqT K H p vs) ∧ Reps K H xs vs := by
  cases y with
  | tup ds =>
    cases e
    obtain ⟨a, vs, rfl, h, rs⟩ := r
    exact ⟨a, vs, rfl, .inr (.inl h), rs⟩
  | ft ds =>
    cases e
    obtain ⟨a, vs, rfl, ⟨o, h, _⟩, rs⟩ := r
    exact ⟨a, vs, rfl, .inr (.inl (.inr ⟨o, h⟩)), rs⟩
  | kt ds =>
    cases e
    obtain ⟨a, vs, rfl, h, rs⟩ := r
    exact ⟨a, vs, rfl, .inr (.inl (.inl h)), rs⟩
  | rl ds =>
    cases e
    obtain ⟨a, vs, rfl, h, rs⟩ := r
    exact ⟨a, vs, rfl, .inl h.sq, rs⟩
  | ref a =>
    cases r
    unfold itemsD at e
    simp only at e
    split at e
    · cases e
      rename_i ea
      obtain ⟨vs, h, rs⟩ := hr a _ ea
      exact ⟨a, vs, rfl, .inl (SqL.of h), rs⟩
    · cases e
  | _ => cases e
theorem od_inF : OpD K (rIn K false) (dInF false) := by
  intro x y v u G H Q QD hr rx ry w k
  unfold dInF at w
  split at w
  · rename_i xs e
    obtain ⟨fx, fs, w⟩ := w
    obtain ⟨p, vs, rfl, h, rs⟩ := items_sq hr ry e
    refine ⟨p, vs, rfl, h, flat_rep rx fx, flats_rep rs fs, ?_⟩
    rw [inF_rep rx fx rs fs]
    exact k (.bl _) G _ H hr rfl .refl (by simpa using w)
  · exact w.elim
theorem od_ninF : OpD K (rIn K true) (dInF true) := by
  intro x y v u G H Q QD hr rx ry w k
  unfold dInF at w
  split at w
  · rename_i xs e
    obtain ⟨fx, fs, w⟩ := w
    obtain ⟨p, vs, rfl, h, rs⟩ := items_sq hr ry e
    refine ⟨p, vs, rfl, h, flat_rep rx fx, flats_rep rs fs, ?_⟩
    rw [inF_rep rx fx rs fs]
    exact k (.bl _) G _ H hr rfl .refl (by simpa using w)
  · exact w.elim
theorem od_inS : OpD K (fun x y H Q => ∃ (c : Nat) (z : Str), x = .str ⟨#[c]⟩ ∧ y = .str z ∧ Q (.bl (decide (c ∈ z.cps.toList))) H) (dInS false) := by
  intro x y v u G H Q QD hr rx ry w k
  unfold dInS at w
  split at w
  · cases rx; cases ry
    obtain ⟨c, rfl, w⟩ := w
    exact ⟨c, _, rfl, rfl, k (.bl _) G _ H hr rfl .refl (by simpa using w)⟩
  · exact w.elim
theorem od_ninS : OpD K (fun x y H Q => ∃ (c : Nat) (z : Str), x = .str ⟨#[c]⟩ ∧ y = .str z ∧ Q (.bl (!decide (c ∈ z.cps.toList))) H) (dInS true) := by
  intro x y v u G H Q QD hr rx ry w k
  unfold dInS at w
  split at w
  · cases rx; cases ry
    obtain ⟨c, rfl, w⟩ := w
    exact ⟨c, _, rfl, rfl, k (.bl _) G _ H hr rfl .refl (by simpa using w)⟩
  · exact w.elim

/-! ### subscripts -/
def pick {α : Type} (xs : List α) (i : Int) : Option α := if 0 ≤ i then xs[i.toNat]? else if -(xs.length : Int) ≤ i then xs[(i + xs.length).toNat]? else none
theorem pick_at {α : Type} {xs : List α} {i : Int} : atI xs i = pick xs i := by
  unfold atI ixN pick
  by_cases h : 0 ≤ i
  · rw [if_pos h, if_pos h]
    by_cases h2 : i < xs.length
    · rw [if_pos h2]; rfl
    · rw [if_neg h2]
      have : xs.length ≤ i.toNat := by omega
      rw [List.getElem?_eq_none this]; rfl
  · rw [if_neg h, if_neg h]
    split <;> rfl
/-- a value that must be there -/
def must (o : Option D) (G : DHp) (Q : DK) : Prop := match o with
  | some d => Q d G
  | none => False
def dIx : WR2
  | .tup xs, .int i => fun G Q => must (pick xs i) G Q
  | .ft xs, .int i => fun G Q => must (pick xs i) G Q
  | .kt xs, .int i => fun G Q => must (pick xs i) G Q
  | .rl xs, .int i => fun G Q => must (pick xs i) G Q
  | .ref a, .int i => fun G Q => ∃ xs, G a = some (.lst xs) ∧ must (pick xs i) G Q
  | .str z, .int i => fun G Q => z.length ≤ 1000000 ∧ must ((pick z.cps.toList i).map fun c => .str ⟨#[c]⟩) G Q
  | _, _ => fun _ _ => False
theorem must_of {o : Option D} {G : DHp} {Q : DK} (h : must o G Q) : ∃ d, o = some d ∧ Q d G := by
  unfold must at h
  split at h
  · exact ⟨_, rfl, h⟩
  · exact h.elim
theorem Reps.at_ {H : Hp} {ds : List D} {vs : List V} {i : Int} {d : D} (r : Reps K H ds vs) (h : pick ds i = some d) : ∃ v, atI vs i = some v ∧ Rep K H d v := by
  rw [pick_at]
  unfold pick at *
  rw [← r.length]
  split at h
  · rename_i q; rw [if_pos q]; exact r.get h
  · rename_i q
    rw [if_neg q]
    split at h
    · rename_i q2; rw [if_pos q2]; exact r.get h
    · cases h
theorem od_ix : OpD K (rIx K) dIx := by
  intro x y v u G H Q QD hr rx ry w k
  unfold dIx at w
  split at w
  · obtain ⟨a, vs, rfl, h, rs⟩ := rx
    cases ry
    obtain ⟨d, e, w⟩ := must_of w
    obtain ⟨v, e2, r⟩ := rs.at_ e
    exact .inr (.inl ⟨a, vs, _, v, rfl, rfl, .inl h, e2, k d G v H hr r .refl w⟩)
  · obtain ⟨a, vs, rfl, ⟨o, h, _⟩, rs⟩ := rx
    cases ry
    obtain ⟨d, e, w⟩ := must_of w
    obtain ⟨v, e2, r⟩ := rs.at_ e
    exact .inr (.inl ⟨a, vs, _, v, rfl, rfl, .inl (.inr ⟨o, h⟩), e2, k d G v H hr r .refl w⟩)
  · obtain ⟨a, vs, rfl, h, rs⟩ := rx
    cases ry
    obtain ⟨d, e, w⟩ := must_of w
    obtain ⟨v, e2, r⟩ := rs.at_ e
    exact .inr (.inl ⟨a, vs, _, v, rfl, rfl, .inl (.inl h), e2, k d G v H hr r .refl w⟩)
  · obtain ⟨a, vs, rfl, h, rs⟩ := rx
    cases ry
    obtain ⟨d, e, w⟩ := must_of w
    obtain ⟨v, e2, r⟩ := rs.at_ e
    exact .inl ⟨a, vs, _, v, rfl, rfl, h.sq, e2, k d G v H hr r .refl w⟩
  · cases rx
    cases ry
    obtain ⟨xs, ea, w⟩ := w
    obtain ⟨vs, h, rs⟩ := hr _ _ ea
    obtain ⟨d, e, w⟩ := must_of w
    obtain ⟨v, e2, r⟩ := rs.at_ e
    exact .inl ⟨_, vs, _, v, rfl, rfl, SqL.of h, e2, k d G v H hr r .refl w⟩
  · cases rx
    cases ry
    obtain ⟨hl, w⟩ := w
    obtain ⟨d, e, w⟩ := must_of w
    obtain ⟨c, e2, rfl⟩ := Option.map_eq_some_iff.mp e
    exact .inr (.inr ⟨_, _, c, rfl, rfl, big_line hl, by rw [pick_at]; exact e2, k (.str _) G _ H hr rfl .refl w⟩)
  · exact w.elim
end
end TC
set_option maxRecDepth 100000
/-! TC, part d: arguments, displays, slices, calls, targets, statements, loops, comprehensions. -/
namespace TC
open PySem PySem.Spec L2

section
variable {X : Cx} {G0 : DHp} {H0 : Hp} {pos : Pos} {e a b c : Expr} {es : List Expr} {we wa wb wc : WE} {ws : WA}
/-! ### arguments, displays -/
@[simp] def wNil : WA := fun _ G Q => Q [] G
@[simp] def wCons (a : WE) (r : WA) : WA := fun ρ G Q => a ρ G fun x G1 => r ρ G1 fun xs G2 => Q (x :: xs) G2
theorem da_nil : DA X G0 H0 [] wNil := PA.to pa_nil fun σ H Q ⟨ρ, G, QD, pt, w, k⟩ => k [] G [] H pt.hr rfl .refl w
theorem da_cons (ha : DE X G0 H0 e we) (hr : DA X G0 H0 es ws) (hs : starEach (e :: es) X.env = (false, eval e X.env) :: starEach es X.env := by rfl) : DA X G0 H0 (e :: es) (wCons we ws) :=
  PA.to (pa_cons ha hr hs) fun σ H Q ⟨ρ, G, QD, pt, w, k⟩ => ⟨ρ, G, _, pt, w, fun x G1 v H1 h1 r1 s1 w1 => ⟨ρ, G1, _, pt.go h1 s1, w1, fun xs G2 vs H2 h2 r2 s2 w2 =>
    k (x :: xs) G2 (v :: vs) H2 h2 ⟨v, vs, rfl, r1.mono (s2.mn h1), r2⟩ (s1.trans s2) w2⟩⟩
@[simp] def wTup (ws : WA) : WE := fun ρ G Q => ws ρ G fun xs G1 => xs.length ≤ 1000000 ∧ Q (.tup xs) G1
@[simp] def wLst (ws : WA) : WE := fun ρ G Q => ws ρ G fun xs G1 => xs.length ≤ 1000000 ∧ ∀ p, G1 p = none → Q (.ref p) (updD G1 p (.lst xs))
theorem de_tup {x1} (h : DA X G0 H0 es ws) : DE X G0 H0 (.Tuple es x1 pos) (wTup ws) :=
  PE.to (pe_tup h) fun σ H Q ⟨ρ, G, QD, pt, w, k⟩ => ⟨ρ, G, _, pt, w, fun xs G1 vs H1 h1 r1 s1 w1 => ⟨by rw [← r1.length]; exact big_line w1.1, fun p hp =>
    k (.tup xs) G1 _ _ (h1.newU hp) ⟨p, vs, rfl, .inl upd_same, r1.mono (mn_upd hp)⟩ (s1.trans (.newU hp)) w1.2⟩⟩
theorem de_lst (h : DA X G0 H0 es ws) : DE X G0 H0 (.List es pos) (wLst ws) :=
  PE.to (pe_lst h) fun σ H Q ⟨ρ, G, QD, pt, w, k⟩ => ⟨ρ, G, _, pt, w, fun xs G1 vs H1 h1 r1 s1 w1 => ⟨by rw [← r1.length]; exact big_line w1.1, fun p hp =>
    k (.ref p) _ _ _ (h1.new hp (o := .lst xs) ⟨vs, upd_same, r1.mono (mn_upd hp)⟩) rfl (s1.trans (.new h1 hp)) (w1.2 p (h1.free hp))⟩⟩

/-! ### slices -/
abbrev WO := Ro → DHp → (Option Int → DHp → Prop) → Prop
def LfO (K : W.Frag) (G0 : DHp) (H0 : Hp) (w : WO) : TO := fun σ H Q => ∃ ρ G QD, Pt K G0 H0 ρ G σ H ∧ w ρ G QD ∧ ∀ o G' H', HR K G' H' → Stp G H G' H' → QD o G' → Q o H'
theorem PO.to {e : Option Expr} {t t' : TO} (h : PO X e t) (i : ∀ σ H Q, t' σ H Q → t σ H Q) : PO X e t' := ⟨fun pins s σ H Q I q => h.run pins s σ H Q I (i _ _ _ q)⟩
abbrev DP (X : Cx) (G0 : DHp) (H0 : Hp) (e : Option Expr) (w : WO) : Prop := PO X e (LfO X.K G0 H0 w)
@[simp] def woNone : WO := fun _ G Q => Q none G
def kI (Q : Option Int → DHp → Prop) : DK := fun d G => match d with
  | .int i => Q (some i) G
  | _ => False
@[simp] def woSome (we : WE) : WO := fun ρ G Q => we ρ G (kI Q)
theorem dp_none : DP X G0 H0 none woNone := PO.to po_none fun σ H Q ⟨ρ, G, QD, pt, w, k⟩ => k none G H pt.hr .refl w
theorem dp_some (h : DE X G0 H0 e we) : DP X G0 H0 (some e) (woSome we) := PO.to (po_some h) fun σ H Q ⟨ρ, G, QD, pt, w, k⟩ => ⟨ρ, G, _, pt, w, fun x G1 v H1 h1 r1 s1 w1 => by
  unfold kI at w1
  split at w1
  · cases r1
    exact ⟨_, rfl, k _ G1 H1 h1 s1 w1⟩
  · exact w1.elim⟩
/-- the part of a row between two bounds -/
def cut {α : Type} (xs : List α) (lo hi : Option Int) : List α := (xs.drop (HT.sIx xs.length 0 lo)).take (HT.sIx xs.length xs.length hi - HT.sIx xs.length 0 lo)
theorem cut_len {α : Type} (xs : List α) (lo hi : Option Int) : (cut xs lo hi).length ≤ xs.length := by
  unfold cut
  rw [List.length_take, List.length_drop]; omega
theorem Reps.cut {K : W.Frag} {H : Hp} {ds : List D} {vs : List V} (r : Reps K H ds vs) (lo hi : Option Int) : Reps K H (TC.cut ds lo hi) (cutV vs lo hi) := by
  unfold TC.cut cutV
  rw [r.length]
  exact (r.drop _).take _
def dSl (x : D) (lo hi : Option Int) : DHp → DK → Prop := fun G Q => match x with
  | .tup xs => Q (.tup (cut xs lo hi)) G
  | .ref a => ∃ xs, G a = some (.lst xs) ∧ ∀ p, G p = none → Q (.ref p) (updD G p (.lst (cut xs lo hi)))
  | .str z => z.length ≤ 1000000 ∧ Q (.str (cutS z lo hi)) G
  | _ => False
@[simp] def wSl (we : WE) (wl wh : WO) : WE := fun ρ G Q => we ρ G fun x G1 => wl ρ G1 fun l G2 => wh ρ G2 fun u G3 => dSl x l u G3 Q
abbrev rSlX (K : W.Frag) : V → Option Int → Option Int → Hp → VK → Prop := fun x lo hi H Q => rSlA K x lo hi H Q ∨ rSlL K x lo hi H Q ∨ rSlS x lo hi H Q
theorem sl_x : SlR X (rSlX X.K) := sl_tupA.or (sl_list.or sl_str)
theorem de_slice {lo hi : Option Expr} {wl wh : WO} {p2 : Pos} (he : DE X G0 H0 e we) (hl : DP X G0 H0 lo wl) (hh : DP X G0 H0 hi wh) : DE X G0 H0 (.Subscript e (.Slice lo hi none p2) pos) (wSl we wl wh) :=
  PE.to (pe_slice sl_x he hl hh) fun σ H Q ⟨ρ, G, QD, pt, w, k⟩ => ⟨ρ, G, _, pt, w, fun x G1 v H1 h1 r1 s1 w1 => ⟨ρ, G1, _, pt.go h1 s1, w1, fun l G2 H2 h2 s2 w2 => ⟨ρ, G2, _, (pt.go h1 s1).go h2 s2, w2, fun u G3 H3 h3 s3 w3 => by
    have r3 := (r1.mono (s2.mn h1)).mono (s3.mn h2)
    have s13 := (s1.trans s2).trans s3
    unfold dSl at w3
    split at w3
    · rename_i xs
      obtain ⟨a, vs, rfl, h, rs⟩ := r3
      refine .inl ⟨a, vs, rfl, .inl h, fun q => ?_, fun q p hp => ?_⟩
      · have e : TC.cut xs l u = xs := by
          unfold TC.cut
          rw [rs.length, q.1, q.2, List.drop_zero, Nat.sub_zero, ← rs.length, List.take_length]
        rw [e] at w3
        exact k (.tup xs) G3 _ H3 h3 ⟨a, vs, rfl, h, rs⟩ s13 w3
      · exact k (.tup (TC.cut xs l u)) G3 _ _ (h3.newU hp) ⟨p, _, rfl, .inl upd_same, (rs.cut l u).mono (mn_upd hp)⟩ (s13.trans (.newU hp)) w3
    · cases r3
      obtain ⟨xs, ea, w3⟩ := w3
      obtain ⟨vs, h, rs⟩ := h3 _ _ ea
      exact .inr (.inl ⟨_, vs, rfl, SqL.of h, fun p hp => k (.ref p) _ _ _ (h3.new hp (o := .lst (TC.cut xs l u)) ⟨_, upd_same, (rs.cut l u).mono (mn_upd hp)⟩) rfl (s13.trans (.new h3 hp)) (w3 p (h3.free hp))⟩)
    · cases r3
      exact .inr (.inr ⟨_, rfl, big_line w3.1, k (.str _) G3 _ H3 h3 rfl s13 w3.2⟩)
    · exact w3.elim⟩⟩⟩

/-! ### built-ins by name -/
@[simp] def wCB (f : WRA) (ws : WA) : WE := fun ρ G Q => ws ρ G fun xs G1 => f xs G1 Q
theorem lf_cb {K : W.Frag} {r : List V → Hp → VK → Prop} {f : WRA} (hd : CaD K r f) {σ : St} {H : Hp} {Q : VK} (h : LfE K G0 H0 (wCB f ws) σ H Q) : tCB r (LfA K G0 H0 ws) σ H Q := by
  obtain ⟨ρ, G, QD, pt, w, k⟩ := h
  exact ⟨ρ, G, _, pt, w, fun xs G1 vs H1 h1 r1 s1 w1 => hd xs vs G1 H1 Q QD h1 r1 w1 fun d G' v' H' h' r' s' q => k d G' v' H' h' r' (s1.trans s') q⟩
theorem de_callB {x : Str} {p : Pos} {id : String} {r : List V → Hp → VK → Prop} {f : WRA} (hc : CallR X (.builtin id) r) (hd : CaD X.K r f) (hg : Gl X x) (hm : X.mg x = none) (hv : bootBuiltins x = some (.builtin id)) (ha : DA X G0 H0 (e :: es) ws)
    (hn : x ≠ "__name__" := by decide) (hdb : (x == ("__debug__" : Str)) = false := by decide)
    (he : starEach (e :: es) X.env = (false, eval e X.env) :: starEach es X.env := by rfl) (hpl : (backTo pos (starEach es X.env)).any (·.1) = false := by rfl) : DE X G0 H0 (.Call (.Name x p) (e :: es) [] pos) (wCB f ws) :=
  PE.to (pe_callB hc hg hm hv ha hn hdb he hpl) fun _ _ _ h => lf_cb hd h
theorem de_callTy {x : Str} {p : Pos} {T : String} {r : List V → Hp → VK → Prop} {f : WRA} (hc : CallR X (.type T) r) (hd : CaD X.K r f) (hg : Gl X x) (hm : X.mg x = none) (hv : bootBuiltins x = some (.type T)) (ha : DA X G0 H0 (e :: es) ws)
    (hn : x ≠ "__name__" := by decide) (hdb : (x == ("__debug__" : Str)) = false := by decide)
    (he : starEach (e :: es) X.env = (false, eval e X.env) :: starEach es X.env := by rfl) (hpl : (backTo pos (starEach es X.env)).any (·.1) = false := by rfl) : DE X G0 H0 (.Call (.Name x p) (e :: es) [] pos) (wCB f ws) :=
  PE.to (pe_callTy hc hg hm hv ha hn hdb he hpl) fun _ _ _ h => lf_cb hd h

/-! ### defs -/
/-- an error as it is met: its class, what its own dict holds -/
structure DX where
  C : Addr
  fs : Option (List (Str × D))
def XR (K : W.Frag) (H : Hp) (cls : Value) (dx : Option Addr) (x : DX) : Prop := cls = .ref x.C ∧ match dx, x.fs with
  | none, none => True
  | some d, some fs => ∃ vs, H d = some (.xd vs) ∧ RepKV K H fs vs
  | _, _ => False
abbrev DXK := DX → DHp → Prop
/-- a def's promise by data -/
abbrev DSp := List D → DHp → DK → DXK → Prop
def lfSp (K : W.Frag) (sp : DSp) : Sp := fun vs H Q E => ∃ ds G QD ED, Reps K H ds vs ∧ HR K G H ∧ sp ds G QD ED ∧ (∀ d G' v H', HR K G' H' → Rep K H' d v → Stp G H G' H' → QD d G' → Q v H') ∧
  ∀ x G' cls dx H', HR K G' H' → XR K H' cls dx x → Stp G H G' H' → ED x G' → E cls dx H'
/-- what is wished of an error in a body -/
abbrev WXD := Ro → DX → DHp → Prop
def LfX (K : W.Frag) (G0 : DHp) (H0 : Hp) (w : WXD) : WX := fun cls dx σ H => ∃ ρ G x, Pt K G0 H0 ρ G σ H ∧ XR K H cls dx x ∧ w ρ x G
@[simp] def noX : WXD := fun _ _ _ => False
theorem tk_no {K : W.Frag} : Takes X (LfX K G0 H0 noX) := takes0.imp fun _ _ _ _ ⟨_, _, _, _, _, z⟩ => z
abbrev DFn (P : Program) (w : World) (K : W.Frag) (mg : Str → Option Value) (base : Heap) (k : Nat) (f : Addr) (fd : FuncData) (ps : List Str) (sp : DSp) : Prop := FnOk P w K mg base (L2.CX P w) k f fd ps (lfSp K sp)
@[simp] def wCall (sp : DSp) (W : WXD) (ws : WA) : WE := fun ρ G Q => ws ρ G fun xs G1 => sp xs G1 Q (W ρ)
theorem lf_call {K : W.Frag} {sp : DSp} {U : WXD} {ws : WA} {σ : St} {H : Hp} {Q : VK} (h : LfE K G0 H0 (wCall sp U ws) σ H Q) : tCallS (lfSp K sp) (L2.WE (LfX K G0 H0 U)) (LfA K G0 H0 ws) σ H Q := by
  obtain ⟨ρ, G, QD, pt, w, k⟩ := h
  refine ⟨ρ, G, _, pt, w, fun xs G1 vs H1 h1 r1 s1 w1 => ?_⟩
  exact ⟨xs, G1, _, _, r1, h1, w1, fun d G' v H' h' r' s' q => k d G' v H' h' r' (s1.trans s') q, fun x G' cls dx H' h' xr s' q => ⟨ρ, G', x, (pt.go h1 s1).go h' s', xr, q⟩⟩
theorem de_call {k : Nat} {f : Addr} {fd : FuncData} {ps : List Str} {sp : DSp} {W : WXD} {x : Str} {p : Pos} (F : DFn X.prog X.w X.K X.mg X.base k f fd ps sp) (hr : Room k X.A) (hg : Gl X x) (hm : X.mg x = some (.ref f)) (hk : PySem.W.keepIn X.K (.ref f) = true) (hb : Binds X.K fd ps [])
    (tk : Takes X (LfX X.K G0 H0 W)) (ha : DA X G0 H0 (e :: es) ws) (hdb : (x == ("__debug__" : Str)) = false := by decide) (he : starEach (e :: es) X.env = (false, eval e X.env) :: starEach es X.env := by rfl) (hpl : (backTo pos (starEach es X.env)).any (·.1) = false := by rfl) :
    DE X G0 H0 (.Call (.Name x p) (e :: es) [] pos) (wCall sp W ws) := PE.to (pe_callS F hr hg hm hk hb (fun σ => passAt tk σ) ha hdb he hpl) fun _ _ _ h => lf_call h

/-! ### targets -/
@[simp] def wgName (i : Nat) : WG := fun d ρ G Q => Q (ρ.set i (some d)) G
theorem dg_name {i : Nat} {x : Str} (hN : X.N.Nodup) (hi : X.N[i]? = some x) (hx : Loc X.env.scope x) (hf : X.fn x = true ∨ X.env.scope.names.lookup x = some .local := by first | exact .inl rfl | exact .inr rfl | assumption) : DG X G0 H0 (.Name x pos) (wgName i) :=
  PG.to (pg_name hN hi hx hf) fun v σ H Q ⟨d, ρ, G, QD, pt, r, w, k⟩ => k _ G _ H (pt.set i r) .refl w
def wgNil : WGs := fun ds ρ G Q => match ds with
  | [] => Q ρ G
  | _ => False
def wgCons (g : WG) (r : WGs) : WGs := fun ds ρ G Q => match ds with
  | d :: ds => g d ρ G fun ρ1 G1 => r ds ρ1 G1 Q
  | [] => False
theorem dgs_nil : DGs X G0 H0 [] wgNil := PGs.to pgs_nil fun vs σ H Q ⟨ds, ρ, G, QD, pt, r, w, k⟩ => by
  unfold wgNil at w
  split at w
  · exact ⟨r, k _ G _ H pt .refl w⟩
  · exact w.elim
theorem dgs_cons {g : WG} {gs : WGs} (h1 : DG X G0 H0 e g) (h2 : DGs X G0 H0 es gs) (hs : (assignEach (e :: es) X.env).map (·.2) = assign e X.env :: (assignEach es X.env).map (·.2) := by rfl) : DGs X G0 H0 (e :: es) (wgCons g gs) :=
  PGs.to (pgs_cons h1 h2 hs) fun vs σ H Q ⟨ds, ρ, G, QD, pt, r, w, k⟩ => by
    unfold wgCons at w
    split at w
    · obtain ⟨v, rr, rfl, r1, r2⟩ := r
      exact ⟨v, rr, rfl, _, ρ, G, _, pt, r1, w, fun ρ1 G1 σ1 H1 pt1 s1 w1 => ⟨_, ρ1, G1, QD, pt1, r2.mono (s1.mn pt.hr), w1, fun a b c d p s q => k a b c d p (s1.trans s) q⟩⟩
    · exact w.elim
def wgTup (n : Nat) (gs : WGs) : WG := fun d ρ G Q => match d with
  | .tup ds => ds.length = n ∧ gs ds ρ G Q
  | .ft ds => ds.length = n ∧ gs ds ρ G Q
  | .kt ds => ds.length = n ∧ gs ds ρ G Q
  | _ => False
theorem tup_of {K : W.Frag} {H : Hp} {n : Nat} {gs : WGs} {d : D} {x : V} {ρ : Ro} {G : DHp} {Q : Ro → DHp → Prop} (r : Rep K H d x) (w : wgTup n gs d ρ G Q) : ∃ a us ds, x = .ref a ∧ SqT K H a us ∧ Reps K H ds us ∧ ds.length = n ∧ gs ds ρ G Q := by
  unfold wgTup at w
  split at w
  · obtain ⟨a, vs, rfl, h, rs⟩ := r
    exact ⟨a, vs, _, rfl, .inl h, rs, w.1, w.2⟩
  · obtain ⟨a, vs, rfl, ⟨o, h, _⟩, rs⟩ := r
    exact ⟨a, vs, _, rfl, .inl (.inr ⟨o, h⟩), rs, w.1, w.2⟩
  · obtain ⟨a, vs, rfl, h, rs⟩ := r
    exact ⟨a, vs, _, rfl, .inl (.inl h), rs, w.1, w.2⟩
  · exact w.elim
theorem dg_tup {k n : Nat} {gs : WGs} (hc : X.calm = true) (h : DGs X G0 H0 es gs) (hn : (assignEach es X.env).length = n := by rfl) (hst : (assignEach es X.env).findIdx? (·.1) = none := by rfl) : DG X G0 H0 (.Tuple es k pos) (wgTup n gs) :=
  PG.to (pg_tup hc h hn hst) fun v σ H Q ⟨d, ρ, G, QD, pt, r, w, kk⟩ => by
    unfold wgTup at w
    split at w
    · obtain ⟨a, vs, rfl, h, rs⟩ := r
      exact ⟨a, vs, rfl, .inl h, by rw [← rs.length]; exact w.1, _, ρ, G, QD, pt, rs, w.2, kk⟩
    · obtain ⟨a, vs, rfl, ⟨o, h, _⟩, rs⟩ := r
      exact ⟨a, vs, rfl, .inl (.inr ⟨o, h⟩), by rw [← rs.length]; exact w.1, _, ρ, G, QD, pt, rs, w.2, kk⟩
    · obtain ⟨a, vs, rfl, h, rs⟩ := r
      exact ⟨a, vs, rfl, .inl (.inl h), by rw [← rs.length]; exact w.1, _, ρ, G, QD, pt, rs, w.2, kk⟩
    · exact w.elim
/-- xs[i] = v, of a list -/
def dSet (o i v : D) (G : DHp) (Q : DHp → Prop) : Prop := match o, i with
  | .ref a, .int j => ∃ xs, G a = some (.lst xs) ∧ 0 ≤ j ∧ j < xs.length ∧ Q (updD G a (.lst (xs.set j.toNat v)))
  | _, _ => False
@[simp] def wgSub (wo wi : WE) : WG := fun d ρ G Q => wo ρ G fun o G1 => wi ρ G1 fun i G2 => dSet o i d G2 fun G3 => Q ρ G3
theorem dg_sub (ho : DE X G0 H0 a wa) (hi : DE X G0 H0 b wb)
    (has : ∀ v, assign (.Subscript a b pos) X.env v = (do
      let ov ← holding [v] (eval a X.env)
      let iv ← holding [v, ov] (eval b X.env)
      standAt pos
      holding [v, ov, iv] (setItem ov iv v)
      release [v, ov, iv] []) := by intro _; rfl) : DG X G0 H0 (.Subscript a b pos) (wgSub wa wb) :=
  PG.to (pg_sub ho hi set_list has) fun v σ H Q ⟨d, ρ, G, QD, pt, r, w, k⟩ => ⟨ρ, G, _, pt, w, fun o G1 vo H1 h1 r1 s1 w1 => ⟨ρ, G1, _, pt.go h1 s1, w1, fun i G2 vi H2 h2 r2 s2 w2 => by
    unfold dSet at w2
    split at w2
    · cases r1.mono (s2.mn h1)
      cases r2
      obtain ⟨xs, ea, h0, hl, w2⟩ := w2
      obtain ⟨vs, h, rs⟩ := h2 _ _ ea
      rename_i p j
      have hlen := rs.length
      refine ⟨_, vs, _, j.toNat, rfl, rfl, h, ?_, ?_⟩
      · unfold ixN
        rw [if_pos h0, if_pos (by omega)]
      · have r' : Rep X.K H2 d v := (r.mono (s1.mn pt.hr)).mono (s2.mn h1)
        have m := mn_write (x := .lst (vs.set j.toNat v)) h2 ea
        have hr' : HR X.K (updD G2 p (.lst (xs.set j.toNat d))) (upd H2 p (.lst (vs.set j.toNat v))) := h2.write ea ⟨_, upd_same, (rs.set r' j.toNat).mono m⟩
        have st : Stp G2 H2 (updD G2 p (.lst (xs.set j.toNat d))) (upd H2 p (.lst (vs.set j.toNat v))) := .write ea h
        exact k ρ _ σ _ (((pt.go h1 s1).go h2 s2).go hr' st) ((s1.trans s2).trans st) w2
    · exact w2.elim⟩⟩

/-! ### statements -/
variable {st : Stmt} {sts : List Stmt} {w1 w2 : WS} {g : WG}
@[simp] def wNext : WS := fun F ρ G => F.nx ρ G
@[simp] def wSeq (t u : WS) : WS := fun F ρ G => t { F with nx := u F } ρ G
theorem dss_nil : DSs X G0 H0 [] wNext := PSs.to pss_nil fun E σ H ⟨ρ, G, F, pt, w, l⟩ => l.nx ρ G σ H pt .refl w
theorem lf_seq {K : W.Frag} {E : Ends} {σ : St} {H : Hp} (h : LfS K G0 H0 (wSeq w1 w2) E σ H) : tSeq (LfS K G0 H0 w1) (LfS K G0 H0 w2) E σ H := by
  obtain ⟨ρ, G, F, pt, w, l⟩ := h
  exact ⟨ρ, G, _, pt, w, fun ρ1 G1 σ1 H1 p1 s1 q => ⟨ρ1, G1, F, p1, q, l.go s1⟩, l.rt, l.bk, l.ct⟩
theorem dss_cons (h1 : DS X G0 H0 st w1) (h2 : DSs X G0 H0 sts w2) : DSs X G0 H0 (st :: sts) (wSeq w1 w2) := PSs.to (pss_cons h1 h2) fun _ _ _ h => lf_seq h
theorem dss_one (h1 : DS X G0 H0 st w1) : DSs X G0 H0 [st] w1 := pss_one h1
@[simp] def wBrk : WS := fun F ρ G => F.bk ρ G
@[simp] def wCnt : WS := fun F ρ G => F.ct ρ G
theorem ds_pass : DS X G0 H0 (.Pass pos) wNext := PS.to ps_pass fun E σ H ⟨ρ, G, F, pt, w, l⟩ => l.nx ρ G σ H pt .refl w
theorem ds_break : DS X G0 H0 (.Break pos) wBrk := PS.to ps_break fun E σ H ⟨ρ, G, F, pt, w, l⟩ => l.bk ρ G σ H pt .refl w
theorem ds_continue : DS X G0 H0 (.Continue pos) wCnt := PS.to ps_continue fun E σ H ⟨ρ, G, F, pt, w, l⟩ => l.ct ρ G σ H pt .refl w
@[simp] def wExpr (we : WE) : WS := fun F ρ G => we ρ G fun _ G1 => F.nx ρ G1
theorem ds_expr (he : DE X G0 H0 e we) (hs : swapsWith e none pos.line X.env = pure false := by rfl) : DS X G0 H0 (.Expr e pos) (wExpr we) :=
  PS.to (ps_expr he hs) fun E σ H ⟨ρ, G, F, pt, w, l⟩ => ⟨ρ, G, _, pt, w, fun d G1 v H1 h1 r1 s1 q => l.nx ρ G1 σ H1 (pt.go h1 s1) s1 q⟩
@[simp] def wRet (we : WE) : WS := fun F ρ G => we ρ G F.rt
@[simp] def wRetN : WS := fun F _ G => F.rt .non G
theorem ds_ret (he : DE X G0 H0 e we) : DS X G0 H0 (.Return (some e) pos) (wRet we) :=
  PS.to (ps_ret he) fun E σ H ⟨ρ, G, F, pt, w, l⟩ => ⟨ρ, G, _, pt, w, fun d G1 v H1 h1 r1 s1 q => l.rt d G1 v H1 h1 r1 s1 q⟩
theorem ds_retN : DS X G0 H0 (.Return none pos) wRetN := PS.to ps_retN fun E σ H ⟨ρ, G, F, pt, w, l⟩ => l.rt .non G _ H pt.hr rfl .refl w
@[simp] def wIf (c : WT) (t u : WS) : WS := fun F ρ G => c ρ G fun b G1 => if b = true then t F ρ G1 else u F ρ G1
theorem ds_if {c : Expr} {as bs : List Stmt} {wc : WT} (hc : DT X G0 H0 c wc) (ha : DSs X G0 H0 as w1) (hb : DSs X G0 H0 bs w2) : DS X G0 H0 (.If c as bs pos) (wIf wc w1 w2) :=
  PS.to (ps_if hc ha hb) fun E σ H ⟨ρ, G, F, pt, w, l⟩ => ⟨ρ, G, _, pt, w, fun b G1 H1 h1 s1 q => by
    cases b with
    | true => exact ⟨ρ, G1, F, pt.go h1 s1, q, l.go s1⟩
    | false => exact ⟨ρ, G1, F, pt.go h1 s1, q, l.go s1⟩⟩
@[simp] def wAsg (we : WE) (g : WG) : WS := fun F ρ G => we ρ G fun d G1 => g d ρ G1 F.nx
theorem lf_asg {K : W.Frag} {E : Ends} {σ : St} {H : Hp} (h : LfS K G0 H0 (wAsg we g) E σ H) : tAsg (LfE K G0 H0 we) (LfG K G0 H0 g) E σ H := by
  obtain ⟨ρ, G, F, pt, w, l⟩ := h
  exact ⟨ρ, G, _, pt, w, fun d G1 v H1 h1 r1 s1 q => ⟨d, ρ, G1, _, pt.go h1 s1, r1, q, fun ρ2 G2 σ2 H2 p2 s2 q2 => l.nx ρ2 G2 σ2 H2 p2 (s1.trans s2) q2⟩⟩
theorem ds_asg {tg : Expr} (he : DE X G0 H0 e we) (hg : DG X G0 H0 tg g) (hs : swapsWithSole [tg] e pos.line X.env = pure false := by rfl) (hw : swappedStores [tg] e X.env = pure none := by rfl)
    (h1 : (assignEach [tg] X.env).map (·.2) = [assign tg X.env] := by rfl) : DS X G0 H0 (.Assign [tg] e pos) (wAsg we g) := PS.to (ps_asg he hg hs hw h1) fun _ _ _ h => lf_asg h
theorem ds_set {i : Nat} {x : Str} {pos' : Pos} (hN : X.N.Nodup) (hi : X.N[i]? = some x) (hx : Loc X.env.scope x) (he : DE X G0 H0 e we) (hs : swapsWith e (some (.Name x pos')) pos.line X.env = pure false := by rfl) (hf : X.fn x = true ∨ X.env.scope.names.lookup x = some .local := by first | exact .inl rfl | exact .inr rfl | assumption) :
    DS X G0 H0 (.Assign [.Name x pos'] e pos) (wAsg we (wgName i)) := PS.to (ps_set hN hi hx he hs hf) fun E σ H ⟨ρ, G, F, pt, w, l⟩ => ⟨ρ, G, _, pt, w, fun d G1 v H1 h1 r1 s1 q => l.nx _ G1 _ H1 ((pt.go h1 s1).set i r1) s1 q⟩
def wPar (i j : Nat) (ws : WA) : WS := fun F ρ G => ws ρ G fun ds G1 => match ds with
  | [x, y] => F.nx ((ρ.set i (some x)).set j (some y)) G1
  | _ => False
theorem ds_par {i j : Nat} {x y : Str} {px py pt : Pos} {kt k2 pt2} (hc : X.calm = true) (hN : X.N.Nodup) (hi : X.N[i]? = some x) (hj : X.N[j]? = some y) (hij : i ≠ j)
    (hx : X.env.scope.names.lookup x = some .local) (hy : X.env.scope.names.lookup y = some .local) (ha : DA X G0 H0 [a, b] ws)
    (hw : swappedStores [.Tuple [.Name x px, .Name y py] kt pt] (.Tuple [a, b] k2 pt2) X.env = pure (some [x, y]))
    (hs : swapsWithSole [.Tuple [.Name x px, .Name y py] kt pt] (.Tuple [a, b] k2 pt2) pos.line X.env = pure false := by rfl) :
    DS X G0 H0 (.Assign [.Tuple [.Name x px, .Name y py] kt pt] (.Tuple [a, b] k2 pt2) pos) (wPar i j ws) :=
  PS.to (ps_par hc hN hi hj hij hx hy ha hw hs) fun E σ H ⟨ρ, G, F, pt, w, l⟩ => ⟨ρ, G, _, pt, w, fun ds G1 vs H1 h1 r1 s1 q => by
    split at q
    · obtain ⟨v, r, rfl, q1, u, r', rfl, q2, e⟩ := r1
      have e : r' = [] := e
      subst e
      exact ⟨v, u, rfl, l.nx _ G1 _ H1 (((pt.go h1 s1).set i q1).set j q2) s1 q⟩
    · exact q.elim⟩
def wPar3 (i j m : Nat) (ws : WA) : WS := fun F ρ G => ws ρ G fun ds G1 => match ds with
  | [x, y, z] => F.nx (((ρ.set i (some x)).set j (some y)).set m (some z)) G1
  | _ => False
theorem ds_par3 {i j m : Nat} {x y z : Str} {px py pz pt : Pos} {kt k2 pt2} (hc : X.calm = true) (hN : X.N.Nodup) (hi : X.N[i]? = some x) (hj : X.N[j]? = some y) (hl : X.N[m]? = some z) (hij : i ≠ j) (hil : i ≠ m) (hjl : j ≠ m)
    (hx : X.env.scope.names.lookup x = some .local) (hy : X.env.scope.names.lookup y = some .local) (hz : X.env.scope.names.lookup z = some .local) (ha : DA X G0 H0 [a, b, c] ws)
    (hw : swappedStores [.Tuple [.Name x px, .Name y py, .Name z pz] kt pt] (.Tuple [a, b, c] k2 pt2) X.env = pure (some [x, y, z]))
    (hs : swapsWithSole [.Tuple [.Name x px, .Name y py, .Name z pz] kt pt] (.Tuple [a, b, c] k2 pt2) pos.line X.env = pure false := by rfl) :
    DS X G0 H0 (.Assign [.Tuple [.Name x px, .Name y py, .Name z pz] kt pt] (.Tuple [a, b, c] k2 pt2) pos) (wPar3 i j m ws) :=
  PS.to (ps_par3 hc hN hi hj hl hij hil hjl hx hy hz ha hw hs) fun E σ H ⟨ρ, G, F, pt, w, l⟩ => ⟨ρ, G, _, pt, w, fun ds G1 vs H1 h1 r1 s1 q => by
    split at q
    · obtain ⟨v, r, rfl, q1, u, r', rfl, q2, t, r'', rfl, q3, e⟩ := r1
      have e : r'' = [] := e
      subst e
      exact ⟨v, u, t, rfl, l.nx _ G1 _ H1 ((((pt.go h1 s1).set i q1).set j q2).set m q3) s1 q⟩
    · exact q.elim⟩
end
end TC
set_option maxRecDepth 100000
/-! TC, part e: what is walked, loops, comprehensions, while, raise, the rule of a def. -/
namespace TC
open PySem PySem.Spec L2

/-! ### what is walked -/
/-- items xs, as long as gd holds of the heap -/
abbrev WI := Ro → DHp → (List D → (DHp → Prop) → DHp → Prop) → Prop
structure ItOk (K : W.Frag) (J : It) (xs : List D) (gd : DHp → Prop) (Ga : DHp) (Ha : Hp) : Prop where
  go : ∀ i G H, i < xs.length → HR K G H → Stp Ga Ha G H → gd G → J.go i H
  yld : ∀ (i : Nat) d G H x H', xs[i]? = some d → HR K G H → Stp Ga Ha G H → gd G → J.yld i H x H' → Rep K H' d x ∧ HR K G H' ∧ Stp G H G H'
  stop : ∀ G H, HR K G H → Stp Ga Ha G H → gd G → J.stop xs.length H
def LfI (K : W.Frag) (G0 : DHp) (H0 : Hp) (w : WI) : TI := fun σ H R => ∃ ρ G QD, Pt K G0 H0 ρ G σ H ∧ w ρ G QD ∧ ∀ xs gd G1 H1 J, HR K G1 H1 → Stp G H G1 H1 → ItOk K J xs gd G1 H1 → QD xs gd G1 → R J H1
abbrev DI (X : Cx) (G0 : DHp) (H0 : Hp) (tg e : Expr) (w : WI) : Prop := PI X tg e (LfI X.K G0 H0 w)
theorem PI.to {X : Cx} {tg e : Expr} {t t' : TI} (h : PI X tg e t) (i : ∀ σ H R, t' σ H R → t σ H R) : PI X tg e t' := ⟨fun pins s σ H R I q => h.run pins s σ H R I (i _ _ _ q)⟩

section
variable {X : Cx} {G0 : DHp} {H0 : Hp} {pos : Pos} {e e2 a b tg : Expr} {es : List Expr} {we wa wb : WE} {ws : WA}
/-- a value's items, list or tuple -/
def kTupI (Q : List D → (DHp → Prop) → DHp → Prop) : DK := fun d G => match d with
  | .tup xs => Q xs (fun _ => True) G
  | .ft xs => Q xs (fun _ => True) G
  | .kt xs => Q xs (fun _ => True) G
  | _ => False
def kLstI (Q : List D → (DHp → Prop) → DHp → Prop) : DK := fun d G => match d with
  | .ref a => ∃ xs, G a = some (.lst xs) ∧ Q xs (fun G' => G' a = some (.lst xs)) G
  | _ => False
def kStrI (Q : List D → (DHp → Prop) → DHp → Prop) : DK := fun d G => match d with
  | .str z => Q (z.cps.toList.map fun c => .str ⟨#[c]⟩) (fun _ => True) G
  | _ => False
@[simp] def wiTup (we : WE) : WI := fun ρ G Q => we ρ G (kTupI Q)
@[simp] def wiLst (we : WE) : WI := fun ρ G Q => we ρ G (kLstI Q)
@[simp] def wiStr (we : WE) : WI := fun ρ G Q => we ρ G (kStrI Q)
theorem it_tup {K : W.Frag} {p : Addr} {xs : List D} {vs : List V} {G : DHp} {H : Hp} (hr : HR K G H) (h : Rd H p (.tup vs)) (r : Reps K H xs vs) : ItOk K (Itt K p) xs (fun _ => True) G H where
  go := fun i G' H' hi hr' s _ => ⟨vs, vs[i]'(by rw [← r.length]; exact hi), .inl (s.rd hr h), by simp [← r.length, hi]⟩
  yld := fun i d G' H' x H'' e hr' s _ y => by
    obtain ⟨rfl, y⟩ := y
    obtain ⟨v, e2, q⟩ := r.get e
    have := y vs (.inl (s.rd hr h))
    rw [e2] at this; cases this
    exact ⟨q.mono (s.mn hr), hr', .refl⟩
  stop := fun G' H' hr' s _ => ⟨vs, .inl (s.rd hr h), by rw [r.length]; exact Nat.le_refl _⟩
theorem di_tup (he : DE X G0 H0 e we) : DI X G0 H0 tg e (wiTup we) := PI.to (pi_tup he) fun σ H R ⟨ρ, G, QD, pt, w, k⟩ => ⟨ρ, G, _, pt, w, fun d G1 v H1 h1 r1 s1 w1 => by
  unfold kTupI at w1
  split at w1
  · obtain ⟨p, vs, rfl, h, rs⟩ := r1
    exact ⟨p, rfl, ⟨vs, .inl h⟩, k _ _ G1 H1 _ h1 s1 (it_tup h1 h rs) w1⟩
  · obtain ⟨p, vs, rfl, ⟨o, h, _⟩, rs⟩ := r1
    exact ⟨p, rfl, ⟨vs, .inl (.inr ⟨o, h⟩)⟩, k _ _ G1 H1 _ h1 s1 (it_tup h1 (.inr ⟨o, h⟩) rs) w1⟩
  · obtain ⟨p, vs, rfl, h, rs⟩ := r1
    exact ⟨p, rfl, ⟨vs, .inl (.inl h)⟩, k _ _ G1 H1 _ h1 s1 (it_tup h1 (.inl h) rs) w1⟩
  · exact w1.elim⟩
theorem it_lst {K : W.Frag} {p : Addr} {xs : List D} {G : DHp} {H : Hp} : ItOk K (Itl K p) xs (fun G' => G' p = some (.lst xs)) G H where
  go := fun i G' H' hi hr' s g => by
    obtain ⟨vs, h, r⟩ := hr' p _ g
    exact ⟨vs, vs[i]'(by rw [← r.length]; exact hi), SqL.of h, by simp [← r.length, hi]⟩
  yld := fun i d G' H' x H'' e hr' s g y => by
    obtain ⟨rfl, y⟩ := y
    obtain ⟨vs, h, r⟩ := hr' p _ g
    obtain ⟨v, e2, q⟩ := r.get e
    have := y vs (SqL.of h)
    rw [e2] at this; cases this
    exact ⟨q, hr', .refl⟩
  stop := fun G' H' hr' s g => by
    obtain ⟨vs, h, r⟩ := hr' p _ g
    exact ⟨vs, SqL.of h, by rw [r.length]; exact Nat.le_refl _⟩
theorem di_lst (he : DE X G0 H0 e we) : DI X G0 H0 tg e (wiLst we) := PI.to (pi_list he) fun σ H R ⟨ρ, G, QD, pt, w, k⟩ => ⟨ρ, G, _, pt, w, fun d G1 v H1 h1 r1 s1 w1 => by
  unfold kLstI at w1
  split at w1
  · cases r1
    obtain ⟨xs, ea, w1⟩ := w1
    obtain ⟨vs, h, r⟩ := h1 _ _ ea
    exact ⟨_, rfl, ⟨vs, SqL.of h⟩, k _ _ G1 H1 _ h1 s1 it_lst w1⟩
  · exact w1.elim⟩
theorem di_str (he : DE X G0 H0 e we) : DI X G0 H0 tg e (wiStr we) := PI.to (pi_str he) fun σ H R ⟨ρ, G, QD, pt, w, k⟩ => ⟨ρ, G, _, pt, w, fun d G1 v H1 h1 r1 s1 w1 => by
  unfold kStrI at w1
  split at w1
  · rename_i z
    cases r1
    have wk := walk_str (z := z)
    refine ⟨z, rfl, k _ _ G1 H1 _ h1 s1 ⟨fun i G H hi _ _ _ => wk.goes i H (by simpa using hi) trivial, fun i d G H x H' e hr s _ y => ?_, fun G H _ _ _ => by simpa using wk.stops H trivial⟩ w1⟩
    have hi : i < z.cps.size := by
      have := (List.getElem?_eq_some_iff.mp e).1
      simpa using this
    obtain ⟨rfl, c, e2, rfl⟩ := wk.yields i H x H' hi trivial y
    rw [List.getElem?_map, Array.getElem?_toList, e2] at e
    cases e
    exact ⟨rfl, hr, .refl⟩
  · exact w1.elim⟩
/-- lo, lo + 1, .. -/
def intsD (lo : Int) (n : Nat) : List D := (List.range n).map fun (i : Nat) => D.int (lo + (i : Int))
theorem it_rng {K : W.Frag} {lo : Int} {n : Nat} {G : DHp} {H : Hp} : ItOk K (Itr lo n) (intsD lo n) (fun _ => True) G H where
  go := fun i G' H' hi _ _ _ => by
    have : i < n := by simpa [intsD] using hi
    exact this
  yld := fun i d G' H' x H'' e hr' s _ y => by
    obtain ⟨rfl, rfl⟩ := y
    have : i < n := by
      have := (List.getElem?_eq_some_iff.mp e).1
      simpa [intsD] using this
    unfold intsD at e
    rw [List.getElem?_map, List.getElem?_range this] at e
    cases e
    exact ⟨rfl, hr', .refl⟩
  stop := fun G' H' _ _ _ => by show n ≤ (intsD lo n).length; simp [intsD]
def kRng1 (Q : List D → (DHp → Prop) → DHp → Prop) : List D → DHp → Prop := fun ds G => match ds with
  | [.int j] => -1000000 ≤ j ∧ j ≤ 1000000 ∧ Q (intsD 0 j.toNat) (fun _ => True) G
  | _ => False
def kRng2 (Q : List D → (DHp → Prop) → DHp → Prop) : List D → DHp → Prop := fun ds G => match ds with
  | [.int i, .int j] => (-1000000 ≤ i ∧ i ≤ 1000000 ∧ -1000000 ≤ j ∧ j ≤ 1000000) ∧ Q (intsD i (j - i).toNat) (fun _ => True) G
  | _ => False
@[simp] def wiRng1 (ws : WA) : WI := fun ρ G Q => ws ρ G (kRng1 Q)
@[simp] def wiRng2 (ws : WA) : WI := fun ρ G Q => ws ρ G (kRng2 Q)
theorem Reps.one_inv {K : W.Frag} {H : Hp} {d : D} {vs : List V} (r : Reps K H [d] vs) : ∃ v, vs = [v] ∧ Rep K H d v := by
  obtain ⟨v, r, rfl, h, e⟩ := r
  have e : r = [] := e
  subst e
  exact ⟨v, rfl, h⟩
theorem Reps.two_inv {K : W.Frag} {H : Hp} {d d' : D} {vs : List V} (r : Reps K H [d, d'] vs) : ∃ v v', vs = [v, v'] ∧ Rep K H d v ∧ Rep K H d' v' := by
  obtain ⟨v, r, rfl, h, r2⟩ := r
  obtain ⟨v', rfl, h'⟩ := Reps.one_inv r2
  exact ⟨v, v', rfl, h, h'⟩
theorem di_rng1 {p : Pos} (hg : Gl X "range") (hm : X.mg "range" = none) (ha : DA X G0 H0 [a] ws) (hs : starEach [a] X.env = [(false, eval a X.env)] := by rfl) : DI X G0 H0 tg (.Call (.Name "range" p) [a] [] pos) (wiRng1 ws) :=
  PI.to (pi_range1 hg hm ha hs) fun σ H R ⟨ρ, G, QD, pt, w, k⟩ => ⟨ρ, G, _, pt, w, fun ds G1 vs H1 h1 r1 s1 w1 => by
    unfold kRng1 at w1
    split at w1
    · obtain ⟨v, rfl, q⟩ := r1.one_inv
      cases q
      obtain ⟨b1, b2, w1⟩ := w1
      exact ⟨_, rfl, by omega, by omega, k _ _ G1 H1 _ h1 s1 it_rng w1⟩
    · exact w1.elim⟩
theorem di_rng2 {p : Pos} (hg : Gl X "range") (hm : X.mg "range" = none) (ha : DA X G0 H0 [a, b] ws) (hs : starEach [a, b] X.env = [(false, eval a X.env), (false, eval b X.env)] := by rfl) (hs2 : starEach [b] X.env = [(false, eval b X.env)] := by rfl) : DI X G0 H0 tg (.Call (.Name "range" p) [a, b] [] pos) (wiRng2 ws) :=
  PI.to (pi_range2 hg hm ha hs hs2) fun σ H R ⟨ρ, G, QD, pt, w, k⟩ => ⟨ρ, G, _, pt, w, fun ds G1 vs H1 h1 r1 s1 w1 => by
    unfold kRng2 at w1
    split at w1
    · obtain ⟨v, v', rfl, q, q'⟩ := r1.two_inv
      cases q; cases q'
      obtain ⟨⟨b1, b2, b3, b4⟩, w1⟩ := w1
      exact ⟨_, _, rfl, ⟨by omega, by omega, by omega, by omega⟩, k _ _ G1 H1 _ h1 s1 it_rng w1⟩
    · exact w1.elim⟩

/-! ### for -/
def forW (gd : DHp → Prop) (g : WG) (b : WS) (F : DEnds) : List D → Ro → DHp → Prop
  | [], ρ, G => gd G ∧ F.nx ρ G
  | x :: xs, ρ, G => gd G ∧ g x ρ G fun ρ1 G1 => b { nx := forW gd g b F xs, rt := F.rt, bk := F.nx, ct := forW gd g b F xs } ρ1 G1
@[simp] def wFor (wi : WI) (g : WG) (b : WS) : WS := fun F ρ G => wi ρ G fun xs gd G1 => forW gd g b F xs ρ G1
theorem lf_for {K : W.Frag} {wi : WI} {g : WG} {b : WS} {E : Ends} {σ : St} {H : Hp} (h : LfS K G0 H0 (wFor wi g b) E σ H) : tFor (LfI K G0 H0 wi) (LfG K G0 H0 g) (LfS K G0 H0 b) E σ H := by
  obtain ⟨ρ, G, F, pt, w, l⟩ := h
  refine ⟨ρ, G, _, pt, w, fun xs gd Ga Ha J ha sa it wa => ?_⟩
  refine ⟨fun i m σ H => m = xs.length - i ∧ i ≤ xs.length ∧ ∃ ρ G, Pt K G0 H0 ρ G σ H ∧ Stp Ga Ha G H ∧ forW gd g b F (xs.drop i) ρ G,
    ⟨_, rfl, Nat.zero_le _, ρ, Ga, pt.go ha sa, .refl, wa⟩, ?_⟩
  rintro i m σ1 H1 ⟨rfl, hi, ρ1, G1, pt1, s1, w1⟩
  by_cases hlt : i < xs.length
  · have e : xs.drop i = xs[i] :: xs.drop (i + 1) := List.drop_eq_getElem_cons hlt
    rw [e] at w1
    obtain ⟨g1, w1⟩ := w1
    refine .inr ⟨it.go i G1 H1 hlt pt1.hr s1 g1, fun σ' H' => xs.length - (i + 1) = xs.length - (i + 1) ∧ i + 1 ≤ xs.length ∧ ∃ ρ G, Pt K G0 H0 ρ G σ' H' ∧ Stp Ga Ha G H' ∧ forW gd g b F (xs.drop (i + 1)) ρ G,
      fun σ' H' n' => ⟨xs.length - (i + 1), by omega, n'⟩, fun x H' y => ?_⟩
    obtain ⟨rx, hr', s'⟩ := it.yld i xs[i] G1 H1 x H' (List.getElem?_eq_getElem hlt) pt1.hr s1 g1 y
    refine ⟨_, ρ1, G1, _, pt1.go hr' s', rx, w1, fun ρ2 G2 σ2 H2 p2 s2 w2 => ?_⟩
    have sA : Stp Ga Ha G2 H2 := (s1.trans s').trans s2
    have sL : Stp G H G2 H2 := sa.trans sA
    have nxt : ∀ ρ' G' σ' H', Pt K G0 H0 ρ' G' σ' H' → Stp G2 H2 G' H' → forW gd g b F (xs.drop (i + 1)) ρ' G' → xs.length - (i + 1) = xs.length - (i + 1) ∧ i + 1 ≤ xs.length ∧ ∃ ρ G, Pt K G0 H0 ρ G σ' H' ∧ Stp Ga Ha G H' ∧ forW gd g b F (xs.drop (i + 1)) ρ G :=
      fun ρ' G' σ' H' p s w => ⟨rfl, hlt, ρ', G', p, sA.trans s, w⟩
    exact ⟨ρ2, G2, _, p2, w2, nxt, fun d G' v H' h r s q => l.rt d G' v H' h r (sL.trans s) q, fun ρ' G' σ' H' p s q => l.nx ρ' G' σ' H' p (sL.trans s) q, nxt⟩
  · have e : i = xs.length := by omega
    subst e
    rw [List.drop_length] at w1
    exact .inl ⟨it.stop G1 H1 pt1.hr s1 w1.1, l.nx ρ1 G1 σ1 H1 pt1 (sa.trans s1) w1.2⟩
theorem ds_for {iter : Expr} {body : List Stmt} {wi : WI} {g : WG} {b : WS} (hp : PassesOwn (model X.prog X.w) X.A X.env X.xe) (hc : X.calm = true) (hi : DI X G0 H0 tg iter wi) (hg : DG X G0 H0 tg g) (hb : DSs X G0 H0 body b)
    (hs : ∀ x, foldedSetIterable iter X.env x = pure x := by intro _; rfl) : DS X G0 H0 (.For tg iter body [] pos) (wFor wi g b) := PS.to (ps_for hp hc hi hg hb hs) fun _ _ _ h => lf_for h

/-! ### while -/
/-- some number of turns is enough -/
def whW (c : WT) (b : WS) (F : DEnds) : Nat → Ro → DHp → Prop
  | 0, _, _ => False
  | n + 1, ρ, G => c ρ G fun k G1 => if k = true then b { nx := whW c b F n, rt := F.rt, bk := F.nx, ct := whW c b F n } ρ G1 else F.nx ρ G1
def wWhile (c : WT) (b : WS) : WS := fun F ρ G => ∃ n, whW c b F n ρ G
theorem lf_while {K : W.Frag} {c : WT} {b : WS} {E : Ends} {σ : St} {H : Hp} (h : LfS K G0 H0 (wWhile c b) E σ H) : tWhile (LfT K G0 H0 c) (LfS K G0 H0 b) E σ H := by
  obtain ⟨ρ, G, F, pt, ⟨n, w⟩, l⟩ := h
  refine ⟨fun m σ' H' => ∃ ρ' G', Pt K G0 H0 ρ' G' σ' H' ∧ Stp G H G' H' ∧ whW c b F m ρ' G', ⟨n, ρ, G, pt, .refl, w⟩, ?_⟩
  rintro m σ1 H1 ⟨ρ1, G1, p1, s1, w1⟩
  cases m with
  | zero => exact w1.elim
  | succ m =>
    refine ⟨ρ1, G1, _, p1, w1, fun k G2 H2 h2 s2 w2 => ?_⟩
    cases k with
    | true =>
      refine iteT ⟨fun σ' H' => ∃ ρ' G', Pt K G0 H0 ρ' G' σ' H' ∧ Stp G H G' H' ∧ whW c b F m ρ' G', fun σ' H' q => ⟨m, Nat.lt_succ_self _, q⟩, ρ1, G2, _, p1.go h2 s2, w2, ?_⟩
      have s12 := s1.trans s2
      exact ⟨fun ρ' G' σ' H' p s w => ⟨ρ', G', p, s12.trans s, w⟩, fun d G' v H' h r s q => l.rt d G' v H' h r (s12.trans s) q, fun ρ' G' σ' H' p s q => l.nx ρ' G' σ' H' p (s12.trans s) q, fun ρ' G' σ' H' p s w => ⟨ρ', G', p, s12.trans s, w⟩⟩
    | false => exact iteF (l.nx ρ1 G2 σ1 H2 (p1.go h2 s2) (s1.trans s2) w2)
theorem ds_while {c : Expr} {body : List Stmt} {wc : WT} {b : WS} (hp : PassesOwn (model X.prog X.w) X.A X.env X.xe) (hc : DT X G0 H0 c wc) (hb : DSs X G0 H0 body b) : DS X G0 H0 (.While c body [] pos) (wWhile wc b) := PS.to (ps_while hp hc hb) fun _ _ _ h => lf_while h

/-! ### comprehensions -/
@[simp] def wipeD (ρ : Ro) : List Nat → Ro
  | [] => ρ
  | v :: vs => (wipeD ρ vs).set v none
theorem wipeD_length (ρ : Ro) : ∀ vs : List Nat, (wipeD ρ vs).length = ρ.length
  | [] => rfl
  | v :: vs => by unfold wipeD; rw [List.length_set, wipeD_length ρ vs]
theorem wipeD_some {ρ : Ro} {i : Nat} {x : D} : ∀ {vs : List Nat}, (wipeD ρ vs)[i]? = some (some x) → ρ[i]? = some (some x) ∧ i ∉ vs
  | [], h => ⟨h, by simp⟩
  | v :: vs, h => by
    unfold wipeD at h
    by_cases hi : v = i
    · subst hi
      by_cases hv : v < (wipeD ρ vs).length
      · rw [List.getElem?_set_self hv] at h; cases h
      · rw [List.getElem?_eq_none (by simpa using hv)] at h; cases h
    · rw [List.getElem?_set_ne hi] at h
      obtain ⟨h1, h2⟩ := wipeD_some h
      exact ⟨h1, by simp only [List.mem_cons, not_or]; exact ⟨fun e => hi e.symm, h2⟩⟩
theorem wipe_keep {σ : St} {i : Nat} {x : V} : ∀ {vs : List Nat}, σ[i]? = some (some x) → i ∉ vs → (wipe σ vs)[i]? = some (some x)
  | [], h, _ => h
  | v :: vs, h, hi => by
    unfold wipe
    rw [List.getElem?_set_ne (fun e => hi (by simp [e]))]
    exact wipe_keep h fun z => hi (by simp [z])
theorem SlD.wipe {K : W.Frag} {H : Hp} {ρ : Ro} {σ : St} (s : SlD K H ρ σ) (vs : List Nat) : SlD K H (wipeD ρ vs) (L2.wipe σ vs) := ⟨by rw [wipeD_length, wipe_length, s.len], fun i d e => by
  obtain ⟨e1, hn⟩ := wipeD_some e
  obtain ⟨v, h, r⟩ := s.at_ i d e1
  exact ⟨v, wipe_keep h hn, r⟩⟩
theorem wipe_at {σ : St} {i : Nat} : ∀ {vs : List Nat}, i ∈ vs → i < σ.length → (wipe σ vs)[i]? = some none
  | v :: vs, h, hl => by
    unfold wipe
    by_cases e : v = i
    · subst e
      rw [List.getElem?_set_self (by rw [wipe_length]; exact hl)]
    · rw [List.getElem?_set_ne e]
      exact wipe_at ((List.mem_cons.mp h).resolve_left fun z => e z.symm) hl
theorem wipe_none {σ : St} {i : Nat} : ∀ {vs : List Nat}, i ∉ vs → (wipe σ vs)[i]? = σ[i]?
  | [], _ => rfl
  | v :: vs, h => by
    unfold wipe
    rw [List.getElem?_set_ne (fun e => h (by simp [e]))]
    exact wipe_none fun z => h (by simp [z])
theorem wipe_ext {σ τ : St} {vs : List Nat} (hl : σ.length = τ.length) (h : ∀ i, i ∉ vs → σ[i]? = τ[i]?) : wipe σ vs = wipe τ vs := by
  refine List.ext_getElem? fun i => ?_
  by_cases hi : i ∈ vs
  · by_cases hs : i < σ.length
    · rw [wipe_at hi hs, wipe_at hi (by omega)]
    · rw [List.getElem?_eq_none (by rw [wipe_length]; omega), List.getElem?_eq_none (by rw [wipe_length]; omega)]
  · rw [wipe_none hi, wipe_none hi, h i hi]
theorem wipe_set {σ : St} {i : Nat} {x : Option V} {vs : List Nat} (hi : i ∈ vs) : wipe ((wipe σ vs).set i x) vs = wipe σ vs := by
  refine wipe_ext (by rw [List.length_set, wipe_length]) fun j hj => ?_
  have ne : i ≠ j := fun e => hj (by rw [← e]; exact hi)
  rw [List.getElem?_set_ne ne, wipe_none hj]
/-- the loop of a comprehension: acc what is made so far -/
def lcW (gd : DHp → Prop) (g : WG) (wt : WT) (we : WE) (ρ : Ro) (Q : DK) : List D → List D → DHp → Prop
  | [], acc, G => gd G ∧ ∀ p, G p = none → Q (.ref p) (updD G p (.lst acc))
  | x :: xs, acc, G => gd G ∧ g x ρ G fun ρ1 G1 => wt ρ1 G1 fun b G2 => if b = true then we ρ1 G2 fun y G3 => acc.length < 1000000 ∧ lcW gd g wt we ρ Q xs (acc ++ [y]) G3 else lcW gd g wt we ρ Q xs acc G2
@[simp] def wLc (vs : List Nat) (wi : WI) (g : WG) (wt : WT) (we : WE) : WE := fun ρ G Q => wi ρ G fun xs gd G1 => lcW gd g wt we (wipeD ρ vs) Q xs [] G1
@[simp] def wtYes : WT := fun _ G Q => Q true G
/-- a clause's tests -/
abbrev DTs (X : Cx) (G0 : DHp) (H0 : Hp) (ifs : List Expr) (w : WT) : Prop := PTs X ifs (LfT X.K G0 H0 w)
theorem PTs.to {ifs : List Expr} {t t' : TT} (h : PTs X ifs t) (i : ∀ σ H Q, t' σ H Q → t σ H Q) : PTs X ifs t' := ⟨fun pins s σ H Q I q => h.run pins s σ H Q I (i _ _ _ q)⟩
theorem dts_nil : DTs X G0 H0 [] wtYes := PTs.to pts_nil fun σ H Q ⟨ρ, G, QD, pt, w, k⟩ => k true G H pt.hr .refl w
theorem dts_one {c : Expr} {w : WT} (h : DT X G0 H0 c w) : DTs X G0 H0 [c] w := pts_one h
/-- a target of a comprehension: it stores in the block's own slots alone -/
structure OwnG (K : W.Frag) (vs : List Nat) (t : TG) (g : WG) : Prop where
  to : ∀ (G0 : DHp) (H0 : Hp) (x : V) (d : D) (ρ : Ro) (G : DHp) (σ : St) (H : Hp) (QD : Ro → DHp → Prop) (Q : St → Hp → Prop), Pt K G0 H0 (wipeD ρ vs) G (wipe σ vs) H → Rep K H d x → g d (wipeD ρ vs) G QD →
    (∀ ρ' σ', Pt K G0 H0 ρ' G σ' H → QD ρ' G → wipe σ' vs = wipe σ vs → Q σ' H) → t x (wipe σ vs) H Q
theorem own_name {K : W.Frag} {vs : List Nat} {i : Nat} (hi : i ∈ vs) : OwnG K vs (gName i) (wgName i) := ⟨fun G0 H0 x d ρ G σ H QD Q pt r w k => k _ _ (pt.set i r) w (wipe_set hi)⟩
theorem own_two {K : W.Frag} {vs : List Nat} {i j : Nat} (hi : i ∈ vs) (hj : j ∈ vs) : OwnG K vs (gTup K 2 (gCons (gName i) (gCons (gName j) gNil))) (wgTup 2 (wgCons (wgName i) (wgCons (wgName j) wgNil))) := ⟨fun G0 H0 x d ρ G σ H QD Q pt r w k => by
  obtain ⟨a, us, ds, rfl, h, rs, hl, w⟩ := tup_of r w
  match ds, hl with
  | [d1, d2], _ =>
    obtain ⟨v1, v2, rfl, r1, r2⟩ := rs.two_inv
    refine ⟨a, _, rfl, h, rfl, v1, _, rfl, v2, _, rfl, rfl, k _ _ ((pt.set i r1).set j r2) w ?_⟩
    refine wipe_ext (by rw [List.length_set, List.length_set, wipe_length]) fun m hm => ?_
    have n1 : i ≠ m := fun e => hm (by rw [← e]; exact hi)
    have n2 : j ≠ m := fun e => hm (by rw [← e]; exact hj)
    rw [List.getElem?_set_ne n2, List.getElem?_set_ne n1, wipe_none hm]⟩
theorem lf_lc {K : W.Frag} {vs : List Nat} {wi : WI} {t : TG} {g : WG} {wt : WT} {we : WE} {σ : St} {H : Hp} {Q : VK} (og : OwnG K vs t g) (h : LfE K G0 H0 (wLc vs wi g wt we) σ H Q) :
    tLc (LfI K G0 H0 wi) t (LfT K G0 H0 wt) (LfE K G0 H0 we) vs σ H Q := by
  obtain ⟨ρ, G, QD, pt, w, k⟩ := h
  refine ⟨ρ, G, _, pt, w, fun xs gd Ga Ha J ha sa it wa => ?_⟩
  intro Dp hD
  refine ⟨fun i m H => m = xs.length - i ∧ i ≤ xs.length ∧ ∃ G acc us, HR K G H ∧ Stp Ga Ha G H ∧ G Dp = none ∧ H Dp = some (.lst us) ∧ Reps K H acc us ∧ lcW gd g wt we (wipeD ρ vs) QD (xs.drop i) acc G,
    ⟨_, rfl, Nat.zero_le _, Ga, [], [], ha.newU hD, .newU hD, ha.free hD, upd_same, rfl, wa⟩, ?_⟩
  rintro i m H1 ⟨rfl, hi, G1, acc, us, h1, s1, gn, hl, ra, w1⟩
  have p1 : Pt K G0 H0 ρ G1 σ H1 := (pt.go ha sa).go h1 s1
  have pw : Pt K G0 H0 (wipeD ρ vs) G1 (wipe σ vs) H1 := ⟨p1.sl.wipe vs, p1.hr, p1.st⟩
  by_cases hlt : i < xs.length
  · have e : xs.drop i = xs[i] :: xs.drop (i + 1) := List.drop_eq_getElem_cons hlt
    rw [e] at w1
    obtain ⟨g1, w1⟩ := w1
    refine .inr ⟨it.go i G1 H1 hlt h1 s1 g1, fun H => xs.length - (i + 1) = xs.length - (i + 1) ∧ i + 1 ≤ xs.length ∧ ∃ G acc us, HR K G H ∧ Stp Ga Ha G H ∧ G Dp = none ∧ H Dp = some (.lst us) ∧ Reps K H acc us ∧ lcW gd g wt we (wipeD ρ vs) QD (xs.drop (i + 1)) acc G,
      fun H' n' => ⟨xs.length - (i + 1), by omega, n'⟩, fun x H' y => ?_⟩
    obtain ⟨rx, hr', s'⟩ := it.yld i xs[i] G1 H1 x H' (List.getElem?_eq_getElem hlt) h1 s1 g1 y
    refine og.to G0 H0 x xs[i] ρ G1 σ H' _ _ (pw.go hr' s') rx w1 fun ρ2 σ2 p2 w2 e2 => ⟨e2, ?_⟩
    refine ⟨ρ2, G1, _, p2, w2, fun b G3 H3 h3 s3 w3 => ?_⟩
    have s13 : Stp G1 H1 G3 H3 := s'.trans s3
    have keepD : ∀ {G' : DHp} {H' : Hp}, HR K G' H' → Stp G1 H1 G' H' → G' Dp = none ∧ H' Dp = some (.lst us) ∧ Reps K H' acc us := fun h s => ⟨s.hid Dp _ gn hl, s.keep Dp _ gn hl, ra.mono (s.mn h1)⟩
    cases b with
    | false =>
      obtain ⟨a1, a2, a3⟩ := keepD h3 s13
      exact iteF ⟨rfl, hlt, G3, acc, us, h3, s1.trans s13, a1, a2, a3, w3⟩
    | true =>
      refine iteT ⟨ρ2, G3, _, p2.go h3 s3, w3, fun y G4 v H4 h4 r4 s4 w4 => ?_⟩
      have s14 := s13.trans s4
      obtain ⟨a1, a2, a3⟩ := keepD h4 s14
      obtain ⟨hz, w4⟩ := w4
      have hz' : us.length < sizeLine := by rw [← a3.length, sizeLine_eq]; omega
      have nH : ∀ a o, G4 a = some o → a ≠ Dp := fun a o e z => by rw [z, a1] at e; cases e
      have mn : Mn K H4 (upd H4 Dp (.lst (us ++ [v]))) := by
        refine ⟨fun a ys h => ?_, fun a ys h => ?_, fun a ob ys h => by
          have : a ≠ Dp := fun z => by rw [z, a2] at h; cases h
          rw [upd_ne this]; exact h⟩
        · have ne : ∀ o, H4 a = some o → o ≠ .lst us → a ≠ Dp := fun o e n z => by rw [z, a2] at e; cases e; exact n rfl
          rw [upd_ne (ne _ h (by intro z; cases z))]; exact h
        · have ne : ∀ o, H4 a = some o → o ≠ .lst us → a ≠ Dp := fun o e n z => by rw [z, a2] at e; cases e; exact n rfl
          rcases h with ⟨ob, h⟩ | h
          · exact .inl ⟨ob, by rw [upd_ne (ne _ h (by intro z; cases z))]; exact h⟩
          · exact .inr h
      have hr5 : HR K G4 (upd H4 Dp (.lst (us ++ [v]))) := fun a o e => (h4 a o e).mono mn (upd_ne (nH a o e))
      refine ⟨us, a2, hz', rfl, hlt, G4, acc ++ [y], us ++ [v], hr5, ?_, a1, upd_same, (a3.append (Reps.one r4)).mono mn, w4⟩
      have sA : Stp Ga Ha G4 H4 := s1.trans s14
      refine ⟨fun a o g h => ?_, sA.hid, fun a o u h => ?_⟩
      · by_cases z : a = Dp
        · rw [z, hD] at h; cases h
        · rw [upd_ne z]; exact sA.keep a o g h
      · by_cases z : a = Dp
        · rw [z, hD] at h; cases h
        · rw [upd_ne z]; exact sA.frz a o u h
  · have e : i = xs.length := by omega
    subst e
    rw [List.drop_length] at w1
    refine .inl ⟨it.stop G1 H1 h1 s1 w1.1, ?_⟩
    have hH : upd H1 Dp (.lst us) = H1 := by
      funext b
      by_cases z : b = Dp
      · subst z; rw [upd_same, hl]
      · rw [upd_ne z]
    refine k (.ref Dp) (updD G1 Dp (.lst acc)) _ H1 ?_ rfl ?_ (w1.2 Dp gn)
    · intro a o ea
      by_cases z : a = Dp
      · subst z; rw [updD_same] at ea; cases ea; exact ⟨us, hl, ra⟩
      · rw [updD_ne z] at ea; exact h1 a o ea
    · have sA : Stp G H G1 H1 := sa.trans s1
      refine ⟨sA.keep, fun a o g h => ?_, sA.frz⟩
      by_cases z : a = Dp
      · subst z
        have := sa.keep a o g h
        rw [hD] at this; cases this
      · rw [updD_ne z]; exact sA.hid a o g h
/-- the block's context -/
abbrev BlkX (X : Cx) (scope : Scope) (s : Shared) (H : Hp) (C : Addr) (cl : List (Str × Addr)) (fp : List Addr) : Cx := X.blk s H scope (compEnvC scope cl C X.env) fp
theorem de_lc {elt tg iter : Expr} {ifs : List Expr} {scope : Scope} {own : List (Str × Nat)} {wi : WI} {t : TG} {g : WG} {wt : WT} {we : WE} (hc : X.calm = true) (hN : X.N.Nodup) (hi : DI X G0 H0 tg iter wi) (ok : BlkOk X.N X.env.scope scope own) (og : OwnG X.K (own.map (·.2)) t g)
    (hg : ∀ s H C cl fp, PG (BlkX X scope s H C cl fp) tg t) (ht : ∀ s H C cl fp, DTs (BlkX X scope s H C cl fp) G0 H0 ifs wt) (he : ∀ s H C cl fp, DE (BlkX X scope s H C cl fp) G0 H0 elt we) (hs : ∀ x, foldedSetIterable iter X.env x = pure x := by intro _; rfl) :
    DE X G0 H0 (.ListComp elt [⟨tg, iter, ifs, 0⟩] scope pos) (wLc (own.map (·.2)) wi g wt we) := PE.to (pe_lc hc hN hi ok hg ht he hs) fun _ _ _ h => lf_lc og h
theorem ds_setLc {i : Nat} {y : Str} {py : Pos} {elt tg iter : Expr} {ifs : List Expr} {scope : Scope} {own : List (Str × Nat)} {spos : Pos} {wi : WI} {t : TG} {g : WG} {wt : WT} {we : WE} (hc : X.calm = true) (hN : X.N.Nodup) (hy : X.N[i]? = some y) (hyl : X.env.scope.names.lookup y = some .local)
    (hsw : swapsWith (.ListComp elt [⟨tg, iter, ifs, 0⟩] scope pos) (some (.Name y py)) spos.line X.env = pure true) (hi : DI X G0 H0 tg iter wi) (ok : BlkOk X.N X.env.scope scope own) (og : OwnG X.K (own.map (·.2)) t g)
    (hg : ∀ s H C cl fp, PG (BlkX X scope s H C cl fp) tg t) (ht : ∀ s H C cl fp, DTs (BlkX X scope s H C cl fp) G0 H0 ifs wt) (he : ∀ s H C cl fp, DE (BlkX X scope s H C cl fp) G0 H0 elt we) (hs : ∀ x, foldedSetIterable iter X.env x = pure x := by intro _; rfl) :
    DS X G0 H0 (.Assign [.Name y py] (.ListComp elt [⟨tg, iter, ifs, 0⟩] scope pos) spos) (wAsg (wLc (own.map (·.2)) wi g wt we) (wgName i)) :=
  PS.to (ps_setLc hc hN hy hyl hsw hi ok hg ht he hs) fun E σ H ⟨ρ, G, F, pt, w, l⟩ =>
    lf_lc og ⟨ρ, G, _, pt, w, fun d G1 v H1 h1 r1 s1 q => l.nx _ G1 _ H1 ((pt.go h1 s1).set i r1) s1 q⟩
end
end TC
set_option maxRecDepth 100000
/-! TC, part f: errors, the rule of a def, built-in calls. -/
namespace TC
open PySem PySem.Spec PyProof.Rows L2

section
variable {X : Cx} {G0 : DHp} {H0 : Hp} {pos : Pos} {e e2 a b tg : Expr} {es : List Expr} {we wa wb : WE} {ws : WA}

/-! ### raise, try -/
@[simp] def wRaise (U : WXD) (C : Addr) : WS := fun _ ρ G => U ρ ⟨C, none⟩ G
theorem ds_raise {U : WXD} {C : Addr} {bmB : List Value} {B newId initId : String} {x m : Str} {j : Nat} {p p2 p3 : Pos} (hc : X.calm = true) (tk : Takes X (LfX X.K G0 H0 U)) (F : ExcBaseFacts B newId initId bmB) (q : PySem.W.excIn X.K C bmB newId = true) (gC : X.mg x = some (.ref C)) (kC : PySem.W.keepIn X.K (.ref C) = true)
    (r : Raises X (.ref C)) (hg : Gl X x) (hdb : (x == ("__debug__" : Str)) = false := by decide) : DS X G0 H0 (.Raise (some (.Call (.Name x p) [.Constant (.str m) j p2] [] p3)) none pos) (wRaise U C) :=
  PS.to (ps_raise hc tk (pmk_own F q gC kC r hg hdb)) fun E σ H ⟨ρ, G, FF, pt, w, l⟩ => ⟨ρ, G, ⟨C, none⟩, pt, ⟨rfl, trivial⟩, w⟩

/-- try: body, except c: suite -/
def wTry1 (K : W.Frag) (c : Value) (ts : WS) (Uo : WXD) (tb : WXD → WS) : WS := fun F ρ G =>
  tb (fun ρ' x G' => ∃ b, PySem.W.exmOne K (.ref x.C) c = some b ∧ (b = true → ts F ρ' G') ∧ (b = false → Uo ρ' x G')) F ρ G
theorem ds_try1 {x : Str} {c : Value} {body suite : List Stmt} {b0 : Stmt} {np pos' : Pos} {tb : WXD → WS} {ts : WS} {Uo : WXD} (hs : X.stack = X.env :: X.outer) (hf : X.env.frame = some X.env.locals) (hc : Names X x c) (tk : Takes X (LfX X.K G0 H0 Uo))
    (hb : ∀ (G1 : DHp) (H1 : Hp) (U : WXD) (pn : List (Addr × Obj)) (xe : Value → Shared → Prop), Takes (X.tr pn xe) (LfX X.K G1 H1 U) → PassesOwn (model X.prog X.w) X.A X.env xe → DSs (X.tr pn xe) G1 H1 body (tb U))
    (hsu : ∀ (a : Addr) (pn : List (Addr × Obj)), DSs (X.suite a pn) G0 H0 (b0 :: suite) ts) :
    DS X G0 H0 (.Try body [.ExceptHandler (some (.Name x np)) none (b0 :: suite) pos'] [] [] pos) (wTry1 X.K c ts Uo tb) := by
  refine PS.to (ps_try_only (tb := fun W E σ H => ∃ U G1 H1, (∀ cls d σ' H', LfX X.K G1 H1 U cls d σ' H' → W cls d σ' H') ∧ LfS X.K G1 H1 (tb U) E σ H) (ts := fun _ _ _ => LfS X.K G0 H0 ts) hs hf hc tk
    (fun W pn xe t po => ⟨fun pins s σ H D I ⟨U, G1, H1, hU, q⟩ => (hb G1 H1 U pn xe (t.imp hU) po).run pins s σ H D I q⟩) (fun a oe cls d pn _ _ => hsu a _)) ?_
  intro E σ H ⟨ρ, G, F, pt, w, l⟩
  refine ⟨fun ρ' x G' => ∃ b, PySem.W.exmOne X.K (.ref x.C) c = some b ∧ (b = true → ts F ρ' G') ∧ (b = false → Uo ρ' x G'), G, H, fun cls d σ' H' hx => ?_, ρ, G, F, ⟨pt.sl, pt.hr, .refl⟩, w, ?_⟩
  · obtain ⟨ρ', G', xx, p', xr, b, e, h1, h2⟩ := hx
    obtain ⟨ec, xr'⟩ := id xr
    refine ⟨b, by rw [ec]; exact e, fun hb a _ => ?_, fun hb => ?_⟩
    · exact ⟨ρ', G', F, ⟨p'.sl, p'.hr, pt.st.trans p'.st⟩, h1 hb, l.go p'.st⟩
    · exact ⟨ρ', G', xx, ⟨p'.sl, p'.hr, pt.st.trans p'.st⟩, xr, h2 hb⟩
  · exact ⟨fun ρ' G' σ' H' p s q => l.nx ρ' G' σ' H' ⟨p.sl, p.hr, pt.st.trans p.st⟩ s q, l.rt, fun ρ' G' σ' H' p s q => l.bk ρ' G' σ' H' ⟨p.sl, p.hr, pt.st.trans p.st⟩ s q, fun ρ' G' σ' H' p s q => l.ct ρ' G' σ' H' ⟨p.sl, p.hr, pt.st.trans p.st⟩ s q⟩
end

/-! ### a def's body keeps its promise -/
abbrev startD (N : List Str) (ds : List D) : Ro := ds.map some ++ List.replicate (N.length - ds.length) none
theorem Reps.start {K : W.Frag} {H : Hp} {N : List Str} {ds : List D} {vs : List V} (r : Reps K H ds vs) : SlD K H (startD N ds) (L2.start N vs) := by
  have hl := r.length
  refine ⟨by simp [startD, L2.start, hl], fun i d e => ?_⟩
  unfold startD at e
  unfold L2.start
  by_cases hi : i < ds.length
  · rw [List.getElem?_append_left (by simpa using hi), List.getElem?_map] at e
    cases e2 : ds[i]? with
    | none => rw [e2] at e; cases e
    | some d' =>
      rw [e2] at e
      cases e
      obtain ⟨v, h, q⟩ := r.get e2
      exact ⟨v, by rw [List.getElem?_append_left (by simp; omega), List.getElem?_map, h]; rfl, q⟩
  · rw [List.getElem?_append_right (by simpa using hi), List.getElem?_replicate] at e
    split at e <;> cases e
abbrev CxD (P : Program) (w : World) (K : W.Frag) (mg : Str → Option Value) (base : Heap) (N : List Str) (qual : Str) (scope : Scope) (f : Addr) (cd : Value) (A : Around) (outer : List Env) (s : Shared) (H : Hp) (E : XK) : Cx := cxOf (L2.CX P w) P w K mg base N qual scope f cd A outer s H E
theorem def_ok {P : Program} {w : World} {K : W.Frag} {mg : Str → Option Value} {base : Heap} {x qual : Str} {params : Arguments} {body : List Stmt} {scope : Scope} {dvs : List V} {kws : List (Str × V)} {f : Addr} {fd : FuncData} {N ps : List Str} {k : Nat} {sp : DSp} {wb : DXK → WS}
    (F : FunD K x qual params body scope dvs kws f fd) (S : FnScope N ps scope) (len : ∀ ds G Q E, sp ds G Q E → ds.length = ps.length)
    (hbody : ∀ (cdv : Value) (A : Around) (outer : List Env) (s : Shared) (H : Hp) (E : XK) (G0 : DHp) (ED : DXK), Room k (A.deeper (envOfC qual scope s.heap.objs.size f cdv)) →
      Takes (CxD P w K mg base N qual scope f cdv A outer s H E) (LfX K G0 H fun _ => ED) → PassesOwn (model P w) (A.deeper (envOfC qual scope s.heap.objs.size f cdv)) (envOfC qual scope s.heap.objs.size f cdv) (CxD P w K mg base N qual scope f cdv A outer s H E).xe →
      DSs (CxD P w K mg base N qual scope f cdv A outer s H E) G0 H body (wb ED))
    (spec : ∀ ds G Q E, sp ds G Q E → wb E { nx := fun _ G' => Q .non G', rt := Q } (startD N ds) G) : DFn P w K mg base (k + 1) f fd ps sp := by
  refine F.ok S (fun vs H Q E ⟨ds, G, QD, ED, r, _, h, _⟩ => by rw [← r.length]; exact len _ _ _ _ h) fun cdv A outer s H vs Q E hr h => ?_
  obtain ⟨ds, G, QD, ED, r, hG, h, kQ, kE⟩ := h
  refine ⟨_, hbody cdv A outer s H E G ED hr (Takes.imp (takes_of rfl rfl rfl rfl) fun c d σ H' ⟨ρ, G', xx, pt, xr, q⟩ => kE xx G' c d H' pt.hr xr pt.st q) (passes_of rfl), startD N ds, G, { nx := fun _ G' => QD .non G', rt := QD }, ⟨r.start, hG, .refl⟩, spec ds G QD ED h, ?_⟩
  exact ⟨fun ρ' G' σ' H' p s q => kQ .non G' .non H' p.hr rfl s q, fun d G' v H' h r s q => kQ d G' v H' h r s q, fun _ _ _ _ _ _ q => q.elim, fun _ _ _ _ _ _ q => q.elim⟩
theorem DFn.mono {P : Program} {w : World} {K : W.Frag} {mg : Str → Option Value} {base : Heap} {j k : Nat} {f : Addr} {fd : FuncData} {ps : List Str} {sp : DSp} (F : DFn P w K mg base j f fd ps sp) (h : j ≤ k) : DFn P w K mg base k f fd ps sp := FnOk.mono F h
theorem DFn.imp {P : Program} {w : World} {K : W.Frag} {mg : Str → Option Value} {base : Heap} {k : Nat} {f : Addr} {fd : FuncData} {ps : List Str} {sp sp' : DSp} (F : DFn P w K mg base k f fd ps sp) (h : ∀ ds G Q E, sp' ds G Q E → sp ds G Q E) : DFn P w K mg base k f fd ps sp' :=
  FnOk.imp F fun vs H Q E ⟨ds, G, QD, ED, r, hG, q, k1, k2⟩ => ⟨ds, G, QD, ED, r, hG, h _ _ _ _ q, k1, k2⟩

/-! ### built-in calls -/
section
variable {K : W.Frag}
theorem Reps.three_inv {H : Hp} {d d' d'' : D} {vs : List V} (r : Reps K H [d, d', d''] vs) : ∃ v v' v'', vs = [v, v', v''] ∧ Rep K H d v ∧ Rep K H d' v' ∧ Rep K H d'' v'' := by
  obtain ⟨v, r, rfl, h, r2⟩ := r
  obtain ⟨v', v'', rfl, h', h''⟩ := Reps.two_inv r2
  exact ⟨v, v', v'', rfl, h, h', h''⟩
def dLen : WRA := fun ds G Q => match ds with
  | [.str z] => z.length ≤ 1000000 ∧ Q (.int z.length) G
  | [.tup xs] => Q (.int xs.length) G
  | [.ft xs] => Q (.int xs.length) G
  | [.kt xs] => Q (.int xs.length) G
  | [.rl xs] => Q (.int xs.length) G
  | [.ref a] => ∃ xs, G a = some (.lst xs) ∧ Q (.int xs.length) G
  | _ => False
theorem cd_len : CaD K (fun xs H Q => ∃ x n, xs = [x] ∧ LenV K x H n ∧ Q (.int n) H) dLen := by
  intro xs vs G H Q QD hr r w k
  unfold dLen at w
  split at w
  · obtain ⟨v, rfl, q⟩ := r.one_inv
    cases q
    exact ⟨_, _, rfl, ⟨big_line w.1, rfl⟩, k (.int _) G _ H hr rfl .refl w.2⟩
  · obtain ⟨v, rfl, q⟩ := r.one_inv
    obtain ⟨a, us, rfl, h, rs⟩ := q
    exact ⟨_, us.length, rfl, .inr ⟨us, .inl h, rfl⟩, by rw [← rs.length]; exact k (.int _) G _ H hr rfl .refl w⟩
  · obtain ⟨v, rfl, q⟩ := r.one_inv
    obtain ⟨a, us, rfl, ⟨o, h, _⟩, rs⟩ := q
    exact ⟨_, us.length, rfl, .inr ⟨us, .inl (.inr ⟨o, h⟩), rfl⟩, by rw [← rs.length]; exact k (.int _) G _ H hr rfl .refl w⟩
  · obtain ⟨v, rfl, q⟩ := r.one_inv
    obtain ⟨a, us, rfl, h, rs⟩ := q
    exact ⟨_, us.length, rfl, .inr ⟨us, .inl (.inl h), rfl⟩, by rw [← rs.length]; exact k (.int _) G _ H hr rfl .refl w⟩
  · obtain ⟨v, rfl, q⟩ := r.one_inv
    obtain ⟨a, us, rfl, h, rs⟩ := q
    exact ⟨_, us.length, rfl, .inl ⟨us, h.sq, rfl⟩, by rw [← rs.length]; exact k (.int _) G _ H hr rfl .refl w⟩
  · obtain ⟨v, rfl, q⟩ := r.one_inv
    cases q
    obtain ⟨xs, ea, w⟩ := w
    obtain ⟨us, h, rs⟩ := hr _ _ ea
    exact ⟨_, us.length, rfl, .inl ⟨us, SqL.of h, rfl⟩, by rw [← rs.length]; exact k (.int _) G _ H hr rfl .refl w⟩
  · exact w.elim

/-- the built-in classes that isinstance is asked for -/
inductive Kd where
  | int | bool | str | tup | lst
  deriving DecidableEq
def Kd.name : Kd → String
  | .int => "int" | .bool => "bool" | .str => "str" | .tup => "tuple" | .lst => "list"
def isK (k : Kd) (G : DHp) : D → Option Bool
  | .non => some false
  | .bl _ => some (decide (k = .int) || decide (k = .bool))
  | .int _ => some (decide (k = .int))
  | .str _ => some (decide (k = .str))
  | .tup _ => some (decide (k = .tup))
  | .kt _ => some (decide (k = .tup))
  | .ft _ => some (decide (k = .tup))
  | .rl _ => some (decide (k = .lst))
  | .ref a => match G a with
    | some (.lst _) => some (decide (k = .lst))
    | some (.dK _) => some false
    | some (.dT _) => some false
    | _ => none
  | .ty _ => none
def oB (o : Option Bool) (G : DHp) (Q : DK) : Prop := match o with
  | some b => Q (.bl b) G
  | none => False
def dIsi : WRA := fun ds G Q => match ds with
  | [x, .ty n] => ∃ k : Kd, n = k.name ∧ oB (isK k G x) G Q
  | _ => False
theorem isK_ok {k : Kd} {G : DHp} {H : Hp} {x : D} {v : V} {b : Bool} (hr : HR K G H) (r : Rep K H x v) (e : isK k G x = some b) : ∃ t, TyX K H v (.type t) ∧ kitB t k.name = some b := by
  cases x with
  | non => cases r; cases e; exact ⟨_, .base .non, by cases k <;> decide +kernel⟩
  | bl y => cases r; cases e; exact ⟨_, .base (.bl y), by cases k <;> decide +kernel⟩
  | int y => cases r; cases e; exact ⟨_, .base (.int y), by cases k <;> decide +kernel⟩
  | str y => cases r; cases e; exact ⟨_, .base (.str y), by cases k <;> decide +kernel⟩
  | tup ds =>
    obtain ⟨a, vs, rfl, h, rs⟩ := r
    cases e
    rcases h with h | ⟨o, h⟩
    · exact ⟨_, .base (.tup h), by cases k <;> decide +kernel⟩
    · exact ⟨_, .fTuple h, by cases k <;> decide +kernel⟩
  | ft ds =>
    obtain ⟨a, vs, rfl, ⟨o, h, _⟩, rs⟩ := r
    cases e
    exact ⟨_, .fTuple h, by cases k <;> decide +kernel⟩
  | kt ds =>
    obtain ⟨a, vs, rfl, h, rs⟩ := r
    cases e
    exact ⟨_, .base (.tup h), by cases k <;> decide +kernel⟩
  | rl ds =>
    obtain ⟨a, vs, rfl, h, rs⟩ := r
    cases e
    rcases h with ⟨o, h⟩ | ⟨o, its, n, h, hc, _⟩
    · exact ⟨_, .base (.frz h), by cases k <;> decide +kernel⟩
    · exact ⟨_, .kList h hc, by cases k <;> decide +kernel⟩
  | ref a =>
    cases r
    unfold isK at e
    simp only at e
    split at e
    · rename_i ea
      cases e
      obtain ⟨vs, h, _⟩ := hr _ _ ea
      exact ⟨_, .base (.lst h), by cases k <;> decide +kernel⟩
    · rename_i ea
      cases e
      obtain ⟨vs, h, _⟩ := hr _ _ ea
      exact ⟨_, .base (.dK h), by cases k <;> decide +kernel⟩
    · rename_i ea
      cases e
      obtain ⟨vs, h, _⟩ := hr _ _ ea
      exact ⟨_, .base (.dT h), by cases k <;> decide +kernel⟩
    · cases e
  | ty n => cases e
theorem cd_isi : CaD K (rIsi K) dIsi := by
  intro xs vs G H Q QD hr r w k
  unfold dIsi at w
  split at w
  · obtain ⟨v, v', rfl, q, q'⟩ := r.two_inv
    cases q'
    obtain ⟨kd, rfl, w⟩ := w
    unfold oB at w
    split at w
    · rename_i b e
      obtain ⟨t, ty, kb⟩ := isK_ok hr q e
      exact ⟨v, _, .type t, .type kd.name, b, rfl, .ty _, ty, kit_ty kb, k (.bl b) G _ H hr rfl .refl w⟩
    · exact w.elim
  · exact w.elim
/-- isinstance(x, T) -/
@[simp] def wIsi (k : Kd) (we : WE) : WE := fun ρ G Q => we ρ G fun x G1 => oB (isK k G1 x) G1 Q
theorem de_isi {X : Cx} {G0 : DHp} {H0 : Hp} {pos p p2 : Pos} {e : Expr} {we : WE} {T : Str} (k : Kd) (hg : Gl X "isinstance") (hm : X.mg "isinstance" = none) (he : DE X G0 H0 e we) (hgT : Gl X T) (hmT : X.mg T = none) (hvT : bootBuiltins T = some (.type k.name)) (hn : T ≠ "__name__" := by decide) (hd : (T == ("__debug__" : Str)) = false := by decide)
    (hs : starEach [e, .Name T p2] X.env = (false, eval e X.env) :: starEach [.Name T p2] X.env := by rfl) (hs2 : starEach [.Name T p2] X.env = (false, eval (.Name T p2) X.env) :: starEach [] X.env := by rfl) (hpl : (backTo pos (starEach [.Name T p2] X.env)).any (·.1) = false := by rfl) :
    DE X G0 H0 (.Call (.Name "isinstance" p) [e, .Name T p2] [] pos) (wIsi k we) :=
  PE.to (de_callB call_isi cd_isi hg hm (by decide +kernel) (da_cons he (da_cons (de_bltn (v := .ty k.name) (d := .ty k.name) hgT hmT hvT rfl (fun _ => rfl) hn hd) da_nil hs2) hs) (by decide) (by decide) hs hpl) fun σ H Q ⟨ρ, G, QD, pt, w, k'⟩ =>
    ⟨ρ, G, QD, pt, show we ρ G (fun x G1 => dIsi [x, .ty k.name] G1 QD) from (by
      have : (fun x G1 => dIsi [x, .ty k.name] G1 QD) = fun x G1 => oB (isK k G1 x) G1 QD := by
        funext x G1
        refine propext ⟨fun ⟨k2, e, h⟩ => ?_, fun h => ⟨k, rfl, h⟩⟩
        have : k2 = k := by
          revert e
          cases k <;> cases k2 <;> first | (intro _; rfl) | (intro e; exact absurd e (by decide))
        subst this
        exact h
      rw [this]
      exact w), k'⟩
def dInt1 : WRA := fun ds G Q => match ds with
  | [.int i] => Q (.int i) G
  | [.bl b] => Q (.int (if b then 1 else 0)) G
  | _ => False
theorem cd_int1 : CaD K (fun xs H Q => (∃ i, xs = [.int i] ∧ Q (.int i) H) ∨ ∃ k, xs = [.bl k] ∧ Q (.int (if k then 1 else 0)) H) dInt1 := by
  intro xs vs G H Q QD hr r w k
  unfold dInt1 at w
  split at w
  · obtain ⟨v, rfl, q⟩ := r.one_inv
    cases q
    exact .inl ⟨_, rfl, k (.int _) G _ H hr rfl .refl w⟩
  · obtain ⟨v, rfl, q⟩ := r.one_inv
    cases q
    exact .inr ⟨_, rfl, k (.int _) G _ H hr rfl .refl w⟩
  · exact w.elim
def dMax2 : WRA := fun ds G Q => match ds with
  | [.int i, .int j] => Q (.int (if j > i then j else i)) G
  | _ => False
theorem cd_max2 : CaD K (fun xs H Q => ∃ i j, xs = [.int i, .int j] ∧ Q (.int (if j > i then j else i)) H) dMax2 := by
  intro xs vs G H Q QD hr r w k
  unfold dMax2 at w
  split at w
  · obtain ⟨v, v', rfl, q, q'⟩ := r.two_inv
    cases q; cases q'
    exact ⟨_, _, rfl, k (.int _) G _ H hr rfl .refl w⟩
  · exact w.elim
def dMin2 : WRA := fun ds G Q => match ds with
  | [.int i, .int j] => Q (.int (if j < i then j else i)) G
  | _ => False
theorem cd_min2 : CaD K (fun xs H Q => ∃ i j, xs = [.int i, .int j] ∧ Q (.int (if j < i then j else i)) H) dMin2 := by
  intro xs vs G H Q QD hr r w k
  unfold dMin2 at w
  split at w
  · obtain ⟨v, v', rfl, q, q'⟩ := r.two_inv
    cases q; cases q'
    exact ⟨_, _, rfl, k (.int _) G _ H hr rfl .refl w⟩
  · exact w.elim
def dAll : WRA := fun ds G Q => match ds with
  | [.ref a] => ∃ bs : List Bool, G a = some (.lst (bs.map .bl)) ∧ Q (.bl (bs.all id)) G
  | _ => False
theorem cd_all : CaD K (rAll K) dAll := by
  intro xs vs G H Q QD hr r w k
  unfold dAll at w
  split at w
  · obtain ⟨v, rfl, q⟩ := r.one_inv
    cases q
    obtain ⟨bs, ea, w⟩ := w
    obtain ⟨us, h, rs⟩ := hr _ _ ea
    cases rs.bls
    exact ⟨_, bs, rfl, SqL.of h, k (.bl _) G _ H hr rfl .refl w⟩
  · exact w.elim
def dAny : WRA := fun ds G Q => match ds with
  | [.ref a] => ∃ bs : List Bool, G a = some (.lst (bs.map .bl)) ∧ Q (.bl (bs.any id)) G
  | _ => False
theorem cd_any : CaD K (rAny K) dAny := by
  intro xs vs G H Q QD hr r w k
  unfold dAny at w
  split at w
  · obtain ⟨v, rfl, q⟩ := r.one_inv
    cases q
    obtain ⟨bs, ea, w⟩ := w
    obtain ⟨us, h, rs⟩ := hr _ _ ea
    cases rs.bls
    exact ⟨_, bs, rfl, SqL.of h, k (.bl _) G _ H hr rfl .refl w⟩
  · exact w.elim
def dSum : WRA := fun ds G Q => match ds with
  | [.ref a] => ∃ ns : List Int, G a = some (.lst (ns.map .int)) ∧ Q (.int ns.sum) G
  | _ => False
theorem cd_sum : CaD K (rSum K) dSum := by
  intro xs vs G H Q QD hr r w k
  unfold dSum at w
  split at w
  · obtain ⟨v, rfl, q⟩ := r.one_inv
    cases q
    obtain ⟨ns, ea, w⟩ := w
    obtain ⟨us, h, rs⟩ := hr _ _ ea
    cases rs.ints
    exact ⟨_, ns, rfl, SqL.of h, k (.int _) G _ H hr rfl .refl w⟩
  · exact w.elim
def dList : WRA := fun ds G Q => match ds with
  | [d] => match itemsD G d with
    | some xs => ∀ p, G p = none → Q (.ref p) (updD G p (.lst xs))
    | none => False
  | _ => False
theorem cd_list : CaD K (fun xs H Q => ∃ p ys, xs = [.ref p] ∧ (SqL K H p ys ∨ SqT K H p ys) ∧ ∀ l, H l = none → Q (.ref l) (upd H l (.lst ys))) dList := by
  intro xs vs G H Q QD hr r w k
  unfold dList at w
  split at w
  · obtain ⟨v, rfl, q⟩ := r.one_inv
    split at w
    · rename_i ys e
      obtain ⟨p, us, rfl, h, rs⟩ := items_sq hr q e
      exact ⟨p, us, rfl, h, fun l hl => k (.ref l) _ _ _ (hr.new hl (o := .lst ys) ⟨us, upd_same, rs.mono (mn_upd hl)⟩) rfl (.new hr hl) (w l (hr.free hl))⟩
    · exact w.elim
  · exact w.elim
def dTuple : WRA := fun ds G Q => match ds with
  | [d] => match itemsD G d with
    | some xs => Q (.tup xs) G
    | none => False
  | _ => False
theorem cd_tuple : CaD K (fun xs H Q => ∃ p ys, xs = [.ref p] ∧ ((SqL K H p ys ∧ ∀ l, H l = none → Q (.ref l) (upd H l (.tup ys))) ∨ (SqT K H p ys ∧ Q (.ref p) H))) dTuple := by
  intro xs vs G H Q QD hr r w k
  unfold dTuple at w
  split at w
  · obtain ⟨v, rfl, q⟩ := r.one_inv
    split at w
    · rename_i d _ ys e
      cases d with
      | tup xs =>
        cases e
        obtain ⟨p, us, rfl, h, rs⟩ := id q
        exact ⟨p, us, rfl, .inr ⟨.inl h, k (.tup ys) G _ H hr q .refl w⟩⟩
      | ft xs =>
        cases e
        obtain ⟨p, us, rfl, ⟨o, h, _⟩, rs⟩ := q
        exact ⟨p, us, rfl, .inr ⟨.inl (.inr ⟨o, h⟩), k (.tup ys) G _ H hr ⟨p, us, rfl, .inr ⟨o, h⟩, rs⟩ .refl w⟩⟩
      | kt xs =>
        cases e
        obtain ⟨p, us, rfl, h, rs⟩ := q
        exact ⟨p, us, rfl, .inr ⟨.inl (.inl h), k (.tup ys) G _ H hr ⟨p, us, rfl, .inl h, rs⟩ .refl w⟩⟩
      | rl xs =>
        cases e
        obtain ⟨p, us, rfl, h, rs⟩ := q
        exact ⟨p, us, rfl, .inl ⟨h.sq, fun l hl => k (.tup ys) G _ _ (hr.newU hl) ⟨l, us, rfl, .inl upd_same, rs.mono (mn_upd hl)⟩ (.newU hl) w⟩⟩
      | ref a =>
        cases q
        unfold itemsD at e
        simp only at e
        split at e
        · rename_i ea
          cases e
          obtain ⟨us, h, rs⟩ := hr _ _ ea
          exact ⟨a, us, rfl, .inl ⟨SqL.of h, fun l hl => k (.tup ys) G _ _ (hr.newU hl) ⟨l, us, rfl, .inl upd_same, rs.mono (mn_upd hl)⟩ (.newU hl) w⟩⟩
        · cases e
      | _ => cases e
    · exact w.elim
  · exact w.elim
/-- the greatest, the least of a row -/
def maxL : List Int → Int
  | [] => 0
  | [x] => x
  | x :: xs => if maxL xs < x then x else maxL xs
def minL : List Int → Int
  | [] => 0
  | [x] => x
  | x :: xs => if x < minL xs then x else minL xs
theorem maxL_spec : ∀ {ns : List Int}, ns ≠ [] → maxL ns ∈ ns ∧ ∀ y ∈ ns, y ≤ maxL ns
  | [x], _ => by simp [maxL]
  | x :: y :: xs, _ => by
    obtain ⟨h1, h2⟩ := maxL_spec (ns := y :: xs) (by simp)
    unfold maxL
    split
    · rename_i h
      refine ⟨by simp, fun z hz => ?_⟩
      rcases List.mem_cons.mp hz with rfl | hz
      · exact Int.le_refl _
      · exact Int.le_of_lt (Int.lt_of_le_of_lt (h2 z hz) h)
    · rename_i h
      refine ⟨List.mem_cons_of_mem _ h1, fun z hz => ?_⟩
      rcases List.mem_cons.mp hz with rfl | hz
      · omega
      · exact h2 z hz
theorem minL_spec : ∀ {ns : List Int}, ns ≠ [] → minL ns ∈ ns ∧ ∀ y ∈ ns, minL ns ≤ y
  | [x], _ => by simp [minL]
  | x :: y :: xs, _ => by
    obtain ⟨h1, h2⟩ := minL_spec (ns := y :: xs) (by simp)
    unfold minL
    split
    · rename_i h
      refine ⟨by simp, fun z hz => ?_⟩
      rcases List.mem_cons.mp hz with rfl | hz
      · exact Int.le_refl _
      · exact Int.le_of_lt (Int.lt_of_lt_of_le h (h2 z hz))
    · rename_i h
      refine ⟨List.mem_cons_of_mem _ h1, fun z hz => ?_⟩
      rcases List.mem_cons.mp hz with rfl | hz
      · omega
      · exact h2 z hz
def dMaxL : WRA := fun ds G Q => match ds with
  | [.ref a] => ∃ ns : List Int, G a = some (.lst (ns.map .int)) ∧ ns ≠ [] ∧ Q (.int (maxL ns)) G
  | _ => False
theorem cd_maxL : CaD K (rMax K) dMaxL := by
  intro xs vs G H Q QD hr r w k
  unfold dMaxL at w
  split at w
  · obtain ⟨v, rfl, q⟩ := r.one_inv
    cases q
    obtain ⟨ns, ea, hne, w⟩ := w
    obtain ⟨us, h, rs⟩ := hr _ _ ea
    cases rs.ints
    obtain ⟨h1, h2⟩ := maxL_spec hne
    refine ⟨_, ns, rfl, SqL.of h, List.length_pos_iff.mpr hne, fun m hm hle => ?_⟩
    have : m = maxL ns := Int.le_antisymm (h2 m hm) (hle _ h1)
    subst this
    exact k (.int _) G _ H hr rfl .refl w
  · exact w.elim
def dMinL : WRA := fun ds G Q => match ds with
  | [.ref a] => ∃ ns : List Int, G a = some (.lst (ns.map .int)) ∧ ns ≠ [] ∧ Q (.int (minL ns)) G
  | _ => False
theorem cd_minL : CaD K (rMin K) dMinL := by
  intro xs vs G H Q QD hr r w k
  unfold dMinL at w
  split at w
  · obtain ⟨v, rfl, q⟩ := r.one_inv
    cases q
    obtain ⟨ns, ea, hne, w⟩ := w
    obtain ⟨us, h, rs⟩ := hr _ _ ea
    cases rs.ints
    obtain ⟨h1, h2⟩ := minL_spec hne
    refine ⟨_, ns, rfl, SqL.of h, List.length_pos_iff.mpr hne, fun m hm hle => ?_⟩
    have : m = minL ns := Int.le_antisymm (hle _ h1) (h2 m hm)
    subst this
    exact k (.int _) G _ H hr rfl .refl w
  · exact w.elim
end
end TC
set_option maxRecDepth 100000
/-! TC, part g: the values' functions at values of known form. -/
namespace TC
open PySem PySem.Spec PyProof.Rows L2
section
variable {G : DHp} {Q : DK} {i j : Int} {a b z : Str} {xs ys : List D} {x y : D} {p q : Addr}
@[simp] theorem kB_bl {Q : Bool → DHp → Prop} {c : Bool} : kB Q (.bl c) G = Q c G := rfl
@[simp] theorem kI_int {Q : Option Int → DHp → Prop} : kI Q (.int i) G = Q (some i) G := rfl
@[simp] theorem kTupI_tup {Q : List D → (DHp → Prop) → DHp → Prop} : kTupI Q (.tup xs) G = Q xs (fun _ => True) G := rfl
@[simp] theorem kLstI_ref {Q : List D → (DHp → Prop) → DHp → Prop} : kLstI Q (.ref p) G = ∃ xs, G p = some (.lst xs) ∧ Q xs (fun G' => G' p = some (.lst xs)) G := rfl
@[simp] theorem kStrI_str {Q : List D → (DHp → Prop) → DHp → Prop} : kStrI Q (.str z) G = Q (z.cps.toList.map fun c => .str ⟨#[c]⟩) (fun _ => True) G := rfl
@[simp] theorem kRng1_int {Q : List D → (DHp → Prop) → DHp → Prop} : kRng1 Q [.int j] G = (-1000000 ≤ j ∧ j ≤ 1000000 ∧ Q (intsD 0 j.toNat) (fun _ => True) G) := rfl
@[simp] theorem kRng2_int {Q : List D → (DHp → Prop) → DHp → Prop} : kRng2 Q [.int i, .int j] G = ((-1000000 ≤ i ∧ i ≤ 1000000 ∧ -1000000 ≤ j ∧ j ≤ 1000000) ∧ Q (intsD i (j - i).toNat) (fun _ => True) G) := rfl
@[simp] theorem dAdd_int : dAdd (.int i) (.int j) G Q = Q (.int (i + j)) G := rfl
@[simp] theorem dAdd_str : dAdd (.str a) (.str b) G Q = (a.length + b.length ≤ 1000000 ∧ Q (.str (a ++ b)) G) := rfl
@[simp] theorem dAdd_tup : dAdd (.tup xs) (.tup ys) G Q = (xs.length + ys.length ≤ 1000000 ∧ Q (.tup (xs ++ ys)) G) := rfl
@[simp] theorem dAdd_ref : dAdd (.ref p) (.ref q) G Q = ∃ xs ys, G p = some (.lst xs) ∧ G q = some (.lst ys) ∧ xs.length + ys.length ≤ 1000000 ∧ ∀ r, G r = none → Q (.ref r) (updD G r (.lst (xs ++ ys))) := rfl
@[simp] theorem dInt2_int {C : Int → Int → Prop} {g : Int → Int → D} : dInt2 C g (.int i) (.int j) G Q = (C i j ∧ Q (g i j) G) := rfl
@[simp] theorem dInt0_int {g : Int → Int → D} : dInt0 g (.int i) (.int j) G Q = Q (g i j) G := rfl
@[simp] theorem dOrd_int {pp : Int → Int → Bool} {qq : List Nat → List Nat → Bool} : dOrd pp qq (.int i) (.int j) G Q = Q (.bl (pp i j)) G := rfl
@[simp] theorem dOrd_str {pp : Int → Int → Bool} {qq : List Nat → List Nat → Bool} : dOrd pp qq (.str a) (.str b) G Q = Q (.bl (qq a.cps.toList b.cps.toList)) G := rfl
@[simp] theorem dIsN_non {n : Bool} : dIsN n x .non G Q = Q (.bl (n != isNon x)) G := rfl
@[simp] theorem isNon_non : isNon .non = true := rfl
@[simp] theorem isNon_int : isNon (.int i) = false := rfl
@[simp] theorem isNon_bl {c : Bool} : isNon (.bl c) = false := rfl
@[simp] theorem isNon_str : isNon (.str a) = false := rfl
@[simp] theorem isNon_tup : isNon (.tup xs) = false := rfl
@[simp] theorem isNon_ref : isNon (.ref p) = false := rfl
@[simp] theorem isNon_rl : isNon (.rl xs) = false := rfl
@[simp] theorem dEq_int : dEq (.int i) (.int j) G Q = Q (.bl (i == j)) G := rfl
@[simp] theorem dEq_str : dEq (.str a) (.str b) G Q = Q (.bl (a == b)) G := rfl
@[simp] theorem dEq_bl {c d : Bool} : dEq (.bl c) (.bl d) G Q = Q (.bl (c == d)) G := rfl
@[simp] theorem dNe_int : dNe (.int i) (.int j) G Q = Q (.bl (!(i == j))) G := rfl
@[simp] theorem dNe_str : dNe (.str a) (.str b) G Q = Q (.bl (!(a == b))) G := rfl
@[simp] theorem dNe_bl {c d : Bool} : dNe (.bl c) (.bl d) G Q = Q (.bl (!(c == d))) G := rfl
@[simp] theorem itemsD_tup : itemsD G (.tup xs) = some xs := rfl
@[simp] theorem itemsD_rl : itemsD G (.rl xs) = some xs := rfl
theorem itemsD_ref (h : G p = some (.lst xs)) : itemsD G (.ref p) = some xs := by simp [itemsD, h]
@[simp] theorem must_some : must (some x) G Q = Q x G := rfl
@[simp] theorem must_none : must none G Q = False := rfl
@[simp] theorem dIx_tup : dIx (.tup xs) (.int i) G Q = must (pick xs i) G Q := rfl
@[simp] theorem dIx_rl : dIx (.rl xs) (.int i) G Q = must (pick xs i) G Q := rfl
@[simp] theorem dIx_ref : dIx (.ref p) (.int i) G Q = ∃ xs, G p = some (.lst xs) ∧ must (pick xs i) G Q := rfl
@[simp] theorem dIx_str : dIx (.str z) (.int i) G Q = (z.length ≤ 1000000 ∧ must ((pick z.cps.toList i).map fun c => .str ⟨#[c]⟩) G Q) := rfl
@[simp] theorem dSl_tup {lo hi : Option Int} : dSl (.tup xs) lo hi G Q = Q (.tup (cut xs lo hi)) G := rfl
@[simp] theorem dSl_ref {lo hi : Option Int} : dSl (.ref p) lo hi G Q = ∃ xs, G p = some (.lst xs) ∧ ∀ r, G r = none → Q (.ref r) (updD G r (.lst (cut xs lo hi))) := rfl
@[simp] theorem dSl_str {lo hi : Option Int} : dSl (.str z) lo hi G Q = (z.length ≤ 1000000 ∧ Q (.str (cutS z lo hi)) G) := rfl
@[simp] theorem dSet_ref {Q : DHp → Prop} : dSet (.ref p) (.int i) x G Q = ∃ xs, G p = some (.lst xs) ∧ 0 ≤ i ∧ i < xs.length ∧ Q (updD G p (.lst (xs.set i.toNat x))) := rfl
@[simp] theorem dLen_tup : dLen [.tup xs] G Q = Q (.int xs.length) G := rfl
@[simp] theorem dLen_rl : dLen [.rl xs] G Q = Q (.int xs.length) G := rfl
@[simp] theorem dLen_ref : dLen [.ref p] G Q = ∃ xs, G p = some (.lst xs) ∧ Q (.int xs.length) G := rfl
@[simp] theorem dLen_str : dLen [.str z] G Q = (z.length ≤ 1000000 ∧ Q (.int z.length) G) := rfl
@[simp] theorem isK_non {k : Kd} : isK k G .non = some false := rfl
@[simp] theorem isK_bl {k : Kd} {c : Bool} : isK k G (.bl c) = some (decide (k = .int) || decide (k = .bool)) := rfl
@[simp] theorem isK_int {k : Kd} : isK k G (.int i) = some (decide (k = .int)) := rfl
@[simp] theorem isK_str {k : Kd} : isK k G (.str a) = some (decide (k = .str)) := rfl
@[simp] theorem isK_tup {k : Kd} : isK k G (.tup xs) = some (decide (k = .tup)) := rfl
@[simp] theorem isK_rl {k : Kd} : isK k G (.rl xs) = some (decide (k = .lst)) := rfl
@[simp] theorem isK_ref {k : Kd} (h : G p = some (.lst xs)) : isK k G (.ref p) = some (decide (k = .lst)) := by simp [isK, h]
@[simp] theorem oB_some {c : Bool} : oB (some c) G Q = Q (.bl c) G := rfl
@[simp] theorem dInt1_int : dInt1 [.int i] G Q = Q (.int i) G := rfl
@[simp] theorem dInt1_bl {c : Bool} : dInt1 [.bl c] G Q = Q (.int (if c then 1 else 0)) G := rfl
@[simp] theorem dMax2_int : dMax2 [.int i, .int j] G Q = Q (.int (if j > i then j else i)) G := rfl
@[simp] theorem dMin2_int : dMin2 [.int i, .int j] G Q = Q (.int (if j < i then j else i)) G := rfl
@[simp] theorem dAll_ref : dAll [.ref p] G Q = ∃ bs : List Bool, G p = some (.lst (bs.map .bl)) ∧ Q (.bl (bs.all id)) G := rfl
@[simp] theorem dAny_ref : dAny [.ref p] G Q = ∃ bs : List Bool, G p = some (.lst (bs.map .bl)) ∧ Q (.bl (bs.any id)) G := rfl
@[simp] theorem dSum_ref : dSum [.ref p] G Q = ∃ ns : List Int, G p = some (.lst (ns.map .int)) ∧ Q (.int ns.sum) G := rfl
@[simp] theorem dMaxL_ref : dMaxL [.ref p] G Q = ∃ ns : List Int, G p = some (.lst (ns.map .int)) ∧ ns ≠ [] ∧ Q (.int (maxL ns)) G := rfl
@[simp] theorem dMinL_ref : dMinL [.ref p] G Q = ∃ ns : List Int, G p = some (.lst (ns.map .int)) ∧ ns ≠ [] ∧ Q (.int (minL ns)) G := rfl
@[simp] theorem dList_tup : dList [.tup xs] G Q = ∀ r, G r = none → Q (.ref r) (updD G r (.lst xs)) := rfl
theorem dList_ref (h : G p = some (.lst xs)) : dList [.ref p] G Q = ∀ r, G r = none → Q (.ref r) (updD G r (.lst xs)) := by simp [dList, itemsD, h]
@[simp] theorem dTuple_tup : dTuple [.tup xs] G Q = Q (.tup xs) G := rfl
theorem dTuple_ref (h : G p = some (.lst xs)) : dTuple [.ref p] G Q = Q (.tup xs) G := by simp [dTuple, itemsD, h]
@[simp] theorem wgNil_nil {ρ : Ro} {Q : Ro → DHp → Prop} : wgNil [] ρ G Q = Q ρ G := rfl
@[simp] theorem wgCons_cons {ρ : Ro} {g : WG} {r : WGs} {Q : Ro → DHp → Prop} : wgCons g r (x :: xs) ρ G Q = g x ρ G fun ρ1 G1 => r xs ρ1 G1 Q := rfl
@[simp] theorem wgTup_tup {ρ : Ro} {n : Nat} {r : WGs} {Q : Ro → DHp → Prop} : wgTup n r (.tup xs) ρ G Q = (xs.length = n ∧ r xs ρ G Q) := rfl
theorem pick_nat {α : Type} {l : List α} {n : Nat} : pick l (n : Int) = l[n]? := by simp [pick]
@[simp] theorem pick_lit {α : Type} {l : List α} {n : Nat} : pick l (OfNat.ofNat n : Int) = l[(OfNat.ofNat n : Nat)]? := pick_nat (n := n)
end
/-- what is told stays told -/
def Ext (G G' : DHp) : Prop := ∀ a o, G a = some o → G' a = some o
theorem Ext.refl {G : DHp} : Ext G G := fun _ _ h => h
theorem Ext.trans {G G1 G2 : DHp} (a : Ext G G1) (b : Ext G1 G2) : Ext G G2 := fun x o h => b x o (a x o h)
theorem Ext.new {G : DHp} {p : Addr} {o : DO} (h : G p = none) : Ext G (updD G p o) := fun a u e => by
  by_cases z : a = p
  · subst z; rw [h] at e; cases e
  · rw [updD_ne z]; exact e
theorem Ext.free {G G' : DHp} {p : Addr} (x : Ext G G') (h : G' p = none) : G p = none := by
  cases e : G p with
  | none => rfl
  | some o => rw [x p o e] at h; cases h
end TC
set_option maxRecDepth 100000
set_option maxHeartbeats 4000000
namespace TC
open PySem PySem.Spec PyProof.Rows L2
theorem tuple_mul_self (l : Addr) (items : Array Value) (n : Nat) (dd : Option Addr) (sl : Array (Option Value)) (x : Int) (u : Tok) (c0 : (decide (x < -(2 ^ 63)) || decide (x ≥ 2 ^ 63)) = false) (c1 : (items.isEmpty || x == 1) = true) :
    Meets (Builtin.«tuple.__mul__» ⟨[.ref l, .int x u], []⟩) (fun _ R s => s.heap.get? l = some { cls := .type "tuple", dict := dd, data := .seq items n, slots := sl } ∧ R (.ok (.ret (Value.ref l))) s) :=
  .of_wp fun prog w A R s h => by
    obtain ⟨hp, g, d, tk, os⟩ := s
    obtain ⟨hl, h⟩ := h
    have f1 := AutoSeq1.idx_int
    wp_walk using wpAny_loadPart' hl
    repeat (first
      | (refine wpAny_ite_false (decide_eq_false (by rw [c0]; exact Bool.false_ne_true)) ?_; wp_walk using wpAny_loadPart' hl)
      | (refine wpAny_ite_true (decide_eq_true c1) ?_; wp_walk using wpAny_loadPart' hl)
      | (refine wpAny_ite_true c1 ?_; wp_walk using wpAny_loadPart' hl))
    exact ⟨_, rfl, h⟩
theorem tuple_mul_zero (l : Addr) (items : Array Value) (n : Nat) (dd : Option Addr) (sl : Array (Option Value)) (x : Int) (u : Tok) (c0 : (decide (x < -(2 ^ 63)) || decide (x ≥ 2 ^ 63)) = false) (c1 : (items.isEmpty || x == 1) = false) (c2 : (decide (x ≤ 0) || items.isEmpty) = true) :
    Meets (Builtin.«tuple.__mul__» ⟨[.ref l, .int x u], []⟩) (fun _ R s => s.heap.get? l = some { cls := .type "tuple", dict := dd, data := .seq items n, slots := sl } ∧
      R (.ok (.ret (Value.ref s.heap.objs.size))) { s with heap := s.heap.push { cls := Value.type "tuple", data := Data.seq #[] }, toks := s.toks }) :=
  .of_wp fun prog w A R s h => by
    obtain ⟨hp, g, d, tk, os⟩ := s
    obtain ⟨hl, h⟩ := h
    have f1 := AutoSeq1.idx_int
    wp_walk using wpAny_loadPart' hl
    repeat (first
      | (refine wpAny_ite_false (decide_eq_false (by rw [c0]; exact Bool.false_ne_true)) ?_; wp_walk using wpAny_loadPart' hl)
      | (refine wpAny_ite_false (decide_eq_false (by rw [c1]; exact Bool.false_ne_true)) ?_; wp_walk using wpAny_loadPart' hl)
      | (refine wpAny_ite_true (decide_eq_true c2) ?_; wp_walk using wpAny_loadPart' hl))
    exact ⟨_, rfl, h⟩
end TC
set_option maxRecDepth 100000
set_option maxHeartbeats 1000000
/-! TC, part h: times, minus, dicts, methods of lists, short words. -/
namespace TC
open PySem PySem.Spec PyProof.Rows L2

/-! ### tuple * int, whatever the int -/
def rRepA (K : W.Frag) : R2 := fun x y H Q => ∃ l k xs, x = .ref l ∧ y = .int k ∧ SqT K H l xs ∧ -1000 ≤ k ∧ k ≤ 1000 ∧ xs.length ≤ 1000 ∧ (∀ p ys, ys = (List.replicate k.toNat xs).flatten → H p = none → Q (.ref p) (upd H p (.tup ys))) ∧ ((List.replicate k.toNat xs).flatten = xs → Q (.ref l) H)
theorem op_repA {X : Cx} : OpR X (binaryOp .Mult) (rRepA X.K) := by
  intro pins s σ H x y v u Q I rx ry h
  obtain ⟨l, k, xs, rfl, rfl, hT, h1, h2, hz, q1, q2⟩ := h
  by_cases big : xs ≠ [] ∧ 2 ≤ k
  · exact op_repT pins s σ H _ _ v u Q I rx ry ⟨l, k, xs, rfl, rfl, hT, big.1, big.2, h2, hz, fun p hp => q1 p _ rfl hp⟩
  · cases rx
    obtain ⟨t, rfl⟩ := ry
    obtain ⟨its, r, ⟨⟨cls, dd, data, sl⟩, ho, hc, n, hd⟩, hs⟩ := I.tuple hT
    simp only at hc hd
    subst hc hd
    have hle : its.length = xs.length := r.length.symm
    have c0 : (decide (k < -(2 ^ 63)) || decide (k ≥ 2 ^ 63)) = false := by
      rw [decide_eq_false (by omega), decide_eq_false (by omega)] <;> rfl
    by_cases c1 : (its.toArray.isEmpty || k == 1) = true
    · refine wpAny_binaryOp_repeat_ref (T := "tuple") (U := "int") (by decide) ⟨_, ho, rfl⟩ (fun s' => typeIs_int s' k t) noFill_tuple_mul F.fills_int_mul F.slot_int_rmul repeat_tuple F.slot_int_index.lookup
        (call_meets F.slot_int_rmul (typeIs_int s k t) F.entry_int_rmul (F.args_int_rmul_2 _ _) (int_rmul_tuple k t l its.toArray n dd sl)
          ⟨ho, rfl, ⟨_, ho, rfl⟩, call_meets F.slot_tuple_mul ⟨_, ho, rfl⟩ F.entry_tuple_mul (F.args_tuple_mul_2 _ _) (tuple_mul_self l its.toArray n dd sl k t c0 c1) ⟨ho, ?_⟩⟩)
      refine ⟨.ref l, H, I, rfl, q2 ?_⟩
      rcases Bool.or_eq_true_iff.mp c1 with e | e
      · have : its = [] := by
          cases its with
          | nil => rfl
          | cons a b => cases e
        subst this
        have : xs = [] := List.eq_nil_of_length_eq_zero hle.symm
        subst this
        simp
      · have : k = 1 := beq_iff_eq.mp e
        subst this
        simp
    · have c1' : (its.toArray.isEmpty || k == 1) = false := Bool.not_eq_true _ ▸ c1
      have hne : ¬ its.toArray.isEmpty = true := fun e => c1 (by rw [e]; rfl)
      have hk : k ≤ 0 := by
        have a1 : k ≠ 1 := fun e => c1 (by rw [e]; simp)
        have a2 : xs ≠ [] := fun e => hne (by
          have : its = [] := List.eq_nil_of_length_eq_zero (by rw [hle, e]; rfl)
          rw [this]; rfl)
        have a3 : ¬ 2 ≤ k := fun e => big ⟨a2, e⟩
        omega
      have c2 : (decide (k ≤ 0) || its.toArray.isEmpty) = true := by rw [decide_eq_true hk]; rfl
      refine wpAny_binaryOp_repeat_ref (T := "tuple") (U := "int") (by decide) ⟨_, ho, rfl⟩ (fun s' => typeIs_int s' k t) noFill_tuple_mul F.fills_int_mul F.slot_int_rmul repeat_tuple F.slot_int_index.lookup
        (call_meets F.slot_int_rmul (typeIs_int s k t) F.entry_int_rmul (F.args_int_rmul_2 _ _) (int_rmul_tuple k t l its.toArray n dd sl)
          ⟨ho, rfl, ⟨_, ho, rfl⟩, call_meets F.slot_tuple_mul ⟨_, ho, rfl⟩ F.entry_tuple_mul (F.args_tuple_mul_2 _ _) (tuple_mul_zero l its.toArray n dd sl k t c0 c1' c2) ⟨ho, ?_⟩⟩)
      have e0 : k.toNat = 0 := by omega
      refine ⟨.ref s.heap.objs.size, _, I.laid (t' := s.toks) (o := .tup []) (fun b ob q => Heap.get?_push_of_some _ q) (Nat.le_refl _) ?_, rfl, q1 _ [] (by rw [e0]; rfl) (I.hok.fresh (Nat.le_refl _))⟩
      exact ⟨Nat.zero_le _, [], .nil, IsTup.new _ _⟩
section
variable {K : W.Frag}
theorem Reps.rep {H : Hp} {xs : List D} {vs : List V} (r : Reps K H xs vs) : ∀ n : Nat, Reps K H (List.replicate n xs).flatten (List.replicate n vs).flatten
  | 0 => rfl
  | n + 1 => by
    rw [List.replicate_succ, List.replicate_succ, List.flatten_cons, List.flatten_cons]
    exact r.append (Reps.rep r n)
def dMul : WR2
  | .int i, .int j => fun G Q => CMul i j ∧ Q (.int (i * j)) G
  | .tup xs, .int k => fun G Q => (-1000 ≤ k ∧ k ≤ 1000 ∧ xs.length ≤ 1000) ∧ Q (.tup (List.replicate k.toNat xs).flatten) G
  | .ref a, .int k => fun G Q => ∃ xs, G a = some (.lst xs) ∧ (-1000 ≤ k ∧ k ≤ 1000 ∧ xs.length ≤ 1000) ∧ ∀ p, G p = none → Q (.ref p) (updD G p (.lst (List.replicate k.toNat xs).flatten))
  | _, _ => fun _ _ => False
abbrev rMulA (K : W.Frag) : R2 := fun x y H Q => (rI CMul (fun i j => .int (i * j)) x y H Q) ∨ rRepA K x y H Q ∨ rRep x y H Q
theorem or_mul {X : Cx} : OpR X (binaryOp .Mult) (rMulA X.K) := op_mul.or (op_repA.or op_rep)
theorem od_mul : OpD K (rMulA K) dMul := by
  intro x y v u G H Q QD hr rx ry w k
  unfold dMul at w
  split at w
  · cases rx; cases ry
    exact .inl ⟨_, _, rfl, rfl, w.1, k (.int _) G _ H hr rfl .refl w.2⟩
  · rename_i xs j
    obtain ⟨a, vs, rfl, h, rs⟩ := rx
    cases ry
    obtain ⟨⟨h1, h2, h3⟩, w⟩ := w
    refine .inr (.inl ⟨a, j, vs, rfl, rfl, .inl h, h1, h2, by rw [← rs.length]; exact h3, fun p ys e hp => ?_, fun e => ?_⟩)
    · subst e
      exact k (.tup _) G _ _ (hr.newU hp) ⟨p, _, rfl, .inl upd_same, (rs.rep _).mono (mn_upd hp)⟩ (.newU hp) w
    · have := rs.rep j.toNat
      rw [e] at this
      exact k (.tup _) G _ H hr ⟨a, vs, rfl, h, this⟩ .refl w
  · rename_i a j
    cases rx; cases ry
    obtain ⟨xs, ea, ⟨h1, h2, h3⟩, w⟩ := w
    obtain ⟨vs, h, rs⟩ := hr _ _ ea
    refine .inr (.inr ⟨a, j, vs, rfl, rfl, h, by omega, by omega, ?_, fun p hp => ?_⟩)
    · rw [← rs.length, sizeLine_eq]
      have a1 : xs.length * j.toNat ≤ 1000 * 1000 := Nat.mul_le_mul h3 (by omega)
      omega
    · exact k (.ref p) _ _ _ (hr.new hp (o := .lst (List.replicate j.toNat xs).flatten) ⟨_, upd_same, (rs.rep _).mono (mn_upd hp)⟩) rfl (.new hr hp) (w p (hr.free hp))
  · exact w.elim
def dNeg : WR1 := fun x G Q => match x with
  | .int i => Q (.int (-i)) G
  | _ => False
theorem ud_neg : UnD K (rU fun i => .int (-i)) dNeg := by
  intro x v G H Q QD hr rx w k
  unfold dNeg at w
  split at w
  · cases rx
    exact ⟨_, rfl, k (.int _) G _ H hr rfl .refl w⟩
  · exact w.elim

/-! ### dicts -/
def keyOf : D → Option Key
  | .int i => some (.inl i)
  | .str x => some (.inr x)
  | _ => none
def keysOf : List D → Option (List Key)
  | [] => some []
  | d :: ds => match keyOf d, keysOf ds with
    | some k, some ks => some (k :: ks)
    | _, _ => none
theorem keyOf_rep {H : Hp} {x : D} {v : V} {k : Key} (r : Rep K H x v) (e : keyOf x = some k) : v = kV k := by
  cases x with
  | int i => cases r; cases e; rfl
  | str i => cases r; cases e; rfl
  | _ => cases e
theorem keysOf_rep {H : Hp} : ∀ {xs : List D} {vs : List V} {ks : List Key}, Reps K H xs vs → keysOf xs = some ks → vs = ks.map kV
  | [], _, _, r, e => by cases r; cases e; rfl
  | x :: xs, vs, ks, r, e => by
    obtain ⟨v, rr, rfl, r1, r2⟩ := r
    unfold keysOf at e
    split at e
    · rename_i k ks' e1 e2
      cases e
      rw [keyOf_rep r1 e1, keysOf_rep r2 e2]; rfl
    · cases e
section
variable {κ : Type} [DecidableEq κ]
def lookD (kvs : List (κ × D)) (k : κ) : Option D := match kvs with
  | [] => none
  | (j, d) :: r => if j = k then some d else lookD r k
def putD (kvs : List (κ × D)) (k : κ) (v : D) : List (κ × D) :=
  if (kvs.any fun kv => decide (kv.1 = k)) = true then kvs.map (fun kv => if kv.1 = k then (kv.1, v) else kv) else kvs ++ [(k, v)]
def ORep (K : W.Frag) (H : Hp) : Option D → Option V → Prop
  | some d, some v => Rep K H d v
  | none, none => True
  | _, _ => False
theorem RepKV.look {H : Hp} {k : κ} : ∀ {ds : List (κ × D)} {vs : List (κ × V)}, RepKV K H ds vs → ORep K H (lookD ds k) (valV vs k)
  | [], _, r => by cases r; exact trivial
  | (j, d) :: ds, vs, r => by
    obtain ⟨v, rr, rfl, r1, r2⟩ := r
    unfold lookD
    by_cases e : j = k
    · rw [if_pos e, valV_pos (p := (j, v)) e]
      exact r1
    · rw [if_neg e, valV_neg (p := (j, v)) e]
      exact RepKV.look r2
theorem RepKV.any {H : Hp} {k : κ} : ∀ {ds : List (κ × D)} {vs : List (κ × V)}, RepKV K H ds vs → (vs.any fun kv => decide (kv.1 = k)) = ds.any fun kv => decide (kv.1 = k)
  | [], _, r => by cases r; rfl
  | (j, d) :: ds, vs, r => by
    obtain ⟨v, rr, rfl, r1, r2⟩ := r
    rw [List.any_cons, List.any_cons, RepKV.any r2]
theorem RepKV.length {H : Hp} : ∀ {ds : List (κ × D)} {vs : List (κ × V)}, RepKV K H ds vs → vs.length = ds.length
  | [], _, r => by cases r; rfl
  | (j, d) :: ds, vs, r => by
    obtain ⟨v, rr, rfl, r1, r2⟩ := r
    rw [List.length_cons, List.length_cons, RepKV.length r2]
theorem RepKV.mapPut {H : Hp} {k : κ} {d : D} {v : V} (h : Rep K H d v) : ∀ {ds : List (κ × D)} {vs : List (κ × V)}, RepKV K H ds vs → RepKV K H (ds.map fun kv => if kv.1 = k then (kv.1, d) else kv) (vs.map fun kv => if kv.1 = k then (kv.1, v) else kv)
  | [], _, r => by cases r; rfl
  | (j, c) :: ds, vs, r => by
    obtain ⟨u, rr, rfl, r1, r2⟩ := r
    rw [List.map_cons, List.map_cons]
    by_cases e : j = k
    · rw [if_pos (show (j, c).1 = k from e), if_pos (show (j, u).1 = k from e)]
      exact ⟨v, _, rfl, h, RepKV.mapPut h r2⟩
    · rw [if_neg (show ¬ (j, c).1 = k from e), if_neg (show ¬ (j, u).1 = k from e)]
      exact ⟨u, _, rfl, r1, RepKV.mapPut h r2⟩
theorem RepKV.append {H : Hp} {k : κ} {d : D} {v : V} (h : Rep K H d v) : ∀ {ds : List (κ × D)} {vs : List (κ × V)}, RepKV K H ds vs → RepKV K H (ds ++ [(k, d)]) (vs ++ [(k, v)])
  | [], _, r => by cases r; exact ⟨v, [], rfl, h, rfl⟩
  | (j, c) :: ds, vs, r => by
    obtain ⟨u, rr, rfl, r1, r2⟩ := r
    exact ⟨u, rr ++ [(k, v)], rfl, r1, RepKV.append h r2⟩
theorem RepKV.put {H : Hp} {k : κ} {d : D} {v : V} (h : Rep K H d v) {ds : List (κ × D)} {vs : List (κ × V)} (r : RepKV K H ds vs) : RepKV K H (putD ds k d) (putK vs k v) := by
  unfold putD putK
  rw [r.any]
  split
  · exact r.mapPut h
  · exact r.append h
end
/-- what a dict holds at a key -/
def dLook (G : DHp) (x k : D) : Option (Option D) := match x with
  | .ref a => match G a with
    | some (.dK kvs) => (keyOf k).map (lookD kvs)
    | some (.rdK kvs) => (keyOf k).map (lookD kvs)
    | some (.dT kvs) => (match k with
      | .kt ks => (keysOf ks).map (lookD kvs)
      | _ => none)
    | some (.rdT kvs) => (match k with
      | .kt ks => (keysOf ks).map (lookD kvs)
      | _ => none)
    | _ => none
  | _ => none
theorem dLook_ok {G : DHp} {H : Hp} {x k : D} {v u : V} {o : Option D} (hr : HR K G H) (rx : Rep K H x v) (rk : Rep K H k u) (e : dLook G x k = some o) :
    ∃ a w, v = .ref a ∧ DGet H a u w ∧ IsD H a ∧ ORep K H o w := by
  cases x with
  | ref a =>
    cases rx
    unfold dLook at e
    simp only at e
    cases ea : G a with
    | none => rw [ea] at e; cases e
    | some ob =>
      rw [ea] at e
      cases ob with
      | dK kvs =>
        obtain ⟨key, ek, rfl⟩ := Option.map_eq_some_iff.mp e
        obtain ⟨vs, h, rs⟩ := hr a _ ea
        have e2 := rs.look (k := key)
        rw [keyOf_rep rk ek]
        exact ⟨a, _, rfl, .inl ⟨vs, key, .inl h, rfl, rfl⟩, .inl ⟨vs, .inl h⟩, e2⟩
      | rdK kvs =>
        obtain ⟨key, ek, rfl⟩ := Option.map_eq_some_iff.mp e
        obtain ⟨ob, vs, h, rs⟩ := hr a _ ea
        have e2 := rs.look (k := key)
        rw [keyOf_rep rk ek]
        exact ⟨a, _, rfl, .inl ⟨vs, key, .inr ⟨ob, h⟩, rfl, rfl⟩, .inl ⟨vs, .inr ⟨ob, h⟩⟩, e2⟩
      | dT kvs =>
        cases k with
        | kt ks =>
          obtain ⟨key, ek, rfl⟩ := Option.map_eq_some_iff.mp e
          obtain ⟨b, us, rfl, hb, ru⟩ := rk
          obtain ⟨vs, h, rs⟩ := hr a _ ea
          have e2 := rs.look (k := key)
          rw [keysOf_rep ru ek] at hb
          exact ⟨a, _, rfl, .inr ⟨vs, key, b, .inl h, rfl, hb, rfl⟩, .inr ⟨vs, .inl h⟩, e2⟩
        | _ => cases e
      | rdT kvs =>
        cases k with
        | kt ks =>
          obtain ⟨key, ek, rfl⟩ := Option.map_eq_some_iff.mp e
          obtain ⟨b, us, rfl, hb, ru⟩ := rk
          obtain ⟨ob, vs, h, rs⟩ := hr a _ ea
          have e2 := rs.look (k := key)
          rw [keysOf_rep ru ek] at hb
          exact ⟨a, _, rfl, .inr ⟨vs, key, b, .inr ⟨ob, h⟩, rfl, hb, rfl⟩, .inr ⟨vs, .inr ⟨ob, h⟩⟩, e2⟩
        | _ => cases e
      | _ => cases e
  | _ => cases e

/-! ### in, of any kind -/
def dIn (neg : Bool) : WR2 := fun x y G Q => match y with
  | .str z => ∃ c, x = .str ⟨#[c]⟩ ∧ Q (.bl (neg != decide (c ∈ z.cps.toList))) G
  | _ => match itemsD G y with
    | some xs => flatD x = true ∧ xs.all flatD = true ∧ Q (.bl (neg != inF x xs)) G
    | none => match dLook G y x with
      | some o => Q (.bl (neg != o.isSome)) G
      | none => False
abbrev rInA (K : W.Frag) (neg : Bool) : R2 := fun x y H Q => rIn K neg x y H Q ∨ (∃ (c : Nat) (z : Str), x = .str ⟨#[c]⟩ ∧ y = .str z ∧ Q (.bl (neg != decide (c ∈ z.cps.toList))) H) ∨ (∃ a o, y = .ref a ∧ DGet H a x o ∧ Q (.bl (neg != o.isSome)) H)
theorem or_in {X : Cx} (hu : X.A.units + 64 < cLine) : OpR X (compareOp .In) (rInA X.K false) := by
  refine op_in_seq.or (OpR.or (f := compareOp .In) (r := fun x y H Q => ∃ (c : Nat) (z : Str), x = .str ⟨#[c]⟩ ∧ y = .str z ∧ Q (.bl (false != decide (c ∈ z.cps.toList))) H) ?_ ?_)
  · intro pins s σ H x y v u Q I rx ry ⟨c, z, e1, e2, q⟩
    exact op_in_sign pins s σ H x y v u Q I rx ry ⟨c, z, e1, e2, by simpa using q⟩
  · intro pins s σ H x y v u Q I rx ry ⟨a, o, e, g, q⟩
    subst e
    cases ry
    exact d_in (by omega) I g rx fun s' I' => ⟨.bl _, H, I', rfl, by simpa using q⟩
theorem or_nin {X : Cx} (hu : X.A.units + 64 < cLine) : OpR X (compareOp .NotIn) (rInA X.K true) := by
  refine op_notIn_seq.or (OpR.or (f := compareOp .NotIn) (r := fun x y H Q => ∃ (c : Nat) (z : Str), x = .str ⟨#[c]⟩ ∧ y = .str z ∧ Q (.bl (true != decide (c ∈ z.cps.toList))) H) ?_ ?_)
  · intro pins s σ H x y v u Q I rx ry ⟨c, z, e1, e2, q⟩
    exact op_notIn_sign pins s σ H x y v u Q I rx ry ⟨c, z, e1, e2, by simpa using q⟩
  · intro pins s σ H x y v u Q I rx ry ⟨a, o, e, g, q⟩
    subst e
    cases ry
    exact d_notIn (by omega) I g rx fun s' I' => ⟨.bl _, H, I', rfl, by simpa using q⟩
theorem od_inA {neg : Bool} : OpD K (rInA K neg) (dIn neg) := by
  intro x y v u G H Q QD hr rx ry w k
  unfold dIn at w
  split at w
  · cases ry
    obtain ⟨c, rfl, w⟩ := w
    cases rx
    exact .inr (.inl ⟨c, _, rfl, rfl, k (.bl _) G _ H hr rfl .refl w⟩)
  · split at w
    · rename_i xs e
      obtain ⟨fx, fs, w⟩ := w
      obtain ⟨p, vs, rfl, h, rs⟩ := items_sq hr ry e
      refine .inl ⟨p, vs, rfl, h, flat_rep rx fx, flats_rep rs fs, ?_⟩
      rw [inF_rep rx fx rs fs]
      refine k (.bl _) G _ H hr ?_ .refl w
      cases neg <;> simp [Rep]
    · split at w
      · rename_i o e
        obtain ⟨a, w', rfl, g, _, m⟩ := dLook_ok hr ry rx e
        refine .inr (.inr ⟨a, w', rfl, g, k (.bl _) G _ H hr ?_ .refl w⟩)
        cases o with
        | none =>
          cases w' with
          | none => rfl
          | some _ => exact m.elim
        | some d =>
          cases w' with
          | none => exact m.elim
          | some _ => rfl
      · exact w.elim
end
section
variable {X : Cx} {G0 : DHp} {H0 : Hp} {pos pos' apos : Pos} {e f o : Expr} {es : List Expr} {we wf wo : WE} {ws : WA}
/-- d[k] -/
@[simp] def wDIx (wo we : WE) : WE := fun ρ G Q => wo ρ G fun x G1 => we ρ G1 fun k G2 => must ((dLook G2 x k).join) G2 Q
theorem de_dix (hu : X.A.units + 64 < cLine) (ho : DE X G0 H0 o wo) (he : DE X G0 H0 e we) (hs : NoSl e) : DE X G0 H0 (.Subscript o e pos) (wDIx wo we) :=
  PE.to (pe_dget (by omega) ho he hs) fun σ H Q ⟨ρ, G, QD, pt, w, k⟩ => ⟨ρ, G, _, pt, w, fun x G1 v H1 h1 r1 s1 w1 => ⟨ρ, G1, _, pt.go h1 s1, w1, fun y G2 u H2 h2 r2 s2 w2 => by
    obtain ⟨d, e, w2⟩ := must_of w2
    obtain ⟨o, eo, e⟩ : ∃ o, dLook G2 x y = some o ∧ o = some d := by
      cases q : dLook G2 x y with
      | none => rw [q] at e; cases e
      | some o => rw [q] at e; exact ⟨o, rfl, e⟩
    subst e
    obtain ⟨a, w', rfl, g, _, m⟩ := dLook_ok h2 (r1.mono (s2.mn h1)) r2 eo
    cases w' with
    | none => exact m.elim
    | some z => exact ⟨a, z, rfl, g, k d G2 z H2 h2 m (s1.trans s2) w2⟩⟩⟩
/-- d.get(k, x) -/
@[simp] def wDGet (wo we wf : WE) : WE := fun ρ G Q => wo ρ G fun x G1 => (∃ k o, dLook G1 x k = some o) ∧ we ρ G1 fun k G2 => wf ρ G2 fun y G3 => match dLook G3 x k with
  | some o => Q (o.getD y) G3
  | none => False
theorem de_dget (hu : X.A.units + 64 < cLine) (ho : DE X G0 H0 o wo) (he : DE X G0 H0 e we) (hf : DE X G0 H0 f wf) (m : M2 X o "get" apos e f pos) : DE X G0 H0 (.Call (.Attribute o "get" apos) [e, f] [] pos) (wDGet wo we wf) :=
  PE.to (pe_dget2 (by omega) ho he hf m) fun σ H Q ⟨ρ, G, QD, pt, w, k⟩ => ⟨ρ, G, _, pt, w, fun x G1 v H1 h1 r1 s1 w1 => by
    obtain ⟨⟨kk, oo, eo⟩, w1⟩ := w1
    have hx : ∃ a, x = .ref a := by
      cases x with
      | ref a => exact ⟨a, rfl⟩
      | _ => cases eo
    obtain ⟨a, rfl⟩ := hx
    cases r1
    have isd : IsD H1 a := by
      unfold dLook at eo
      simp only at eo
      cases ea : G1 a with
      | none => rw [ea] at eo; cases eo
      | some ob =>
        rw [ea] at eo
        cases ob with
        | dK kvs => obtain ⟨vs, h, _⟩ := h1 a _ ea; exact .inl ⟨vs, .inl h⟩
        | rdK kvs => obtain ⟨ob, vs, h, _⟩ := h1 a _ ea; exact .inl ⟨vs, .inr ⟨ob, h⟩⟩
        | dT kvs => obtain ⟨vs, h, _⟩ := h1 a _ ea; exact .inr ⟨vs, .inl h⟩
        | rdT kvs => obtain ⟨ob, vs, h, _⟩ := h1 a _ ea; exact .inr ⟨vs, .inr ⟨ob, h⟩⟩
        | _ => cases eo
    refine ⟨a, rfl, isd, ρ, G1, _, pt.go h1 s1, w1, fun y G2 u H2 h2 r2 s2 w2 => ⟨ρ, G2, _, (pt.go h1 s1).go h2 s2, w2, fun z G3 uz H3 h3 r3 s3 w3 => ?_⟩⟩
    split at w3
    · rename_i o eo'
      obtain ⟨a', w', e', g, _, m'⟩ := dLook_ok h3 (show Rep X.K H3 (.ref a) (.ref a) from rfl) (r2.mono (s3.mn h2)) eo'
      cases e'
      have s13 := (s1.trans s2).trans s3
      refine ⟨w', g, ?_⟩
      cases o with
      | none =>
        cases w' with
        | none => exact k z G3 uz H3 h3 r3 s13 w3
        | some _ => exact m'.elim
      | some d =>
        cases w' with
        | none => exact m'.elim
        | some zz => exact k d G3 zz H3 h3 m' s13 w3
    · exact w3.elim⟩
/-- the pairs of a display -/
abbrev WP := Ro → DHp → (List (D × D) → DHp → Prop) → Prop
@[simp] def wDNil : WP := fun _ G Q => Q [] G
@[simp] def wDCons (wk wv : WE) (r : WP) : WP := fun ρ G Q => wk ρ G fun x G1 => wv ρ G1 fun y G2 => r ρ G2 fun ps G3 => Q ((x, y) :: ps) G3
def keyed : List (D × D) → Option (List (Key × D))
  | [] => some []
  | (x, y) :: r => match keyOf x, keyed r with
    | some k, some ks => some ((k, y) :: ks)
    | _, _ => none
def mergeD (kvs more : List (Key × D)) : List (Key × D) := more.foldl (fun acc kv => putD acc kv.1 kv.2) kvs
@[simp] def wDict (wp : WP) : WE := fun ρ G Q => wp ρ G fun ps G1 => match keyed ps with
  | some kvs => kvs.length ≤ 15 ∧ ∀ p, G1 p = none → Q (.ref p) (updD G1 p (.dK (mergeD [] kvs)))
  | none => False
def RepP (K : W.Frag) (H : Hp) : List (D × D) → List (V × V) → Prop
  | [], vs => vs = []
  | (x, y) :: r, vs => ∃ u v t, vs = (u, v) :: t ∧ Rep K H x u ∧ Rep K H y v ∧ RepP K H r t
theorem RepP.mono {K : W.Frag} {H H' : Hp} (m : Mn K H H') : ∀ {ds : List (D × D)} {vs : List (V × V)}, RepP K H ds vs → RepP K H' ds vs
  | [], _, h => h
  | (x, y) :: r, vs, h => by
    obtain ⟨u, v, t, e, h1, h2, h3⟩ := h
    exact ⟨u, v, t, e, h1.mono m, h2.mono m, RepP.mono m h3⟩
structure DPs (X : Cx) (G0 : DHp) (H0 : Hp) (pos : Pos) (keys : List (Option Expr)) (values : List Expr) (trs : List (TE × TE)) (wp : WP) : Prop where
  pps : PPs X pos keys values trs
  to : ∀ ρ G σ H QD (Q : List (V × V) → Hp → Prop), Pt X.K G0 H0 ρ G σ H → wp ρ G QD → (∀ ps G' vs H', HR X.K G' H' → RepP X.K H' ps vs → Stp G H G' H' → QD ps G' → Q vs H') → tPairs trs σ H Q
theorem dd_nil : DPs X G0 H0 pos [] [] [] wDNil := ⟨pps_nil, fun ρ G σ H QD Q pt w k => k [] G [] H pt.hr rfl .refl w⟩
theorem dd_cons {k v : Expr} {ks : List (Option Expr)} {vs : List Expr} {wk wv : WE} {trs : List (TE × TE)} {wp : WP} (hk : DE X G0 H0 k wk) (hv : DE X G0 H0 v wv) (hr : DPs X G0 H0 pos ks vs trs wp) :
    DPs X G0 H0 pos (some k :: ks) (v :: vs) ((LfE X.K G0 H0 wk, LfE X.K G0 H0 wv) :: trs) (wDCons wk wv wp) := ⟨pps_cons hk hv hr.pps, fun ρ G σ H QD Q pt w kk =>
  ⟨ρ, G, _, pt, w, fun x G1 u H1 h1 r1 s1 w1 => ⟨ρ, G1, _, pt.go h1 s1, w1, fun y G2 uy H2 h2 r2 s2 w2 => hr.to ρ G2 σ H2 _ _ ((pt.go h1 s1).go h2 s2) w2 fun ps G3 us H3 h3 r3 s3 w3 =>
    kk ((x, y) :: ps) G3 ((u, uy) :: us) H3 h3 ⟨u, uy, us, rfl, (r1.mono (s2.mn h1)).mono (s3.mn h2), r2.mono (s3.mn h2), r3⟩ ((s1.trans s2).trans s3) w3⟩⟩⟩
theorem keyed_rep {K : W.Frag} {H : Hp} : ∀ {ps : List (D × D)} {vs : List (V × V)} {kvs : List (Key × D)}, RepP K H ps vs → keyed ps = some kvs → ∃ us, vs = us.map (fun kv : Key × V => (kV kv.1, kv.2)) ∧ RepKV K H kvs us ∧ us.length = kvs.length
  | [], _, _, r, e => by cases r; cases e; exact ⟨[], rfl, rfl, rfl⟩
  | (x, y) :: ps, vs, kvs, r, e => by
    obtain ⟨u, v, t, rfl, h1, h2, h3⟩ := r
    unfold keyed at e
    split at e
    · rename_i k ks e1 e2
      cases e
      obtain ⟨us, rfl, h4, h5⟩ := keyed_rep h3 e2
      exact ⟨(k, v) :: us, by rw [keyOf_rep h1 e1]; rfl, ⟨v, us, rfl, h2, h4⟩, by simp [h5]⟩
    · cases e
theorem RepKV.merge {K : W.Frag} {H : Hp} : ∀ {more : List (Key × D)} {vm : List (Key × V)} {kvs : List (Key × D)} {vs : List (Key × V)}, RepKV K H more vm → RepKV K H kvs vs → RepKV K H (mergeD kvs more) (mergeK vs vm)
  | [], _, _, _, r, q => by cases r; exact q
  | (k, d) :: more, vm, kvs, vs, r, q => by
    obtain ⟨v, t, rfl, h1, h2⟩ := r
    exact RepKV.merge (more := more) (vm := t) h2 (q.put h1)
theorem de_dict {keys : List (Option Expr)} {values : List Expr} {trs : List (TE × TE)} {wp : WP} (h : DPs X G0 H0 pos keys values trs wp) (hall : keys.all (·.isSome) = true) (hl : keys.length = values.length) (h0 : keys ≠ []) (h15 : keys.length ≤ 15) :
    DE X G0 H0 (.Dict keys values pos) (wDict wp) := PE.to (pe_disp h.pps hall hl h0 h15) fun σ H Q ⟨ρ, G, QD, pt, w, k⟩ => by
  intro p hp
  refine h.to ρ G σ _ _ _ (pt.go (pt.hr.newU hp) (.newU hp)) w fun ps G1 vs H1 h1 r1 s1 w1 => ?_
  have s01 : Stp G H G1 H1 := (Stp.newU hp).trans s1
  have gp : G p = none := pt.hr.free hp
  have kp : H1 p = some (.dK []) := s1.keep p _ gp upd_same
  have g1p : G1 p = none := s1.hid p _ gp upd_same
  split at w1
  · rename_i kvs ek
    obtain ⟨us, rfl, ru, hlen⟩ := keyed_rep r1 ek
    refine ⟨kp, us, rfl, by rw [hlen]; exact w1.1, ?_⟩
    have mn : Mn X.K H1 (upd H1 p (.dK (mergeK [] us))) := by
      refine ⟨fun a ys h => ?_, fun a ys h => ?_, fun a ob ys h => by
        have ne : a ≠ p := fun z => by rw [z, kp] at h; cases h
        rw [upd_ne ne]; exact h⟩
      · have ne : a ≠ p := fun z => by rw [z, kp] at h; cases h
        rw [upd_ne ne]; exact h
      · rcases h with ⟨ob, h⟩ | h
        · have ne : a ≠ p := fun z => by rw [z, kp] at h; cases h
          exact .inl ⟨ob, by rw [upd_ne ne]; exact h⟩
        · exact .inr h
    refine k (.ref p) (updD G1 p (.dK (mergeD [] kvs))) _ _ ?_ rfl ?_ (w1.2 p g1p)
    · intro a o ea
      by_cases z : a = p
      · subst z; rw [updD_same] at ea; cases ea
        exact ⟨_, upd_same, (ru.mono mn).merge (kvs := []) (vs := []) rfl⟩
      · rw [updD_ne z] at ea
        exact (h1 a o ea).mono mn (upd_ne z)
    · refine ⟨fun a o g h => ?_, fun a o g h => ?_, fun a o u h => ?_⟩
      · have ne : a ≠ p := fun z => by rw [z, hp] at h; cases h
        rw [upd_ne ne]; exact s01.keep a o g h
      · have ne : a ≠ p := fun z => by rw [z, hp] at h; cases h
        rw [updD_ne ne]; exact s01.hid a o g h
      · have ne : a ≠ p := fun z => by rw [z, hp] at h; cases h
        rw [upd_ne ne]; exact s01.frz a o u h
  · exact w1.elim
@[simp] def wDNewK : WE := fun _ G Q => ∀ p, G p = none → Q (.ref p) (updD G p (.dK []))
@[simp] def wDNewT : WE := fun _ G Q => ∀ p, G p = none → Q (.ref p) (updD G p (.dT []))
theorem de_dnewK : DE X G0 H0 (.Dict [] [] pos) wDNewK := PE.to pe_dnewK fun σ H Q ⟨ρ, G, QD, pt, w, k⟩ p hp => k (.ref p) _ _ _ (pt.hr.new hp (o := .dK []) ⟨[], upd_same, rfl⟩) rfl (.new pt.hr hp) (w p (pt.hr.free hp))
theorem de_dnewT : DE X G0 H0 (.Dict [] [] pos) wDNewT := PE.to pe_dnewT fun σ H Q ⟨ρ, G, QD, pt, w, k⟩ p hp => k (.ref p) _ _ _ (pt.hr.new hp (o := .dT []) ⟨[], upd_same, rfl⟩) rfl (.new pt.hr hp) (w p (pt.hr.free hp))
/-- d[k] = v -/
def dPut (x k v : D) (G : DHp) (Q : DHp → Prop) : Prop := match x with
  | .ref a => (∃ kvs key, G a = some (.dK kvs) ∧ keyOf k = some key ∧ kvs.length < 1000000 ∧ Q (updD G a (.dK (putD kvs key v)))) ∨
      ∃ kvs ks key, G a = some (.dT kvs) ∧ k = .kt ks ∧ keysOf ks = some key ∧ kvs.length < 1000000 ∧ Q (updD G a (.dT (putD kvs key v)))
  | _ => False
@[simp] def wDPut (wo we wv : WE) : WS := fun F ρ G => wv ρ G fun v G1 => wo ρ G1 fun x G2 => we ρ G2 fun k G3 => dPut x k v G3 fun G4 => F.nx ρ G4
theorem ds_dput {value : Expr} {wv : WE} (hu : X.A.units + 64 < cLine) (ho : DE X G0 H0 o wo) (he : DE X G0 H0 e we) (hv : DE X G0 H0 value wv) (hs : swapsWith value (some (.Subscript o e pos')) pos.line X.env = pure false := by rfl) :
    DS X G0 H0 (.Assign [.Subscript o e pos'] value pos) (wDPut wo we wv) :=
  PS.to (ps_dput (by omega) ho he hv hs) fun E σ H ⟨ρ, G, F, pt, w, l⟩ => ⟨ρ, G, _, pt, w, fun v G1 uv H1 h1 r1 s1 w1 => ⟨ρ, G1, _, pt.go h1 s1, w1, fun x G2 ux H2 h2 r2 s2 w2 => ⟨ρ, G2, _, (pt.go h1 s1).go h2 s2, w2, fun y G3 uy H3 h3 r3 s3 w3 => by
    have rv := (r1.mono (s2.mn h1)).mono (s3.mn h2)
    have s13 := (s1.trans s2).trans s3
    have p3 := ((pt.go h1 s1).go h2 s2).go h3 s3
    unfold dPut at w3
    split at w3
    · rename_i a
      cases r2
      rcases w3 with ⟨kvs, key, ea, ek, hl, w3⟩ | ⟨kvs, ks, key, ea, rfl, ek, hl, w3⟩
      · obtain ⟨vs, hh, rs⟩ := h3 a _ ea
        have hl' : vs.length < sizeLine := by rw [rs.length, sizeLine_eq]; omega
        refine ⟨a, _, rfl, by rw [keyOf_rep r3 ek]; exact DPut.k hh hl', ?_⟩
        have m := mn_write (x := .dK (putK vs key uv)) h3 ea
        have hr' := h3.write (x := .dK (putK vs key uv)) (u := .dK (putD kvs key v)) ea ⟨_, upd_same, (rs.put rv).mono m⟩
        have st : Stp G3 H3 (updD G3 a (.dK (putD kvs key v))) (upd H3 a (.dK (putK vs key uv))) := .write ea hh
        exact l.nx ρ _ σ _ (p3.go hr' st) (s13.trans st) w3
      · obtain ⟨vs, hh, rs⟩ := h3 a _ ea
        obtain ⟨b, us, rfl, hb, ru⟩ := r3
        have hl' : vs.length < sizeLine := by rw [rs.length, sizeLine_eq]; omega
        rw [keysOf_rep ru ek] at hb
        refine ⟨a, _, rfl, DPut.t hh hb hl', ?_⟩
        have m := mn_write (x := .dT (putK vs key uv)) h3 ea
        have hr' := h3.write (x := .dT (putK vs key uv)) (u := .dT (putD kvs key v)) ea ⟨_, upd_same, (rs.put rv).mono m⟩
        have st : Stp G3 H3 (updD G3 a (.dT (putD kvs key v))) (upd H3 a (.dT (putK vs key uv))) := .write ea hh
        exact l.nx ρ _ σ _ (p3.go hr' st) (s13.trans st) w3
    · exact w3.elim⟩⟩⟩

/-! ### methods of lists -/
abbrev WRM := D → List D → DHp → DK → Prop
def MtD (K : W.Frag) (r : V → List V → Hp → VK → Prop) (f : WRM) : Prop := ∀ (x : D) (xs : List D) (v : V) (vs : List V) (G : DHp) (H : Hp) (Q : VK) (QD : DK), HR K G H → Rep K H x v → Reps K H xs vs → f x xs G QD →
  (∀ d G' v' H', HR K G' H' → Rep K H' d v' → Stp G H G' H' → QD d G' → Q v' H') → r v vs H Q
def isL (x : D) (G : DHp) : Prop := ∃ a xs, x = .ref a ∧ G a = some (.lst xs)
@[simp] def wMt (f : WRM) (wo : WE) (ws : WA) : WE := fun ρ G Q => wo ρ G fun x G1 => isL x G1 ∧ ws ρ G1 fun xs G2 => f x xs G2 Q
theorem de_bm {name : Str} {id : String} {r : V → List V → Hp → VK → Prop} {ff : WRM} (pa : PlainAttrs "list") (slot : Slot "list" name id) (hty : typeOf (.builtin id) = pure (.type "method_descriptor")) (hm : MtR X id r) (hd : MtD X.K r ff) (ho : DE X G0 H0 o wo) (ha : DA X G0 H0 (e :: es) ws)
    (hbase : attributeBase o name X.env (eval o X.env) = eval o X.env := by rfl)
    (hfew : ((backTo pos (starEach (e :: es) X.env)).all (fun x => !x.1) && (backToKw pos (keywordEach [] X.env)).all (fun x => x.1.isSome)
      && decide ((e :: es).length + ([] : List Keyword).length + (if ([] : List Keyword).isEmpty then 0 else 1) < 30)) = true := by rfl)
    (hline : (apos.endLine == pos.line) = true := by rfl) (hs : starEach (e :: es) X.env = (false, eval e X.env) :: starEach es X.env := by rfl) (hplain : (backTo pos (starEach es X.env)).any (·.1) = false := by rfl) :
    DE X G0 H0 (.Call (.Attribute o name apos) (e :: es) [] pos) (wMt ff wo ws) :=
  PE.to (pe_bm pa slot hty hm ho ha hbase hfew hline hs hplain) fun σ H Q ⟨ρ, G, QD, pt, w, k⟩ => ⟨ρ, G, _, pt, w, fun x G1 v H1 h1 r1 s1 w1 => by
    obtain ⟨⟨a, ys, rfl, ea⟩, w1⟩ := w1
    cases r1
    obtain ⟨vs, hh, rs⟩ := h1 a _ ea
    exact ⟨.inl ⟨rfl, vs, SqL.of hh⟩, ρ, G1, _, pt.go h1 s1, w1, fun xs G2 us H2 h2 r2 s2 w2 => hd (.ref a) xs (.ref a) us G2 H2 Q QD h2 rfl r2 w2 fun d G' v' H' h' r' s' q => k d G' v' H' h' r' ((s1.trans s2).trans s') q⟩⟩
def dAppend : WRM := fun x xs G Q => match x, xs with
  | .ref p, [y] => ∃ ys, G p = some (.lst ys) ∧ ys.length < 1000000 ∧ Q .non (updD G p (.lst (ys ++ [y])))
  | _, _ => False
theorem md_append {K : W.Frag} : MtD K rAppend dAppend := by
  intro x xs v vs G H Q QD hr rx rs w k
  unfold dAppend at w
  split at w
  · rename_i p y
    cases rx
    obtain ⟨u, rfl, ry⟩ := rs.one_inv
    obtain ⟨ys, ea, hl, w⟩ := w
    obtain ⟨us, h, rl⟩ := hr p _ ea
    refine ⟨p, us, u, rfl, rfl, h, by rw [← rl.length, sizeLine_eq]; omega, ?_⟩
    have m := mn_write (x := .lst (us ++ [u])) hr ea
    exact k .non _ .non _ (hr.write (u := .lst (ys ++ [y])) ea ⟨_, upd_same, (rl.append (Reps.one ry)).mono m⟩) rfl (.write ea h) w
  · exact w.elim

/-! ### short words -/
theorem dv (i : Nat) {x : Str} (hN : X.N[i]? = some x := by rfl) (hv : Vis X.env.scope x := by first | exact Or.inl rfl | exact Or.inr (Or.inl rfl) | exact Or.inr (Or.inr rfl)) (hd : (x == ("__debug__" : Str)) = false := by decide)
    (hcd : (x == ("__classdict__" : Str)) = false := by decide) : DE X G0 H0 (.Name x pos) (wVar i) := de_var hN hv hd hcd
theorem dgn (i : Nat) {x : Str} (hN : X.N.Nodup) (hi : X.N[i]? = some x := by rfl) (hx : Loc X.env.scope x := by first | exact Or.inl rfl | exact Or.inr rfl) (hf : X.fn x = true ∨ X.env.scope.names.lookup x = some .local := by first | exact .inl rfl | exact .inr rfl) : DG X G0 H0 (.Name x pos) (wgName i) := dg_name hN hi hx hf
theorem pgn (i : Nat) {x : Str} (hN : X.N.Nodup) (hi : X.N[i]? = some x := by rfl) (hx : Loc X.env.scope x := by first | exact Or.inl rfl | exact Or.inr rfl) (hf : X.fn x = true ∨ X.env.scope.names.lookup x = some .local := by first | exact .inl rfl | exact .inr rfl) : PG X (.Name x pos) (gName i) := pg_name hN hi hx hf
theorem dsn (i : Nat) {x : Str} (hN : X.N.Nodup) (he : DE X G0 H0 e we) (hi : X.N[i]? = some x := by rfl) (hx : Loc X.env.scope x := by first | exact Or.inl rfl | exact Or.inr rfl) (hs : swapsWith e (some (.Name x pos')) pos.line X.env = pure false := by rfl) (hf : X.fn x = true ∨ X.env.scope.names.lookup x = some .local := by first | exact .inl rfl | exact .inr rfl) :
    DS X G0 H0 (.Assign [.Name x pos'] e pos) (wAsg we (wgName i)) := ds_set hN hi hx he hs hf
theorem de_gint {x : Str} {n : Int} {t : Tok} (hg : Gl X x) (hm : X.mg x = some (.int n t)) (hd : (x == ("__debug__" : Str)) = false := by decide) : DE X G0 H0 (.Name x pos) (wC (.int n)) := de_glob (v := .int n) (d := .int n) hg hm ⟨t, rfl⟩ (fun _ => rfl) hd
theorem de_gstr {x z : Str} {t : Tok} (hg : Gl X x) (hm : X.mg x = some (.str z t)) (hd : (x == ("__debug__" : Str)) = false := by decide) : DE X G0 H0 (.Name x pos) (wC (.str z)) := de_glob (v := .str z) (d := .str z) hg hm ⟨t, rfl⟩ (fun _ => rfl) hd
/-- xs[::-1], a list -/
def dRev (x : D) (G : DHp) (Q : DK) : Prop := match x with
  | .ref a => ∃ xs, G a = some (.lst xs) ∧ ∀ p, G p = none → Q (.ref p) (updD G p (.lst xs.reverse))
  | _ => False
@[simp] def wRev (we : WE) : WE := fun ρ G Q => we ρ G fun x G1 => dRev x G1 Q
theorem Reps.reverse {K : W.Frag} {H : Hp} : ∀ {xs : List D} {vs : List V}, Reps K H xs vs → Reps K H xs.reverse vs.reverse
  | [], _, r => by cases r; rfl
  | x :: xs, vs, r => by
    obtain ⟨v, rr, rfl, r1, r2⟩ := r
    rw [List.reverse_cons, List.reverse_cons]
    exact (Reps.reverse r2).append (Reps.one r1)
theorem de_rev {k : Nat} {p1 p2 p3 : Pos} (he : DE X G0 H0 e we) : DE X G0 H0 (.Subscript e (.Slice none none (some (.UnaryOp .USub (.Constant (.int 1) k p1) p2)) p3) pos) (wRev we) :=
  PE.to (pe_revL he) fun σ H Q ⟨ρ, G, QD, pt, w, kk⟩ => ⟨ρ, G, _, pt, w, fun x G1 v H1 h1 r1 s1 w1 => by
    unfold dRev at w1
    split at w1
    · cases r1
      obtain ⟨xs, ea, w1⟩ := w1
      obtain ⟨vs, h, rs⟩ := h1 _ _ ea
      exact ⟨_, vs, rfl, SqL.of h, fun p hp => kk (.ref p) _ _ _ (h1.new hp (o := .lst xs.reverse) ⟨_, upd_same, rs.reverse.mono (mn_upd hp)⟩) rfl (s1.trans (.new h1 hp)) (w1 p (h1.free hp))⟩
    · exact w1.elim⟩
end
end TC
set_option maxRecDepth 100000
set_option maxHeartbeats 1000000
/-! TC, part i: zip and enumerate over tuples, lists, texts in any mix. -/
namespace TC
open PySem PySem.Spec PyProof.Rows L2

/-- what a zip or an enumerate goes over -/
inductive SV where
  | tup (a : Addr) | lst (a : Addr) | txt (x : Str)
def signsV (x : Str) : List V := x.cps.toList.map fun c => .str ⟨#[c]⟩
def SV.at (K : PySem.W.Frag) (H : Hp) : SV → List V → Prop
  | .tup a, xs => SqT K H a xs
  | .lst a, xs => SqL K H a xs
  | .txt x, xs => xs = signsV x
def SV.v : SV → V
  | .tup a => .ref a
  | .lst a => .ref a
  | .txt x => .str x
def SV.val (t : Tok) : SV → Value
  | .tup a => .ref a
  | .lst a => .ref a
  | .txt x => .str x t
def SV.ob (t : Tok) : SV → Obj
  | .tup a => { cls := .type "tuple_iterator", data := .fields #[.ref a, .int 0 0] }
  | .lst a => { cls := .type "list_iterator", data := .fields #[.ref a, .int 0 0] }
  | .txt x => { cls := .type (strIterType x), data := .fields #[.str x t, .int 0 0] }
def SV.st (t : Tok) (it : Addr) (i : Nat) (h : Heap) : SV → Prop
  | .tup a => h.IsTupleIter it a i
  | .lst a => h.IsListIter it a i
  | .txt x => h.IsStrIter it (strIterType x) x t i
def SV.cells : SV → List Addr
  | .tup a => [a]
  | .lst a => [a]
  | .txt _ => []
theorem SV.rel {c : SV} {u : Value} (r : RelV c.v u) : ∃ t, u = c.val t := by
  cases c with
  | tup a => cases r; exact ⟨0, rfl⟩
  | lst a => cases r; exact ⟨0, rfl⟩
  | txt x => obtain ⟨t, rfl⟩ := r; exact ⟨t, rfl⟩
theorem SV.obj {c : SV} {t : Tok} {it : Addr} {i : Nat} {h : Heap} (q : c.st t it i h) : ∃ o, h.get? it = some o ∧ ∀ v, o.data ≠ .cell v := by
  cases c with
  | tup a => obtain ⟨o, ho, _, hd⟩ := q; exact ⟨o, ho, fun v e => by rw [hd] at e; cases e⟩
  | lst a => obtain ⟨o, ho, _, hd⟩ := q; exact ⟨o, ho, fun v e => by rw [hd] at e; cases e⟩
  | txt x => obtain ⟨o, ho, _, hd⟩ := q; exact ⟨o, ho, fun v e => by rw [hd] at e; cases e⟩
theorem SV.st_at {c : SV} {t : Tok} {it : Addr} {i : Nat} {h h' : Heap} (q : c.st t it i h) (k : ∀ o, h.get? it = some o → h'.get? it = some o) : c.st t it i h' := by
  cases c with
  | tup a => obtain ⟨o, ho, r⟩ := q; exact ⟨o, k o ho, r⟩
  | lst a => obtain ⟨o, ho, r⟩ := q; exact ⟨o, k o ho, r⟩
  | txt x => obtain ⟨o, ho, r⟩ := q; exact ⟨o, k o ho, r⟩
theorem SV.st0 {c : SV} {t : Tok} {it : Addr} {h : Heap} (q : h.get? it = some (c.ob t)) : c.st t it 0 h := by
  cases c with
  | tup a => exact ⟨_, q, rfl, rfl⟩
  | lst a => exact ⟨_, q, rfl, rfl⟩
  | txt x => exact ⟨_, q, rfl, rfl⟩
section
variable {X : Cx} {pins : List (Addr × Obj)} {σ : L2.St} {H : Hp} {s : Shared}
theorem SV.inj {c : SV} {xs ys : List V} (I : Inv X pins σ H s) (a : c.at X.K H xs) (b : c.at X.K H ys) : xs = ys := by
  cases c with
  | tup _ => exact I.tuple_inj a b
  | lst _ => exact I.list_inj a b
  | txt _ => exact Eq.trans a (Eq.symm b)
theorem drawsMono {prog : Program} {w : World} {A : Around} {it : Addr} {fp : List Addr} {n : Nat} {P P' : Nat → Value → Prop} {St : Nat → Heap → Prop} (D : Draws prog w A it fp n P St) (h : ∀ i v, P i v → P' i v) : Draws prog w A it fp n P' St :=
  ⟨D.live, D.frame, fun i s Q E hi st hQ => D.item i s Q E hi st fun x h' tk hp => hQ x h' tk (h i x hp), D.done⟩
/-- the iterator over c, at this heap -/
theorem SV.draws {c : SV} {t : Tok} {it : Addr} {xs : List V} {prog : Program} {w : World} {A : Around} (hh : A.handled = none) (I : Inv X pins σ H s) (q : c.at X.K H xs) (hne : ∀ a ∈ c.cells, a ≠ it) :
    ∃ St : Nat → Heap → Prop, Draws prog w A it (it :: c.cells) xs.length (fun i v => ∃ x, xs[i]? = some x ∧ RelV x v) St ∧ (∀ i, c.st t it i s.heap → St i s.heap) ∧ ∀ i h, St i h → c.st t it i h := by
  cases c with
  | tup a =>
    obtain ⟨its, r, p, _⟩ := I.tuple q
    have hl : its.toArray.size = xs.length := by rw [List.size_toArray, r.length]
    refine ⟨fun i h => h.IsTupleIter it a i ∧ h.IsTuple a its.toArray, drawsMono (hl ▸ Draws.tuple hh it a (hne a (by simp [SV.cells])) its.toArray) fun i v e => ?_, fun i h => ⟨h, p⟩, fun i h z => z.1⟩
    have e' : its[i]? = some v := by simpa using e
    have hi : i < xs.length := by rw [r.length]; exact (List.getElem?_eq_some_iff.mp e').1
    obtain ⟨u, hu, ru⟩ := r.get (List.getElem?_eq_getElem hi)
    rw [e'] at hu; cases hu
    exact ⟨_, List.getElem?_eq_getElem hi, ru⟩
  | lst a =>
    obtain ⟨its, r, p, _⟩ := I.list q
    have hl : its.toArray.size = xs.length := by rw [List.size_toArray, r.length]
    refine ⟨fun i h => h.IsListIter it a i ∧ h.IsList a its.toArray, drawsMono (hl ▸ Draws.list hh it a (hne a (by simp [SV.cells])) its.toArray) fun i v e => ?_, fun i h => ⟨h, p.isList⟩, fun i h z => z.1⟩
    have e' : its[i]? = some v := by simpa using e
    have hi : i < xs.length := by rw [r.length]; exact (List.getElem?_eq_some_iff.mp e').1
    obtain ⟨u, hu, ru⟩ := r.get (List.getElem?_eq_getElem hi)
    rw [e'] at hu; cases hu
    exact ⟨_, List.getElem?_eq_getElem hi, ru⟩
  | txt x =>
    have hl : x.cps.size = xs.length := by
      have : xs = signsV x := q
      rw [this]; simp [signsV]
    refine ⟨fun i h => h.IsStrIter it (strIterType x) x t i, drawsMono (hl ▸ Draws.text hh it x t) fun i v e => ?_, fun i h => h, fun i h z => z⟩
    obtain ⟨k, u, e1, rfl⟩ := e
    refine ⟨.str ⟨#[k]⟩, ?_, u, rfl⟩
    have : xs = signsV x := q
    rw [this]
    simp [signsV, e1]
end
theorem SV.begins {c : SV} {t : Tok} {X : Cx} {pins : List (Addr × Obj)} {σ : L2.St} {H : Hp} {s : Shared} {xs : List V} (I : Inv X pins σ H s) (q : c.at X.K H xs) : ∃ P : Heap → Prop, Begins (c.val t) (c.ob t) P ∧ P s.heap ∧ ∀ a ∈ c.cells, a < s.heap.objs.size := by
  cases c with
  | tup a =>
    obtain ⟨its, r, p, _⟩ := I.tuple q
    obtain ⟨o, ho, _⟩ := id p
    exact ⟨_, begins_tuple a its.toArray, p, fun b hb => by
      have : b = a := by simpa [SV.cells] using hb
      subst this; exact Heap.lt_size ho⟩
  | lst a =>
    obtain ⟨its, r, p, _⟩ := I.list q
    exact ⟨_, begins_list a its.toArray, p.isList, fun b hb => by
      have : b = a := by simpa [SV.cells] using hb
      subst this; exact p.lt⟩
  | txt x => exact ⟨_, begins_text x t, trivial, fun b hb => by simp [SV.cells] at hb⟩

/-! ### zip of two -/
def ItZ (K : PySem.W.Frag) (a b : SV) : It :=
  ⟨fun i H => ∃ (xs ys : List V) (x y : V), a.at K H xs ∧ b.at K H ys ∧ xs[i]? = some x ∧ ys[i]? = some y,
    fun i H v H' => ∃ T x y, v = .ref T ∧ H T = none ∧ H' = upd H T (.tup [x, y]) ∧ (∀ xs, a.at K H xs → xs[i]? = some x) ∧ ∀ ys, b.at K H ys → ys[i]? = some y,
    fun i H => ∃ xs ys : List V, a.at K H xs ∧ b.at K H ys ∧ i ≤ xs.length ∧ i ≤ ys.length ∧ (xs.length = i ∨ ys.length = i)⟩
theorem turn_z {P : Program} {w : World} {K : PySem.W.Frag} {elts : List Expr} {kk : Nat} {tpos : Pos} {a b : SV} {t1 t2 : Tok} {z TI TO i1 i2 : Addr} (S : ZipSep2 z TI TO i1 i2 (i1 :: a.cells) (i2 :: b.cells)) :
    Turn P w K (.Tuple elts kk tpos) (ItZ K a b) [z, TI, TO, i1, i2] z (fun i h => IsZip h z TI TO .none ∧ IsTupOf2 h TI (.ref i1) (.ref i2) ∧ (∃ x y, IsTupOf2 h TO x y) ∧ a.st t1 i1 i h ∧ b.st t2 i2 i h ∧ (∀ c ∈ a.cells, c ≠ i1) ∧ ∀ c ∈ b.cells, c ≠ i2) where
  mem := by simp
  obj := fun i h st c hc => by
    obtain ⟨hz, hTI, ⟨x, y, hTO⟩, q1, q2, _⟩ := st
    have e' : c = z ∨ c = TI ∨ c = TO ∨ c = i1 ∨ c = i2 := by simpa using hc
    rcases e' with q | q | q | q | q
    · rw [q]; exact ⟨_, hz, fun v q => nomatch q⟩
    · rw [q]; exact ⟨_, hTI, fun v q => nomatch q⟩
    · rw [q]; exact ⟨_, hTO, fun v q => nomatch q⟩
    · rw [q]; exact SV.obj q1
    · rw [q]; exact SV.obj q2
  keep := fun i h h' st k => by
    obtain ⟨hz, hTI, ⟨x, y, hTO⟩, h1, h2, r⟩ := st
    exact ⟨k z (by simp) _ hz, k TI (by simp) _ hTI, ⟨x, y, k TO (by simp) _ hTO⟩, SV.st_at h1 fun o q => k i1 (by simp) o q, SV.st_at h2 fun o q => k i2 (by simp) o q, r⟩
  item := by
    intro X hP hw hK hc i pins s σ H E I hf st hg
    subst hP hw hK
    obtain ⟨hz, hTI, ⟨x0, y0, hTO⟩, h1, h2, n1, n2⟩ := st
    obtain ⟨xs, ys, x, y, hqx, hqy, hx, hy⟩ := hg
    obtain ⟨St1, D1, e1, f1⟩ := SV.draws (prog := X.prog) (w := X.w) (A := X.A.in1) (t := t1) (I.ok.hd hc) I hqx n1
    obtain ⟨St2, D2, e2, f2⟩ := SV.draws (prog := X.prog) (w := X.w) (A := X.A.in1) (t := t2) (I.ok.hd hc) I hqy n2
    have hzl : z < s.heap.objs.size := Heap.lt_size hz
    have l1 : i < xs.length := (List.getElem?_eq_some_iff.mp hx).1
    have l2 : i < ys.length := (List.getElem?_eq_some_iff.mp hy).1
    refine wpAny_pyNext_zipD2_item S D1 D2 hz hTI hTO (e1 i h1) (e2 i h2) l1 l2 fun u u2 h' tk p1 p2 z' TO' h1' h2' hT hsz hk => ?_
    obtain ⟨x', ex, ru⟩ := p1
    obtain ⟨y', ey, ru2⟩ := p2
    rw [hx] at ex; cases ex
    rw [hy] at ey; cases ey
    refine ⟨_, rfl, wpAny_letOwnedTupleGo_zip (s := { s with heap := h', toks := tk }) z' fun h'' z'' sb => ?_⟩
    have hT2 : h''.get? s.heap.objs.size = some { cls := .type "tuple", data := .seq #[u, u2] } := (sb.2 _ (Nat.ne_of_gt hzl)).trans hT
    have new : ObjOk X.prog X.w (upd H s.heap.objs.size (.tup [x, y])) h'' s.heap.objs.size (.tup [x, y]) :=
      ⟨by show 2 ≤ sizeLine; decide, [u, u2], .cons ru (.cons ru2 .nil), ⟨_, hT2, rfl, _, rfl⟩⟩
    have I1 : Inv X pins σ (upd H s.heap.objs.size (.tup [x, y])) { s with heap := h'', toks := tk } :=
      I.turnedNew (t' := tk) (ch := [z, TI, TO, i1, i2]) (fun c o hb q => (sb.2 c (fun q' => hb (by simp [q']))).trans (hk c o (fun q' => hb (by simp [q'])) (fun q' => hb (by simp [q'])) (fun q' => hb (by simp [q'])) (fun q' => hb (by simp [q'])) q)) hf (Nat.le_refl _) new
    refine ⟨.ref s.heap.objs.size, _, I1, rfl, ⟨_, x, y, rfl, I.hok.fresh (Nat.le_refl _), rfl, fun l hl => by rw [SV.inj I hl hqx]; exact hx, fun l hl => by rw [SV.inj I hl hqy]; exact hy⟩, ⟨z'', ?_, ⟨u, u2, ?_⟩, ?_, ?_, n1, n2⟩, fun c hcm => ?_⟩
    · exact (sb.2 _ S.TIz).trans (hk _ _ S.TIz S.TITO S.TIi1 S.TIi2 hTI)
    · exact (sb.2 _ S.TOz).trans TO'
    · exact SV.st_at (f1 _ _ h1') fun o q => (sb.2 _ (Ne.symm S.zi1)).trans q
    · exact SV.st_at (f2 _ _ h2') fun o q => (sb.2 _ (Ne.symm S.zi2)).trans q
    · have hlt : c < s.heap.objs.size := by
        have e' : c = z ∨ c = TI ∨ c = TO ∨ c = i1 ∨ c = i2 := by simpa using hcm
        rcases e' with q | q | q | q | q
        · rw [q]; exact hzl
        · rw [q]; exact Heap.lt_size hTI
        · rw [q]; exact Heap.lt_size hTO
        · rw [q]; obtain ⟨_, e1, _⟩ := SV.obj h1; exact Heap.lt_size e1
        · rw [q]; obtain ⟨_, e2, _⟩ := SV.obj h2; exact Heap.lt_size e2
      rw [upd_ne (Nat.ne_of_lt hlt)]
      exact (hf c hcm).1
  done := by
    intro X hP hw hK hc i pins s σ H E I hf st hg
    subst hP hw hK
    obtain ⟨hz, hTI, ⟨x0, y0, hTO⟩, h1, h2, n1, n2⟩ := st
    obtain ⟨xs, ys, hqx, hqy, le1, le2, hend⟩ := hg
    obtain ⟨St1, D1, e1, f1⟩ := SV.draws (prog := X.prog) (w := X.w) (A := X.A.in1) (t := t1) (I.ok.hd hc) I hqx n1
    obtain ⟨St2, D2, e2, f2⟩ := SV.draws (prog := X.prog) (w := X.w) (A := X.A.in1) (t := t2) (I.ok.hd hc) I hqy n2
    exact wpAny_pyNext_zipD2_end S D1 D2 hz hTI hTO (e1 i h1) (e2 i h2) le1 le2 (hend.imp Eq.symm Eq.symm) fun h' tk hk => ⟨rfl, I.turnedL (t' := tk) (ch := [z, TI, TO, i1, i2]) (fun c o hb q =>
      hk c o (fun q' => hb (by simp [q'])) (fun q' => hb (by simp [q'])) (fun q' => hb (by simp [q'])) (fun q' => hb (by simp [q'])) q) hf⟩
  self := fun A i s Q E st h => wpAny_pyIter_zip st.1 h
def iZ (K : PySem.W.Frag) (ta : TA) : TI := fun σ H R => ta σ H fun vs H1 => ∃ (a b : SV) (xs ys : List V), vs = [a.v, b.v] ∧ a.at K H1 xs ∧ b.at K H1 ys ∧ R (ItZ K a b) H1
theorem pi_z {X : Cx} {e e2 : Expr} {ta : TA} {p pos tpos : Pos} {elts : List Expr} {kk : Nat} (hg : Gl X "zip") (hm : X.mg "zip" = none) (ha : PA X [e, e2] ta)
    (hs : starEach [e, e2] X.env = (false, eval e X.env) :: starEach [e2] X.env := by rfl) (hpl : (backTo pos (starEach [e2] X.env)).any (·.1) = false := by rfl) :
    PI X (.Tuple elts kk tpos) (.Call (.Name "zip" p) [e, e2] [] pos) (iZ X.K ta) := by
  refine ⟨fun pins s σ H R I h => ?_⟩
  refine Call_ (ld_blt I hg hm PyProof.Rows.boot_zip (PyProof.Rows.callWith_type1 (thn (ha.run pos pins s σ H _ I h) fun us s1 ⟨vs, H1, I1, r1, q1⟩ => ?_) hs hpl))
  obtain ⟨a, b, xs, ys, ex, q1, q2, q⟩ := q1
  subst ex
  cases r1 with
  | cons r rr =>
    cases rr with
    | cons r' rr =>
      cases rr
      obtain ⟨t1, rfl⟩ := a.rel r
      obtain ⟨t2, rfl⟩ := b.rel r'
      obtain ⟨P1, B1, hp1, lt1⟩ := SV.begins (t := t1) I1 q1
      obtain ⟨P2, B2, hp2, lt2⟩ := SV.begins (t := t2) I1 q2
      have fresh5 : ∀ c, c ∈ [s1.heap.objs.size + 4, s1.heap.objs.size + 2, s1.heap.objs.size + 3, s1.heap.objs.size, s1.heap.objs.size + 1] → FpOk X pins H1 c := fun c hcm => by
        have e' : c = s1.heap.objs.size + 4 ∨ c = s1.heap.objs.size + 2 ∨ c = s1.heap.objs.size + 3 ∨ c = s1.heap.objs.size ∨ c = s1.heap.objs.size + 1 := by simpa using hcm
        have hle : s1.heap.objs.size ≤ c := by
          rcases e' with z | z | z | z | z
          · rw [z]; exact Nat.le_add_right _ _
          · rw [z]; exact Nat.le_add_right _ _
          · rw [z]; exact Nat.le_add_right _ _
          · rw [z]; exact Nat.le_refl _
          · rw [z]; exact Nat.le_add_right _ _
        exact I1.fpOk hle (I1.hok.fresh hle)
      refine zip_begins2 B1 B2 hp1 hp2 fun h' hz hTI hTO g1 g2 hsz hk => wpAny_pyIter_zip hz ?_
      have I2 : Inv X pins σ H1 { s1 with heap := h' } := I1.kept (t' := s1.toks) hk
      exact ⟨s1.heap.objs.size + 4, [s1.heap.objs.size + 4, s1.heap.objs.size + 2, s1.heap.objs.size + 3, s1.heap.objs.size, s1.heap.objs.size + 1], _, _, H1, rfl, I2,
        turn_z (t1 := t1) (t2 := t2) (zip_sep2 lt1 lt2), ⟨hz, hTI, ⟨_, _, hTO⟩, SV.st0 g1, SV.st0 g2, fun c hcm => Nat.ne_of_lt (lt1 c hcm), fun c hcm => Nat.ne_of_lt (Nat.lt_succ_of_lt (lt2 c hcm))⟩, fresh5, q⟩

/-! ### enumerate -/
set_option maxHeartbeats 2000000 in
theorem meets_enumerate_newB1 {v : Value} {o : Obj} {H : Heap → Prop} (B : Begins v o H) :
    Meets (Builtin.«enumerate.__new__» ⟨[.type "enumerate", v], []⟩) (fun _ R s => H s.heap ∧
      R (.ok (.ret (.ref (s.heap.push o).objs.size))) { s with heap := (s.heap.push o).push { cls := .type "enumerate", data := .fields #[.none, .bool false, .ref s.heap.objs.size, rawInt 0, .none, .none] } }) :=
  .of_wp fun prog w A R s h => by
    obtain ⟨hp, g, d, tk, os⟩ := s; obtain ⟨h1, h⟩ := h
    have hsub := sub_enumerate
    have q1 : ∀ {A' : Around} {E : Value → Shared → Prop} {Q : Value → Shared → Prop}, Q (.ref hp.objs.size) ⟨hp.push o, g, d, tk, os⟩ → wpAny (model prog w) A' (pyIter v) Q E ⟨hp, g, d, tk, os⟩ :=
      fun q => B.iter prog w _ _ ⟨hp, g, d, tk, os⟩ _ h1 q
    wp_walk using q1
    refine wpAny_stack_any fun st => wpAny_pure ?_
    split
    · rename_i c _ _ _ _ _
      cases (c == Value.type "enumerate")
      · wp_walk using q1
        exact ⟨_, rfl, h⟩
      · wp_walk using q1
        exact ⟨_, rfl, h⟩
    · wp_walk using q1
      exact ⟨_, rfl, h⟩
theorem enum_begins1 {prog : Program} {w : World} {A : Around} {E : Value → Shared → Prop} {s : Shared} {v : Value} {o : Obj} {H : Heap → Prop} {Q : Value → Shared → Prop} (B : Begins v o H) (h1 : H s.heap)
    (h : ∀ h', IsEnum h' (s.heap.objs.size + 1) s.heap.objs.size 0 .none → h'.get? s.heap.objs.size = some o → h'.objs.size = s.heap.objs.size + 2 →
      (∀ b o, s.heap.get? b = some o → h'.get? b = some o) → Q (.ref (s.heap.objs.size + 1)) { s with heap := h' }) :
    wpAny (model prog w) A (call (.type "enumerate") [v]) Q E s := by
  refine callType_new F.called_enumerate (by decide) (F.typeCall_enumerate_1 _) (F.newCall_enumerate_1 _) (fun obj => F.args_object_init_2 obj _) F.entry_enumerate_new
    (meets_enumerate_newB1 B) ⟨h1, ?_⟩
  have hz : (s.heap.push o).objs.size = s.heap.objs.size + 1 := Heap.size_push ..
  show _ ∧ _
  rw [hz]
  have he : IsEnum ((s.heap.push o).push { cls := .type "enumerate", data := .fields #[.none, .bool false, .ref s.heap.objs.size, rawInt 0, .none, .none] }) (s.heap.objs.size + 1) s.heap.objs.size 0 .none := by
    have := Heap.get?_push_size (s.heap.push o) (o := { cls := .type "enumerate", data := .fields #[.none, .bool false, .ref s.heap.objs.size, rawInt 0, .none, .none] }) rfl
    rw [hz] at this; exact this
  refine ⟨⟨_, he, rfl⟩, h _ he (Heap.get?_push_of_some _ (Heap.get?_push_size _ B.free)) (by rw [Heap.size_push, hz]) fun b o x => Heap.get?_push_of_some _ (Heap.get?_push_of_some _ x)⟩
def ItE (K : PySem.W.Frag) (k0 : Int) (a : SV) : It :=
  ⟨fun i H => ∃ (xs : List V) (x : V), a.at K H xs ∧ xs[i]? = some x, fun i H v H' => ∃ T x, v = .ref T ∧ H T = none ∧ H' = upd H T (.tup [.int (k0 + (i : Int)), x]) ∧ ∀ xs, a.at K H xs → xs[i]? = some x, fun i H => ∃ xs : List V, a.at K H xs ∧ xs.length = i⟩
theorem turn_e {P : Program} {w : World} {K : PySem.W.Frag} {elts : List Expr} {kk : Nat} {tpos : Pos} {a : SV} {t : Tok} {k0 : Int} (e it : Addr) :
    Turn P w K (.Tuple elts kk tpos) (ItE K k0 a) [e, it] e (fun i h => (∃ old, IsEnum h e it (k0 + (i : Int)) old) ∧ a.st t it i h ∧ e ≠ it ∧ (∀ c ∈ a.cells, c ≠ it) ∧ e ∉ it :: a.cells) where
  mem := by simp
  obj := fun i h st b hb => by
    obtain ⟨⟨old, he⟩, h1, _⟩ := st
    have e' : b = e ∨ b = it := by simpa using hb
    rcases e' with z | z
    · rw [z]; exact ⟨_, he, fun v q => nomatch q⟩
    · rw [z]; exact SV.obj h1
  keep := fun i h h' st k => let ⟨⟨old, he⟩, hi, r⟩ := st; ⟨⟨old, k e (by simp) _ he⟩, SV.st_at hi fun o q => k it (by simp) o q, r⟩
  item := by
    intro X hP hw hK hc i pins s σ H E I hf st hg
    subst hP hw hK
    obtain ⟨⟨old, he⟩, hit, hne, n1, hef⟩ := st
    obtain ⟨xs, x, hq, hx⟩ := hg
    obtain ⟨St1, D1, e1, f1⟩ := SV.draws (prog := X.prog) (w := X.w) (A := X.A.in1) (t := t) (I.ok.hd hc) I hq n1
    have hel : e < s.heap.objs.size := Heap.lt_size he
    have hil : it < s.heap.objs.size := by obtain ⟨_, q, _⟩ := SV.obj hit; exact Heap.lt_size q
    have l1 : i < xs.length := (List.getElem?_eq_some_iff.mp hx).1
    refine wpAny_pyNext_enum_itemC D1 he (e1 i hit) l1 hne hef fun u h' tk p1 ho hit' hT hsz hk => ?_
    obtain ⟨x', ex, ru⟩ := p1
    rw [hx] at ex; cases ex
    refine ⟨_, rfl, wpAny_letOwnedTupleGo_enum (s := { s with heap := h', toks := tk + 1 }) ho fun h'' he' sb => ?_⟩
    have hT2 : h''.get? s.heap.objs.size = some { cls := .type "tuple", data := .seq #[.int (k0 + (i : Int)) tk, u] } := (sb.2 _ (Nat.ne_of_gt hel)).trans hT
    have new : ObjOk X.prog X.w (upd H s.heap.objs.size (.tup [.int (k0 + (i : Int)), x])) h'' s.heap.objs.size (.tup [.int (k0 + (i : Int)), x]) :=
      ⟨by show 2 ≤ sizeLine; decide, [.int (k0 + (i : Int)) tk, u], .cons ⟨_, rfl⟩ (.cons ru .nil), ⟨_, hT2, rfl, _, rfl⟩⟩
    have I1 : Inv X pins σ (upd H s.heap.objs.size (.tup [.int (k0 + (i : Int)), x])) { s with heap := h'', toks := tk + 1 } :=
      I.turnedNew (ch := [e, it]) (fun b ob hb q => (sb.2 b (fun z => hb (by simp [z]))).trans (hk b ob (fun z => hb (by simp [z])) (fun z => hb (by simp [z])) q)) hf (Nat.le_refl _) new
    refine ⟨.ref s.heap.objs.size, _, I1, rfl, ⟨_, x, rfl, I.hok.fresh (Nat.le_refl _), rfl, fun ys hy => by rw [SV.inj I hy hq]; exact hx⟩, ⟨⟨u, ?_⟩, SV.st_at (f1 _ _ hit') fun o q => (sb.2 it (Ne.symm hne)).trans q, hne, n1, hef⟩, fun b hb => ?_⟩
    · have e1 : k0 + ((i + 1 : Nat) : Int) = k0 + (i : Int) + 1 := by omega
      rw [e1]; exact he'
    · have hb' : b < s.heap.objs.size := by
        have e' : b = e ∨ b = it := by simpa using hb
        rcases e' with z | z
        · rw [z]; exact hel
        · rw [z]; exact hil
      rw [upd_ne (Nat.ne_of_lt hb')]
      exact (hf b hb).1
  done := by
    intro X hP hw hK hc i pins s σ H E I hf st hg
    subst hP hw hK
    obtain ⟨⟨old, he⟩, hit, hne, n1, hef⟩ := st
    obtain ⟨xs, hq, hx⟩ := hg
    obtain ⟨St1, D1, e1, f1⟩ := SV.draws (prog := X.prog) (w := X.w) (A := X.A.in1) (t := t) (I.ok.hd hc) I hq n1
    exact wpAny_pyNext_enum_endD D1 he (hx ▸ e1 i hit) fun h' eb => ⟨rfl, I.turnedL (t' := s.toks) (ch := [e, it]) (fun b o hb q => eb b o (fun z => hb (by simp [z])) q) hf⟩
  self := fun A i s Q E st h => let ⟨⟨_, he⟩, _⟩ := st; wpAny_pyIter_enum he h
def iE (K : PySem.W.Frag) (ta : TA) : TI := fun σ H R => ta σ H fun vs H1 => ∃ (a : SV) (xs : List V), vs = [a.v] ∧ a.at K H1 xs ∧ R (ItE K 0 a) H1
theorem pi_e {X : Cx} {e : Expr} {ta : TA} {p pos tpos : Pos} {elts : List Expr} {kk : Nat} (hg : Gl X "enumerate") (hm : X.mg "enumerate" = none) (ha : PA X [e] ta) (hs : starEach [e] X.env = [(false, eval e X.env)] := by rfl) :
    PI X (.Tuple elts kk tpos) (.Call (.Name "enumerate" p) [e] [] pos) (iE X.K ta) := by
  refine ⟨fun pins s σ H R I h => ?_⟩
  refine Call_ (ld_blt I hg hm boot_enumerate (PyProof.Rows.callWith_type1 (thn (ha.run pos pins s σ H _ I h) fun us s1 ⟨vs, H1, I1, r1, q1⟩ => ?_) hs rfl))
  obtain ⟨a, xs, ex, hq, q⟩ := q1
  subst ex
  cases r1 with
  | cons r rr =>
    cases rr
    obtain ⟨t1, rfl⟩ := a.rel r
    obtain ⟨P1, B1, hp1, lt1⟩ := SV.begins (t := t1) I1 hq
    refine enum_begins1 B1 hp1 fun h' he g1 hsz hk => wpAny_pyIter_enum he ?_
    have I2 : Inv X pins σ H1 { s1 with heap := h' } := I1.kept (t' := s1.toks) hk
    refine ⟨s1.heap.objs.size + 1, [s1.heap.objs.size + 1, s1.heap.objs.size], _, _, H1, rfl, I2, turn_e (t := t1) (k0 := 0) (a := a) (s1.heap.objs.size + 1) s1.heap.objs.size, ⟨⟨.none, he⟩, SV.st0 g1, Nat.succ_ne_self _, fun c hcm => Nat.ne_of_lt (lt1 c hcm), ?_⟩, fun b hb => ?_, q⟩
    · intro hm
      rcases List.mem_cons.mp hm with e | hm
      · exact Nat.succ_ne_self _ e
      · have : s1.heap.objs.size + 1 < s1.heap.objs.size := lt1 _ hm
        omega
    · have e' : b = s1.heap.objs.size + 1 ∨ b = s1.heap.objs.size := by simpa using hb
      have hle : s1.heap.objs.size ≤ b := by
        rcases e' with z | z
        · rw [z]; exact Nat.le_add_right _ _
        · rw [z]; exact Nat.le_refl _
      exact I1.fpOk hle (I1.hok.fresh hle)

/-! ### by data -/
def signsD (z : Str) : List D := z.cps.toList.map fun c => .str ⟨#[c]⟩
def walkD (G : DHp) : D → Option (List D)
  | .tup xs => some xs
  | .ft xs => some xs
  | .kt xs => some xs
  | .rl xs => some xs
  | .str z => some (signsD z)
  | .ref a => match G a with
    | some (.lst xs) => some xs
    | _ => none
  | _ => none
@[simp] theorem walkD_tup {G : DHp} {xs : List D} : walkD G (.tup xs) = some xs := rfl
@[simp] theorem walkD_rl {G : DHp} {xs : List D} : walkD G (.rl xs) = some xs := rfl
@[simp] theorem walkD_str {G : DHp} {z : Str} : walkD G (.str z) = some (signsD z) := rfl
theorem walkD_ref {G : DHp} {a : Addr} {xs : List D} (h : G a = some (.lst xs)) : walkD G (.ref a) = some xs := by simp [walkD, h]
theorem Reps.signs {K : W.Frag} {H : Hp} {z : Str} : Reps K H (signsD z) (signsV z) := by
  have : signsD z = (z.cps.toList.map fun c => (⟨#[c]⟩ : Str)).map D.str := by simp [signsD]
  have e2 : signsV z = (z.cps.toList.map fun c => (⟨#[c]⟩ : Str)).map V.str := by simp [signsV]
  rw [this, e2]
  exact Reps.ofStrs
theorem walk_sv {K : W.Frag} {G : DHp} {H : Hp} {d : D} {v : V} {xs : List D} (hr : HR K G H) (r : Rep K H d v) (e : walkD G d = some xs) :
    ∃ c : SV, v = c.v ∧ ∀ G' H', HR K G' H' → Stp G H G' H' → walkD G' d = some xs → ∃ vs, c.at K H' vs ∧ Reps K H' xs vs := by
  cases d with
  | tup ds =>
    obtain ⟨a, vs, rfl, h, rs⟩ := r
    cases e
    exact ⟨.tup a, rfl, fun G' H' h' s' _ => ⟨vs, .inl (s'.rd hr h), rs.mono (s'.mn hr)⟩⟩
  | ft ds =>
    obtain ⟨a, vs, rfl, ⟨o, h, _⟩, rs⟩ := r
    cases e
    exact ⟨.tup a, rfl, fun G' H' h' s' _ => ⟨vs, .inl (s'.rd hr (.inr ⟨o, h⟩)), rs.mono (s'.mn hr)⟩⟩
  | kt ds =>
    obtain ⟨a, vs, rfl, h, rs⟩ := r
    cases e
    exact ⟨.tup a, rfl, fun G' H' h' s' _ => ⟨vs, .inl (s'.rd hr (.inl h)), rs.mono (s'.mn hr)⟩⟩
  | rl ds =>
    obtain ⟨a, vs, rfl, h, rs⟩ := r
    cases e
    exact ⟨.lst a, rfl, fun G' H' h' s' _ => ⟨vs, (s'.fl hr h).sq, rs.mono (s'.mn hr)⟩⟩
  | str z =>
    cases r
    cases e
    exact ⟨.txt z, rfl, fun G' H' _ _ _ => ⟨_, rfl, Reps.signs⟩⟩
  | ref a =>
    cases r
    refine ⟨.lst a, rfl, fun G' H' h' s' e' => ?_⟩
    unfold walkD at e'
    simp only at e'
    split at e'
    · rename_i ys ea
      cases e'
      obtain ⟨vs, h, rs⟩ := h' a _ ea
      exact ⟨vs, SqL.of h, rs⟩
    · cases e'
  | _ => cases e
def zipD (xs ys : List D) : List D := List.zipWith (fun x y => .tup [x, y]) xs ys
def kZip (Q : List D → (DHp → Prop) → DHp → Prop) : List D → DHp → Prop := fun ds G => match ds with
  | [x, y] => ∃ xs ys, walkD G x = some xs ∧ walkD G y = some ys ∧ Q (zipD xs ys) (fun G' => walkD G' x = some xs ∧ walkD G' y = some ys) G
  | _ => False
@[simp] def wiZip (ws : WA) : WI := fun ρ G Q => ws ρ G (kZip Q)
@[simp] theorem kZip_two {Q : List D → (DHp → Prop) → DHp → Prop} {x y : D} {G : DHp} : kZip Q [x, y] G = ∃ xs ys, walkD G x = some xs ∧ walkD G y = some ys ∧ Q (zipD xs ys) (fun G' => walkD G' x = some xs ∧ walkD G' y = some ys) G := rfl
section
variable {X : Cx} {G0 : DHp} {H0 : Hp} {pos : Pos} {e e2 : Expr} {ws : WA}
theorem di_zip {p tpos : Pos} {elts : List Expr} {kk : Nat} (hg : Gl X "zip") (hm : X.mg "zip" = none) (ha : DA X G0 H0 [e, e2] ws)
    (hs : starEach [e, e2] X.env = (false, eval e X.env) :: starEach [e2] X.env := by rfl) (hpl : (backTo pos (starEach [e2] X.env)).any (·.1) = false := by rfl) : DI X G0 H0 (.Tuple elts kk tpos) (.Call (.Name "zip" p) [e, e2] [] pos) (wiZip ws) :=
  PI.to (pi_z hg hm ha hs hpl) fun σ H R ⟨ρ, G, QD, pt, w, k⟩ => ⟨ρ, G, _, pt, w, fun ds G1 vs H1 h1 r1 s1 w1 => by
    unfold kZip at w1
    split at w1
    · rename_i x y
      obtain ⟨v, v', rfl, q, q'⟩ := r1.two_inv
      obtain ⟨xs, ys, ex, ey, w1⟩ := w1
      obtain ⟨c1, rfl, f1⟩ := walk_sv h1 q ex
      obtain ⟨c2, rfl, f2⟩ := walk_sv h1 q' ey
      obtain ⟨us1, a1, _⟩ := f1 G1 H1 h1 .refl ex
      obtain ⟨us2, a2, _⟩ := f2 G1 H1 h1 .refl ey
      have lz : (zipD xs ys).length = min xs.length ys.length := by simp [zipD]
      refine ⟨c1, c2, us1, us2, rfl, a1, a2, k _ _ G1 H1 _ h1 s1 ⟨?_, ?_, ?_⟩ w1⟩
      · intro i G H hi hr s g
        obtain ⟨u1, b1, r1⟩ := f1 G H hr s g.1
        obtain ⟨u2, b2, r2⟩ := f2 G H hr s g.2
        have l1 := r1.length; have l2 := r2.length
        exact ⟨u1, u2, u1[i]'(by omega), u2[i]'(by omega), b1, b2, List.getElem?_eq_getElem _, List.getElem?_eq_getElem _⟩
      · intro i d G H v H' e hr s g yy
        obtain ⟨T, x', y', rfl, hT, rfl, y1, y2⟩ := yy
        obtain ⟨u1, b1, r1⟩ := f1 G H hr s g.1
        obtain ⟨u2, b2, r2⟩ := f2 G H hr s g.2
        unfold zipD at e
        rw [List.getElem?_zipWith] at e
        cases ex : xs[i]? with
        | none => rw [ex] at e; simp at e
        | some dx =>
          cases ey : ys[i]? with
          | none => rw [ex, ey] at e; simp at e
          | some dy =>
            rw [ex, ey] at e
            simp at e
            subst e
            obtain ⟨vx, e1, rx⟩ := r1.get ex
            obtain ⟨vy, e2, ry⟩ := r2.get ey
            rw [y1 u1 b1] at e1; cases e1
            rw [y2 u2 b2] at e2; cases e2
            exact ⟨⟨T, [x', y'], rfl, .inl upd_same, ⟨x', [y'], rfl, rx.mono (mn_upd hT), Reps.one (ry.mono (mn_upd hT))⟩⟩, hr.newU hT, .newU hT⟩
      · intro G H hr s g
        obtain ⟨u1, b1, r1⟩ := f1 G H hr s g.1
        obtain ⟨u2, b2, r2⟩ := f2 G H hr s g.2
        have l1 := r1.length; have l2 := r2.length
        exact ⟨u1, u2, b1, b2, by omega, by omega, by omega⟩
    · exact w1.elim⟩
def numD (lo : Int) : List D → List D
  | [] => []
  | x :: xs => .tup [.int lo, x] :: numD (lo + 1) xs
theorem numD_length : ∀ {xs : List D} {lo : Int}, (numD lo xs).length = xs.length
  | [], _ => rfl
  | x :: xs, lo => by simp [numD, numD_length]
theorem numD_get : ∀ {xs : List D} {lo : Int} {i : Nat}, (numD lo xs)[i]? = xs[i]?.map fun x => .tup [.int (lo + (i : Int)), x]
  | [], _, _ => by simp [numD]
  | x :: xs, lo, 0 => by simp [numD]
  | x :: xs, lo, i + 1 => by
    simp only [numD, List.getElem?_cons_succ, numD_get]
    have : lo + 1 + (i : Int) = lo + ((i + 1 : Nat) : Int) := by omega
    rw [this]
def kEnum (Q : List D → (DHp → Prop) → DHp → Prop) : List D → DHp → Prop := fun ds G => match ds with
  | [x] => ∃ xs, walkD G x = some xs ∧ Q (numD 0 xs) (fun G' => walkD G' x = some xs) G
  | _ => False
@[simp] def wiEnum (ws : WA) : WI := fun ρ G Q => ws ρ G (kEnum Q)
@[simp] theorem kEnum_one {Q : List D → (DHp → Prop) → DHp → Prop} {x : D} {G : DHp} : kEnum Q [x] G = ∃ xs, walkD G x = some xs ∧ Q (numD 0 xs) (fun G' => walkD G' x = some xs) G := rfl
theorem di_enum {p tpos : Pos} {elts : List Expr} {kk : Nat} (hg : Gl X "enumerate") (hm : X.mg "enumerate" = none) (ha : DA X G0 H0 [e] ws) (hs : starEach [e] X.env = [(false, eval e X.env)] := by rfl) :
    DI X G0 H0 (.Tuple elts kk tpos) (.Call (.Name "enumerate" p) [e] [] pos) (wiEnum ws) :=
  PI.to (pi_e hg hm ha hs) fun σ H R ⟨ρ, G, QD, pt, w, k⟩ => ⟨ρ, G, _, pt, w, fun ds G1 vs H1 h1 r1 s1 w1 => by
    unfold kEnum at w1
    split at w1
    · rename_i x
      obtain ⟨v, rfl, q⟩ := r1.one_inv
      obtain ⟨xs, ex, w1⟩ := w1
      obtain ⟨c1, rfl, f1⟩ := walk_sv h1 q ex
      obtain ⟨us1, a1, _⟩ := f1 G1 H1 h1 .refl ex
      refine ⟨c1, us1, rfl, a1, k _ _ G1 H1 _ h1 s1 ⟨?_, ?_, ?_⟩ w1⟩
      · intro i G H hi hr s g
        obtain ⟨u1, b1, r1⟩ := f1 G H hr s g
        have l1 := r1.length
        rw [numD_length] at hi
        exact ⟨u1, u1[i]'(by omega), b1, List.getElem?_eq_getElem _⟩
      · intro i d G H v H' e hr s g yy
        obtain ⟨T, x', rfl, hT, rfl, y1⟩ := yy
        obtain ⟨u1, b1, r1⟩ := f1 G H hr s g
        rw [numD_get] at e
        obtain ⟨dx, edx, rfl⟩ := Option.map_eq_some_iff.mp e
        obtain ⟨vx, e1, rx⟩ := r1.get edx
        rw [y1 u1 b1] at e1; cases e1
        exact ⟨⟨T, [_, x'], rfl, .inl upd_same, ⟨_, [x'], rfl, rfl, Reps.one (rx.mono (mn_upd hT))⟩⟩, hr.newU hT, .newU hT⟩
      · intro G H hr s g
        obtain ⟨u1, b1, r1⟩ := f1 G H hr s g
        exact ⟨u1, b1, by rw [numD_length, r1.length]⟩
    · exact w1.elim⟩
end
end TC
set_option maxRecDepth 100000
/-! TC, part j: classes of errors, calls without arguments, recursion, shapes of promises. -/
namespace TC
open PySem PySem.Spec PyProof.Rows L2

/-- where the classes of errors lie -/
structure ExC where
  CueError : Addr
  InvalidShow : Addr
  InvalidScript : Addr
  InvalidStep : Addr
  InvalidCue : Addr
  InvalidMoves : Addr
  InvalidJumps : Addr
  InvalidRun : Addr
  InvalidIndex : Addr
  InvalidChannel : Addr
  NoWay : Addr
  NothingToUndo : Addr
  WrongText : Addr
  TooMany : Addr
  WrongLine : Addr
def exC (K : PySem.W.Frag) : ExC where
  CueError := He.ga K "CueError"
  InvalidShow := He.ga K "InvalidShow"
  InvalidScript := He.ga K "InvalidScript"
  InvalidStep := He.ga K "InvalidStep"
  InvalidCue := He.ga K "InvalidCue"
  InvalidMoves := He.ga K "InvalidMoves"
  InvalidJumps := He.ga K "InvalidJumps"
  InvalidRun := He.ga K "InvalidRun"
  InvalidIndex := He.ga K "InvalidIndex"
  InvalidChannel := He.ga K "InvalidChannel"
  NoWay := He.ga K "NoWay"
  NothingToUndo := He.ga K "NothingToUndo"
  WrongText := He.ga K "WrongText"
  TooMany := He.ga K "TooMany"
  WrongLine := He.ga K "WrongLine"

section
variable {X : Cx} {G0 : DHp} {H0 : Hp} {pos : Pos}
@[simp] def wCall0 (sp : DSp) (W : WXD) : WE := fun ρ G Q => sp [] G Q (W ρ)
theorem de_call0 {k : Nat} {f : Addr} {fd : FuncData} {sp : DSp} {W : WXD} {x : Str} {p : Pos} (F : DFn X.prog X.w X.K X.mg X.base k f fd [] sp) (hr : Room k X.A) (hg : Gl X x) (hm : X.mg x = some (.ref f)) (hk : PySem.W.keepIn X.K (.ref f) = true) (hb : Binds X.K fd [] [])
    (tk : Takes X (LfX X.K G0 H0 W)) (hdb : (x == ("__debug__" : Str)) = false := by decide) : DE X G0 H0 (.Call (.Name x p) [] [] pos) (wCall0 sp W) := by
  refine ⟨fun pins s σ H Q I ⟨ρ, G, QD, pt, w, k⟩ => ?_⟩
  refine wpAny_Call_Name_kw (ld_glob I hg hm ?_ hdb)
  refine PySem.W.callWith_K0 I.kIn hk (run_fnS (us := []) (vs := []) (E := L2.WE (LfX X.K G0 H0 W)) F hr hb (passAt tk σ) I .nil ?_)
  exact ⟨[], G, _, _, rfl, pt.hr, w, fun d G' v' H' h' r' s' q => k d G' v' H' h' r' s' q, fun x G' cls dx H' h' xr s' q => ⟨ρ, G', x, pt.go h' s', xr, q⟩⟩
end
/-- no promise -/
def noSp : DSp := fun _ _ _ _ => False
theorem DFn.none {P : Program} {w : World} {K : PySem.W.Frag} {mg : Str → Option Value} {base : Heap} {k : Nat} {f : Addr} {fd : FuncData} {ps : List Str} : DFn P w K mg base k f fd ps noSp :=
  ⟨fun _ _ _ _ ⟨_, _, _, _, _, _, h, _⟩ => h.elim, fun _ _ _ _ _ _ _ _ _ _ _ _ _ ⟨_, _, _, _, _, _, h, _⟩ => h.elim⟩

/-! ### shapes of promises -/
abbrev DSp0 := DHp → DK → DXK → Prop
abbrev DSp1 := D → DHp → DK → DXK → Prop
abbrev DSp2 := D → D → DHp → DK → DXK → Prop
abbrev DSp3 := D → D → D → DHp → DK → DXK → Prop
abbrev DSp4 := D → D → D → D → DHp → DK → DXK → Prop
def sp0 (f : DSp0) : DSp := fun ds G Q E => match ds with
  | [] => f G Q E
  | _ => False
def sp1 (f : DSp1) : DSp := fun ds G Q E => match ds with
  | [a] => f a G Q E
  | _ => False
def sp2 (f : DSp2) : DSp := fun ds G Q E => match ds with
  | [a, b] => f a b G Q E
  | _ => False
def sp3 (f : DSp3) : DSp := fun ds G Q E => match ds with
  | [a, b, c] => f a b c G Q E
  | _ => False
def sp4 (f : DSp4) : DSp := fun ds G Q E => match ds with
  | [a, b, c, d] => f a b c d G Q E
  | _ => False
section
variable {G : DHp} {Q : DK} {E : DXK} {ds : List D} {a b c d : D}
@[simp] theorem sp0_at {f : DSp0} : sp0 f [] G Q E = f G Q E := rfl
@[simp] theorem sp1_at {f : DSp1} : sp1 f [a] G Q E = f a G Q E := rfl
@[simp] theorem sp2_at {f : DSp2} : sp2 f [a, b] G Q E = f a b G Q E := rfl
@[simp] theorem sp3_at {f : DSp3} : sp3 f [a, b, c] G Q E = f a b c G Q E := rfl
@[simp] theorem sp4_at {f : DSp4} : sp4 f [a, b, c, d] G Q E = f a b c d G Q E := rfl
theorem sp0_inv {f : DSp0} (h : sp0 f ds G Q E) : ds = [] ∧ f G Q E := by
  unfold sp0 at h; split at h
  · exact ⟨rfl, h⟩
  · exact h.elim
theorem sp1_inv {f : DSp1} (h : sp1 f ds G Q E) : ∃ a, ds = [a] ∧ f a G Q E := by
  unfold sp1 at h; split at h
  · exact ⟨_, rfl, h⟩
  · exact h.elim
theorem sp2_inv {f : DSp2} (h : sp2 f ds G Q E) : ∃ a b, ds = [a, b] ∧ f a b G Q E := by
  unfold sp2 at h; split at h
  · exact ⟨_, _, rfl, h⟩
  · exact h.elim
theorem sp3_inv {f : DSp3} (h : sp3 f ds G Q E) : ∃ a b c, ds = [a, b, c] ∧ f a b c G Q E := by
  unfold sp3 at h; split at h
  · exact ⟨_, _, _, rfl, h⟩
  · exact h.elim
theorem sp4_inv {f : DSp4} (h : sp4 f ds G Q E) : ∃ a b c d, ds = [a, b, c, d] ∧ f a b c d G Q E := by
  unfold sp4 at h; split at h
  · exact ⟨_, _, _, _, rfl, h⟩
  · exact h.elim
end
/-- the length of what is given -/
class ArOk (sp : DSp) (n : Nat) : Prop where
  len : ∀ ds G Q E, sp ds G Q E → ds.length = n
instance {f : DSp0} : ArOk (sp0 f) 0 := ⟨fun _ _ _ _ h => by rw [(sp0_inv h).1]; rfl⟩
instance {f : DSp1} : ArOk (sp1 f) 1 := ⟨fun _ _ _ _ h => by obtain ⟨_, rfl, _⟩ := sp1_inv h; rfl⟩
instance {f : DSp2} : ArOk (sp2 f) 2 := ⟨fun _ _ _ _ h => by obtain ⟨_, _, rfl, _⟩ := sp2_inv h; rfl⟩
instance {f : DSp3} : ArOk (sp3 f) 3 := ⟨fun _ _ _ _ h => by obtain ⟨_, _, _, rfl, _⟩ := sp3_inv h; rfl⟩
instance {f : DSp4} : ArOk (sp4 f) 4 := ⟨fun _ _ _ _ h => by obtain ⟨_, _, _, _, rfl, _⟩ := sp4_inv h; rfl⟩
instance {n : Nat} : ArOk noSp n := ⟨fun _ _ _ _ h => h.elim⟩
end TC
set_option maxRecDepth 100000
/-! TC, part k: rules for loops, values that are known, sources of draws. -/
namespace TC
open PySem PySem.Spec PyProof.Rows L2

section
variable {α : Type} {l : List α}
@[simp] theorem pick_0 : pick l 0 = l[0]? := by simp [pick]
@[simp] theorem pick_1 : pick l 1 = l[1]? := by simp [pick]
@[simp] theorem pick_2 : pick l 2 = l[2]? := by simp [pick]
@[simp] theorem pick_3 : pick l 3 = l[3]? := by simp [pick]
@[simp] theorem pick_4 : pick l 4 = l[4]? := by simp [pick]
@[simp] theorem pick_5 : pick l 5 = l[5]? := by simp [pick]
@[simp] theorem pick_6 : pick l 6 = l[6]? := by simp [pick]
@[simp] theorem pick_7 : pick l 7 = l[7]? := by simp [pick]
@[simp] theorem pick_8 : pick l 8 = l[8]? := by simp [pick]
@[simp] theorem pick_9 : pick l 9 = l[9]? := by simp [pick]
end
@[simp] theorem dMul_int {i j : Int} {G : DHp} {Q : DK} : dMul (.int i) (.int j) G Q = (CMul i j ∧ Q (.int (i * j)) G) := rfl
@[simp] theorem dMul_tup {xs : List D} {k : Int} {G : DHp} {Q : DK} : dMul (.tup xs) (.int k) G Q = ((-1000 ≤ k ∧ k ≤ 1000 ∧ xs.length ≤ 1000) ∧ Q (.tup (List.replicate k.toNat xs).flatten) G) := rfl
@[simp] theorem dMul_ref {a : Addr} {k : Int} {G : DHp} {Q : DK} : dMul (.ref a) (.int k) G Q = ∃ xs, G a = some (.lst xs) ∧ (-1000 ≤ k ∧ k ≤ 1000 ∧ xs.length ≤ 1000) ∧ ∀ p, G p = none → Q (.ref p) (updD G p (.lst (List.replicate k.toNat xs).flatten)) := rfl
@[simp] theorem dNeg_int {i : Int} {G : DHp} {Q : DK} : dNeg (.int i) G Q = Q (.int (-i)) G := rfl
@[simp] theorem wPar_two {i j : Nat} {a b : WE} {F : DEnds} {ρ : Ro} {G : DHp} : wPar i j (wCons a (wCons b wNil)) F ρ G = a ρ G fun x G1 => b ρ G1 fun y G2 => F.nx ((ρ.set i (some x)).set j (some y)) G2 := rfl
@[simp] theorem wPar3_three {i j m : Nat} {a b c : WE} {F : DEnds} {ρ : Ro} {G : DHp} : wPar3 i j m (wCons a (wCons b (wCons c wNil))) F ρ G = a ρ G fun x G1 => b ρ G1 fun y G2 => c ρ G2 fun z G3 => F.nx (((ρ.set i (some x)).set j (some y)).set m (some z)) G3 := rfl
theorem ite3 {c1 c2 c3 T X : Prop} [Decidable c1] [Decidable c2] [Decidable c3] (h : ¬ (c1 ∧ c2 ∧ c3)) (x : X) : if c1 then if c2 then if c3 then T else X else X else X := by
  split
  · split
    · split
      · rename_i a b c; exact absurd ⟨a, b, c⟩ h
      · exact x
    · exact x
  · exact x
theorem cut_to {α : Type} {xs : List α} {n : Nat} : cut xs none (some (n : Int)) = xs.take n := by
  unfold cut
  rw [HT.sIx_nat, HT.sIx_none, List.drop_zero, Nat.sub_zero]
  by_cases h : n ≤ xs.length
  · rw [Nat.min_eq_left h]
  · rw [Nat.min_eq_right (by omega), List.take_length, List.take_of_length_le (by omega)]
theorem cut_from {α : Type} {xs : List α} {n : Nat} : cut xs (some (n : Int)) none = xs.drop n := by
  unfold cut
  rw [HT.sIx_nat, HT.sIx_none]
  by_cases h : n ≤ xs.length
  · rw [Nat.min_eq_left h, List.take_of_length_le (by rw [List.length_drop]; omega)]
  · rw [Nat.min_eq_right (by omega), List.drop_of_length_le (Nat.le_refl _), List.drop_of_length_le (by omega)]; simp
theorem cut_ft {α : Type} {xs : List α} {i j : Nat} : cut xs (some (i : Int)) (some (j : Int)) = (xs.drop i).take (j - i) := by
  unfold cut
  rw [HT.sIx_nat, HT.sIx_nat]
  by_cases h : i ≤ xs.length
  · rw [Nat.min_eq_left h]
    by_cases h2 : j ≤ xs.length
    · rw [Nat.min_eq_left h2]
    · rw [Nat.min_eq_right (show xs.length ≤ j by omega), List.take_of_length_le (by rw [List.length_drop]; omega), List.take_of_length_le (by rw [List.length_drop]; omega)]
  · rw [Nat.min_eq_right (show xs.length ≤ i by omega), List.drop_of_length_le (Nat.le_refl _), List.drop_of_length_le (show xs.length ≤ i by omega)]; simp
@[simp] theorem dRev_ref {a : Addr} {G : DHp} {Q : DK} : dRev (.ref a) G Q = ∃ xs, G a = some (.lst xs) ∧ ∀ p, G p = none → Q (.ref p) (updD G p (.lst xs.reverse)) := rfl
@[simp] theorem dIx_ft {xs : List D} {i : Int} {G : DHp} {Q : DK} : dIx (.ft xs) (.int i) G Q = must (pick xs i) G Q := rfl
@[simp] theorem dIx_kt {xs : List D} {i : Int} {G : DHp} {Q : DK} : dIx (.kt xs) (.int i) G Q = must (pick xs i) G Q := rfl
@[simp] theorem dLen_ft {xs : List D} {G : DHp} {Q : DK} : dLen [.ft xs] G Q = Q (.int xs.length) G := rfl
@[simp] theorem dLen_kt {xs : List D} {G : DHp} {Q : DK} : dLen [.kt xs] G Q = Q (.int xs.length) G := rfl
@[simp] theorem itemsD_ft {xs : List D} {G : DHp} : itemsD G (.ft xs) = some xs := rfl
@[simp] theorem itemsD_kt {xs : List D} {G : DHp} : itemsD G (.kt xs) = some xs := rfl
@[simp] theorem walkD_ft {xs : List D} {G : DHp} : walkD G (.ft xs) = some xs := rfl
@[simp] theorem walkD_kt {xs : List D} {G : DHp} : walkD G (.kt xs) = some xs := rfl
@[simp] theorem kTupI_ft {Q : List D → (DHp → Prop) → DHp → Prop} {xs : List D} {G : DHp} : kTupI Q (.ft xs) G = Q xs (fun _ => True) G := rfl
@[simp] theorem kTupI_kt {Q : List D → (DHp → Prop) → DHp → Prop} {xs : List D} {G : DHp} : kTupI Q (.kt xs) G = Q xs (fun _ => True) G := rfl
/-- two statements, what holds between them told -/
theorem seq_cut {t u : WS} {F : DEnds} {ρ : Ro} {G : DHp} (mid : Ro → DHp → Prop) (h1 : ∀ nx : Ro → DHp → Prop, (∀ ρ' G', mid ρ' G' → nx ρ' G') → t { F with nx := nx } ρ G) (h2 : ∀ ρ' G', mid ρ' G' → u F ρ' G') : wSeq t u F ρ G := h1 _ h2
/-! ### loops -/
theorem forW_rule {gd : DHp → Prop} {g : WG} {b : WS} {F : DEnds} (Pr : List D → Ro → DHp → Prop)
    (step : ∀ x r ρ G (nx : Ro → DHp → Prop), Pr (x :: r) ρ G → (∀ ρ' G', Pr r ρ' G' → nx ρ' G') → gd G ∧ g x ρ G fun ρ1 G1 => b { nx := nx, rt := F.rt, bk := F.nx, ct := nx } ρ1 G1)
    (fin : ∀ ρ G, Pr [] ρ G → gd G ∧ F.nx ρ G) : ∀ {xs : List D} {ρ : Ro} {G : DHp}, Pr xs ρ G → forW gd g b F xs ρ G
  | [], _, _, h => fin _ _ h
  | _ :: _, _, _, h => step _ _ _ _ _ h fun _ _ h' => forW_rule Pr step fin h'
theorem lcW_rule {gd : DHp → Prop} {g : WG} {wt : WT} {we : WE} {ρ : Ro} {Q : DK} (Pr : List D → List D → DHp → Prop)
    (step : ∀ x r acc G (K : List D → DHp → Prop), Pr (x :: r) acc G → (∀ acc' G', Pr r acc' G' → K acc' G') →
      gd G ∧ g x ρ G fun ρ1 G1 => wt ρ1 G1 fun b G2 => if b = true then we ρ1 G2 fun y G3 => acc.length < 1000000 ∧ K (acc ++ [y]) G3 else K acc G2)
    (fin : ∀ acc G, Pr [] acc G → gd G ∧ ∀ p, G p = none → Q (.ref p) (updD G p (.lst acc))) : ∀ {xs acc : List D} {G : DHp}, Pr xs acc G → lcW gd g wt we ρ Q xs acc G
  | [], _, _, h => fin _ _ h
  | _ :: _, _, _, h => step _ _ _ _ (fun acc' G' => lcW gd g wt we ρ Q _ acc' G') h fun _ _ h' => lcW_rule Pr step fin h'
/-- a comprehension without tests whose items each give f of them, what is told staying told -/
theorem lc_map {gd : DHp → Prop} {g : WG} {we : WE} {ρ : Ro} {Q : DK} {xs : List D} {G : DHp} (f : D → D) (hl : xs.length ≤ 1000000) (hgd : ∀ G', Ext G G' → gd G')
    (step : ∀ x, x ∈ xs → ∀ (G1 : DHp) (K : DK), Ext G G1 → (∀ G2, Ext G1 G2 → K (f x) G2) → g x ρ G1 fun ρ1 G2 => we ρ1 G2 K)
    (fin : ∀ G1 p, Ext G G1 → G1 p = none → Q (.ref p) (updD G1 p (.lst (xs.map f)))) : lcW gd g wtYes we ρ Q xs [] G := by
  refine lcW_rule (fun r acc G1 => ∃ d, xs = d ++ r ∧ acc = d.map f ∧ Ext G G1) ?_ ?_ ⟨[], rfl, rfl, .refl⟩
  · rintro x r acc G1 K ⟨d, rfl, rfl, e⟩ hK
    refine ⟨hgd _ e, ?_⟩
    have hm : x ∈ d ++ x :: r := by simp
    have := step x hm G1 (fun y G3 => (d.map f).length < 1000000 ∧ K (d.map f ++ [y]) G3) e fun G2 e2 => ⟨by simp at hl ⊢; omega, hK _ _ ⟨d ++ [x], by simp, by simp, e.trans e2⟩⟩
    simpa using this
  · rintro acc G1 ⟨d, e1, rfl, e⟩
    simp at e1
    subst e1
    exact ⟨hgd _ e, fun p hp => fin G1 p e hp⟩
/-- a comprehension with a test -/
theorem lc_filter {gd : DHp → Prop} {g : WG} {wt : WT} {we : WE} {ρ : Ro} {Q : DK} {xs : List D} {G : DHp} (f : D → D) (c : D → Bool) (hl : xs.length ≤ 1000000) (hgd : ∀ G', Ext G G' → gd G')
    (step : ∀ x, x ∈ xs → ∀ (G1 : DHp) (acc : List D) (K : List D → DHp → Prop), Ext G G1 → acc.length < 1000000 → (∀ G2, Ext G1 G2 → K (if c x = true then acc ++ [f x] else acc) G2) →
      g x ρ G1 fun ρ1 G2 => wt ρ1 G2 fun b G3 => if b = true then we ρ1 G3 fun y G4 => acc.length < 1000000 ∧ K (acc ++ [y]) G4 else K acc G3)
    (fin : ∀ G1 p, Ext G G1 → G1 p = none → Q (.ref p) (updD G1 p (.lst ((xs.filter c).map f)))) : lcW gd g wt we ρ Q xs [] G := by
  refine lcW_rule (fun r acc G1 => ∃ d, xs = d ++ r ∧ acc = (d.filter c).map f ∧ Ext G G1) ?_ ?_ ⟨[], rfl, rfl, .refl⟩
  · rintro x r acc G1 K ⟨d, rfl, rfl, e⟩ hK
    refine ⟨hgd _ e, ?_⟩
    have hm : x ∈ d ++ x :: r := by simp
    have hlen : ((d.filter c).map f).length < 1000000 := by
      have := List.length_filter_le c d
      simp at hl ⊢; omega
    refine step x hm G1 _ K e hlen fun G2 e2 => hK _ _ ⟨d ++ [x], by simp, ?_, e.trans e2⟩
    by_cases hc : c x = true
    · simp [hc]
    · simp [hc]
  · rintro acc G1 ⟨d, e1, rfl, e⟩
    simp at e1
    subst e1
    exact ⟨hgd _ e, fun p hp => fin G1 p e hp⟩

theorem lc_keep {gd : DHp → Prop} {g : WG} {wt : WT} {we : WE} {ρ : Ro} {Q : DK} {xs : List D} {G : DHp} (c : D → Bool) (hl : xs.length ≤ 1000000) (hgd : ∀ G', Ext G G' → gd G')
    (step : ∀ x, x ∈ xs → ∀ (G1 : DHp) (acc : List D) (K : List D → DHp → Prop), Ext G G1 → acc.length < 1000000 → (∀ G2, Ext G1 G2 → K (if c x = true then acc ++ [x] else acc) G2) →
      g x ρ G1 fun ρ1 G2 => wt ρ1 G2 fun b G3 => if b = true then we ρ1 G3 fun y G4 => acc.length < 1000000 ∧ K (acc ++ [y]) G4 else K acc G3)
    (fin : ∀ G1 p, Ext G G1 → G1 p = none → Q (.ref p) (updD G1 p (.lst (xs.filter c)))) : lcW gd g wt we ρ Q xs [] G :=
  lc_filter id c hl hgd step (by simpa using fin)

/-! ### values that are known to the ground -/
def Kn : Nat → DHp → D → Prop
  | 0, _, d => match d with
    | .non => True
    | .bl _ => True
    | .int _ => True
    | .str x => PyData.strOk x = true ∧ x.length ≤ 1000000
    | _ => False
  | n + 1, G, d => match d with
    | .non => True
    | .bl _ => True
    | .int _ => True
    | .str x => PyData.strOk x = true ∧ x.length ≤ 1000000
    | .tup ds => ds.length ≤ 1000 * (n + 1) ∧ ∀ d ∈ ds, Kn n G d
    | .rl ds => ds.length ≤ 1000 * (n + 1) ∧ ∀ d ∈ ds, Kn n G d
    | .ref a => ∃ xs, G a = some (.lst xs) ∧ xs.length ≤ 1000 * (n + 1) ∧ ∀ d ∈ xs, Kn n G d
    | _ => False
section
variable {G G' : DHp} {n m : Nat} {d : D} {ds xs : List D} {a : Addr} {z : Str}
@[simp] theorem kn_non : Kn n G .non := by cases n <;> trivial
@[simp] theorem kn_bl {b : Bool} : Kn n G (.bl b) := by cases n <;> trivial
@[simp] theorem kn_int {i : Int} : Kn n G (.int i) := by cases n <;> trivial
@[simp] theorem kn_str : Kn n G (.str z) ↔ PyData.strOk z = true ∧ z.length ≤ 1000000 := by cases n <;> exact Iff.rfl
@[simp] theorem kn_tup : Kn (n + 1) G (.tup ds) ↔ ds.length ≤ 1000 * (n + 1) ∧ ∀ d ∈ ds, Kn n G d := Iff.rfl
theorem kn_ft (h : Kn n G (.ft ds)) : False := by cases n <;> exact h
theorem kn_kt (h : Kn n G (.kt ds)) : False := by cases n <;> exact h
@[simp] theorem kn_rl : Kn (n + 1) G (.rl ds) ↔ ds.length ≤ 1000 * (n + 1) ∧ ∀ d ∈ ds, Kn n G d := Iff.rfl
@[simp] theorem kn_ref : Kn (n + 1) G (.ref a) ↔ ∃ xs, G a = some (.lst xs) ∧ xs.length ≤ 1000 * (n + 1) ∧ ∀ d ∈ xs, Kn n G d := Iff.rfl
theorem kn_ty {x : String} (h : Kn n G (.ty x)) : False := by cases n <;> exact h
theorem Kn.ext (e : Ext G G') : ∀ {n : Nat} {d : D}, Kn n G d → Kn n G' d
  | 0, d, h => by cases d <;> exact h
  | n + 1, d, h => by
    cases d with
    | tup ds => exact ⟨h.1, fun d hd => Kn.ext e (h.2 d hd)⟩
    | rl ds => exact ⟨h.1, fun d hd => Kn.ext e (h.2 d hd)⟩
    | ref a => obtain ⟨xs, h1, hl, h2⟩ := h; exact ⟨xs, e a _ h1, hl, fun d hd => Kn.ext e (h2 d hd)⟩
    | _ => exact h
theorem Kn.up : ∀ {n : Nat} {d : D}, Kn n G d → Kn (n + 1) G d
  | 0, d, h => by cases d <;> first | exact h | exact h.elim
  | n + 1, d, h => by
    cases d with
    | tup ds => exact ⟨by have := h.1; omega, fun d hd => Kn.up (h.2 d hd)⟩
    | rl ds => exact ⟨by have := h.1; omega, fun d hd => Kn.up (h.2 d hd)⟩
    | ref a => obtain ⟨xs, h1, hl, h2⟩ := h; exact ⟨xs, h1, by omega, fun d hd => Kn.up (h2 d hd)⟩
    | _ => exact h
theorem Kn.mono (h : n ≤ m) (k : Kn n G d) : Kn m G d := by
  induction h with
  | refl => exact k
  | step _ ih => exact ih.up
theorem Kn.tup_inv (h : Kn n G (.tup ds)) : ∃ m, n = m + 1 ∧ ∀ d ∈ ds, Kn m G d := by
  cases n with
  | zero => exact h.elim
  | succ m => exact ⟨m, rfl, h.2⟩
theorem Kn.len (h : Kn n G (.tup ds)) : ds.length ≤ 1000 * n := by
  cases n with
  | zero => exact h.elim
  | succ m => exact h.1
theorem Kn.mem (h : Kn n G (.tup ds)) (hd : d ∈ ds) : Kn n G d := by
  obtain ⟨m, rfl, h'⟩ := h.tup_inv
  exact (h' d hd).up
theorem Kn.get {i : Nat} (h : Kn n G (.tup ds)) (hd : ds[i]? = some d) : Kn n G d := h.mem (List.mem_of_getElem? hd)
theorem Kn.ref_inv (h : Kn n G (.ref a)) : ∃ m xs, n = m + 1 ∧ G a = some (.lst xs) ∧ xs.length ≤ 1000 * (m + 1) ∧ ∀ d ∈ xs, Kn m G d := by
  cases n with
  | zero => exact h.elim
  | succ m => obtain ⟨xs, h1, hl, h2⟩ := h; exact ⟨m, xs, rfl, h1, hl, h2⟩
/-- what a known value is asked by isinstance -/
def kindD (k : Kd) : D → Bool
  | .non => false
  | .bl _ => decide (k = .int) || decide (k = .bool)
  | .int _ => decide (k = .int)
  | .str _ => decide (k = .str)
  | .tup _ => decide (k = .tup)
  | .ft _ => false
  | .kt _ => false
  | .rl _ => decide (k = .lst)
  | .ref _ => decide (k = .lst)
  | .ty _ => false
theorem Kn.isK {k : Kd} (h : Kn n G d) : isK k G d = some (kindD k d) := by
  cases d with
  | ref a => obtain ⟨m, xs, rfl, h1, _, h2⟩ := h.ref_inv; exact isK_ref h1
  | ty x => exact (kn_ty h).elim
  | ft x => exact (kn_ft h).elim
  | kt x => exact (kn_kt h).elim
  | _ => rfl
end

/-! ### == of what is known -/
mutual
theorem rdW_kn {G : DHp} {f : Addr → Option PyData} {n : Nat} (hf : ∀ a, Kn n G (.ref a) → ∃ p, f a = some p ∧ p.canLay0 = true ∧ p.depth ≤ n + 1) : ∀ {d : D}, Kn n G d → (∀ m, m < n → ∀ a, Kn m G (.ref a) → ∃ p, f a = some p ∧ p.canLay0 = true ∧ p.depth ≤ m + 1) → ∃ p, rdW f d = some p ∧ p.canLay0 = true ∧ p.depth ≤ n + 1
  | .non, _, _ => ⟨_, rfl, by simp [PyData.canLay0], by simp [PyData.depth]⟩
  | .bl _, _, _ => ⟨_, rfl, by simp [PyData.canLay0], by simp [PyData.depth]⟩
  | .int _, _, _ => ⟨_, rfl, by simp [PyData.canLay0], by simp [PyData.depth]⟩
  | .str x, h, _ => ⟨_, rfl, by simpa [PyData.canLay0] using (kn_str.mp h).1, by simp [PyData.depth]⟩
  | .tup ds, h, hm => by
    obtain ⟨m, rfl, h'⟩ := h.tup_inv
    obtain ⟨ps, e, c, dp⟩ := rdWs_kn (n := m) (fun a ha => hm m (Nat.lt_succ_self _) a ha) h' fun k hk a ha => hm k (Nat.lt_succ_of_lt hk) a ha
    exact ⟨.tuple ps, by simp [rdW, e], by simpa [PyData.canLay0] using c, by simp [PyData.depth]; omega⟩
  | .ft ds, h, _ => (kn_ft h).elim
  | .kt ds, h, _ => (kn_kt h).elim
  | .rl ds, h, hm => by
    cases n with
    | zero => exact h.elim
    | succ m =>
      obtain ⟨ps, e, c, dp⟩ := rdWs_kn (n := m) (fun a ha => hm m (Nat.lt_succ_self _) a ha) h.2 fun k hk a ha => hm k (Nat.lt_succ_of_lt hk) a ha
      exact ⟨.list ps, by simp [rdW, e], by simpa [PyData.canLay0] using c, by simp [PyData.depth]; omega⟩
  | .ref a, h, _ => by
    obtain ⟨p, e, c, dp⟩ := hf a h
    exact ⟨p, by simpa [rdW] using e, c, dp⟩
  | .ty _, h, _ => (kn_ty h).elim
theorem rdWs_kn {G : DHp} {f : Addr → Option PyData} {n : Nat} (hf : ∀ a, Kn n G (.ref a) → ∃ p, f a = some p ∧ p.canLay0 = true ∧ p.depth ≤ n + 1) : ∀ {ds : List D}, (∀ d ∈ ds, Kn n G d) → (∀ m, m < n → ∀ a, Kn m G (.ref a) → ∃ p, f a = some p ∧ p.canLay0 = true ∧ p.depth ≤ m + 1) → ∃ ps, rdWs f ds = some ps ∧ PyData.canLayAll0 ps = true ∧ PyData.depthAll ps ≤ n + 1
  | [], _, _ => ⟨[], rfl, by simp [PyData.canLayAll0], by simp [PyData.depthAll]⟩
  | d :: ds, h, hm => by
    obtain ⟨p, e1, c1, d1⟩ := rdW_kn hf (h d (by simp)) hm
    obtain ⟨ps, e2, c2, d2⟩ := rdWs_kn (ds := ds) hf (fun x hx => h x (List.mem_cons_of_mem _ hx)) hm
    exact ⟨p :: ps, by simp [rdWs, e1, e2], by simp [PyData.canLayAll0, c1, c2], by simp [PyData.depthAll]; omega⟩
end
theorem rfN_kn {G : DHp} : ∀ {m : Nat} {a : Addr} {n : Nat}, n ≤ m → Kn n G (.ref a) → ∃ p, rfN m G a = some p ∧ p.canLay0 = true ∧ p.depth ≤ n + 1
  | 0, a, n, hn, h => by
    have : n = 0 := by omega
    subst this
    exact h.elim
  | m + 1, a, n, hn, h => by
    obtain ⟨k, xs, rfl, h1, _, h2⟩ := h.ref_inv
    obtain ⟨ps, e, c, dp⟩ := rdWs_kn (f := rfN m G) (n := k) (fun b hb => rfN_kn (by omega) hb) h2 fun j hj b hb => rfN_kn (by omega) hb
    refine ⟨.list ps, ?_, by simpa [PyData.canLay0] using c, by simp [PyData.depth]; omega⟩
    unfold rfN
    rw [h1]
    simp [e]
theorem rd_kn {G : DHp} {n : Nat} {d : D} (hn : n ≤ 20) (h : Kn n G d) : ∃ p, rd G d = some p ∧ SeqAt.shaped p = true := by
  obtain ⟨p, e, c, dp⟩ := rdW_kn (f := rfN 20 G) (fun a ha => rfN_kn hn ha) h fun m hm a ha => rfN_kn (by omega) ha
  exact ⟨p, e, by unfold SeqAt.shaped; rw [c, decide_eq_true (by omega)]; rfl⟩
theorem rds_kn {G : DHp} {n : Nat} {ds : List D} (hn : n ≤ 20) (h : ∀ d ∈ ds, Kn n G d) : ∃ ps, rds G ds = some ps ∧ ps.length = ds.length ∧ PyData.canLayAll0 ps = true ∧ PyData.depthAll ps ≤ n + 1 := by
  obtain ⟨ps, e, c, dp⟩ := rdWs_kn (f := rfN 20 G) (fun a ha => rfN_kn hn ha) h fun m hm a ha => rfN_kn (by omega) ha
  refine ⟨ps, e, ?_, c, dp⟩
  clear c dp h
  induction ds generalizing ps with
  | nil => cases e; rfl
  | cons d ds ih =>
    have e : rdWs (rfN 20 G) (d :: ds) = some ps := e
    unfold rdWs at e
    split at e
    · rename_i p ps' e1 e2
      cases e
      simp [ih ps' e2]
    · cases e
theorem rd_tup {G : DHp} {ds : List D} {ps : List PyData} (h : rds G ds = some ps) : rd G (.tup ds) = some (.tuple ps) := by
  unfold rd rdW
  unfold rds at h
  rw [h]; rfl
theorem rfN_up {G : DHp} {a : Addr} {xs : List D} {ps : List PyData} {m : Nat} (h1 : G a = some (.lst xs)) (h : rdWs (rfN m G) xs = some ps) : rfN (m + 1) G a = some (.list ps) := by
  unfold rfN; rw [h1]; simp [h]
/-- a list against [] -/
theorem dEqD_nil {neg : Bool} {G : DHp} {Q : DK} {p q : Addr} {xs : List D} {n : Nat} (hp : G p = some (.lst xs)) (hq : G q = some (.lst [])) (hn : n < 20) (hl : xs.length ≤ 1000 * (n + 1)) (h : ∀ d ∈ xs, Kn n G d) (w : Q (.bl (neg != xs.isEmpty)) G) : dEqD neg (.ref p) (.ref q) G Q := by
  obtain ⟨pd, e, sh⟩ := rd_kn (n := n + 1) (d := .ref p) (G := G) (by omega) ⟨xs, hp, hl, h⟩
  have e' : rfN 20 G p = some pd := by simpa [rd, rdW] using e
  have e3 : rfN 20 G q = some (.list []) := rfN_up hq rfl
  have e4 := e'
  unfold rfN at e4
  rw [hp] at e4
  obtain ⟨ps, e5, rfl⟩ := Option.map_eq_some_iff.mp e4
  refine ⟨.list ps, .list [], e, by simpa [rd, rdW] using e3, sh, by decide, ?_⟩
  have : PyData.eqv (.list ps) (.list []) = xs.isEmpty := by
    cases xs with
    | nil => cases e5; simp [PyData.eqv, PyData.eqvAll]
    | cons x xs =>
      unfold rdWs at e5
      split at e5
      · cases e5; simp [PyData.eqv, PyData.eqvAll]
      · cases e5
  rw [this]; exact w
/-- a tuple against () -/
theorem dEqD_nilT {neg : Bool} {G : DHp} {Q : DK} {xs : List D} {n : Nat} (hn : n < 20) (hl : xs.length ≤ 1000 * (n + 1)) (h : ∀ d ∈ xs, Kn n G d) (w : Q (.bl (neg != xs.isEmpty)) G) : dEqD neg (.tup xs) (.tup []) G Q := by
  obtain ⟨pd, e, sh⟩ := rd_kn (n := n + 1) (d := .tup xs) (G := G) (by omega) ⟨hl, h⟩
  have e' := e
  unfold rd rdW at e'
  obtain ⟨ps, e5, rfl⟩ := Option.map_eq_some_iff.mp e'
  refine ⟨.tuple ps, .tuple [], e, rfl, sh, by decide, ?_⟩
  have : PyData.eqv (.tuple ps) (.tuple []) = xs.isEmpty := by
    cases xs with
    | nil => cases e5; simp [PyData.eqv, PyData.eqvAll]
    | cons x xs =>
      unfold rdWs at e5
      split at e5
      · cases e5; simp [PyData.eqv, PyData.eqvAll]
      · cases e5
  rw [this]; exact w
/-- the same value at both sides -/
theorem dEqD_same {neg : Bool} {G : DHp} {Q : DK} {x y : D} {p : PyData} (h1 : rd G x = some p) (h2 : rd G y = some p) (sh : SeqAt.shaped p = true) (w : Q (.bl (!neg)) G) : dEqD neg x y G Q :=
  ⟨p, p, h1, h2, sh, sh, by rw [PySem.SeqAt.eqv_refl p (SeqAt.canLay_of_shaped sh)]; cases neg <;> exact w⟩
section
variable {G : DHp} {Q : DK} {p q : Addr} {xs ys : List D}
@[simp] theorem dEq_ref : dEq (.ref p) (.ref q) G Q = dEqD false (.ref p) (.ref q) G Q := rfl
@[simp] theorem dNe_ref : dNe (.ref p) (.ref q) G Q = dEqD true (.ref p) (.ref q) G Q := rfl
@[simp] theorem dEq_tup : dEq (.tup xs) (.tup ys) G Q = dEqD false (.tup xs) (.tup ys) G Q := rfl
@[simp] theorem dNe_tup : dNe (.tup xs) (.tup ys) G Q = dEqD true (.tup xs) (.tup ys) G Q := rfl
end

/-! ### sources of draws -/
/-- a source: two whole numbers, changed by each draw -/
structure Src (G : DHp) (s : Addr) : Prop where
  at_ : ∃ a b : Int, G s = some (.lst [.int a, .int b]) ∧ 0 ≤ a ∧ 0 ≤ b ∧ b < 2 ^ 33
/-- all but the source stays told -/
def ExtB (s : Addr) (G G' : DHp) : Prop := ∀ a o, a ≠ s → G a = some o → G' a = some o
theorem ExtB.refl {s : Addr} {G : DHp} : ExtB s G G := fun _ _ _ h => h
theorem ExtB.trans {s : Addr} {G G1 G2 : DHp} (a : ExtB s G G1) (b : ExtB s G1 G2) : ExtB s G G2 := fun x o n h => b x o n (a x o n h)
theorem Ext.b {s : Addr} {G G' : DHp} (e : Ext G G') : ExtB s G G' := fun a o _ h => e a o h
theorem ExtB.write {s : Addr} {G : DHp} {o : DO} : ExtB s G (updD G s o) := fun a u n e => by rw [updD_ne n]; exact e
theorem ExtB.writeN {s p : Addr} {G G' : DHp} {o : DO} (x : ExtB s G G') (h : G p = none) : ExtB s G (updD G' p o) := fun a u n e => by
  have : a ≠ p := fun z => by subst z; rw [h] at e; cases e
  rw [updD_ne this]; exact x a u n e
theorem Src.ext {G G' : DHp} {s : Addr} (h : Src G s) (e : Ext G G') : Src G' s := by
  obtain ⟨a, b, h1, h2⟩ := h.at_
  exact ⟨a, b, e s _ h1, h2⟩
theorem Src.ne {G : DHp} {s p : Addr} (h : Src G s) (e : G p = none) : s ≠ p := by
  obtain ⟨a, b, h1, h2⟩ := h.at_
  rintro rfl
  rw [e] at h1; cases h1
/-- told but for the source -/
def hid (s : Addr) (G : DHp) : DHp := fun a => if a = s then none else G a
theorem hid_ne {s a : Addr} {G : DHp} (h : a ≠ s) : hid s G a = G a := by unfold hid; rw [if_neg h]
theorem hid_le {s : Addr} {G : DHp} : Ext (hid s G) G := fun a o h => by
  by_cases e : a = s
  · unfold hid at h; rw [if_pos e] at h; cases h
  · rwa [hid_ne e] at h
theorem ExtB.hid {s : Addr} {G G' : DHp} (h : ExtB s G G') : Ext (TC.hid s G) (TC.hid s G') := fun a o e => by
  by_cases z : a = s
  · unfold TC.hid at e; rw [if_pos z] at e; cases e
  · rw [hid_ne z] at e ⊢; exact h a o z e
/-- known, whatever is drawn -/
abbrev Ks (n : Nat) (s : Addr) (G : DHp) (d : D) : Prop := Kn n (hid s G) d
theorem Kn.ks {n : Nat} {s : Addr} {G : DHp} {d : D} (h : Ks n s G d) : Kn n G d := h.ext hid_le
theorem Kn.exb {n : Nat} {s : Addr} {G G' : DHp} {d : D} (h : Ks n s G d) (e : ExtB s G G') : Ks n s G' d := h.ext e.hid
/-- what was told anew -/
def fre (G G' : DHp) : DHp := fun b => if (G b).isNone = true then G' b else none
theorem fre_at {G G' : DHp} {b : Addr} (h : G b = none) : fre G G' b = G' b := by unfold fre; rw [h]; rfl
theorem fre_some {G G' : DHp} {b : Addr} {o : DO} (h : fre G G' b = some o) : G b = none ∧ G' b = some o := by
  unfold fre at h
  split at h
  · rename_i q; exact ⟨Option.isNone_iff_eq_none.mp q, h⟩
  · cases h
/-- known by what was told anew, whatever is drawn -/
abbrev Kf (n : Nat) (s : Addr) (G G' : DHp) (d : D) : Prop := Kn n (hid s (fre G G')) d
theorem Kf.ks {n : Nat} {s : Addr} {G G' : DHp} {d : D} (h : Kf n s G G' d) : Ks n s G' d := Kn.ext (fun a o e => by
  by_cases z : a = s
  · unfold hid at e; rw [if_pos z] at e; cases e
  · rw [hid_ne z] at e ⊢; exact (fre_some e).2) h
theorem Kf.on {n : Nat} {s : Addr} {G G1 G2 : DHp} {d : D} (h : Kf n s G G1 d) (e : ExtB s G1 G2) : Kf n s G G2 d := Kn.ext (fun a o q => by
  by_cases z : a = s
  · unfold hid at q; rw [if_pos z] at q; cases q
  · rw [hid_ne z] at q ⊢
    obtain ⟨q1, q2⟩ := fre_some q
    rw [fre_at q1]; exact e a o z q2) h
theorem Kf.from {n : Nat} {s : Addr} {G G1 G2 : DHp} {d : D} (h : Kf n s G1 G2 d) (e : ExtB s G G1) : Kf n s G G2 d := Kn.ext (fun a o q => by
  by_cases z : a = s
  · unfold hid at q; rw [if_pos z] at q; cases q
  · rw [hid_ne z] at q ⊢
    obtain ⟨q1, q2⟩ := fre_some q
    cases g : G a with
    | some u => rw [e a u z g] at q1; cases q1
    | none => rw [fre_at g]; exact q2) h
/-- a list of before is written: what was told anew is as known as ever -/
theorem Kf.write {n : Nat} {s p : Addr} {G G' : DHp} {d : D} {o u : DO} (h : Kf n s G G' d) (hp : G p = some u) : Ks n s (updD G' p o) d := Kn.ext (fun a w q => by
  by_cases z : a = s
  · unfold hid at q; rw [if_pos z] at q; cases q
  · rw [hid_ne z] at q ⊢
    obtain ⟨q1, q2⟩ := fre_some q
    have : a ≠ p := fun e => by subst e; rw [hp] at q1; cases q1
    rw [updD_ne this]; exact q2) h
/-- a part V of what was told, and what was told anew -/
def ovr (a : Addr) (G V G' : DHp) : DHp := fun b => if (G b).isNone = true then hid a G' b else V b
theorem ovr_new {a b : Addr} {G V G' : DHp} (h : G b = none) : ovr a G V G' b = hid a G' b := by unfold ovr; rw [h]; rfl
theorem ovr_old {a b : Addr} {G V G' : DHp} {u : DO} (h : G b = some u) : ovr a G V G' b = V b := by unfold ovr; rw [h]; rfl
theorem hid_some {s a : Addr} {G : DHp} {o : DO} (h : hid s G a = some o) : a ≠ s ∧ G a = some o := by
  by_cases z : a = s
  · unfold hid at h; rw [if_pos z] at h; cases h
  · rw [hid_ne z] at h; exact ⟨z, h⟩
theorem ovr_on {a : Addr} {G V G1 G2 : DHp} (e : ExtB a G1 G2) : Ext (ovr a G V G1) (ovr a G V G2) := fun b o h => by
  cases g : G b with
  | none => rw [ovr_new g] at h ⊢; exact e.hid b o h
  | some u => rw [ovr_old g] at h ⊢; exact h
theorem ovr_base {a : Addr} {G V G' : DHp} (hV : Ext V (hid a G)) : Ext V (ovr a G V G') := fun b o h => by
  rw [ovr_old (hid_some (hV b o h)).2]; exact h
theorem ovr_le {a : Addr} {G V G' : DHp} (hV : Ext V (hid a G)) (e : ExtB a G G') : Ext (ovr a G V G') (hid a G') := fun b o h => by
  cases g : G b with
  | none => rwa [ovr_new g] at h
  | some u => rw [ovr_old g] at h; exact e.hid b o (hV b o h)
theorem ovr_trans {a : Addr} {G V G4 G5 : DHp} (e : ExtB a G G4) (e5 : ExtB a G4 G5) : Ext (ovr a G4 (ovr a G V G4) G5) (ovr a G V G5) := fun b o h => by
  cases g : G4 b with
  | none =>
    rw [ovr_new g] at h
    have hb := (hid_some h).1
    cases g0 : G b with
    | none => rw [ovr_new g0]; exact h
    | some u => rw [e b u hb g0] at g; cases g
  | some u => rw [ovr_old g] at h; exact ovr_on e5 b o h
theorem ovr_fre {a : Addr} {G V G3 G' : DHp} (e : ExtB a G G3) : Ext (hid a (fre G3 G')) (ovr a G V G') := fun b o h => by
  obtain ⟨hb, h⟩ := hid_some h
  obtain ⟨h3, h⟩ := fre_some h
  cases g0 : G b with
  | none => rw [ovr_new g0, hid_ne hb]; exact h
  | some u => rw [e b u hb g0] at h3; cases h3
theorem ovr_write {a p : Addr} {G V G3 G' : DHp} {u w : DO} (e : ExtB a G G3) (h3 : G3 p = some u) : Ext (hid a (fre G3 G')) (ovr a G V (updD G' p w)) := fun b o h => by
  obtain ⟨hb, h⟩ := hid_some h
  obtain ⟨hn, h⟩ := fre_some h
  have : b ≠ p := fun z => by subst z; rw [h3] at hn; cases hn
  cases g0 : G b with
  | none => rw [ovr_new g0, hid_ne hb, updD_ne this]; exact h
  | some u => rw [e b u hb g0] at hn; cases hn
theorem ks_new {n : Nat} {s p : Addr} {G : DHp} {xs : List D} (hp : p ≠ s) (hl : xs.length ≤ 1000 * (n + 1)) (h : ∀ d ∈ xs, Ks n s (updD G p (.lst xs)) d) : Ks (n + 1) s (updD G p (.lst xs)) (.ref p) :=
  ⟨xs, by rw [hid_ne hp, updD_same], hl, h⟩
end TC
set_option maxRecDepth 100000
/-! TC, part m: a law's end. -/
namespace TC
open PySem PySem.Spec PyProof.Rows L2
theorem cx_none {P : Program} {w : World} {H : Hp} {s s' : Shared} {e : Value} (h : L2.CX P w [] H s (fun _ _ _ => False) e s') : False := by
  obtain ⟨_, _, _, _, _, _, _, _, _, _, _, _, z⟩ := h
  exact z
/-- the law's promise by data, at the script that nobody writes -/
theorem law_end {l : PySem.W.OpenLaw} {n k : Nat} {q : Program} {lo : List Str} {X1 : (Str → Option Value) → Heap → Prop} {Y1 : World → Heap → Prop} {d : DefRec} {x : Str} (hn : l.most = some n) (hn2 : n ≤ sizeLine) (hdf : d.params.defaults = []) (hr : Room k callerA)
    (F : ∀ (w : World) (mg : Str → Option Value) (fa : Addr) (h : Heap), Y1 w h → h.Ns mainGlobals mg → mg d.name = some (.ref fa) → ∃ (K : PySem.W.Frag) (fd : FuncData) (sp : DSp), K.In h ∧ (∀ (s : Shared) (u : Value), BindsTo s fd ⟨[u], []⟩ [(x, u)]) ∧
      (∀ (ns : List Int), ns.length ≤ n → sp [.rl (ns.map .int)] (fun _ => none) (fun v _ => v = .bl true) fun _ _ => False) ∧ ∀ base : Heap, K.In base → base.Ns mainGlobals mg → DFn l.prog w K mg base k fa fd [x] sp) :
    PySem.W.WalkO q lo X1 Y1 l.row.toRowW d [] (fun f vs => PySem.call f vs) := by
  refine Att.attach_call hn hdf fun w t0 t1 g1 g2 fa ob p1 c1 dc a us ns G Y w1 w2 w3 w4 w5 w6 hlen w7 => ?_
  obtain ⟨K, fd, sp, KX, hb, hsp, hF⟩ := F w g1 fa _ Y G.T.g w4
  refine law_call KX G.T.g G.T.b G.T.builtins G.T.nolimit w7 w5 w6 (Nat.le_trans hlen hn2) hr hF hb (fun H hO hS => ?_) fun H e s' c => cx_none c
  have hS' : SqF K H a (ns.map V.int) := by
    rcases hS with (hS | ⟨o, hS⟩) | hS
    · rcases hO a with e | ⟨o, xs, e⟩
      · rw [hS] at e; cases e
      · rw [hS] at e; cases e
    · exact .inl ⟨o, hS⟩
    · exact .inr hS
  refine ⟨[.rl (ns.map .int)], fun _ => none, fun v _ => v = .bl true, fun _ _ => False, Reps.one ⟨a, _, rfl, hS', Reps.ofInts⟩, fun _ _ e => (nomatch e), hsp ns hlen, fun d G' v H' _ r _ e => ?_, fun _ _ _ _ _ _ _ _ z => z⟩
  subst e
  exact r
end TC
set_option maxRecDepth 100000
set_option maxHeartbeats 1000000
/-! TC, part n: parts of lists written, taken out of lists, places in tuples. -/
namespace TC
open PySem PySem.Spec PyProof.Rows L2

/-! ### xs[a:c] = ys, the bounds cut to the list -/
theorem bounds_cut {a c n : Nat} (hac : a ≤ c) : sliceBounds (some (a : Int)) (some (c : Int)) none n = (((min a n : Nat) : Int), ((min c n : Nat) : Int), 1) := by
  simp only [sliceBounds, Option.getD_none]
  simp only [show ¬ ((a : Int) < 0) by omega, show ¬ ((c : Int) < 0) by omega, if_false, show (1 : Int) > 0 by decide, if_true]
  congr 1
  · omega
  · congr 1; omega
theorem setSl {prog : Program} {w : World} {A : Around} {E : Value → Shared → Prop} {s : Shared} {l b sl : Addr} {xs ys : Array Value} {n n2 : Nat} {vl vu : Value} {a c : Nat} {Q : Unit → Shared → Prop}
    (e : s.heap.get? l = some { cls := .type "list", data := .seq xs n }) (e2 : s.heap.get? b = some { cls := .type "list", data := .seq ys n2 }) (hne : l ≠ b)
    (hs : s.heap.IsSliceOf sl vl vu .none) (pl : IsPart vl (some (a : Int))) (pu : IsPart vu (some (c : Int))) (hac : a ≤ c) (hsz : xs.size + ys.size ≤ sizeLine)
    (h : Q () { s with heap := s.heap.update l (Obj.mapSeq fun zs => zs.extract 0 (min a xs.size) ++ ys ++ zs.extract (min c xs.size) zs.size) }) : wpAny (model prog w) A (setItem (.ref l) (.ref sl) (.ref b)) Q E s := by
  have isl := PySem.IsL.isList e; have isb := PySem.IsL.isList e2
  obtain ⟨os, hos, hcs, hds⟩ := id hs
  have tys : s.TypeIs (.ref sl) "slice" := ⟨os, hos, hcs⟩
  have apart : Builtin.List.listSameRef (.ref l) (.ref b) = false := beq_eq_false_iff_ne.mpr hne
  have top : (max ((min a xs.size : Nat) : Int) ((min c xs.size : Nat) : Int)).toNat = min c xs.size := by omega
  have room : ((fun zs : Array Value => zs.extract 0 (min a xs.size) ++ ys ++ zs.extract (min c xs.size) zs.size) xs).size ≤ sizeLine + 1 := by
    simp only [Array.size_append, Array.size_extract]; omega
  unfold setItem
  try with_reducible refine wpAny_holding ?_
  first | refine wpAny_bind (wpAny_pure ?_) | skip
  refine wpAny_bind (wpAny_sequenceKey isl.typeIs (by decide) (wpAny_bind (wpAny_callSpecial?_slot (name := Str.ofString "__setitem__") isl.typeIs PySem.slot_list_setitem (wpAny_call_entry PySem.slot_list_setitem isl.typeIs PySem.entry_list_setitem ?_ (PySem.args_list_setitem _ _ _)))))
  show wpAny _ _ (Builtin.List.listSubscript? (.ref sl) >>= _) _ _ s
  refine wpAny_bind ?_
  unfold Builtin.List.listSubscript?; refine wpAny_bind (wpAny_specialOf tys slice_no_index ?_)
  simp only [Option.isNone_none, if_true]
  refine wpAny_pure ?_
  show wpAny _ _ (typeOf (.ref sl) >>= _) _ _ s
  refine wpAny_bind (wpAny_typeOf tys ?_)
  first | rw [if_neg (by decide)] | refine PySem.W.KFB.if_not (by decide) ?_
  rw [listSliceParts_eq]
  refine wpAny_bind (wpAny_bind (wpAny_field hos hds (x := .none) rfl (wpAny_bind (wpAny_listPart .none ?_))))
  rw [if_neg (show ¬ ((rawPart none == rawInt 0) = true) from Bool.false_ne_true)]
  refine wpAny_bind (wpAny_field hos hds (x := vl) rfl (wpAny_bind (wpAny_listPart pl (wpAny_bind (wpAny_field hos hds (x := vu) rfl (wpAny_bind (wpAny_listPart pu (wpAny_pure ?_))))))))
  first | simp only [apart, Bool.false_eq_true, if_false] | refine PySem.W.KFB.if_not apart ?_
  refine wpAny_bind (m := Builtin.List.listAllItems (.ref b) "must assign iterable to extended slice") ?_
  unfold Builtin.List.listAllItems; refine wpAny_bind (wpAny_typeOf isb.typeIs ?_)
  first | refine PySem.W.KFB.if_so (by decide) ?_ | simp only [beq_self_eq_true, Bool.true_or, if_true]
  unfold Builtin.List.listItems; refine wpAny_bind (wpAny_seqItems e2 rfl (wpAny_pure (wpAny_bind (wpAny_bind (wpAny_seqItems e rfl (wpAny_pure ?_))))))
  refine wpAny_bind (wpAny_of_eq ((sliceIndices_raw (some (a : Int)) (some (c : Int)) none xs.size (by simp)).trans (congrArg (pure : Int × Int × Int → Sem (Int × Int × Int)) (bounds_cut hac))) ?_)
  show wpAny _ _ (if ((1 : Int) == 1) = true then _ else _) _ _ s
  rw [if_pos (by decide)]; refine wpAny_bind (wpAny_rule ?_)
  first | simp only [notLongL hsz, Bool.false_eq_true, if_false] | refine PySem.W.KFB.if_not (notLongL hsz) ?_
  first | refine wpAny_bind (wpAny_pure ?_) | skip
  show wpAny _ _ (updateSeq l (fun zs => zs.extract 0 (((min a xs.size : Nat) : Int)).toNat ++ ys ++ zs.extract (max ((min a xs.size : Nat) : Int) ((min c xs.size : Nat) : Int)).toNat zs.size) >>= _) _ _ s
  rw [top, Int.toNat_natCast]
  refine wpAny_bind (wpAny_updateSeq (hz := Nat.le_trans (Nat.le_add_right _ _) hsz) (_hz' := room) e rfl (wpAny_bind (wpAny_letGo ?_)))
  first | exact wpAny_bind (wpAny_pure (wpAny_pure ⟨.none, rfl, wpAny_pure h⟩)) | exact wpAny_pure ⟨.none, rfl, wpAny_pure h⟩

theorem set_sl {X : Cx} {pins : List (Addr × Obj)} {s : Shared} {σ : L2.St} {H : Hp} {l b sl : Addr} {xs ys : List V} {a c : Nat} {vl vu : Value} {Q : Unit → Shared → Prop} (I : Inv X pins σ H s) (hH : H l = some (.lst xs)) (hB : H b = some (.lst ys)) (hne : l ≠ b)
    (hs : s.heap.IsSliceOf sl vl vu .none) (pl : IsPart vl (some (a : Int))) (pu : IsPart vu (some (c : Int))) (hac : a ≤ c) (hz : xs.length + ys.length ≤ sizeLine)
    (h : ∀ s', Inv X pins σ (upd H l (.lst (xs.take a ++ ys ++ xs.drop c))) s' → Q () s') : wpAny (model X.prog X.w) X.A (setItem (.ref l) (.ref sl) (.ref b)) Q X.xe s := by
  obtain ⟨z, its, n, r, hl, e⟩ := I.lstM hH
  obtain ⟨z2, its2, n2, r2, hl2, e2⟩ := I.lstM hB
  have e1 : xs.take (min a xs.length) = xs.take a := by
    by_cases q : a ≤ xs.length
    · rw [Nat.min_eq_left q]
    · rw [Nat.min_eq_right (by omega), List.take_length, List.take_of_length_le (by omega)]
  have e3 : xs.drop (min c xs.length) = xs.drop c := by
    by_cases q : c ≤ xs.length
    · rw [Nat.min_eq_left q]
    · rw [Nat.min_eq_right (by omega), List.drop_length, List.drop_of_length_le (by omega)]
  rw [← e1, ← e3] at h
  have hsz : its.toArray.size = xs.length := by rw [List.size_toArray, hl]
  refine setSl e e2 hne hs pl pu hac (by rw [List.size_toArray, List.size_toArray]; omega) (h _ ?_)
  rw [hsz]
  refine I.lset (its' := its.take (min a xs.length) ++ its2 ++ its.drop (min c xs.length)) (t' := s.toks) hH e ?_ (Vals.append (Vals.append (r.take _) r2) (r.drop _)) ?_
  · exact splice_eq its its2 _ _
  · rw [List.length_append, List.length_append, List.length_take, List.length_drop]; omega
def dSetSl (o : D) (l u : Option Int) (d : D) (G : DHp) (Q : DHp → Prop) : Prop := match o, l, u, d with
  | .ref a, some i, some j, .ref b => ∃ xs ys, G a = some (.lst xs) ∧ G b = some (.lst ys) ∧ a ≠ b ∧ 0 ≤ i ∧ i ≤ j ∧ xs.length + ys.length ≤ 1000000 ∧ Q (updD G a (.lst (xs.take i.toNat ++ ys ++ xs.drop j.toNat)))
  | _, _, _, _ => False
@[simp] theorem dSetSl_ref {a b : Addr} {i j : Int} {G : DHp} {Q : DHp → Prop} : dSetSl (.ref a) (some i) (some j) (.ref b) G Q = ∃ xs ys, G a = some (.lst xs) ∧ G b = some (.lst ys) ∧ a ≠ b ∧ 0 ≤ i ∧ i ≤ j ∧ xs.length + ys.length ≤ 1000000 ∧ Q (updD G a (.lst (xs.take i.toNat ++ ys ++ xs.drop j.toNat))) := rfl
@[simp] def wgSlice (wo wl wh : WE) : WG := fun d ρ G Q => wo ρ G fun o G1 => woSome wl ρ G1 fun l G2 => woSome wh ρ G2 fun u G3 => dSetSl o l u d G3 fun G4 => Q ρ G4
def gSlice (to : TE) (tl th : TO) : TG := fun v σ H Q => to σ H fun x H1 => tl σ H1 fun l H2 => th σ H2 fun u H3 => ∃ (a b : Addr) (i j : Nat) (xs ys : List V), x = .ref a ∧ v = .ref b ∧ l = some (i : Int) ∧ u = some (j : Int) ∧ H3 a = some (.lst xs) ∧ H3 b = some (.lst ys) ∧ a ≠ b ∧ i ≤ j ∧ xs.length + ys.length ≤ sizeLine ∧
  Q σ (upd H3 a (.lst (xs.take i ++ ys ++ xs.drop j)))
section
variable {X : Cx} {G0 : DHp} {H0 : Hp} {pos p2 : Pos} {o lo hi : Expr} {wo wl wh : WE}
theorem pg_slice {to : TE} {tl th : TO} (ho : PE X o to) (hl : PO X (some lo) tl) (hh : PO X (some hi) th)
    (has : ∀ v, assign (.Subscript o (.Slice (some lo) (some hi) none p2) pos) X.env v = (do
      let ov ← holding [v] (eval o X.env)
      let iv ← holding [v, ov] (eval (.Slice (some lo) (some hi) none p2) X.env)
      standAt pos; holding [v, ov, iv] (setItem ov iv v); release [iv, v, ov] [])) : PG X (.Subscript o (.Slice (some lo) (some hi) none p2) pos) (gSlice to tl th) := by
  refine ⟨fun pins s σ H v u Q I r h => ?_⟩
  rw [has]
  refine wpAny_bind (wpAny_holding (thn (ho.run pins s σ H _ I h) fun ov t1 ⟨x, H1, I1, r1, q1⟩ => ?_))
  refine wpAny_bind (wpAny_holding (wpAny_Slice (thn (hl.run pins t1 σ H1 _ I1 q1) fun vl t2 ⟨l, H2, I2, pl, q2⟩ => thn (hh.run pins t2 σ H2 _ I2 q2) fun vu t3 ⟨u', H3, I3, pu, q3⟩ => ?_)))
  rw [evalPart_none]
  refine wpAny_pure ?_
  obtain ⟨a, b, i, j, xs, ys, rfl, rfl, rfl, rfl, ha, hb, hne, hij, hz, q⟩ := q3
  cases r1; cases r
  have I4 : Inv X pins σ H3 { t3 with heap := t3.heap.push { cls := .type "slice", data := .fields #[vl, vu, .none] } } := I3.kept (t' := t3.toks) fun b ob q => Heap.get?_push_of_some _ q
  refine wpAny_bind (wpAny_standAt (wpAny_bind (wpAny_holding (set_sl I4 ha hb hne (Heap.IsSliceOf.new ..) pl pu hij hz fun t4 I5 => ?_))))
  exact wpAny_release ⟨σ, _, I5, q⟩
theorem dg_slice (ho : DE X G0 H0 o wo) (hl : DE X G0 H0 lo wl) (hh : DE X G0 H0 hi wh)
    (has : ∀ v, assign (.Subscript o (.Slice (some lo) (some hi) none p2) pos) X.env v = (do
      let ov ← holding [v] (eval o X.env)
      let iv ← holding [v, ov] (eval (.Slice (some lo) (some hi) none p2) X.env)
      standAt pos; holding [v, ov, iv] (setItem ov iv v); release [iv, v, ov] []) := by intro _; rfl) : DG X G0 H0 (.Subscript o (.Slice (some lo) (some hi) none p2) pos) (wgSlice wo wl wh) :=
  PG.to (pg_slice ho (dp_some hl) (dp_some hh) has) fun v σ H Q ⟨d, ρ, G, QD, pt, r, w, k⟩ => ⟨ρ, G, _, pt, w, fun x G1 vx H1 h1 r1 s1 w1 => ⟨ρ, G1, _, pt.go h1 s1, w1, fun l G2 H2 h2 s2 w2 => ⟨ρ, G2, _, (pt.go h1 s1).go h2 s2, w2, fun u G3 H3 h3 s3 w3 => by
    have r' : Rep X.K H3 d v := ((r.mono (s1.mn pt.hr)).mono (s2.mn h1)).mono (s3.mn h2)
    have r1' : Rep X.K H3 x vx := (r1.mono (s2.mn h1)).mono (s3.mn h2)
    unfold dSetSl at w3
    split at w3
    · rename_i a i' j' b
      cases r'; cases r1'
      obtain ⟨xs, ys, ea, eb, hne, i0, ij, hz, w3⟩ := w3
      obtain ⟨vs, ha, ra⟩ := h3 a _ ea
      obtain ⟨us, hb, rb⟩ := h3 b _ eb
      obtain ⟨i, rfl⟩ := Int.eq_ofNat_of_zero_le i0
      obtain ⟨j, rfl⟩ := Int.eq_ofNat_of_zero_le (Int.le_trans i0 ij)
      refine ⟨a, b, i, j, vs, us, rfl, rfl, rfl, rfl, ha, hb, hne, by omega, by rw [← ra.length, ← rb.length, sizeLine_eq]; omega, ?_⟩
      have m := mn_write (x := .lst (vs.take i ++ us ++ vs.drop j)) h3 ea
      have st : Stp G3 H3 (updD G3 a (.lst (xs.take i ++ ys ++ xs.drop j))) (upd H3 a (.lst (vs.take i ++ us ++ vs.drop j))) := .write ea ha
      have hr' := h3.write (x := .lst (vs.take i ++ us ++ vs.drop j)) (u := .lst (xs.take i ++ ys ++ xs.drop j)) ea ⟨_, upd_same, (((ra.take i).append rb).append (ra.drop j)).mono m⟩
      exact k ρ _ σ _ ((((pt.go h1 s1).go h2 s2).go h3 s3).go hr' st) (((s1.trans s2).trans s3).trans st) w3
    · exact w3.elim⟩⟩⟩
end
end TC
set_option maxRecDepth 100000
set_option maxHeartbeats 1000000
/-! TC, part o: tuples known to the object, their places; pop; dict of pairs; sorted pairs; two clauses. -/
namespace TC
open PySem PySem.Spec PyProof.Rows L2

/-! ### displays of special tuples -/
def tTupF (t : TA) : TE := fun σ H Q => t σ H fun xs H1 => xs.length ≤ sizeLine ∧ ∀ p o, H1 p = none → o.dict = none → Q (.ref p) (upd H1 p (.frz o (.tup xs)))
section
variable {X : Cx} {G0 : DHp} {H0 : Hp} {pos apos : Pos} {e o : Expr} {es : List Expr} {we wo : WE} {ws : WA}
theorem pe_tupF {t : TA} {x1} (h : PA X es t) : PE X (.Tuple es x1 pos) (tTupF t) := by
  refine ⟨fun pins s σ H Q I hq => wpAny_Tuple_spliced (thn (h.run pos pins s σ H _ I hq) fun us t1 ⟨xs, H1, I1, r, z, q⟩ => ⟨by rw [← r.length]; exact z, ?_⟩)⟩
  have free : H1 t1.heap.objs.size = none := I1.hok.fresh (Nat.le_refl _)
  have got : (t1.heap.push { cls := .type "tuple", data := .seq us.toArray }).get? t1.heap.objs.size = some { cls := .type "tuple", data := .seq us.toArray } := Heap.get?_push_size _ rfl
  exact ⟨.ref t1.heap.objs.size, _, I1.laid (o := .frz _ (.tup xs)) (t' := t1.toks) (fun b u e => Heap.get?_push_of_some _ e) (Nat.le_refl _) ⟨got, z, us, r, ⟨_, got, rfl, _, rfl⟩⟩, rfl, q _ _ free rfl⟩
@[simp] def wTupF (ws : WA) : WE := fun ρ G Q => ws ρ G fun xs G1 => xs.length ≤ 1000000 ∧ Q (.ft xs) G1
@[simp] def wTupK (ws : WA) : WE := fun ρ G Q => ws ρ G fun xs G1 => xs.length ≤ 1000000 ∧ Q (.kt xs) G1
theorem de_tupF {x1} (h : DA X G0 H0 es ws) : DE X G0 H0 (.Tuple es x1 pos) (wTupF ws) :=
  PE.to (pe_tupF h) fun σ H Q ⟨ρ, G, QD, pt, w, k⟩ => ⟨ρ, G, _, pt, w, fun xs G1 vs H1 h1 r1 s1 w1 => ⟨by rw [← r1.length]; exact big_line w1.1, fun p o hp ho =>
    k (.ft xs) G1 _ _ (h1.newU hp) ⟨p, vs, rfl, ⟨o, upd_same, ho⟩, r1.mono (mn_upd hp)⟩ (s1.trans (.newU hp)) w1.2⟩⟩
theorem de_tupK {x1} (h : DA X G0 H0 es ws) : DE X G0 H0 (.Tuple es x1 pos) (wTupK ws) :=
  PE.to (pe_tup h) fun σ H Q ⟨ρ, G, QD, pt, w, k⟩ => ⟨ρ, G, _, pt, w, fun xs G1 vs H1 h1 r1 s1 w1 => ⟨by rw [← r1.length]; exact big_line w1.1, fun p hp =>
    k (.kt xs) G1 _ _ (h1.newU hp) ⟨p, vs, rfl, upd_same, r1.mono (mn_upd hp)⟩ (s1.trans (.newU hp)) w1.2⟩⟩

/-! ### t.index(x) -/
def tIdx (K : PySem.W.Frag) (to : TE) (t : TA) : TE := fun σ H Q => to σ H fun x H1 => ∃ p o us, x = .ref p ∧ H1 p = some (.frz o (.tup us)) ∧ o.dict = none ∧
  t σ H1 fun xs H2 => ∃ (ys : List Str) (z : Str) (j : Nat), xs = [.str z] ∧ SqT K H2 p (ys.map V.str) ∧ ys[j]? = some z ∧ (∀ m, m < j → ys[m]? ≠ some z) ∧ Q (.int (j : Nat)) H2
theorem pe_tidx {to : TE} {t : TA} (ho : PE X o to) (ha : PA X [e] t) (hbase : attributeBase o "index" X.env (eval o X.env) = eval o X.env := by rfl)
    (hfew : ((backTo pos (starEach [e] X.env)).all (fun x => !x.1) && (backToKw pos (keywordEach [] X.env)).all (fun x => x.1.isSome) && decide ([e].length + ([] : List Keyword).length + (if ([] : List Keyword).isEmpty then 0 else 1) < 30)) = true := by rfl)
    (hline : (apos.endLine == pos.line) = true := by rfl) (hs : starEach [e] X.env = (false, eval e X.env) :: starEach [] X.env := by rfl) (hpl : (backTo pos (starEach [] X.env)).any (·.1) = false := by rfl) :
    PE X (.Call (.Attribute o "index" apos) [e] [] pos) (tIdx X.K to t) := by
  refine ⟨fun pins s σ H Q I h => wpAny_Call_method_late hbase hfew hline rfl (thn (ho.run pins s σ H _ I h) fun v t1 ⟨x, H1, I1, r1, p, ob, us, ex, hp, hd, q1⟩ => ?_)⟩
  subst ex; cases r1
  obtain ⟨hg, _, its, _, hT⟩ := I1.hok p _ hp
  obtain ⟨ob', hg', hc, _⟩ := hT
  rw [hg] at hg'; cases hg'
  refine ⟨"tuple", "tuple.index", PySem.F.plainAttrs_tuple, PySem.F.slot_tuple_index, PySem.F.type_tuple_index, ⟨ob, hg, hc⟩, fun a ea => by cases ea; exact ⟨ob, hg, hd⟩, ?_⟩
  have hA := ha.run pos pins t1 σ H1 _ I1 q1
  rw [hs] at hA ⊢
  refine Calls.callWith_builtin (by show (false || (backTo pos (starEach [] X.env)).any (·.1)) = false; rw [hpl] <;> rfl) (Calls.evalArgs_plain (thn hA fun us2 t2 ⟨vs, H2, I2, r2, ys, z, j, evs, hq, hy, hno, q2⟩ => ?_))
  exact mt_tup_index pins t2 σ H2 (.ref p) vs (.ref p) us2 Q I2 rfl r2 ⟨p, ys, z, j, rfl, evs, hq, hy, hno, q2⟩
/-- the first place of z -/
def firstAt (ys : List Str) (z : Str) : Option Nat := (ys.findIdx? fun y => decide (y = z))
def dIdx (x : D) (xs : List D) (G : DHp) (Q : DK) : Prop := match x, xs with
  | .ft ds, [.str z] => ∃ (ys : List Str) (j : Nat), ds = ys.map .str ∧ ys[j]? = some z ∧ (∀ m, m < j → ys[m]? ≠ some z) ∧ Q (.int (j : Nat)) G
  | _, _ => False
@[simp] theorem dIdx_ft {ds : List D} {z : Str} {G : DHp} {Q : DK} : dIdx (.ft ds) [.str z] G Q = ∃ (ys : List Str) (j : Nat), ds = ys.map .str ∧ ys[j]? = some z ∧ (∀ m, m < j → ys[m]? ≠ some z) ∧ Q (.int (j : Nat)) G := rfl
@[simp] def wIdx (wo : WE) (ws : WA) : WE := fun ρ G Q => wo ρ G fun x G1 => (∃ ds, x = .ft ds) ∧ ws ρ G1 fun xs G2 => dIdx x xs G2 Q
theorem de_idx (ho : DE X G0 H0 o wo) (ha : DA X G0 H0 [e] ws) (hbase : attributeBase o "index" X.env (eval o X.env) = eval o X.env := by rfl)
    (hfew : ((backTo pos (starEach [e] X.env)).all (fun x => !x.1) && (backToKw pos (keywordEach [] X.env)).all (fun x => x.1.isSome) && decide ([e].length + ([] : List Keyword).length + (if ([] : List Keyword).isEmpty then 0 else 1) < 30)) = true := by rfl)
    (hline : (apos.endLine == pos.line) = true := by rfl) (hs : starEach [e] X.env = (false, eval e X.env) :: starEach [] X.env := by rfl) (hpl : (backTo pos (starEach [] X.env)).any (·.1) = false := by rfl) :
    DE X G0 H0 (.Call (.Attribute o "index" apos) [e] [] pos) (wIdx wo ws) :=
  PE.to (pe_tidx ho ha hbase hfew hline hs hpl) fun σ H Q ⟨ρ, G, QD, pt, w, k⟩ => ⟨ρ, G, _, pt, w, fun x G1 v H1 h1 r1 s1 w1 => by
    obtain ⟨⟨ds, rfl⟩, w1⟩ := w1
    obtain ⟨p, us, rfl, ⟨ob, hp, hd⟩, rs⟩ := r1
    refine ⟨p, ob, us, rfl, hp, hd, ρ, G1, _, pt.go h1 s1, w1, fun xs G2 vs H2 h2 r2 s2 w2 => ?_⟩
    unfold dIdx at w2
    split at w2
    · rename_i ds' z e1
      cases e1
      obtain ⟨u, rfl, ru⟩ := r2.one_inv
      cases ru
      obtain ⟨ys, j, rfl, hy, hno, w2⟩ := w2
      have hp2 := (s2.mn h1).fz p ob us hp
      have eu := (rs.mono (s2.mn h1)).strs
      rw [eu] at hp2
      exact ⟨ys, z, j, rfl, .inl (.inr ⟨ob, hp2⟩), hy, hno, k (.int _) G2 _ H2 h2 rfl (s1.trans s2) w2⟩
    · exact w2.elim⟩

/-! ### xs.pop(i) -/
def dPopAt : WRM := fun x xs G Q => match x, xs with
  | .ref p, [.int i] => ∃ ys y, G p = some (.lst ys) ∧ 0 ≤ i ∧ i < ys.length ∧ i < 1000000 ∧ ys[i.toNat]? = some y ∧ Q y (updD G p (.lst (ys.eraseIdx i.toNat)))
  | _, _ => False
theorem Reps.erase {K : W.Frag} {H : Hp} : ∀ {ds : List D} {vs : List V} (i : Nat), Reps K H ds vs → Reps K H (ds.eraseIdx i) (vs.eraseIdx i)
  | [], _, _, q => by cases q; simp [Reps]
  | d :: ds, vs, 0, q => by obtain ⟨v, r, rfl, _, h2⟩ := q; exact h2
  | d :: ds, vs, i + 1, q => by
    obtain ⟨v, r, rfl, h1, h2⟩ := q
    exact ⟨v, r.eraseIdx i, rfl, h1, Reps.erase i h2⟩
theorem md_popAt {K : W.Frag} : MtD K rPopAt dPopAt := by
  intro x xs v vs G H Q QD hr rx rs w k
  unfold dPopAt at w
  split at w
  · rename_i p i
    cases rx
    obtain ⟨u, rfl, ry⟩ := rs.one_inv
    cases ry
    obtain ⟨ys, y, ea, i0, il, im, ey, w⟩ := w
    obtain ⟨us, h, rl⟩ := hr p _ ea
    obtain ⟨u, hu, ru⟩ := rl.get ey
    have hlen := rl.length
    refine ⟨p, us, i, i.toNat, u, rfl, rfl, h, by omega, by omega, ?_, hu, ?_⟩
    · unfold seqIndex?
      simp only [show ¬ i < 0 by omega, if_false]
      first | (rw [if_pos (by omega)]) | (simp; omega)
    have m := mn_write (x := .lst (us.eraseIdx i.toNat)) hr ea
    exact k y _ u _ (hr.write (u := .lst (ys.eraseIdx i.toNat)) ea ⟨_, upd_same, (rl.erase _).mono m⟩) (ru.mono m) (.write ea h) w
  · exact w.elim
end

/-! ### dict(xs), a list of pairs -/
def pairsD : List D → Option (List (Key × D))
  | [] => some []
  | .tup [x, y] :: r => match keyOf x, pairsD r with
    | some k, some ks => some ((k, y) :: ks)
    | _, _ => none
  | _ :: _ => none
def dDict : WRA := fun ds G Q => match ds with
  | [.ref a] => ∃ xs kvs, G a = some (.lst xs) ∧ pairsD xs = some kvs ∧ ∀ p, G p = none → Q (.ref p) (updD G p (.dK (mergeD [] kvs)))
  | _ => False
@[simp] theorem dDict_ref {a : Addr} {G : DHp} {Q : DK} : dDict [.ref a] G Q = ∃ xs kvs, G a = some (.lst xs) ∧ pairsD xs = some kvs ∧ ∀ p, G p = none → Q (.ref p) (updD G p (.dK (mergeD [] kvs))) := rfl
section
variable {K : PySem.W.Frag}
theorem pairs_rep {H : Hp} : ∀ {xs : List D} {us : List V} {kvs : List (Key × D)}, Reps K H xs us → pairsD xs = some kvs → ∃ (ps : List Addr) (ws : List (Key × V)), us = ps.map V.ref ∧ Paired (fun p kv => SqT K H p [kV kv.1, kv.2]) ps ws ∧ RepKV K H kvs ws
  | [], us, kvs, r, e => by cases r; cases e; exact ⟨[], [], rfl, .nil, rfl⟩
  | x :: xs, us, kvs, r, e => by
    obtain ⟨v, t, rfl, h1, h2⟩ := r
    unfold pairsD at e
    split at e
    · rename_i h; cases h
    · rename_i x' y' r' h
      cases h
      split at e
      · rename_i k ks ek er
        cases e
        obtain ⟨ps, ws, rfl, hp, hw⟩ := pairs_rep h2 er
        obtain ⟨a, vs, rfl, ha, rs⟩ := h1
        obtain ⟨vx, vy, rfl, rx, ry⟩ := rs.two_inv
        refine ⟨a :: ps, (k, vy) :: ws, rfl, .cons ?_ hp, vy, ws, rfl, ry, hw⟩
        have : vx = kV k := keyOf_rep rx ek
        subst this
        exact .inl ha
      · cases e
    · cases e
theorem cd_dict : CaD K (fun xs H Q => ∃ (a : Addr) (ps : List Addr) (kvs : List (Key × V)), xs = [.ref a] ∧ SqL K H a (ps.map V.ref) ∧ Paired (fun p kv => SqT K H p [kV kv.1, kv.2]) ps kvs ∧ ∀ p, H p = none → Q (.ref p) (upd H p (.dK (mergeK [] kvs)))) dDict := by
  intro xs vs G H Q QD hr r w k
  unfold dDict at w
  split at w
  · obtain ⟨v, rfl, q⟩ := r.one_inv
    cases q
    obtain ⟨ys, kvs, ea, ek, w⟩ := w
    obtain ⟨us, h, rs⟩ := hr _ _ ea
    obtain ⟨ps, ws, rfl, hp, hw⟩ := pairs_rep rs ek
    exact ⟨_, ps, ws, rfl, SqL.of h, hp, fun p hp' => k (.ref p) _ _ _ (hr.new hp' (o := .dK (mergeD [] kvs)) ⟨_, upd_same, (hw.mono (mn_upd hp')).merge (kvs := []) (vs := []) rfl⟩) rfl (.new hr hp') (w p (hr.free hp'))⟩
  · exact w.elim

/-! ### sorted(xs), of data -/
open PySem.W in
def rSortA (K : PySem.W.Frag) : List V → Hp → VK → Prop := fun xs H Q => ∃ (a : Addr) (us : List V) (β : Type) (enc : β → PyData) (dec : β → D) (bs : List β), xs = [.ref a] ∧ SqL K H a us ∧ Reps K H (bs.map dec) us ∧
  (∀ b ∈ bs, ∀ v, Rep K H (dec b) v → Dp K H v (enc b)) ∧ AllAlike (bs.map enc) ∧ Sortable (bs.map enc) ∧ (∀ b ∈ bs, (enc b).depth ≤ 20) ∧ bs.length ≤ 1000000 ∧
  ∀ p ws, H p = none → Reps K H ((bs.mergeSort (dataLe false enc)).map dec) ws → Q (.ref p) (upd H p (.lst ws))
end
open PySem.W in
theorem each_of {β : Type} {K : PySem.W.Frag} {H : Hp} {dec : β → D} : ∀ {bs : List β} {us : List V} {its : List Value}, Reps K H (bs.map dec) us → Vals us its → EachIs (fun v b => ∃ x, RelV x v ∧ Rep K H (dec b) x) its bs
  | [], us, its, r, q => by cases r; cases q; exact .nil
  | b :: bs, us, its, r, q => by
    obtain ⟨v, t, rfl, h1, h2⟩ := r
    cases q with
    | cons h3 h4 => exact .cons ⟨v, h3, h1⟩ (each_of h2 h4)
open PySem.W in
theorem of_each {β : Type} {K : PySem.W.Frag} {H : Hp} {dec : β → D} : ∀ {bs : List β} {its : List Value}, EachIs (fun v b => ∃ x, RelV x v ∧ Rep K H (dec b) x) its bs → ∃ us, Vals us its ∧ Reps K H (bs.map dec) us
  | _, _, .nil => ⟨[], .nil, rfl⟩
  | _, _, .cons ⟨x, h1, h2⟩ t => by
    obtain ⟨us, h3, h4⟩ := of_each t
    exact ⟨x :: us, .cons h1 h3, x, us, rfl, h2, h4⟩
open PySem.W in
theorem cr_sortA {X : Cx} (hu : X.A.units + 64 < cLine) : CallR X (.builtin "sorted") (rSortA X.K) := by
  intro pins s σ H xs vs Q I r h
  obtain ⟨a, us, β, enc, dec, bs, rfl, hq, rs, hdp, hal, hso, hdep, hl, q⟩ := h
  obtain ⟨its, rv, hL, _⟩ := I.list hq
  obtain ⟨u, rfl, ru⟩ := vals1 r
  cases ru
  have each := each_of rs rv
  have eachR : EachIs (fun v b => ∃ as, Reads s.heap v (enc b) as) its bs := (each_mem each).mono fun v b ⟨⟨x, h1, h2⟩, hb⟩ => Dp.reads I (enc b) x v (hdp b hb x h2) h1
  refine sorted_data hL.isList each eachR hal hso (by rw [sizeLine_eq]; omega) (fun b hb => by have := hdep b hb; omega) fun out ho eo => ?_
  obtain ⟨ws, h1, h2⟩ := of_each eo
  obtain ⟨ep, he⟩ := PyProof.Rows.sortedAll_at s.heap its (List.toArray out)
  have hlen : ws.length ≤ sizeLine := by rw [h1.length, ho, sizeLine_eq]; omega
  exact ⟨.ref _, upd H (s.heap.objs.size + 1) (.lst ws), I.laid (t' := s.toks) (fun _ _ => PyProof.Rows.sortedAll_old) (Nat.le_succ _) ⟨hlen, out, ep, h1, he⟩, rfl, q _ ws (I.hok.fresh (Nat.le_succ _)) h2⟩

open PySem.W in
/-- sorted of data: bs says which -/
def dSort : WRA := fun ds G Q => match ds with
  | [.ref a] => ∃ (β : Type) (enc : β → PyData) (dec : β → D) (bs : List β), G a = some (.lst (bs.map dec)) ∧ (∀ b ∈ bs, rdW (fun _ => none) (dec b) = some (enc b)) ∧ AllAlike (bs.map enc) ∧ Sortable (bs.map enc) ∧ (∀ b ∈ bs, (enc b).depth ≤ 20) ∧ bs.length ≤ 1000000 ∧
      ∀ p, G p = none → Q (.ref p) (updD G p (.lst ((bs.mergeSort (dataLe false enc)).map dec)))
  | _ => False
theorem cd_sort {K : PySem.W.Frag} : CaD K (rSortA K) dSort := by
  intro xs vs G H Q QD hr r w k
  unfold dSort at w
  split at w
  · obtain ⟨v, rfl, q⟩ := r.one_inv
    cases q
    obtain ⟨β, enc, dec, bs, ea, hrd, hal, hso, hdep, hl, w⟩ := w
    obtain ⟨us, h, rs⟩ := hr _ _ ea
    exact ⟨_, us, β, enc, dec, bs, rfl, SqL.of h, rs, fun b hb v hv => dp_of (fun a p e => by cases e) (hrd b hb) hv, hal, hso, hdep, hl, fun p ws hp hw =>
      k (.ref p) _ _ _ (hr.new hp (o := .lst ((bs.mergeSort (PySem.W.dataLe false enc)).map dec)) ⟨ws, upd_same, hw.mono (mn_upd hp)⟩) rfl (.new hr hp) (w p (hr.free hp))⟩
  · exact w.elim

/-! ### several clauses -/
def wM (K : W.Frag) (Uo : WXD) (F : DEnds) : List (Value × WS) → Ro → DX → DHp → Prop
  | [], ρ, x, G => Uo ρ x G
  | (c, ts) :: r, ρ, x, G => ∃ b, PySem.W.exmOne K (.ref x.C) c = some b ∧ (b = true → ts F ρ G) ∧ (b = false → wM K Uo F r ρ x G)
def wTryM (K : W.Frag) (l : List (Value × WS)) (Uo : WXD) (tb : WXD → WS) : WS := fun F ρ G => tb (fun ρ' x G' => wM K Uo F l ρ' x G') F ρ G
inductive HdsD (X : Cx) (G0 : DHp) (H0 : Hp) : List ExceptHandler → List (Value × WS) → Prop
  | nil : HdsD X G0 H0 [] []
  | cons {x : Str} {c : Value} {ts : WS} {b0 : Stmt} {suite : List Stmt} {np p2 : Pos} {hds : List ExceptHandler} {l : List (Value × WS)} (hc : Names X x c) (hsu : ∀ (a : Addr) (pn : List (Addr × Obj)), DSs (X.suite a pn) G0 H0 (b0 :: suite) ts) (r : HdsD X G0 H0 hds l) :
      HdsD X G0 H0 (.ExceptHandler (some (.Name x np)) none (b0 :: suite) p2 :: hds) ((c, ts) :: l)
theorem HdsD.ok {X : Cx} {G0 : DHp} {H0 : Hp} : ∀ {hds : List ExceptHandler} {l : List (Value × WS)}, HdsD X G0 H0 hds l → HdsOk X hds (l.map fun p => (p.1, fun _ _ _ => LfS X.K G0 H0 p.2))
  | _, _, .nil => .nil
  | _, _, .cons hc hsu r => .cons hc (fun a oe cls d pn _ _ => hsu a _) r.ok
theorem wM_ok {K : W.Frag} {G0 G : DHp} {H0 H : Hp} {Uo : WXD} {F : DEnds} {E : Ends} (le : LEnds K G0 H0 G H F E) {σ : L2.St} {H1 : Hp} {G1 : DHp} {ρ : Ro} {x : DX} {cls : Value} {d : Option Addr} (pt : Pt K G0 H0 ρ G1 σ H1) (st : Stp G H G1 H1) (xr : XR K H1 cls d x) :
    ∀ {l : List (Value × WS)}, wM K Uo F l ρ x G1 → wMany K (LfX K G0 H0 Uo) E (l.map fun p => (p.1, fun _ _ _ => LfS K G0 H0 p.2)) cls d σ H1
  | [], h => ⟨ρ, G1, x, pt, xr, h⟩
  | (c, ts) :: r, h => by
    obtain ⟨b, e, h1, h2⟩ := h
    refine ⟨b, by rw [xr.1]; exact e, fun hb a _ => ⟨ρ, G1, F, pt, h1 hb, le.go st⟩, fun hb => wM_ok le pt st xr (h2 hb)⟩
theorem ds_tryM {X : Cx} {G0 : DHp} {H0 : Hp} {pos : Pos} {body : List Stmt} {h0 : ExceptHandler} {hds : List ExceptHandler} {l : List (Value × WS)} {tb : WXD → WS} {Uo : WXD} (hs : X.stack = X.env :: X.outer) (hf : X.env.frame = some X.env.locals) (tk : Takes X (LfX X.K G0 H0 Uo))
    (hb : ∀ (G1 : DHp) (H1 : Hp) (U : WXD) (pn : List (Addr × Obj)) (xe : Value → Shared → Prop), Takes (X.tr pn xe) (LfX X.K G1 H1 U) → PassesOwn (model X.prog X.w) X.A X.env xe → DSs (X.tr pn xe) G1 H1 body (tb U))
    (hh : HdsD X G0 H0 (h0 :: hds) l) : DS X G0 H0 (.Try body (h0 :: hds) [] [] pos) (wTryM X.K l Uo tb) := by
  refine PS.to (ps_try_many (tb := fun W E σ H => ∃ U G1 H1, (∀ cls d σ' H', LfX X.K G1 H1 U cls d σ' H' → W cls d σ' H') ∧ LfS X.K G1 H1 (tb U) E σ H) hs hf tk (fun W pn xe t po => ⟨fun pins s σ H D I ⟨U, G1, H1, hU, q⟩ => (hb G1 H1 U pn xe (t.imp hU) po).run pins s σ H D I q⟩) hh.ok) ?_
  intro E σ H ⟨ρ, G, F, pt, w, le⟩
  refine ⟨fun ρ' x G' => wM X.K Uo F l ρ' x G', G, H, fun cls d σ' H' hx => ?_, ρ, G, F, ⟨pt.sl, pt.hr, .refl⟩, w, ?_⟩
  · obtain ⟨ρ', G', xx, p', xr, h⟩ := hx
    exact wM_ok le ⟨p'.sl, p'.hr, pt.st.trans p'.st⟩ p'.st xr h
  · exact ⟨fun ρ' G' σ' H' p s q => le.nx ρ' G' σ' H' ⟨p.sl, p.hr, pt.st.trans p.st⟩ s q, le.rt, fun ρ' G' σ' H' p s q => le.bk ρ' G' σ' H' ⟨p.sl, p.hr, pt.st.trans p.st⟩ s q, fun ρ' G' σ' H' p s q => le.ct ρ' G' σ' H' ⟨p.sl, p.hr, pt.st.trans p.st⟩ s q⟩
end TC
set_option maxRecDepth 100000
set_option maxHeartbeats 2000000
/-! TC, part p: tuple(zip(a, b)). -/
namespace TC
open PySem PySem.Spec PyProof.Rows L2 PySem.W
section
variable {prog : Program} {w : World} {A : Around} {E : Value → Shared → Prop} {s : Shared} {z TI TO T i1 i2 : Addr} {fp1 fp2 : List Addr} {n1 n2 i : Nat} {P1 P2 : Nat → Value → Prop} {T1 T2 : Nat → Heap → Prop} {f : Bool} {oT : Obj}
/-- the next pair while the first one is still held -/
theorem zh_item {Q : Value → Shared → Prop} (S : ZipSep2 z TI TO i1 i2 fp1 fp2) (D1 : Draws prog w A i1 fp1 n1 P1 T1) (D2 : Draws prog w A i2 fp2 n2 P2 T2) (hz : IsZipHeld s.heap z TI TO T f) (hT : s.heap.get? T = some oT) (hTI : IsTupOf2 s.heap TI (.ref i1) (.ref i2))
    (q1 : T1 i s.heap) (q2 : T2 i s.heap) (l1 : i < n1) (l2 : i < n2)
    (hQ : ∀ x y h' tk, P1 i x → P2 i y → IsZipHeld h' z TI TO T true → T1 (i + 1) h' → T2 (i + 1) h' → IsTupOf2 h' s.heap.objs.size x y → h'.objs.size = s.heap.objs.size + 1 → (∀ c o, c ≠ z → c ≠ i1 → c ≠ i2 → s.heap.get? c = some o → h'.get? c = some o) →
      Q (.ref s.heap.objs.size) { s with heap := h', toks := tk }) :
    wpAny (model prog w) A (Builtin.«zip.__next__» ⟨[.ref z], []⟩) (fun fin s' => ∃ v, fin = .done (.ret v) ∧ Q v s') E s := by
  obtain ⟨hp, g, d, tk0, os⟩ := s
  show wpAny _ _ (field (.ref z) 2 >>= _) _ _ _
  refine wpAny_bind (wpAny_field hz rfl (x := .bool false) rfl ?_)
  show wpAny _ _ (field (.ref z) 3 >>= _) _ _ _
  refine wpAny_bind (wpAny_field hz rfl (x := .ref TI) rfl (wpAny_bind (wpAny_seqItems hTI rfl ?_)))
  show wpAny _ _ (Builtin.SmallTypes.ownedTupleIsFree (.ref z) >>= _) _ _ _
  refine wpAny_bind (wpAny_tupleHeld_zip hz hT fun g0 z0 b0 => ?_)
  replace b0 : Heap.SameBut z hp g0 := b0
  simp only [Bool.false_eq_true, if_false]
  refine wpAny_bind ?_; rw [← Array.forIn_toList]; simp only [List.forIn_cons, List.forIn_nil]
  refine wpAny_bind (wpAny_bind (wpAny_holding ?_))
  show wpAny _ _ (Builtin.SmallTypes.nextOf (.ref i1) >>= _) _ _ ⟨g0, g, d, tk0, os⟩
  refine wpAny_bind (D1.item i _ _ _ l1 (D1.over q1 b0 S.zf1) fun x g1 tk1 px n1' b1 => wpAny_pure (wpAny_pure ?_))
  replace b1 : Heap.SameBut i1 g0 g1 := b1
  refine wpAny_bind (wpAny_bind (wpAny_holding ?_))
  show wpAny _ _ (Builtin.SmallTypes.nextOf (.ref i2) >>= _) _ _ ⟨g1, g, d, tk1, os⟩
  refine wpAny_bind (D2.item i _ _ _ l2 (D2.over (D2.over q2 b0 S.zf2) b1 S.sep1_2) fun y g2 tk2 py n2' b2 => wpAny_pure (wpAny_pure (wpAny_pure ?_)))
  replace b2 : Heap.SameBut i2 g1 g2 := b2
  show wpAny _ _ (newTuple [x, y] >>= _) _ _ _
  refine wpAny_bind (wpAny_newTuple (wpAny_pure ⟨_, rfl, ?_⟩))
  have sz : g2.objs.size = hp.objs.size := by rw [b2.1, b1.1, b0.1]
  have z2 : IsZipHeld g2 z TI TO T true := b2.extBut _ _ S.zi2 (b1.extBut _ _ S.zi1 z0)
  have t1 : T1 (i + 1) g2 := D1.over n1' b2 S.sep2_1
  have up : ∀ c o, g2.get? c = some o → (g2.push { cls := .type "tuple", data := .seq #[x, y] }).get? c = some o := fun c o e => Heap.get?_push_of_some _ e
  have new : IsTupOf2 (g2.push { cls := .type "tuple", data := .seq #[x, y] }) g2.objs.size x y := Heap.get?_push_size _ rfl
  have sz2 : (g2.push { cls := .type "tuple", data := .seq #[x, y] }).objs.size = g2.objs.size + 1 := Heap.size_push ..
  show Q (.ref g2.objs.size) _
  rw [sz] at new sz2 ⊢
  exact hQ x y _ tk2 px py (up _ _ z2) (D1.frame _ _ _ t1 fun b _ o e => up b o e) (D2.frame _ _ _ n2' fun b _ o e => up b o e) new sz2 fun c o c1 c2 c3 e => up c o (b2.extBut _ _ c3 (b1.extBut _ _ c2 (b0.extBut _ _ c1 e)))
theorem zh_end {Q : Fin → Shared → Prop} (S : ZipSep2 z TI TO i1 i2 fp1 fp2) (D1 : Draws prog w A i1 fp1 n1 P1 T1) (D2 : Draws prog w A i2 fp2 n2 P2 T2) (hz : IsZipHeld s.heap z TI TO T f) (hT : s.heap.get? T = some oT) (hTI : IsTupOf2 s.heap TI (.ref i1) (.ref i2))
    (q1 : T1 i s.heap) (q2 : T2 i s.heap) (l1 : i ≤ n1) (l2 : i ≤ n2) (hend : i = n1 ∨ i = n2)
    (hE : ∀ h' tk e, (∀ c o, c ≠ z → c ≠ i1 → c ≠ i2 → s.heap.get? c = some o → h'.get? c = some o) → (∃ o, h'.get? e = some o ∧ o.cls = .type "StopIteration") → E (.ref e) { s with heap := h', toks := tk }) :
    wpAny (model prog w) A (Builtin.«zip.__next__» ⟨[.ref z], []⟩) Q E s := by
  obtain ⟨hp, g, d, tk0, os⟩ := s
  show wpAny _ _ (field (.ref z) 2 >>= _) _ _ _
  refine wpAny_bind (wpAny_field hz rfl (x := .bool false) rfl ?_)
  show wpAny _ _ (field (.ref z) 3 >>= _) _ _ _
  refine wpAny_bind (wpAny_field hz rfl (x := .ref TI) rfl (wpAny_bind (wpAny_seqItems hTI rfl ?_)))
  show wpAny _ _ (Builtin.SmallTypes.ownedTupleIsFree (.ref z) >>= _) _ _ _
  refine wpAny_bind (wpAny_tupleHeld_zip hz hT fun g0 z0 b0 => ?_)
  replace b0 : Heap.SameBut z hp g0 := b0
  simp only [Bool.false_eq_true, if_false]
  refine wpAny_bind ?_; rw [← Array.forIn_toList]; simp only [List.forIn_cons, List.forIn_nil]
  refine wpAny_bind (wpAny_bind (wpAny_holding ?_))
  show wpAny _ _ (Builtin.SmallTypes.nextOf (.ref i1) >>= _) _ _ ⟨g0, g, d, tk0, os⟩
  by_cases lt : i < n1
  · refine wpAny_bind (D1.item i _ _ _ lt (D1.over q1 b0 S.zf1) fun x g1 tk1 px n1' b1 => wpAny_pure (wpAny_pure ?_))
    replace b1 : Heap.SameBut i1 g0 g1 := b1
    have e2 : i = n2 := by omega
    refine wpAny_bind (wpAny_bind (wpAny_holding ?_))
    show wpAny _ _ (Builtin.SmallTypes.nextOf (.ref i2) >>= _) _ _ ⟨g1, g, d, tk1, os⟩
    exact wpAny_bind (D2.done ⟨g1, g, d, tk1, os⟩ _ _ (by rw [← e2]; exact D2.over (D2.over q2 b0 S.zf2) b1 S.sep1_2) fun q e hq he => hE q tk1 e (fun c o c1 c2 c3 x => hq _ _ c3 (b1.extBut _ _ c2 (b0.extBut _ _ c1 x))) he)
  · have e1 : i = n1 := by omega
    exact wpAny_bind (D1.done ⟨g0, g, d, tk0, os⟩ _ _ (by rw [← e1]; exact D1.over q1 b0 S.zf1) fun q e hq he => hE q tk0 e (fun c o c1 c2 _ x => hq _ _ c2 (b0.extBut _ _ c1 x)) he)
theorem zh_next {Q : Option Value → Shared → Prop} (S : ZipSep2 z TI TO i1 i2 fp1 fp2) (D1 : Draws prog w A.in1 i1 fp1 n1 P1 T1) (D2 : Draws prog w A.in1 i2 fp2 n2 P2 T2) (hz : IsZipHeld s.heap z TI TO T f) (hT : s.heap.get? T = some oT) (hTI : IsTupOf2 s.heap TI (.ref i1) (.ref i2))
    (q1 : T1 i s.heap) (q2 : T2 i s.heap) (l1 : i < n1) (l2 : i < n2)
    (hQ : ∀ x y h' tk, P1 i x → P2 i y → IsZipHeld h' z TI TO T true → T1 (i + 1) h' → T2 (i + 1) h' → IsTupOf2 h' s.heap.objs.size x y → h'.objs.size = s.heap.objs.size + 1 → (∀ c o, c ≠ z → c ≠ i1 → c ≠ i2 → s.heap.get? c = some o → h'.get? c = some o) →
      Q (some (.ref s.heap.objs.size)) { s with heap := h', toks := tk }) : wpAny (model prog w) A (pyNext (.ref z)) Q E s := by
  have ty : s.TypeIs (.ref z) "zip" := ⟨_, hz, rfl⟩
  unfold pyNext
  exact wpAny_bind (wpAny_attempt (wpAny_callSpecial?_slot (name := Str.ofString "__next__") ty PySem.F.slot_zip_next (wpAny_call_entry PySem.F.slot_zip_next ty PySem.F.entry_zip_next
    (zh_item S D1 D2 hz hT hTI q1 q2 l1 l2 fun x y h' tk a1 a2 a3 a4 a5 a6 a7 a8 => wpAny_pure (hQ x y h' tk a1 a2 a3 a4 a5 a6 a7 a8)) (PySem.F.args_zip_next_1 _))))
theorem zh_stop {Q : Option Value → Shared → Prop} (S : ZipSep2 z TI TO i1 i2 fp1 fp2) (D1 : Draws prog w A.in1 i1 fp1 n1 P1 T1) (D2 : Draws prog w A.in1 i2 fp2 n2 P2 T2) (hz : IsZipHeld s.heap z TI TO T f) (hT : s.heap.get? T = some oT) (hTI : IsTupOf2 s.heap TI (.ref i1) (.ref i2))
    (q1 : T1 i s.heap) (q2 : T2 i s.heap) (l1 : i ≤ n1) (l2 : i ≤ n2) (hend : i = n1 ∨ i = n2)
    (hQ : ∀ h' tk, (∀ c o, c ≠ z → c ≠ i1 → c ≠ i2 → s.heap.get? c = some o → h'.get? c = some o) → Q none { s with heap := h', toks := tk }) : wpAny (model prog w) A (pyNext (.ref z)) Q E s := by
  have ty : s.TypeIs (.ref z) "zip" := ⟨_, hz, rfl⟩
  unfold pyNext
  refine wpAny_bind (wpAny_attempt (wpAny_callSpecial?_slot (name := Str.ofString "__next__") ty PySem.F.slot_zip_next (wpAny_call_entry PySem.F.slot_zip_next ty PySem.F.entry_zip_next (zh_end S D1 D2 hz hT hTI q1 q2 l1 l2 hend fun h' tk e hk he => ?_) (PySem.F.args_zip_next_1 _))))
  obtain ⟨o, ho, hc⟩ := he
  exact wpAny_bind (wpAny_isInstance (T := "StopIteration") (b := true) ⟨o, ho, hc⟩ isSubtype_stop (wpAny_pure (hQ _ _ hk)))
end

/-! ### collecting the pairs -/
section
variable {prog : Program} {w : World} {A : Around} {z TI TO i1 i2 lo : Addr} {fp1 fp2 : List Addr} {n1 n2 n : Nat} {P1 P2 : Nat → Value → Prop} {T1 T2 : Nat → Heap → Prop}
structure ZAt (z TI TO i1 i2 lo : Addr) (T1 T2 : Nat → Heap → Prop) (i : Nat) (h : Heap) : Prop where
  ti : IsTupOf2 h TI (.ref i1) (.ref i2)
  s1 : T1 i h
  s2 : T2 i h
  st : (IsZip h z TI TO .none ∧ ∃ a b, IsTupOf2 h TO a b) ∨ ∃ T f x y, lo < T ∧ IsZipHeld h z TI TO T f ∧ IsTupOf2 h T x y
def PairsAt (lo : Addr) (P1 P2 : Nat → Value → Prop) (h : Heap) (acc : Array Value) (i : Nat) : Prop := acc.size = i ∧ acc.toList.Nodup ∧ ∀ (j : Nat) (v : Value), acc[j]? = some v → ∃ T x y, v = .ref T ∧ lo < T ∧ IsTupOf2 h T x y ∧ P1 j x ∧ P2 j y
/-- all but z, TO, i1, i2 and the list stands -/
def KeptZ (z TO i1 i2 lo : Addr) (s s' : Shared) : Prop := (∀ c o, c ≠ z → c ≠ TO → c ≠ i1 → c ≠ i2 → c ≠ lo → s.heap.get? c = some o → s'.heap.get? c = some o) ∧ s'.gens = s.gens ∧ s'.drawn = s.drawn ∧ s'.os = s.os
theorem KeptZ.trans {s t u : Shared} (a : KeptZ z TO i1 i2 lo s t) (b : KeptZ z TO i1 i2 lo t u) : KeptZ z TO i1 i2 lo s u :=
  ⟨fun c o h1 h2 h3 h4 h5 e => b.1 c o h1 h2 h3 h4 h5 (a.1 c o h1 h2 h3 h4 h5 e), b.2.1.trans a.2.1, b.2.2.1.trans a.2.2.1, b.2.2.2.trans a.2.2.2⟩
structure Lows (z TI TO i1 i2 lo : Addr) (fp1 fp2 : List Addr) : Prop where
  z : z < lo
  TI : TI < lo
  TO : TO < lo
  a : i1 < lo
  b : i2 < lo
  f1 : ∀ c ∈ fp1, c < lo
  f2 : ∀ c ∈ fp2, c < lo
/-- a change of the list alone -/
theorem ZAt.list (L : Lows z TI TO i1 i2 lo fp1 fp2) (D1 : Draws prog w A i1 fp1 n1 P1 T1) (D2 : Draws prog w A i2 fp2 n2 P2 T2) {i : Nat} {h h' : Heap} (q : ZAt z TI TO i1 i2 lo T1 T2 i h) (k : ∀ c o, c ≠ lo → h.get? c = some o → h'.get? c = some o) : ZAt z TI TO i1 i2 lo T1 T2 i h' where
  ti := k _ _ (Nat.ne_of_lt L.TI) q.ti
  s1 := D1.frame _ _ _ q.s1 fun b hb o e => k b o (Nat.ne_of_lt (L.f1 b hb)) e
  s2 := D2.frame _ _ _ q.s2 fun b hb o e => k b o (Nat.ne_of_lt (L.f2 b hb)) e
  st := q.st.elim (fun ⟨a, x, y, b⟩ => .inl ⟨k _ _ (Nat.ne_of_lt L.z) a, x, y, k _ _ (Nat.ne_of_lt L.TO) b⟩) fun ⟨T, f, x, y, hl, a, b⟩ => .inr ⟨T, f, x, y, hl, k _ _ (Nat.ne_of_lt L.z) a, k _ _ (Nat.ne_of_gt hl) b⟩
theorem ZAt.next (S : ZipSep2 z TI TO i1 i2 fp1 fp2) (L : Lows z TI TO i1 i2 lo fp1 fp2) (D1 : Draws prog w A.in1 i1 fp1 n1 P1 T1) (D2 : Draws prog w A.in1 i2 fp2 n2 P2 T2) {i : Nat} {s : Shared} {E : Value → Shared → Prop} {Q : Option Value → Shared → Prop} (q : ZAt z TI TO i1 i2 lo T1 T2 i s.heap) (hlo : lo < s.heap.objs.size) (l1 : i < n1) (l2 : i < n2)
    (hQ : ∀ T x y s', T = s.heap.objs.size → P1 i x → P2 i y → ZAt z TI TO i1 i2 lo T1 T2 (i + 1) s'.heap → lo < T → IsTupOf2 s'.heap T x y → KeptZ z TO i1 i2 lo s s' → lo < s'.heap.objs.size → (∀ o, s.heap.get? lo = some o → s'.heap.get? lo = some o) → Q (some (.ref T)) s') : wpAny (model prog w) A (pyNext (.ref z)) Q E s := by
  rcases q.st with ⟨hz, a, b, hTO⟩ | ⟨T, f, x0, y0, hl, hz, hT⟩
  · refine wpAny_pyNext_zipD2_item S D1 D2 hz q.ti hTO q.s1 q.s2 l1 l2 fun x y h' tk px py hz' hTO' t1 t2 hT' hsz hk => ?_
    refine hQ s.heap.objs.size x y _ rfl px py ⟨hk _ _ S.TIz S.TITO S.TIi1 S.TIi2 q.ti, t1, t2, .inr ⟨s.heap.objs.size, false, x, y, hlo, hz', hT'⟩⟩ hlo hT' ⟨fun c o c1 c2 c3 c4 _ e => hk c o c1 c2 c3 c4 e, rfl, rfl, rfl⟩ (by show lo < h'.objs.size; rw [hsz]; exact Nat.lt_succ_of_lt hlo) fun o e => ?_
    exact hk lo o (Nat.ne_of_gt L.z) (Nat.ne_of_gt L.TO) (Nat.ne_of_gt L.a) (Nat.ne_of_gt L.b) e
  · refine zh_next S D1 D2 hz hT q.ti q.s1 q.s2 l1 l2 fun x y h' tk px py hz' t1 t2 hT' hsz hk => ?_
    have nT : ∀ c, c < lo → T ≠ c := fun c hc e => by subst e; exact Nat.lt_asymm hc hl
    refine hQ s.heap.objs.size x y _ rfl px py ⟨hk _ _ S.TIz S.TIi1 S.TIi2 q.ti, t1, t2, .inr ⟨T, true, x0, y0, hl, hz', hk _ _ (nT _ L.z) (nT _ L.a) (nT _ L.b) hT⟩⟩ hlo hT' ⟨fun c o c1 _ c3 c4 _ e => hk c o c1 c3 c4 e, rfl, rfl, rfl⟩ (by show lo < h'.objs.size; rw [hsz]; exact Nat.lt_succ_of_lt hlo) fun o e => ?_
    exact hk lo o (Nat.ne_of_gt L.z) (Nat.ne_of_gt L.a) (Nat.ne_of_gt L.b) e
theorem ZAt.stop (S : ZipSep2 z TI TO i1 i2 fp1 fp2) (L : Lows z TI TO i1 i2 lo fp1 fp2) (D1 : Draws prog w A.in1 i1 fp1 n1 P1 T1) (D2 : Draws prog w A.in1 i2 fp2 n2 P2 T2) {i : Nat} {s : Shared} {E : Value → Shared → Prop} {Q : Option Value → Shared → Prop} (q : ZAt z TI TO i1 i2 lo T1 T2 i s.heap) (l1 : i ≤ n1) (l2 : i ≤ n2) (hend : i = n1 ∨ i = n2)
    (hQ : ∀ s', KeptZ z TO i1 i2 lo s s' → (∀ o, s.heap.get? lo = some o → s'.heap.get? lo = some o) → Q none s') : wpAny (model prog w) A (pyNext (.ref z)) Q E s := by
  rcases q.st with ⟨hz, a, b, hTO⟩ | ⟨T, f, x0, y0, hl, hz, hT⟩
  · refine wpAny_pyNext_zipD2_end S D1 D2 hz q.ti hTO q.s1 q.s2 l1 l2 hend fun h' tk hk => hQ _ ⟨fun c o c1 c2 c3 c4 _ e => hk c o c1 c2 c3 c4 e, rfl, rfl, rfl⟩ fun o e => ?_
    exact hk lo o (Nat.ne_of_gt L.z) (Nat.ne_of_gt L.TO) (Nat.ne_of_gt L.a) (Nat.ne_of_gt L.b) e
  · refine zh_stop S D1 D2 hz hT q.ti q.s1 q.s2 l1 l2 hend fun h' tk hk => hQ _ ⟨fun c o c1 _ c3 c4 _ e => hk c o c1 c3 c4 e, rfl, rfl, rfl⟩ fun o e => ?_
    exact hk lo o (Nat.ne_of_gt L.z) (Nat.ne_of_gt L.a) (Nat.ne_of_gt L.b) e
end

theorem PairsAt.keep {lo : Addr} {P1 P2 : Nat → Value → Prop} {h h' : Heap} {acc : Array Value} {i : Nat} {L : Addr → Prop} (q : PairsAt lo P1 P2 h acc i) (k : ∀ c o, lo < c → h.get? c = some o → h'.get? c = some o) : PairsAt lo P1 P2 h' acc i :=
  ⟨q.1, q.2.1, fun j v e => let ⟨T, x, y, e1, hl, hT, h1, h2⟩ := q.2.2 j v e; ⟨T, x, y, e1, hl, k _ _ hl hT, h1, h2⟩⟩
theorem PairsAt.push {lo : Addr} {P1 P2 : Nat → Value → Prop} {h : Heap} {acc : Array Value} {i : Nat} {T : Addr} {x y : Value} (q : PairsAt lo P1 P2 h acc i) (hn : Value.ref T ∉ acc.toList) (hl : lo < T) (hT : IsTupOf2 h T x y) (h1 : P1 i x) (h2 : P2 i y) : PairsAt lo P1 P2 h (acc.push (.ref T)) (i + 1) := by
  refine ⟨by rw [Array.size_push, q.1], ?_, fun j v e => ?_⟩
  · rw [Array.toList_push]
    exact List.nodup_append.mpr ⟨q.2.1, by simp, fun a ha b hb e => by
      have : b = Value.ref T := by simpa using hb
      rw [this] at e; rw [e] at ha; exact hn ha⟩
  rw [Array.getElem?_push] at e
  split at e
  · rename_i ej
    rw [q.1] at ej; cases e; subst ej
    exact ⟨T, x, y, rfl, hl, hT, h1, h2⟩
  · exact q.2.2 j v e
section
variable {prog : Program} {w : World} {A : Around} {z TI TO i1 i2 lo : Addr} {fp1 fp2 : List Addr} {n1 n2 : Nat} {P1 P2 : Nat → Value → Prop} {T1 T2 : Nat → Heap → Prop} {R : Result → Shared → Prop}
theorem up_gt (L : Lows z TI TO i1 i2 lo fp1 fp2) {s s' : Shared} (k : KeptZ z TO i1 i2 lo s s') : ∀ c o, lo < c → s.heap.get? c = some o → s'.heap.get? c = some o := fun c o hc e =>
  k.1 c o (fun q => Nat.lt_asymm hc (q ▸ L.z)) (fun q => Nat.lt_asymm hc (q ▸ L.TO)) (fun q => Nat.lt_asymm hc (q ▸ L.a)) (fun q => Nat.lt_asymm hc (q ▸ L.b)) (Nat.ne_of_gt hc) e
theorem zip_loop (S : ZipSep2 z TI TO i1 i2 fp1 fp2) (L : Lows z TI TO i1 i2 lo fp1 fp2) (D1 : Draws prog w A.in1.in1 i1 fp1 n1 P1 T1) (D2 : Draws prog w A.in1.in1 i2 fp2 n2 P2 T2) (hn : min n1 n2 ≤ sizeLine) (res : Value) :
    ∀ (k i : Nat) (s : Shared) (acc : Array Value) (c : Nat), min n1 n2 - i = k → i ≤ min n1 n2 → ZAt z TI TO i1 i2 lo T1 T2 i s.heap → lo < s.heap.objs.size → s.heap.get? lo = some { cls := .type "list", dict := none, data := .seq acc c, slots := #[] } → PairsAt lo P1 P2 s.heap acc i →
    (∀ s' acc' c', KeptZ z TO i1 i2 lo s s' → s'.heap.get? lo = some { cls := .type "list", dict := none, data := .seq acc' c', slots := #[] } → PairsAt lo P1 P2 s'.heap acc' (min n1 n2) → R (.ok (.ret res)) s') →
    codeAny (model prog w) A (.builtin "list.extend.loop" ⟨[.ref lo, .ref z, res], []⟩) R s := by
  have E1 := D1.of_in1
  have E2 := D2.of_in1
  intro k
  induction k with
  | zero =>
    intro i s acc c hk hi q hlo hS hacc hR
    have e : i = min n1 n2 := by omega
    refine codeAny_builtin PySem.F.entry_extend_loop ?_
    rw [Around.under_plainId PySem.F.plain_extend_loop _]
    show wpAny _ A.in1 (pyNext (.ref z) >>= _) _ _ s
    refine wpAny_bind (q.stop S L D1 D2 (by omega) (by omega) (by omega) fun s' kz kl => wpAny_pure (hR s' acc c kz (kl _ hS) ?_))
    rw [← e]
    exact hacc.keep (L := fun _ => True) (up_gt L kz)
  | succ k ih =>
    intro i s acc c hk hi q hlo hS hacc hR
    refine codeAny_builtin PySem.F.entry_extend_loop ?_
    rw [Around.under_plainId PySem.F.plain_extend_loop _]
    show wpAny _ A.in1 (pyNext (.ref z) >>= _) _ _ s
    refine wpAny_bind (q.next S L D1 D2 hlo (by omega) (by omega) fun T x y s' eT px py q' hl hT kz hlo' kl => ?_)
    have hS' := kl _ hS
    have hnew : Value.ref T ∉ acc.toList := fun hm => by
      obtain ⟨j, hj, ej⟩ := List.getElem_of_mem hm
      have ej' : acc[j]? = some (Value.ref T) := by
        have : acc.toList[j]? = some (Value.ref T) := by rw [List.getElem?_eq_getElem hj, ej]
        simpa using this
      obtain ⟨T', x', y', e', _, hT', _⟩ := hacc.2.2 j _ ej'
      cases e'
      exact Nat.lt_irrefl _ (eT ▸ Heap.lt_size hT')
    show wpAny _ A.in1 (updateSeq lo (·.push (.ref T)) >>= _) _ _ _
    have oth : ∀ b o, b ≠ lo → s'.heap.get? b = some o → (s'.heap.update lo (Obj.mapSeq (·.push (.ref T)))).get? b = some o := fun b o hb e => (Heap.get?_update_other _ _ (Ne.symm hb)).trans e
    refine wpAny_bind (wpAny_updateSeq hS' rfl (wpAny_pure ⟨plainId_quiet PySem.F.plain_extend_loop _, ih (i + 1) _ (acc.push (.ref T)) _ (by omega) (by omega) (q'.list L E1 E2 oth) (by rw [Heap.size_update]; exact hlo') (Heap.get?_update_self _ hS' rfl) ?_ fun s'' acc' c' kz'' hS'' hacc'' => ?_⟩)
      (by rw [hacc.1]; omega) (by show (acc.push (.ref T)).size ≤ sizeLine + 1; rw [Array.size_push, hacc.1]; omega))
    · have h1 : PairsAt lo P1 P2 s'.heap (acc.push (.ref T)) (i + 1) := (hacc.keep (L := fun _ => True) (up_gt L kz)).push hnew hl hT px py
      exact h1.keep (L := fun _ => True) fun c o hc e => oth c o (Nat.ne_of_gt hc) e
    · have mid : KeptZ z TO i1 i2 lo s' { s' with heap := s'.heap.update lo (Obj.mapSeq (·.push (.ref T))) } := ⟨fun c o _ _ _ _ c5 e => oth c o c5 e, rfl, rfl, rfl⟩
      exact hR s'' acc' c' (kz.trans (mid.trans kz'')) hS'' hacc''
end

theorem zip_no_len : typeLookup (.type "zip") "__len__" = pure none := by rw [typeLookup_type, builtinLookup_eq_fast]; kernel_rfl
theorem zip_no_hint : typeLookup (.type "zip") "__length_hint__" = pure none := by rw [typeLookup_type, builtinLookup_eq_fast]; kernel_rfl
section
variable {prog : Program} {w : World} {A : Around} {E : Value → Shared → Prop} {s : Shared} {z TI TO i1 i2 : Addr} {fp1 fp2 : List Addr} {n1 n2 : Nat} {P1 P2 : Nat → Value → Prop} {T1 T2 : Nat → Heap → Prop}
theorem zip_collect {Q : List Value → Shared → Prop} (S : ZipSep2 z TI TO i1 i2 fp1 fp2) (L : Lows z TI TO i1 i2 s.heap.objs.size fp1 fp2) (D1 : Draws prog w A.in1.in1 i1 fp1 n1 P1 T1) (D2 : Draws prog w A.in1.in1 i2 fp2 n2 P2 T2) (hn : min n1 n2 ≤ sizeLine)
    (hTI : IsTupOf2 s.heap TI (.ref i1) (.ref i2)) (q1 : T1 0 s.heap) (q2 : T2 0 s.heap) (hz : IsZip s.heap z TI TO .none) (hTO : ∃ a b, IsTupOf2 s.heap TO a b)
    (hQ : ∀ s' acc, KeptZ z TO i1 i2 s.heap.objs.size s s' → PairsAt s.heap.objs.size P1 P2 s'.heap acc (min n1 n2) → Q acc.toList s') : wpAny (model prog w) A (collect (.ref z)) Q E s := by
  have ne : s.heap.objs.size ≠ z := Nat.ne_of_gt L.z
  unfold collect
  refine wpAny_bind (wpAny_runValue (codeAny_builtin PySem.F.entry_proto_collect ?_)); rw [Around.under_plainId PySem.F.plain_proto_collect _]
  show wpAny _ A.in1 (newList [] >>= fun l => again (.builtin "list.__iadd__" ⟨[l, .ref z], []⟩)) _ _ s
  refine wpAny_bind (wpAny_newObj_type (wpAny_pure ⟨plainId_quiet PySem.F.plain_list_iadd _, codeAny_builtin PySem.F.entry_list_iadd ?_⟩)); rw [Around.under_plainId PySem.F.plain_list_iadd _]
  have up : ∀ b o, s.heap.get? b = some o → (s.heap.push { cls := .type "list", data := .seq ([] : List Value).toArray }).get? b = some o := fun b o e => Heap.get?_push_of_some _ e
  have z1 := up _ _ hz
  have ty : ({ s with heap := s.heap.push { cls := .type "list", data := .seq ([] : List Value).toArray } } : Shared).TypeIs (.ref z) "zip" := ⟨_, z1, rfl⟩
  show wpAny _ A.in1 (Builtin.List.listExtendWith (.ref s.heap.objs.size) (.ref z) (.ref s.heap.objs.size)) _ _ _
  unfold Builtin.List.listExtendWith
  refine wpAny_bind (wpAny_typeOf ty ?_)
  simp only [show Builtin.List.listSameRef (.ref s.heap.objs.size) (.ref z) = false by simp [Builtin.List.listSameRef, ne], show (Value.type "zip" == Value.type "list") = false by decide, show (Value.type "zip" == Value.type "tuple") = false by decide, Bool.or_false, Bool.false_eq_true, if_false]
  refine wpAny_bind (wpAny_pyIter_zip z1 (wpAny_bind (wpAny_holding ?_)))
  unfold Builtin.List.listLengthHint
  refine wpAny_bind (wpAny_specialOf ty zip_no_len ?_)
  show wpAny _ A.in1 (specialOf (Value.ref z) (Str.ofString "__length_hint__") >>= _) _ _ _
  refine wpAny_bind (wpAny_specialOf ty zip_no_hint (wpAny_pure ?_))
  show wpAny _ A.in1 (rule "list.extend.makes-room" >>= fun _ => Builtin.List.listTouch (.ref s.heap.objs.size) >>= fun _ => again (.builtin "list.extend.loop" ⟨[.ref s.heap.objs.size, .ref z, .ref s.heap.objs.size], []⟩)) _ _ _
  have l1 : (s.heap.push { cls := .type "list", data := .seq ([] : List Value).toArray }).get? s.heap.objs.size = some { cls := .type "list", data := .seq ([] : List Value).toArray } := Heap.get?_push_size _ rfl
  refine wpAny_bind (wpAny_rule (wpAny_bind ?_))
  show wpAny _ A.in1 (updateSeq s.heap.objs.size (·.push .none) >>= fun _ => updateSeq s.heap.objs.size (·.pop)) _ _ _
  refine wpAny_bind (wpAny_updateSeq l1 rfl ?_)
  have l2 := Heap.get?_update_self (Obj.mapSeq (·.push Value.none)) l1 rfl
  refine wpAny_updateSeq l2 rfl ?_
  have l3 := Heap.get?_update_self (Obj.mapSeq (·.pop)) l2 rfl
  have oth : ∀ b o, b ≠ s.heap.objs.size → s.heap.get? b = some o → (((s.heap.push { cls := .type "list", data := .seq ([] : List Value).toArray }).update s.heap.objs.size (Obj.mapSeq (·.push Value.none))).update s.heap.objs.size (Obj.mapSeq (·.pop))).get? b = some o :=
    fun b o hb e => (Heap.get?_update_other _ _ (Ne.symm hb)).trans ((Heap.get?_update_other _ _ (Ne.symm hb)).trans (up b o e))
  have st0 : ZAt z TI TO i1 i2 s.heap.objs.size T1 T2 0 s.heap := ⟨hTI, q1, q2, .inl ⟨hz, hTO⟩⟩
  have hsz : s.heap.objs.size < ((((s.heap.push { cls := .type "list", data := .seq ([] : List Value).toArray }).update s.heap.objs.size (Obj.mapSeq (·.push Value.none))).update s.heap.objs.size (Obj.mapSeq (·.pop)))).objs.size := by
    rw [Heap.size_update, Heap.size_update, Heap.size_push]; exact Nat.lt_succ_self _
  refine wpAny_pure ⟨plainId_quiet PySem.F.plain_extend_loop _, zip_loop S L D1 D2 hn _ _ 0 _ _ _ rfl (Nat.zero_le _) (st0.list L D1.of_in1.of_in1 D2.of_in1.of_in1 oth) hsz l3 ⟨rfl, by simp, fun j v e => by simp at e⟩ fun s' acc' c' kz hS' hacc => ?_⟩
  show wpAny _ A (load s.heap.objs.size >>= _) _ _ s'
  refine wpAny_bind (wpAny_load hS' (wpAny_pure (hQ s' acc' (KeptZ.trans (t := { s with heap := _ }) ⟨fun c o _ _ _ _ c5 e => oth c o c5 e, rfl, rfl, rfl⟩ kz) hacc)))
end

section
variable {prog : Program} {w : World} {A : Around} {E : Value → Shared → Prop} {s : Shared} {z TI TO i1 i2 : Addr} {fp1 fp2 : List Addr} {n1 n2 : Nat} {P1 P2 : Nat → Value → Prop}
/-- a zip that stands, its two sources under A -/
structure ZStd (prog : Program) (w : World) (A : Around) (z TI TO i1 i2 : Addr) (fp1 fp2 : List Addr) (n1 n2 : Nat) (P1 P2 : Nat → Value → Prop) (h : Heap) : Prop where
  S : ZipSep2 z TI TO i1 i2 fp1 fp2
  L : Lows z TI TO i1 i2 h.objs.size fp1 fp2
  d1 : ∃ T1 : Nat → Heap → Prop, Draws prog w A i1 fp1 n1 P1 T1 ∧ T1 0 h
  d2 : ∃ T2 : Nat → Heap → Prop, Draws prog w A i2 fp2 n2 P2 T2 ∧ T2 0 h
  ti : IsTupOf2 h TI (.ref i1) (.ref i2)
  z : IsZip h z TI TO .none
  to : ∃ a b, IsTupOf2 h TO a b
theorem tuple_new_zip : MeetsIn prog w (Builtin.«tuple.__new__» ⟨[.type "tuple", .ref z], []⟩)
    (fun A R s => min n1 n2 ≤ sizeLine ∧ ZStd prog w A.in1.in1.in1 z TI TO i1 i2 fp1 fp2 n1 n2 P1 P2 s.heap ∧ ∀ (s' : Shared) (acc : Array Value), KeptZ z TO i1 i2 s.heap.objs.size s s' → PairsAt s.heap.objs.size P1 P2 s'.heap acc (min n1 n2) →
        R (.ok (.ret (.ref s'.heap.objs.size))) { s' with heap := s'.heap.push { cls := .type "tuple", data := .seq acc } }) :=
  .of_wp fun A R s h => by
    obtain ⟨hn, ⟨S, L, ⟨T1, D1, q1⟩, ⟨T2, D2, q2⟩, ti, hz, hTO⟩, h⟩ := h
    have hsub := sub_tuple_self
    have hinit := init_tuple_lookup
    have hmh := madeHere_tuple
    have hT : s.TypeIs (.ref z) "zip" := ⟨_, hz, rfl⟩
    wp_walk using wpAny_typeOf hT, zip_collect S L D1 D2 hn ti q1 q2 hz hTO
    intro s' acc hk hacc
    show wpAny _ _ (Builtin.Tuple.tupleExact acc.toList.toArray >>= fun v => ret v) _ _ _
    unfold Builtin.Tuple.tupleExact
    refine wpAny_bind (wpAny_newObj_type ?_ (show acc.toList.toArray.size ≤ sizeLine by simp only [Array.toArray_toList]; rw [hacc.1]; exact hn))
    refine wpAny_pure ⟨_, rfl, ?_⟩
    have e : acc.toList.toArray = acc := by simp
    rw [e]
    exact h s' acc hk hacc
end

/-! ### many cells laid at once -/
def updL (H : Hp) : List (Addr × HO) → Hp
  | [] => H
  | q :: r => updL (upd H q.1 q.2) r
theorem updL_out {ps : List (Addr × HO)} : ∀ {H : Hp} {b : Addr}, b ∉ ps.map (·.1) → updL H ps b = H b := by
  induction ps with
  | nil => intro H b _; rfl
  | cons q r ih =>
    intro H b hb
    have h1 : b ≠ q.1 := fun e => hb (by simp [e])
    have h2 : b ∉ r.map (·.1) := fun e => hb (by rw [List.map_cons]; exact List.mem_cons_of_mem _ e)
    show updL (upd H q.1 q.2) r b = H b
    rw [ih h2, upd_ne h1]
theorem updL_in {ps : List (Addr × HO)} : ∀ {H : Hp} {q : Addr × HO}, (ps.map (·.1)).Nodup → q ∈ ps → updL H ps q.1 = some q.2 := by
  induction ps with
  | nil => intro H q _ h; cases h
  | cons p r ih =>
    intro H q nd h
    rw [List.map_cons, List.nodup_cons] at nd
    show updL (upd H p.1 p.2) r q.1 = some q.2
    rcases List.mem_cons.mp h with e | e
    · subst e; rw [updL_out nd.1, upd_same]
    · exact ih nd.2 e
section
variable {X : Cx} {pins : List (Addr × Obj)} {σ : L2.St} {H : Hp} {s : Shared} {h' : Heap}
theorem Inv.laidL {ps : List (Addr × HO)} {t' : Nat} (I : Inv X pins σ H s) (k : ∀ b u, s.heap.get? b = some u → h'.get? b = some u) (hp : ∀ q ∈ ps, s.heap.objs.size ≤ q.1) (nd : (ps.map (·.1)).Nodup)
    (new : ∀ q ∈ ps, ObjOk X.prog X.w (updL H ps) h' q.1 q.2) : Inv X pins σ (updL H ps) { s with heap := h', toks := t' } := by
  have old : ∀ b u, s.heap.get? b = some u → b ∉ ps.map (·.1) := fun b u e hm => by
    obtain ⟨q, hq, rfl⟩ := List.mem_map.mp hm
    exact absurd (Heap.lt_size e) (Nat.not_lt.mpr (hp q hq))
  have trk : ∀ b u, H b = some u → b ∉ ps.map (·.1) := fun b u e hm => by
    obtain ⟨q, hq, rfl⟩ := List.mem_map.mp hm
    have : H q.1 = none := I.hok.fresh (hp q hq)
    rw [this] at e; cases e
  refine I.un ⟨fun b u q _ _ _ => k b u q, fun b u q _ _ _ => ⟨u.slots, k b u q⟩, fun b u q n _ => by rw [updL_out (old b u q)]; exact n, fun b u q _ => ⟨u, k b u q⟩,
    fun b xs q => by rw [updL_out (trk b _ q)]; exact q, fun b u xs q => by rw [updL_out (trk b _ q)]; exact q, fun b ps' q => ⟨#[], by rw [updL_out (trk b _ q), q]; simp⟩⟩ fun b u e => ?_
  by_cases hb : b ∈ ps.map (·.1)
  · obtain ⟨q, hq, rfl⟩ := List.mem_map.mp hb
    rw [updL_in nd hq] at e
    cases e
    exact new q hq
  · rw [updL_out hb] at e
    exact (I.hok b u e).stay (fun c v _ q => k c v q) (fun c q => by rw [updL_out (trk c _ q)]; exact q) fun c xs q => by rw [updL_out (trk c _ q)]; exact q
end
theorem HR.newL {K : W.Frag} {G : DHp} : ∀ {ps : List (Addr × HO)} {H : Hp}, HR K G H → (∀ q ∈ ps, H q.1 = none) → (ps.map (·.1)).Nodup → HR K G (updL H ps) ∧ Stp G H G (updL H ps)
  | [], H, r, _, _ => ⟨r, .refl⟩
  | q :: ps, H, r, hn, nd => by
    rw [List.map_cons, List.nodup_cons] at nd
    have hq := hn q (by simp)
    have := HR.newL (ps := ps) (r.newU hq (x := q.2)) (fun p hp => by
      rw [upd_ne fun e => nd.1 (by rw [← e]; exact List.mem_map_of_mem hp)]
      exact hn p (by simp [hp])) nd.2
    exact ⟨this.1, (Stp.newU hq).trans this.2⟩
/-! ### the rule -/
def zPs (Ts : List Addr) (xs ys : List V) (p : Addr) : List (Addr × HO) := (Ts.zip (List.zipWith (fun x y => HO.tup [x, y]) xs ys)) ++ [(p, HO.tup (Ts.map V.ref))]
def tZipT (K : PySem.W.Frag) (t : TA) : TE := fun σ H Q => t σ H fun vs H1 => ∃ (a b : SV) (xs ys : List V), vs = [a.v, b.v] ∧ a.at K H1 xs ∧ b.at K H1 ys ∧ min xs.length ys.length ≤ sizeLine ∧
  ∀ (Ts : List Addr) (p : Addr), Ts.length = min xs.length ys.length → ((zPs Ts xs ys p).map (·.1)).Nodup → (∀ q ∈ zPs Ts xs ys p, H1 q.1 = none) → Q (.ref p) (updL H1 (zPs Ts xs ys p))

theorem PairsAt.adrs {lo : Addr} {P1 P2 : Nat → Value → Prop} {h : Heap} {acc : Array Value} {n : Nat} (q : PairsAt lo P1 P2 h acc n) :
    ∃ Ts : List Addr, acc = (Ts.map Value.ref).toArray ∧ Ts.length = n ∧ Ts.Nodup ∧ ∀ (j : Nat) (T : Addr), Ts[j]? = some T → lo < T ∧ ∃ x y, IsTupOf2 h T x y ∧ P1 j x ∧ P2 j y := by
  obtain ⟨hsz, nd, hq⟩ := q
  have key : ∃ Ts : List Addr, acc.toList = Ts.map Value.ref := by
    have hq' : ∀ v ∈ acc.toList, ∃ T, v = Value.ref T := fun v hv => by
      obtain ⟨j, hj, ej⟩ := List.getElem_of_mem hv
      have ej' : acc[j]? = some v := by
        have : acc.toList[j]? = some v := by rw [List.getElem?_eq_getElem hj, ej]
        simpa using this
      obtain ⟨T, x, y, e, _⟩ := hq j v ej'
      exact ⟨T, e⟩
    generalize acc.toList = l at hq'
    induction l with
    | nil => exact ⟨[], rfl⟩
    | cons v r ih =>
      obtain ⟨T, rfl⟩ := hq' v (by simp)
      obtain ⟨Ts, e⟩ := ih fun v hv => hq' v (by simp [hv])
      exact ⟨T :: Ts, by rw [e]; rfl⟩
  obtain ⟨Ts, e⟩ := key
  have ea : acc = (Ts.map Value.ref).toArray := by rw [← e]
  refine ⟨Ts, ea, ?_, ?_, fun j T hj => ?_⟩
  · rw [← hsz, ea]; simp
  · rw [e] at nd
    exact (List.pairwise_map.mp nd).imp fun h e => h (by rw [e])
  · have : acc[j]? = some (Value.ref T) := by rw [ea]; simp [hj]
    obtain ⟨T', x, y, e', hl, hT, h1, h2⟩ := hq j _ this
    cases e'
    exact ⟨hl, x, y, hT, h1, h2⟩
theorem vals_refs : ∀ Ts : List Addr, Vals (Ts.map V.ref) (Ts.map Value.ref)
  | [] => .nil
  | _ :: r => .cons rfl (vals_refs r)
theorem zPs_mem {Ts : List Addr} {xs ys : List V} {p : Addr} {q : Addr × HO} (h : q ∈ zPs Ts xs ys p) : (∃ (j : Nat) (x y : V), Ts[j]? = some q.1 ∧ xs[j]? = some x ∧ ys[j]? = some y ∧ q.2 = HO.tup [x, y]) ∨ q = (p, HO.tup (Ts.map V.ref)) := by
  unfold zPs at h
  rcases List.mem_append.mp h with h | h
  · refine .inl ?_
    obtain ⟨j, hj⟩ := List.mem_iff_getElem?.mp h
    obtain ⟨h1, h2⟩ := List.getElem?_zip_eq_some.mp hj
    rw [List.getElem?_zipWith] at h2
    split at h2
    · rename_i x y hx hy
      exact ⟨j, x, y, h1, hx, hy, (Option.some.inj h2).symm⟩
    · cases h2
  · exact .inr (by simpa using h)
theorem zPs_fst {Ts : List Addr} {xs ys : List V} {p : Addr} (hl : Ts.length = min xs.length ys.length) : (zPs Ts xs ys p).map (·.1) = Ts ++ [p] := by
  unfold zPs
  rw [List.map_append, List.map_fst_zip (by rw [List.length_zipWith]; exact Nat.le_of_eq hl)]
  rfl
theorem pe_tzip {X : Cx} {e e2 : Expr} {ta : TA} {p p0 pos pos1 : Pos} (hc : X.calm = true) (hg : Gl X "zip") (hm : X.mg "zip" = none) (hg0 : Gl X "tuple") (hm0 : X.mg "tuple" = none) (ha : PA X [e, e2] ta)
    (hs : starEach [e, e2] X.env = (false, eval e X.env) :: starEach [e2] X.env := by rfl) (hpl : (backTo pos1 (starEach [e2] X.env)).any (·.1) = false := by rfl)
    (na : starEach [Expr.Call (.Name "zip" p) [e, e2] [] pos1] X.env = (false, eval (Expr.Call (.Name "zip" p) [e, e2] [] pos1) X.env) :: starEach [] X.env := by rfl) :
    PE X (.Call (.Name "tuple" p0) [.Call (.Name "zip" p) [e, e2] [] pos1] [] pos) (tZipT X.K ta) := by
  refine ⟨fun pins s σ H Q I h => ?_⟩
  refine Call_ (ld_blt I hg0 hm0 PyProof.Rows.boot_tuple ?_)
  refine PyProof.Rows.callWith_type1 (PyProof.Rows.args_cons ?_ na) na rfl
  refine Call_ (ld_blt I hg hm PyProof.Rows.boot_zip (PyProof.Rows.callWith_type1 (thn (ha.run pos1 pins s σ H _ I h) fun us s1 ⟨vs, H1, I1, r1, q1⟩ => ?_) hs hpl))
  obtain ⟨a, b, xs, ys, ex, q1, q2, hn, q⟩ := q1
  subst ex
  cases r1 with
  | cons r rr =>
    cases rr with
    | cons r' rr =>
      cases rr
      obtain ⟨t1, rfl⟩ := a.rel r
      obtain ⟨t2, rfl⟩ := b.rel r'
      obtain ⟨P1, B1, hp1, lt1⟩ := SV.begins (t := t1) I1 q1
      obtain ⟨P2, B2, hp2, lt2⟩ := SV.begins (t := t2) I1 q2
      refine zip_begins2 B1 B2 hp1 hp2 fun h' hz hTI hTO g1 g2 hsz hk => PyProof.Rows.args_nil ?_
      have I2 : Inv X pins σ H1 { s1 with heap := h' } := I1.kept (t' := s1.toks) hk
      have hh := I2.ok.hd hc
      obtain ⟨St1, D1, e1, _⟩ := SV.draws (prog := X.prog) (w := X.w) (A := X.A.in1.in1.in1.in1) (t := t1) (it := s1.heap.objs.size) hh I2 q1 fun c hcm => Nat.ne_of_lt (lt1 c hcm)
      obtain ⟨St2, D2, e2', _⟩ := SV.draws (prog := X.prog) (w := X.w) (A := X.A.in1.in1.in1.in1) (t := t2) (it := s1.heap.objs.size + 1) hh I2 q2 fun c hcm => Nat.ne_of_lt (Nat.lt_succ_of_lt (lt2 c hcm))
      have lows : Lows (s1.heap.objs.size + 4) (s1.heap.objs.size + 2) (s1.heap.objs.size + 3) s1.heap.objs.size (s1.heap.objs.size + 1) h'.objs.size (s1.heap.objs.size :: a.cells) ((s1.heap.objs.size + 1) :: b.cells) := by
        have up : ∀ c, c < s1.heap.objs.size + 5 → c < h'.objs.size := fun c hc' => by rw [hsz]; exact hc'
        refine ⟨up _ (Nat.lt_succ_self _), up _ ?_, up _ ?_, up _ ?_, up _ ?_, fun c hcm => up _ ?_, fun c hcm => up _ ?_⟩
        · show s1.heap.objs.size + 2 < s1.heap.objs.size + 5; omega
        · show s1.heap.objs.size + 3 < s1.heap.objs.size + 5; omega
        · show s1.heap.objs.size < s1.heap.objs.size + 5; omega
        · show s1.heap.objs.size + 1 < s1.heap.objs.size + 5; omega
        · rcases List.mem_cons.mp hcm with e | e
          · rw [e]; show s1.heap.objs.size < s1.heap.objs.size + 5; omega
          · exact Nat.lt_of_lt_of_le (lt1 c e) (Nat.le_add_right _ _)
        · rcases List.mem_cons.mp hcm with e | e
          · rw [e]; show s1.heap.objs.size + 1 < s1.heap.objs.size + 5; omega
          · exact Nat.lt_of_lt_of_le (lt2 c e) (Nat.le_add_right _ _)
      refine callType_newIn F.called_tuple (by decide) (F.typeCall_tuple_1 _) (F.newCall_tuple_1 _) (fun obj => F.args_object_init_2 obj _) F.entry_tuple_new
        (tuple_new_zip (n1 := xs.length) (n2 := ys.length)) ⟨hn, ⟨zip_sep2 lt1 lt2, lows, ⟨St1, D1, e1 0 (SV.st0 g1)⟩, ⟨St2, D2, e2' 0 (SV.st0 g2)⟩, hTI, hz, _, _, hTO⟩, fun s3 acc kz hacc => ⟨⟨_, Heap.get?_push_size _ rfl, rfl⟩, ?_⟩⟩
      obtain ⟨h3, g3, d3, tk3, os3⟩ := s3
      obtain ⟨kk, eg, ed, eo⟩ := kz
      have eg' : g3 = s1.gens := eg
      have ed' : d3 = s1.drawn := ed
      have eo' : os3 = s1.os := eo
      subst eg' ed' eo'
      obtain ⟨Ts, ea, el, nd, hT⟩ := hacc.adrs
      have hlt : ∀ T ∈ Ts, T < h3.objs.size := fun T hm => by
        obtain ⟨j, hj⟩ := List.mem_iff_getElem?.mp hm
        obtain ⟨_, x, y, hx, _⟩ := hT j T hj
        exact Heap.lt_size hx
      have hge : ∀ T ∈ Ts, h'.objs.size < T := fun T hm => by
        obtain ⟨j, hj⟩ := List.mem_iff_getElem?.mp hm
        exact (hT j T hj).1
      have hle : s1.heap.objs.size ≤ h'.objs.size := by rw [hsz]; exact Nat.le_add_right _ _
      have kept : ∀ c o, s1.heap.get? c = some o → h3.get? c = some o := fun c o e => by
        have hcl := Heap.lt_size e
        exact kk c o (Nat.ne_of_lt (Nat.lt_of_lt_of_le hcl (Nat.le_add_right _ _))) (Nat.ne_of_lt (Nat.lt_of_lt_of_le hcl (Nat.le_add_right _ _))) (Nat.ne_of_lt hcl) (Nat.ne_of_lt (Nat.lt_succ_of_lt hcl)) (Nat.ne_of_lt (Nat.lt_of_lt_of_le hcl hle)) (hk c o e)
      have sep := zip_sep2 (N := s1.heap.objs.size) lt1 lt2
      have h3le : s1.heap.objs.size ≤ h3.objs.size :=
        Nat.le_of_lt (Nat.lt_of_le_of_lt (Nat.le_add_right _ 2) (Heap.lt_size (kk _ _ sep.TIz sep.TITO sep.TIi1 sep.TIi2 (Nat.ne_of_lt lows.TI) hTI)))
      have nd' : ((zPs Ts xs ys h3.objs.size).map (·.1)).Nodup := by
        rw [zPs_fst el]
        exact List.nodup_append.mpr ⟨nd, by simp, fun c hc' d hd e => by
          have : d = h3.objs.size := by simpa using hd
          rw [this] at e; rw [e] at hc'
          exact Nat.lt_irrefl _ (hlt _ hc')⟩
      have hle' : ∀ q ∈ zPs Ts xs ys h3.objs.size, s1.heap.objs.size ≤ q.1 := fun q hq => by
        rcases zPs_mem hq with ⟨j, x, y, hj, _⟩ | e
        · exact Nat.le_trans hle (Nat.le_of_lt (hge _ (List.mem_of_getElem? hj)))
        · rw [e]; exact h3le
      have up : ∀ c o, h3.get? c = some o → (h3.push { cls := .type "tuple", data := .seq acc }).get? c = some o := fun c o e => Heap.get?_push_of_some _ e
      refine ⟨.ref h3.objs.size, _, Inv.laidL (s := s1) (h' := h3.push { cls := .type "tuple", data := .seq acc }) (t' := tk3) I1 (fun c o e => up c o (kept c o e)) hle' nd' fun q hq => ?_, rfl, q Ts h3.objs.size el nd' fun q' hq' => I1.hok.fresh (hle' q' hq')⟩
      rcases zPs_mem hq with ⟨j, x, y, hj, hx, hy, e⟩ | e
      · rw [e]
        obtain ⟨_, u, u2, ht, ⟨x', ex, rx⟩, ⟨y', ey, ry⟩⟩ := hT j q.1 hj
        rw [hx] at ex; cases ex
        rw [hy] at ey; cases ey
        exact ⟨by show 2 ≤ sizeLine; decide, [u, u2], .cons rx (.cons ry .nil), ⟨_, up _ _ ht, rfl, _, rfl⟩⟩
      · rw [e]
        refine ⟨by rw [List.length_map, el]; exact hn, Ts.map Value.ref, vals_refs Ts, ⟨_, Heap.get?_push_size _ rfl, rfl, _, by rw [ea]⟩⟩

theorem zips_rep {K : W.Frag} {H : Hp} : ∀ {xs ys : List D} {us vs : List V} {Ts : List Addr}, Reps K H xs us → Reps K H ys vs → Ts.length = min us.length vs.length →
    (∀ (j : Nat) (T : Addr) (x y : V), Ts[j]? = some T → us[j]? = some x → vs[j]? = some y → H T = some (.tup [x, y])) → Reps K H (zipD xs ys) (Ts.map V.ref)
  | [], _, us, vs, Ts, r1, _, hl, _ => by
    cases r1
    have : Ts = [] := List.length_eq_zero_iff.mp (by simpa using hl)
    subst this; rfl
  | _ :: _, [], us, vs, Ts, _, r2, hl, _ => by
    cases r2
    have : Ts = [] := List.length_eq_zero_iff.mp (by simpa using hl)
    subst this; rfl
  | x :: xs, y :: ys, us, vs, Ts, r1, r2, hl, hT => by
    obtain ⟨u, us, rfl, ru, r1⟩ := r1
    obtain ⟨v, vs, rfl, rv, r2⟩ := r2
    cases Ts with
    | nil => simp at hl
    | cons T Ts =>
      have hl' : Ts.length = min us.length vs.length := by simp at hl; omega
      exact ⟨.ref T, Ts.map V.ref, rfl, ⟨T, [u, v], rfl, .inl (hT 0 T u v rfl rfl rfl), ⟨u, [v], rfl, ru, v, [], rfl, rv, rfl⟩⟩,
        zips_rep r1 r2 hl' fun j T' x' y' a b c => hT (j + 1) T' x' y' a b c⟩
def dZipT : WRA := fun ds G Q => match ds with
  | [x, y] => ∃ xs ys, walkD G x = some xs ∧ walkD G y = some ys ∧ (min xs.length ys.length ≤ 1000000) ∧ Q (.tup (zipD xs ys)) G
  | _ => False
@[simp] theorem dZipT_two {x y : D} {G : DHp} {Q : DK} : dZipT [x, y] G Q = ∃ xs ys, walkD G x = some xs ∧ walkD G y = some ys ∧ (min xs.length ys.length ≤ 1000000) ∧ Q (.tup (zipD xs ys)) G := rfl
section
variable {X : Cx} {G0 : DHp} {H0 : Hp} {pos pos1 : Pos} {e e2 : Expr} {ws : WA}
theorem de_tzip {p p0 : Pos} (hc : X.calm = true) (hg : Gl X "zip") (hm : X.mg "zip" = none) (hg0 : Gl X "tuple") (hm0 : X.mg "tuple" = none) (ha : DA X G0 H0 [e, e2] ws)
    (hs : starEach [e, e2] X.env = (false, eval e X.env) :: starEach [e2] X.env := by rfl) (hpl : (backTo pos1 (starEach [e2] X.env)).any (·.1) = false := by rfl)
    (na : starEach [Expr.Call (.Name "zip" p) [e, e2] [] pos1] X.env = (false, eval (Expr.Call (.Name "zip" p) [e, e2] [] pos1) X.env) :: starEach [] X.env := by rfl) :
    DE X G0 H0 (.Call (.Name "tuple" p0) [.Call (.Name "zip" p) [e, e2] [] pos1] [] pos) (wCB dZipT ws) :=
  PE.to (pe_tzip hc hg hm hg0 hm0 ha hs hpl na) fun σ H Q ⟨ρ, G, QD, pt, w, k⟩ => ⟨ρ, G, _, pt, w, fun ds G1 vs H1 h1 r1 s1 w1 => by
    unfold dZipT at w1
    split at w1
    · rename_i x y
      obtain ⟨v, v', rfl, q, q'⟩ := r1.two_inv
      obtain ⟨xs, ys, ex, ey, hl, w1⟩ := w1
      obtain ⟨c1, rfl, f1⟩ := walk_sv h1 q ex
      obtain ⟨c2, rfl, f2⟩ := walk_sv h1 q' ey
      obtain ⟨us1, a1, b1⟩ := f1 G1 H1 h1 .refl ex
      obtain ⟨us2, a2, b2⟩ := f2 G1 H1 h1 .refl ey
      have l1 := b1.length
      have l2 := b2.length
      refine ⟨c1, c2, us1, us2, rfl, a1, a2, by rw [← l1, ← l2]; exact big_line hl, fun Ts pp el nd hfree => ?_⟩
      obtain ⟨h2, st2⟩ := HR.newL h1 hfree nd
      have m2 := st2.mn h1
      refine k _ G1 _ _ h2 ?_ (s1.trans st2) w1
      have hin : ∀ q ∈ zPs Ts us1 us2 pp, updL H1 (zPs Ts us1 us2 pp) q.1 = some q.2 := fun q hq => updL_in nd hq
      refine ⟨pp, Ts.map V.ref, rfl, .inl (hin (pp, _) (by unfold zPs; simp)), zips_rep (b1.mono m2) (b2.mono m2) el fun j T x y hT hx hy => ?_⟩
      refine hin (T, .tup [x, y]) ?_
      unfold zPs
      refine List.mem_append_left _ (List.mem_iff_getElem?.mpr ⟨j, List.getElem?_zip_eq_some.mpr ⟨hT, ?_⟩⟩)
      rw [List.getElem?_zipWith, hx, hy]
    · exact w1.elim⟩
end
end TC
set_option maxRecDepth 100000
/-! TC, part q: forgetting what is known of a tuple's object. -/
namespace TC
open PySem PySem.Spec PyProof.Rows L2
mutual
/-- tuples as tuples alone -/
def wk : D → D
  | .tup ds => .tup (wks ds)
  | .ft ds => .tup (wks ds)
  | .kt ds => .tup (wks ds)
  | .rl ds => .rl (wks ds)
  | d => d
def wks : List D → List D
  | [] => []
  | d :: ds => wk d :: wks ds
end
@[simp] theorem wks_eq : ∀ ds : List D, wks ds = ds.map wk
  | [] => rfl
  | d :: ds => by rw [wks, wks_eq ds]; rfl
@[simp] theorem wk_tup {ds : List D} : wk (.tup ds) = .tup (ds.map wk) := by rw [wk, wks_eq]
@[simp] theorem wk_ft {ds : List D} : wk (.ft ds) = .tup (ds.map wk) := by rw [wk, wks_eq]
@[simp] theorem wk_kt {ds : List D} : wk (.kt ds) = .tup (ds.map wk) := by rw [wk, wks_eq]
@[simp] theorem wk_rl {ds : List D} : wk (.rl ds) = .rl (ds.map wk) := by rw [wk, wks_eq]
@[simp] theorem wk_int {i : Int} : wk (.int i) = .int i := by rw [wk] <;> simp
@[simp] theorem wk_str {x : Str} : wk (.str x) = .str x := by rw [wk] <;> simp
@[simp] theorem wk_bl {x : Bool} : wk (.bl x) = .bl x := by rw [wk] <;> simp
@[simp] theorem wk_non : wk .non = .non := by rw [wk] <;> simp
@[simp] theorem wk_ref {a : Addr} : wk (.ref a) = .ref a := by rw [wk] <;> simp
section
variable {K : PySem.W.Frag} {H : Hp}
mutual
theorem Rep.wk : ∀ {d : D} {v : V}, Rep K H d v → Rep K H (wk d) v
  | .tup ds, v, h => by
    obtain ⟨a, vs, rfl, h1, h2⟩ := h
    exact ⟨a, vs, rfl, h1, Reps.wk h2⟩
  | .ft ds, v, h => by
    obtain ⟨a, vs, rfl, ⟨o, h1, _⟩, h2⟩ := h
    exact ⟨a, vs, rfl, .inr ⟨o, h1⟩, Reps.wk h2⟩
  | .kt ds, v, h => by
    obtain ⟨a, vs, rfl, h1, h2⟩ := h
    exact ⟨a, vs, rfl, .inl h1, Reps.wk h2⟩
  | .rl ds, v, h => by
    obtain ⟨a, vs, rfl, h1, h2⟩ := h
    exact ⟨a, vs, rfl, h1, Reps.wk h2⟩
  | .non, v, h => h
  | .bl _, v, h => h
  | .int _, v, h => h
  | .str _, v, h => h
  | .ref _, v, h => h
  | .ty _, v, h => h
theorem Reps.wk : ∀ {ds : List D} {vs : List V}, Reps K H ds vs → Reps K H (wks ds) vs
  | [], vs, h => h
  | d :: ds, vs, h => by
    obtain ⟨v, r, rfl, h1, h2⟩ := h
    exact ⟨v, r, rfl, Rep.wk h1, Reps.wk h2⟩
end
end
@[simp] def wWk (ws : WA) : WA := fun ρ G Q => ws ρ G fun xs G1 => Q (xs.map wk) G1
section
variable {X : Cx} {G0 : DHp} {H0 : Hp} {es : List Expr} {ws : WA}
theorem da_wk (h : DA X G0 H0 es ws) : DA X G0 H0 es (wWk ws) :=
  PA.to h fun σ H Q ⟨ρ, G, QD, pt, w, k⟩ => ⟨ρ, G, _, pt, w, fun xs G1 vs H1 h1 r1 s1 w1 => k (xs.map wk) G1 vs H1 h1 (wks_eq xs ▸ r1.wk) s1 w1⟩
end

/-! ### a comprehension in a comprehension -/
def relabelS (scope sc : Scope) : Scope :=
  { scope with names := scope.names.map fun p => if (p.2 == .free && sc.kind == .function && sc.names.lookup p.1 == some .cell) then (p.1, .cell) else (p.1, p.2) }
theorem blkOk_nest {N : List Str} {env : Env} {sc scope inner : Scope} {own : List (Str × Nat)} (he : env.scope = sc) (h : blkC N (relabelS scope sc) inner own = true) : BlkOk N (relabel scope env) inner own := by
  subst he
  exact blkOk_by h
end TC
set_option maxRecDepth 100000
set_option maxHeartbeats 1000000
/-! TC, part r: zip of three. -/
namespace TC
open PySem PySem.Spec PyProof.Rows L2
def ItZ3 (K : PySem.W.Frag) (a b c : SV) : It :=
  ⟨fun i H => ∃ (xs ys zs : List V) (x y z : V), a.at K H xs ∧ b.at K H ys ∧ c.at K H zs ∧ xs[i]? = some x ∧ ys[i]? = some y ∧ zs[i]? = some z,
    fun i H v H' => ∃ T x y z, v = .ref T ∧ H T = none ∧ H' = upd H T (.tup [x, y, z]) ∧ (∀ xs, a.at K H xs → xs[i]? = some x) ∧ (∀ ys, b.at K H ys → ys[i]? = some y) ∧ ∀ zs, c.at K H zs → zs[i]? = some z,
    fun i H => ∃ xs ys zs : List V, a.at K H xs ∧ b.at K H ys ∧ c.at K H zs ∧ i ≤ xs.length ∧ i ≤ ys.length ∧ i ≤ zs.length ∧ (xs.length = i ∨ ys.length = i ∨ zs.length = i)⟩
theorem turn_z3 {P : Program} {w : World} {K : PySem.W.Frag} {elts : List Expr} {kk : Nat} {tpos : Pos} {a b c : SV} {t1 t2 t3 : Tok} {z TI TO i1 i2 i3 : Addr} (S : ZipSep3 z TI TO i1 i2 i3 (i1 :: a.cells) (i2 :: b.cells) (i3 :: c.cells)) :
    Turn P w K (.Tuple elts kk tpos) (ItZ3 K a b c) [z, TI, TO, i1, i2, i3] z (fun i h => IsZip h z TI TO .none ∧ IsTupOf3 h TI (.ref i1) (.ref i2) (.ref i3) ∧ (∃ x y u, IsTupOf3 h TO x y u) ∧ a.st t1 i1 i h ∧ b.st t2 i2 i h ∧ c.st t3 i3 i h ∧ (∀ d ∈ a.cells, d ≠ i1) ∧ (∀ d ∈ b.cells, d ≠ i2) ∧ ∀ d ∈ c.cells, d ≠ i3) where
  mem := by simp
  obj := fun i h st d hd => by
    obtain ⟨hz, hTI, ⟨x, y, u, hTO⟩, q1, q2, q3, _⟩ := st
    have e' : d = z ∨ d = TI ∨ d = TO ∨ d = i1 ∨ d = i2 ∨ d = i3 := by simpa using hd
    rcases e' with q | q | q | q | q | q
    · rw [q]; exact ⟨_, hz, fun v q => nomatch q⟩
    · rw [q]; exact ⟨_, hTI, fun v q => nomatch q⟩
    · rw [q]; exact ⟨_, hTO, fun v q => nomatch q⟩
    · rw [q]; exact SV.obj q1
    · rw [q]; exact SV.obj q2
    · rw [q]; exact SV.obj q3
  keep := fun i h h' st k => by
    obtain ⟨hz, hTI, ⟨x, y, u, hTO⟩, h1, h2, h3, r⟩ := st
    exact ⟨k z (by simp) _ hz, k TI (by simp) _ hTI, ⟨x, y, u, k TO (by simp) _ hTO⟩, SV.st_at h1 fun o q => k i1 (by simp) o q, SV.st_at h2 fun o q => k i2 (by simp) o q, SV.st_at h3 fun o q => k i3 (by simp) o q, r⟩
  item := by
    intro X hP hw hK hc i pins s σ H E I hf st hg
    subst hP hw hK
    obtain ⟨hz, hTI, ⟨x0, y0, u0, hTO⟩, h1, h2, h3, n1, n2, n3⟩ := st
    obtain ⟨xs, ys, zs, x, y, v, hqx, hqy, hqz, hx, hy, hv⟩ := hg
    obtain ⟨St1, D1, e1, f1⟩ := SV.draws (prog := X.prog) (w := X.w) (A := X.A.in1) (t := t1) (I.ok.hd hc) I hqx n1
    obtain ⟨St2, D2, e2, f2⟩ := SV.draws (prog := X.prog) (w := X.w) (A := X.A.in1) (t := t2) (I.ok.hd hc) I hqy n2
    obtain ⟨St3, D3, e3, f3⟩ := SV.draws (prog := X.prog) (w := X.w) (A := X.A.in1) (t := t3) (I.ok.hd hc) I hqz n3
    have hzl : z < s.heap.objs.size := Heap.lt_size hz
    have l1 : i < xs.length := (List.getElem?_eq_some_iff.mp hx).1
    have l2 : i < ys.length := (List.getElem?_eq_some_iff.mp hy).1
    have l3 : i < zs.length := (List.getElem?_eq_some_iff.mp hv).1
    refine wpAny_pyNext_zipD3_item S D1 D2 D3 hz hTI hTO (e1 i h1) (e2 i h2) (e3 i h3) l1 l2 l3 fun u u2 u3 h' tk p1 p2 p3 z' TO' h1' h2' h3' hT hsz hk => ?_
    obtain ⟨x', ex, ru⟩ := p1
    obtain ⟨y', ey, ru2⟩ := p2
    obtain ⟨v', ev, ru3⟩ := p3
    rw [hx] at ex; cases ex
    rw [hy] at ey; cases ey
    rw [hv] at ev; cases ev
    refine ⟨_, rfl, wpAny_letOwnedTupleGo_zip (s := { s with heap := h', toks := tk }) z' fun h'' z'' sb => ?_⟩
    have hT2 : h''.get? s.heap.objs.size = some { cls := .type "tuple", data := .seq #[u, u2, u3] } := (sb.2 _ (Nat.ne_of_gt hzl)).trans hT
    have new : ObjOk X.prog X.w (upd H s.heap.objs.size (.tup [x, y, v])) h'' s.heap.objs.size (.tup [x, y, v]) :=
      ⟨by show 3 ≤ sizeLine; decide, [u, u2, u3], .cons ru (.cons ru2 (.cons ru3 .nil)), ⟨_, hT2, rfl, _, rfl⟩⟩
    have I1 : Inv X pins σ (upd H s.heap.objs.size (.tup [x, y, v])) { s with heap := h'', toks := tk } :=
      I.turnedNew (t' := tk) (ch := [z, TI, TO, i1, i2, i3]) (fun c o hb q => (sb.2 c (fun q' => hb (by simp [q']))).trans (hk c o (fun q' => hb (by simp [q'])) (fun q' => hb (by simp [q'])) (fun q' => hb (by simp [q'])) (fun q' => hb (by simp [q'])) (fun q' => hb (by simp [q'])) q)) hf (Nat.le_refl _) new
    refine ⟨.ref s.heap.objs.size, _, I1, rfl, ⟨_, x, y, v, rfl, I.hok.fresh (Nat.le_refl _), rfl, fun l hl => by rw [SV.inj I hl hqx]; exact hx, fun l hl => by rw [SV.inj I hl hqy]; exact hy, fun l hl => by rw [SV.inj I hl hqz]; exact hv⟩, ⟨z'', ?_, ⟨u, u2, u3, ?_⟩, ?_, ?_, ?_, n1, n2, n3⟩, fun c hcm => ?_⟩
    · exact (sb.2 _ S.TIz).trans (hk _ _ S.TIz S.TITO S.TIi1 S.TIi2 S.TIi3 hTI)
    · exact (sb.2 _ S.TOz).trans TO'
    · exact SV.st_at (f1 _ _ h1') fun o q => (sb.2 _ (Ne.symm S.zi1)).trans q
    · exact SV.st_at (f2 _ _ h2') fun o q => (sb.2 _ (Ne.symm S.zi2)).trans q
    · exact SV.st_at (f3 _ _ h3') fun o q => (sb.2 _ (Ne.symm S.zi3)).trans q
    · have hlt : c < s.heap.objs.size := by
        have e' : c = z ∨ c = TI ∨ c = TO ∨ c = i1 ∨ c = i2 ∨ c = i3 := by simpa using hcm
        rcases e' with q | q | q | q | q | q
        · rw [q]; exact hzl
        · rw [q]; exact Heap.lt_size hTI
        · rw [q]; exact Heap.lt_size hTO
        · rw [q]; obtain ⟨_, e1, _⟩ := SV.obj h1; exact Heap.lt_size e1
        · rw [q]; obtain ⟨_, e2, _⟩ := SV.obj h2; exact Heap.lt_size e2
        · rw [q]; obtain ⟨_, e3, _⟩ := SV.obj h3; exact Heap.lt_size e3
      rw [upd_ne (Nat.ne_of_lt hlt)]
      exact (hf c hcm).1
  done := by
    intro X hP hw hK hc i pins s σ H E I hf st hg
    subst hP hw hK
    obtain ⟨hz, hTI, ⟨x0, y0, u0, hTO⟩, h1, h2, h3, n1, n2, n3⟩ := st
    obtain ⟨xs, ys, zs, hqx, hqy, hqz, le1, le2, le3, hend⟩ := hg
    obtain ⟨St1, D1, e1, f1⟩ := SV.draws (prog := X.prog) (w := X.w) (A := X.A.in1) (t := t1) (I.ok.hd hc) I hqx n1
    obtain ⟨St2, D2, e2, f2⟩ := SV.draws (prog := X.prog) (w := X.w) (A := X.A.in1) (t := t2) (I.ok.hd hc) I hqy n2
    obtain ⟨St3, D3, e3, f3⟩ := SV.draws (prog := X.prog) (w := X.w) (A := X.A.in1) (t := t3) (I.ok.hd hc) I hqz n3
    exact wpAny_pyNext_zipD3_end S D1 D2 D3 hz hTI hTO (e1 i h1) (e2 i h2) (e3 i h3) le1 le2 le3 (hend.imp Eq.symm (Or.imp Eq.symm Eq.symm)) fun h' tk hk => ⟨rfl, I.turnedL (t' := tk) (ch := [z, TI, TO, i1, i2, i3]) (fun c o hb q =>
      hk c o (fun q' => hb (by simp [q'])) (fun q' => hb (by simp [q'])) (fun q' => hb (by simp [q'])) (fun q' => hb (by simp [q'])) (fun q' => hb (by simp [q'])) q) hf⟩
  self := fun A i s Q E st h => wpAny_pyIter_zip st.1 h
def iZ3 (K : PySem.W.Frag) (ta : TA) : TI := fun σ H R => ta σ H fun vs H1 => ∃ (a b c : SV) (xs ys zs : List V), vs = [a.v, b.v, c.v] ∧ a.at K H1 xs ∧ b.at K H1 ys ∧ c.at K H1 zs ∧ R (ItZ3 K a b c) H1
theorem pi_z3 {X : Cx} {e e2 e3 : Expr} {ta : TA} {p pos tpos : Pos} {elts : List Expr} {kk : Nat} (hg : Gl X "zip") (hm : X.mg "zip" = none) (ha : PA X [e, e2, e3] ta)
    (hs : starEach [e, e2, e3] X.env = (false, eval e X.env) :: starEach [e2, e3] X.env := by rfl) (hpl : (backTo pos (starEach [e2, e3] X.env)).any (·.1) = false := by rfl) :
    PI X (.Tuple elts kk tpos) (.Call (.Name "zip" p) [e, e2, e3] [] pos) (iZ3 X.K ta) := by
  refine ⟨fun pins s σ H R I h => ?_⟩
  refine Call_ (ld_blt I hg hm PyProof.Rows.boot_zip (PyProof.Rows.callWith_type1 (thn (ha.run pos pins s σ H _ I h) fun us s1 ⟨vs, H1, I1, r1, q1⟩ => ?_) hs hpl))
  obtain ⟨a, b, c, xs, ys, zs, ex, q1, q2, q3, q⟩ := q1
  subst ex
  cases r1 with
  | cons r rr =>
    cases rr with
    | cons r' rr =>
      cases rr with
      | cons r'' rr =>
        cases rr
        obtain ⟨t1, rfl⟩ := a.rel r
        obtain ⟨t2, rfl⟩ := b.rel r'
        obtain ⟨t3, rfl⟩ := c.rel r''
        obtain ⟨P1, B1, hp1, lt1⟩ := SV.begins (t := t1) I1 q1
        obtain ⟨P2, B2, hp2, lt2⟩ := SV.begins (t := t2) I1 q2
        obtain ⟨P3, B3, hp3, lt3⟩ := SV.begins (t := t3) I1 q3
        have fresh6 : ∀ c, c ∈ [s1.heap.objs.size + 5, s1.heap.objs.size + 3, s1.heap.objs.size + 4, s1.heap.objs.size, s1.heap.objs.size + 1, s1.heap.objs.size + 2] → FpOk X pins H1 c := fun c hcm => by
          have e' : c = s1.heap.objs.size + 5 ∨ c = s1.heap.objs.size + 3 ∨ c = s1.heap.objs.size + 4 ∨ c = s1.heap.objs.size ∨ c = s1.heap.objs.size + 1 ∨ c = s1.heap.objs.size + 2 := by simpa using hcm
          have hle : s1.heap.objs.size ≤ c := by
            rcases e' with z | z | z | z | z | z
            · rw [z]; exact Nat.le_add_right _ _
            · rw [z]; exact Nat.le_add_right _ _
            · rw [z]; exact Nat.le_add_right _ _
            · rw [z]; exact Nat.le_refl _
            · rw [z]; exact Nat.le_add_right _ _
            · rw [z]; exact Nat.le_add_right _ _
          exact I1.fpOk hle (I1.hok.fresh hle)
        refine zip_begins3 B1 B2 B3 hp1 hp2 hp3 fun h' hz hTI hTO g1 g2 g3 hsz hk => wpAny_pyIter_zip hz ?_
        have I2 : Inv X pins σ H1 { s1 with heap := h' } := I1.kept (t' := s1.toks) hk
        exact ⟨s1.heap.objs.size + 5, [s1.heap.objs.size + 5, s1.heap.objs.size + 3, s1.heap.objs.size + 4, s1.heap.objs.size, s1.heap.objs.size + 1, s1.heap.objs.size + 2], _, _, H1, rfl, I2,
          turn_z3 (t1 := t1) (t2 := t2) (t3 := t3) (zip_sep3 lt1 lt2 lt3), ⟨hz, hTI, ⟨_, _, _, hTO⟩, SV.st0 g1, SV.st0 g2, SV.st0 g3, fun c hcm => Nat.ne_of_lt (lt1 c hcm), fun c hcm => Nat.ne_of_lt (Nat.lt_succ_of_lt (lt2 c hcm)), fun c hcm => Nat.ne_of_lt (Nat.lt_succ_of_lt (Nat.lt_succ_of_lt (lt3 c hcm)))⟩, fresh6, q⟩
def zip3D : List D → List D → List D → List D
  | x :: xs, y :: ys, z :: zs => .tup [x, y, z] :: zip3D xs ys zs
  | _, _, _ => []
theorem zip3D_length : ∀ {xs ys zs : List D}, (zip3D xs ys zs).length = min xs.length (min ys.length zs.length)
  | [], _, _ => by simp [zip3D]
  | _ :: _, [], _ => by simp [zip3D]
  | _ :: _, _ :: _, [] => by simp [zip3D]
  | _ :: xs, _ :: ys, _ :: zs => by simp [zip3D, zip3D_length]
theorem zip3D_get : ∀ {xs ys zs : List D} {i : Nat} {d : D}, (zip3D xs ys zs)[i]? = some d → ∃ x y z, xs[i]? = some x ∧ ys[i]? = some y ∧ zs[i]? = some z ∧ d = .tup [x, y, z]
  | [], _, _, _, _, h => by simp [zip3D] at h
  | _ :: _, [], _, _, _, h => by simp [zip3D] at h
  | _ :: _, _ :: _, [], _, _, h => by simp [zip3D] at h
  | x :: xs, y :: ys, z :: zs, 0, d, h => by
    simp [zip3D] at h
    exact ⟨x, y, z, rfl, rfl, rfl, h.symm⟩
  | x :: xs, y :: ys, z :: zs, i + 1, d, h => by
    simp only [zip3D, List.getElem?_cons_succ] at h ⊢
    exact zip3D_get h
def kZip3 (Q : List D → (DHp → Prop) → DHp → Prop) : List D → DHp → Prop := fun ds G => match ds with
  | [x, y, z] => ∃ xs ys zs, walkD G x = some xs ∧ walkD G y = some ys ∧ walkD G z = some zs ∧ Q (zip3D xs ys zs) (fun G' => walkD G' x = some xs ∧ walkD G' y = some ys ∧ walkD G' z = some zs) G
  | _ => False
@[simp] def wiZip3 (ws : WA) : WI := fun ρ G Q => ws ρ G (kZip3 Q)
@[simp] theorem kZip3_three {Q : List D → (DHp → Prop) → DHp → Prop} {x y z : D} {G : DHp} : kZip3 Q [x, y, z] G = ∃ xs ys zs, walkD G x = some xs ∧ walkD G y = some ys ∧ walkD G z = some zs ∧ Q (zip3D xs ys zs) (fun G' => walkD G' x = some xs ∧ walkD G' y = some ys ∧ walkD G' z = some zs) G := rfl
section
variable {X : Cx} {G0 : DHp} {H0 : Hp} {pos : Pos} {e e2 e3 : Expr} {ws : WA}
theorem di_zip3 {p tpos : Pos} {elts : List Expr} {kk : Nat} (hg : Gl X "zip") (hm : X.mg "zip" = none) (ha : DA X G0 H0 [e, e2, e3] ws)
    (hs : starEach [e, e2, e3] X.env = (false, eval e X.env) :: starEach [e2, e3] X.env := by rfl) (hpl : (backTo pos (starEach [e2, e3] X.env)).any (·.1) = false := by rfl) : DI X G0 H0 (.Tuple elts kk tpos) (.Call (.Name "zip" p) [e, e2, e3] [] pos) (wiZip3 ws) :=
  PI.to (pi_z3 hg hm ha hs hpl) fun σ H R ⟨ρ, G, QD, pt, w, k⟩ => ⟨ρ, G, _, pt, w, fun ds G1 vs H1 h1 r1 s1 w1 => by
    unfold kZip3 at w1
    split at w1
    · rename_i x y z
      obtain ⟨v, v', v'', rfl, q, q', q''⟩ := r1.three_inv
      obtain ⟨xs, ys, zs, ex, ey, ez, w1⟩ := w1
      obtain ⟨c1, rfl, f1⟩ := walk_sv h1 q ex
      obtain ⟨c2, rfl, f2⟩ := walk_sv h1 q' ey
      obtain ⟨c3, rfl, f3⟩ := walk_sv h1 q'' ez
      obtain ⟨us1, a1, _⟩ := f1 G1 H1 h1 .refl ex
      obtain ⟨us2, a2, _⟩ := f2 G1 H1 h1 .refl ey
      obtain ⟨us3, a3, _⟩ := f3 G1 H1 h1 .refl ez
      have lz : (zip3D xs ys zs).length = min xs.length (min ys.length zs.length) := zip3D_length
      refine ⟨c1, c2, c3, us1, us2, us3, rfl, a1, a2, a3, k _ _ G1 H1 _ h1 s1 ⟨?_, ?_, ?_⟩ w1⟩
      · intro i G H hi hr s g
        obtain ⟨u1, b1, r1⟩ := f1 G H hr s g.1
        obtain ⟨u2, b2, r2⟩ := f2 G H hr s g.2.1
        obtain ⟨u3, b3, r3⟩ := f3 G H hr s g.2.2
        have l1 := r1.length; have l2 := r2.length; have l3 := r3.length
        exact ⟨u1, u2, u3, u1[i]'(by omega), u2[i]'(by omega), u3[i]'(by omega), b1, b2, b3, List.getElem?_eq_getElem _, List.getElem?_eq_getElem _, List.getElem?_eq_getElem _⟩
      · intro i d G H v H' e hr s g yy
        obtain ⟨T, x', y', z', rfl, hT, rfl, y1, y2, y3⟩ := yy
        obtain ⟨u1, b1, r1⟩ := f1 G H hr s g.1
        obtain ⟨u2, b2, r2⟩ := f2 G H hr s g.2.1
        obtain ⟨u3, b3, r3⟩ := f3 G H hr s g.2.2
        obtain ⟨dx, dy, dz, ex, ey, ez, rfl⟩ := zip3D_get e
        obtain ⟨vx, e1, rx⟩ := r1.get ex
        obtain ⟨vy, e2, ry⟩ := r2.get ey
        obtain ⟨vz, e3, rz⟩ := r3.get ez
        rw [y1 u1 b1] at e1; cases e1
        rw [y2 u2 b2] at e2; cases e2
        rw [y3 u3 b3] at e3; cases e3
        exact ⟨⟨T, [x', y', z'], rfl, .inl upd_same, ⟨x', [y', z'], rfl, rx.mono (mn_upd hT), ⟨y', [z'], rfl, ry.mono (mn_upd hT), Reps.one (rz.mono (mn_upd hT))⟩⟩⟩, hr.newU hT, .newU hT⟩
      · intro G H hr s g
        obtain ⟨u1, b1, r1⟩ := f1 G H hr s g.1
        obtain ⟨u2, b2, r2⟩ := f2 G H hr s g.2.1
        obtain ⟨u3, b3, r3⟩ := f3 G H hr s g.2.2
        have l1 := r1.length; have l2 := r2.length; have l3 := r3.length
        exact ⟨u1, u2, u3, b1, b2, b3, by omega, by omega, by omega, by omega⟩
    · exact w1.elim⟩
end
end TC
set_option maxRecDepth 100000
set_option maxHeartbeats 1000000
/-! TC, part s: the order of pairs of whole numbers; sorted(set(xs)). -/
namespace TC
open PySem PySem.Spec PyProof.Rows L2
/-! ### pairs in order -/
def rGeP (K : PySem.W.Frag) : R2 := fun x y H Q => ∃ (a b : Addr) (i j k l : Int), x = .ref a ∧ y = .ref b ∧ SqT K H a [.int i, .int j] ∧ SqT K H b [.int k, .int l] ∧ Q (.bl (!decide (i < k ∨ (i = k ∧ j < l)))) H
theorem op_geP {X : Cx} (hu : X.A.units < cLine) : OpR X (compareOp .GtE) (rGeP X.K) := by
  intro pins s σ H x y v u Q I rx ry h
  obtain ⟨a, b, i, j, k, l, rfl, rfl, ha, hb, q⟩ := h
  cases rx
  cases ry
  obtain ⟨its, r1, p1, _⟩ := I.tuple ha
  obtain ⟨its2, r2, p2, _⟩ := I.tuple hb
  obtain ⟨u1, u2, rfl, ⟨t1, rfl⟩, ⟨t2, rfl⟩⟩ := vals2 r1
  obtain ⟨w1, w2, rfl, ⟨t3, rfl⟩, ⟨t4, rfl⟩⟩ := vals2 r2
  have eqd : ∀ x y : Int, (x == y) = decide (x = y) := fun x y => by
    by_cases q : x = y
    · rw [decide_eq_true q]; exact beq_iff_eq.mpr q
    · rw [decide_eq_false q]; exact beq_eq_false_iff_ne.mpr q
  have R := Ob.RcOp.tuples_ge (A := X.A) (s := s) (e := fun m => if m = 0 then decide (i = k) else decide (j = l)) (r := fun m => if m = 0 then decide (k ≤ i) else decide (l ≤ j)) p1 p2 hu (fun m h1 h2 => by
    have : m = 0 ∨ m = 1 := by simp at h1; omega
    rcases this with rfl | rfl
    · show SeqAt.EqAt _ _ (.int i t1) (.int k t3) (decide (i = k))
      rw [← eqd]; exact SeqAt.EqAt.int_int _ _ _ _
    · show SeqAt.EqAt _ _ (.int j t2) (.int l t4) (decide (j = l))
      rw [← eqd]; exact SeqAt.EqAt.int_int _ _ _ _) (fun m h1 h2 _ => by
    have : m = 0 ∨ m = 1 := by simp at h1; omega
    rcases this with rfl | rfl
    · exact Ob.RcOp.ge_int _ _ _ _
    · exact Ob.RcOp.ge_int _ _ _ _)
  have val : Ob.lexAt (fun m => if m = 0 then decide (i = k) else decide (j = l)) (fun m => if m = 0 then decide (k ≤ i) else decide (l ≤ j)) true 0 2 = !decide (i < k ∨ (i = k ∧ j < l)) := by
    simp only [Ob.lexAt]
    by_cases e1 : i = k
    · by_cases e2 : j = l
      · simp [e1, e2]
      · simp only [e1, e2]
        simp
        by_cases e3 : l ≤ j
        · simp [e3]
        · simp [e3]; omega
    · simp only [e1]
      simp
      by_cases e3 : k ≤ i
      · simp [e3]
      · simp [e3]; omega
  have z : wpAny (model X.prog X.w) X.A (compareOp .GtE (.ref a) (.ref b)) (EP X pins σ Q) X.xe s := R X.prog X.w X.xe (EP X pins σ Q) ⟨.bl _, H, I, by
    show RelV (.bl (!decide (i < k ∨ (i = k ∧ j < l)))) _
    rw [← val]; rfl, q⟩
  exact z
def rLtP (K : PySem.W.Frag) : R2 := fun x y H Q => ∃ (a b : Addr) (i j k l : Int), x = .ref a ∧ y = .ref b ∧ SqT K H a [.int i, .int j] ∧ SqT K H b [.int k, .int l] ∧ Q (.bl (decide (i < k ∨ (i = k ∧ j < l)))) H
theorem op_ltP {X : Cx} (hu : X.A.units < cLine) : OpR X (compareOp .Lt) (rLtP X.K) := by
  intro pins s σ H x y v u Q I rx ry h
  obtain ⟨a, b, i, j, k, l, rfl, rfl, ha, hb, q⟩ := h
  refine op_ltT hu pins s σ H _ _ v u Q I rx ry ⟨a, b, [i, j], [k, l], rfl, rfl, ha, hb, ?_⟩
  have : HT.lexLt [i, j] [k, l] = decide (i < k ∨ (i = k ∧ j < l)) := by
    rw [HT.lexLt_cons, HT.lexLt_cons, HT.lexLt_nil_nil]
    by_cases e1 : i = k
    · rw [if_pos e1]
      by_cases e2 : j = l
      · rw [if_pos e2]; simp [e1, e2]
      · rw [if_neg e2]; simp [e1]
    · rw [if_neg e1]; simp [e1]
  rw [this]; exact q
def pairD (p : Int × Int) : D := .tup [.int p.1, .int p.2]
def ltP (p q : Int × Int) : Prop := p.1 < q.1 ∨ (p.1 = q.1 ∧ p.2 < q.2)
instance {p q : Int × Int} : Decidable (ltP p q) := by unfold ltP; exact inferInstance
def dLtP (b : Bool) : WR2 := fun x y G Q => ∃ p q : Int × Int, x = pairD p ∧ y = pairD q ∧ Q (.bl (b != decide (ltP p q))) G
section
variable {K : PySem.W.Frag}
theorem pair_sq {H : Hp} {p : Int × Int} {v : V} (r : Rep K H (pairD p) v) : ∃ a, v = .ref a ∧ SqT K H a [.int p.1, .int p.2] := by
  obtain ⟨a, vs, rfl, h, rs⟩ := r
  obtain ⟨u, w, rfl, e1, e2⟩ := rs.two_inv
  cases e1; cases e2
  exact ⟨a, rfl, .inl h⟩
theorem od_ltP : OpD K (rLtP K) (dLtP false) := by
  intro x y v u G H Q QD hr rx ry w k
  obtain ⟨p, q, rfl, rfl, w⟩ := w
  obtain ⟨a, rfl, ha⟩ := pair_sq rx
  obtain ⟨b, rfl, hb⟩ := pair_sq ry
  exact ⟨a, b, _, _, _, _, rfl, rfl, ha, hb, k (.bl _) G _ H hr (by show _ = _; congr 1; rw [Bool.false_bne]; unfold ltP; congr) .refl w⟩
theorem od_geP : OpD K (rGeP K) (dLtP true) := by
  intro x y v u G H Q QD hr rx ry w k
  obtain ⟨p, q, rfl, rfl, w⟩ := w
  obtain ⟨a, rfl, ha⟩ := pair_sq rx
  obtain ⟨b, rfl, hb⟩ := pair_sq ry
  exact ⟨a, b, _, _, _, _, rfl, rfl, ha, hb, k (.bl _) G _ H hr (by show _ = _; congr 1; rw [Bool.true_bne]; unfold ltP; congr) .refl w⟩
/-- whole numbers, texts, pairs -/
def dLtA : WR2 := fun x y G Q => dLt x y G Q ∨ dLtP false x y G Q
def dGeA : WR2 := fun x y G Q => dGe x y G Q ∨ dLtP true x y G Q
theorem or_ltA {X : Cx} (hu : X.A.units + 64 < cLine) : OpR X (compareOp .Lt) (fun x y H Q => rOrd pLt qLt x y H Q ∨ rLtP X.K x y H Q) := or_lt.or (op_ltP (by omega))
theorem or_geA {X : Cx} (hu : X.A.units + 64 < cLine) : OpR X (compareOp .GtE) (fun x y H Q => rOrd pGe qGe x y H Q ∨ rGeP X.K x y H Q) := or_ge.or (op_geP (by omega))
theorem od_ltA : OpD K (fun x y H Q => rOrd pLt qLt x y H Q ∨ rLtP K x y H Q) dLtA := od_ord.or od_ltP
theorem od_geA : OpD K (fun x y H Q => rOrd pGe qGe x y H Q ∨ rGeP K x y H Q) dGeA := od_ord.or od_geP
end
end TC
set_option maxRecDepth 100000
set_option maxHeartbeats 4000000
/-! TC, part t: sorted(set(xs)) of whole numbers and of pairs of such. -/
namespace TC
open PySem PySem.Spec PyProof.Rows L2
section
variable {P : Program} {w : World} {A : Around} {E : Value → Shared → Prop} {s : Shared}
set_option maxRecDepth 100000 in
set_option maxHeartbeats 3200000 in
theorem setOfInts {l : Addr} {items : Array Value} (ns : List Int) {Q : Value → Shared → Prop} (hh : A.handled = none) (hl : s.heap.IsList l items) (hit : IntsAre items.toList ns) (hb : ns.length + 1 < scanBound)
    (h : ∀ (h' : Heap) (tk c : Nat), SetR w h' s.heap.objs.size (fun j => decide (j ∈ ns)) c → c ≤ ns.length → (∀ b o, s.heap.get? b = some o → h'.get? b = some o) → Q (.ref s.heap.objs.size) { s with heap := h', toks := tk }) :
    wpAny (model P w) A (call (.type "set") [.ref l]) Q E s := by
  have hisz : items.size = ns.length := by
    have q := IntsAre.length hit
    rw [Array.length_toList] at q
    exact q
  obtain ⟨c, tl, hmro⟩ := F.called_set.mro
  have hmade := F.called_set.made
  have hsub := F.called_set.sub
  refine wpAny_call (codeAny_of_tree ?_)
  show wpAny _ _ (callAny (.type "set") _) _ _ _
  refine wpAny_pure ⟨Code.quiet_builtin _ (by decide +kernel), codeAny_builtin F.entry_type_call ?_⟩
  rw [Around.under_plain (weight_type_call_type "set" [.ref l] []) rfl]
  have h1 := F.called_set.notType
  have h2 := F.called_set.canCreate
  have hct := F.typeCall_set_1 (.ref l)
  repeat (any_goals (first | assumption | wp_step))

  refine codeAny_mono (code_set_led1 (.ref l) (E := E) (Q₁ := fun obj s₁ => obj = .ref s.heap.objs.size ∧ s₁ = { s with heap := s.heap.push { cls := .type "set", dict := none, data := .set #[] 0 (.fresh 0 0 (!w.params.followText "set-order")) } }) ⟨rfl, rfl⟩) fun r s₁ hr => ?_
  cases r with
  | error e => exact hr
  | ok fl =>
    cases fl with
    | ret obj =>
      obtain ⟨rfl, rfl⟩ := hr
      have hS : (s.heap.push { cls := .type "set", dict := none, data := .set #[] 0 (.fresh 0 0 (!w.params.followText "set-order")) }).get? s.heap.objs.size = some { cls := .type "set", dict := none, data := .set #[] 0 (.fresh 0 0 (!w.params.followText "set-order")) } := Heap.get?_push_size _ rfl
      have hT : Shared.TypeIs { s with heap := s.heap.push { cls := .type "set", dict := none, data := .set #[] 0 (.fresh 0 0 (!w.params.followText "set-order")) } } (.ref s.heap.objs.size) "set" := ⟨_, hS, rfl⟩
      have hli := F.called_set.init.lookup
      have hbi := F.called_set.init.bind (.ref s.heap.objs.size)
      repeat (any_goals (first | assumption | wp_step))

      refine codeAny_mono (codeAny_call_builtin (R := wants (fun r s₂ => r = .none ∧ ∃ h' tk c, s₂ = { s with heap := h', toks := tk } ∧ SetR w h' s.heap.objs.size (fun j => decide (j ∈ ns)) c ∧ c ≤ ns.length ∧
          (∀ b o, s.heap.get? b = some o → h'.get? b = some o)) E) F.called_set.init.plain F.entry_set_init (check_set_init_1 hT ?_)) fun r₂ s₂ hr₂ => ?_
      · obtain ⟨ol, hol, hcl, nl, hdl⟩ := hl
        obtain ⟨ocls, odict, odata, oslots⟩ := ol
        simp only at hcl hdl
        subst hcl; subst hdl
        have hol' : (s.heap.push { cls := .type "set", dict := none, data := .set #[] 0 (.fresh 0 0 (!w.params.followText "set-order")) }).get? l = some { cls := .type "list", dict := odict, data := .seq items nl, slots := oslots } := Heap.get?_push_of_some _ hol
        have hsls := F.sub_list_set
        have hslf := F.sub_list_frozenset
        have hne : (Value.type "list" == Value.type "dict") = false := by decide
        have hl1 : (s.heap.push { cls := .type "set", dict := none, data := .set #[] 0 (.fresh 0 0 (!w.params.followText "set-order")) }).IsList l items := ⟨_, hol', rfl, nl, rfl⟩
        unfold Builtin.«set.__init__» noKeywords Builtin.Frozenset.updateFrom
        generalize hPI : pyIter = PI
        wp_walk
        subst hPI

        refine wpAny_pyIter_list hl1 ?_
        refine wpAny_bind (wpAny_runValue ?_)
        have hlS : l < s.heap.objs.size := Heap.lt_size hol
        have hh3 : A.in1.in1.in1.handled = none := by simp [hh]
        have hz1 : (s.heap.push { cls := .type "set", dict := none, data := .set #[] 0 (.fresh 0 0 (!w.params.followText "set-order")) }).objs.size = s.heap.objs.size + 1 := Heap.size_push ..
        have hneI : l ≠ (s.heap.push { cls := .type "set", dict := none, data := .set #[] 0 (.fresh 0 0 (!w.params.followText "set-order")) }).objs.size := by
          rw [Heap.size_push]; exact Nat.ne_of_lt (Nat.lt_succ_of_lt hlS)
        have hSf : s.heap.objs.size ∉ [(s.heap.push { cls := .type "set", dict := none, data := .set #[] 0 (.fresh 0 0 (!w.params.followText "set-order")) }).objs.size, l] := by
          rw [Heap.size_push]; simp only [List.mem_cons, List.mem_singleton, List.not_mem_nil, or_false, not_or]
          exact ⟨Nat.ne_of_lt (Nat.lt_succ_self _), Nat.ne_of_gt hlS⟩
        have hval : ∀ (i : Nat) (v : Value), items[i]? = some v → ∃ k t, ns[i]? = some k ∧ v = .int k t := fun i v hv => by
          have hi : i < ns.length := by rw [← hisz]; exact (Array.getElem?_eq_some_iff.mp hv).1
          obtain ⟨t, e⟩ := PyProof.Rows.IntsAre.int_at hit i v (by rw [Array.getElem?_toList]; exact hv)
          refine ⟨ns[i], t, List.getElem?_eq_getElem hi, ?_⟩
          rw [e, List.getD_eq_getElem?_getD, List.getElem?_eq_getElem hi] <;> rfl
        refine set_update_ints ((Walks.list hh3 _ l hneI items).toS) s.heap.objs.size
          hSf ns hisz hb hval (items.size - 0) 0 _ (by omega) (Nat.zero_le _)
          ⟨⟨_, Heap.get?_push_size _ rfl, rfl, rfl⟩, (hl1.push _)⟩ ?hS0 ?hR
        case hS0 =>
          have hget : ((s.heap.push { cls := .type "set", dict := none, data := .set #[] 0 (.fresh 0 0 (!w.params.followText "set-order")) }).push { cls := .type "list_iterator", data := .fields #[.ref l, .int 0 0] }).get? s.heap.objs.size
              = some { cls := .type "set", dict := none, data := .set #[] 0 (.fresh 0 0 (!w.params.followText "set-order")) } := Heap.get?_push_of_some _ hS
          exact ⟨0, Nat.le_refl 0, setR_new_at hget⟩
        case hR =>
          intro s' c' hm hc' hS'
          obtain ⟨h', g2, d', tk', os'⟩ := s'
          have eg : g2 = s.gens := hm.gens
          have ed : d' = s.drawn := hm.drawn
          have eo : os' = s.os := hm.os
          subst eg; subst ed; subst eo
          show wpAny _ _ _ _ _ _
          refine wpAny_pure ?_
          show wpAny _ _ (ret Value.none) _ _ _
          rw [hisz] at hc'
          refine wpAny_pure ⟨rfl, h', tk', c', rfl, hS', hc', fun b o e => ?_⟩
          have hb0 : b < s.heap.objs.size := Heap.lt_size e
          have hb1 : b ≠ s.heap.objs.size := Nat.ne_of_lt hb0
          have hb2 : b ≠ (s.heap.push { cls := .type "set", dict := none, data := .set #[] 0 (.fresh 0 0 (!w.params.followText "set-order")) }).objs.size := by
            rw [Heap.size_push]; exact Nat.ne_of_lt (Nat.lt_succ_of_lt hb0)
          exact hm.heap b o (by simp only [List.mem_cons, List.mem_singleton, List.not_mem_nil, or_false, not_or]; exact ⟨hb1, hb2⟩) (Heap.get?_push_of_some _ (Heap.get?_push_of_some _ e))

      · cases r₂ with
        | error e => exact hr₂
        | ok fl₂ =>
          cases fl₂ with
          | ret r =>
            obtain ⟨rfl, h', tk, c', rfl, hS', hc', hk'⟩ := hr₂
            repeat (any_goals (first | assumption | wp_step))
            exact h _ _ _ hS' hc' hk'
          | _ => exact hr₂.elim
    | _ => exact hr.elim

end
def rSetInts (K : PySem.W.Frag) (w : World) : List V → Hp → VK → Prop := fun xs H Q => ∃ (l : Addr) (ns : List Int), xs = [V.ref l] ∧ SqL K H l (ns.map V.int) ∧ ns.length < 63 ∧
  ∀ a S n, H a = none → (∀ k, S k = true ↔ k ∈ ns) → n ≤ ns.length → Q (.ref a) (upd H a (SetO w a S n))
theorem cr_setInts {X : Cx} (hc : X.calm = true) : CallR X (.type "set") (rSetInts X.K X.w) := by
  intro pins s σ H xs us Q I r h
  obtain ⟨l, ns, rfl, hl, hf, q⟩ := h
  rw [Vals.ref1 r]
  obtain ⟨its, rv, pl, hz⟩ := I.list hl
  have hn : H s.heap.objs.size = none := I.hok.fresh (Nat.le_refl _)
  refine setOfInts (P := X.prog) (w := X.w) ns (I.ok.hd hc) pl.isList (by simpa using Vals.ints rv) (by unfold scanBound; omega) fun h' tk c R hc' k => ?_
  exact ⟨.ref s.heap.objs.size, upd H s.heap.objs.size (SetO X.w s.heap.objs.size (fun j => decide (j ∈ ns)) c), I.laid (t' := tk) k (Nat.le_refl _) (setO_new R), rfl, q _ _ _ hn (fun k => by simp) hc'⟩
def rSetA (X : Cx) : List V → Hp → VK → Prop := fun xs H Q => rSetInts X.K X.w xs H Q ∨ rSetOfT X.K X.prog X.w xs H Q
theorem cr_setA {X : Cx} (hc : X.calm = true) (hu : X.A.units + 64 < cLine) : CallR X (.type "set") (rSetA X) := by
  intro pins s σ H xs us Q I r h
  rcases h with h | h
  · exact cr_setInts hc pins s σ H xs us Q I r h
  · exact cr_setOfT hc hu pins s σ H xs us Q I r h
def rSortA2 (X : Cx) : List V → Hp → VK → Prop := fun xs H Q => rSortedSet X.w xs H Q ∨ rSortedT X.K X.prog X.w xs H Q
theorem cr_sortA2 {X : Cx} (hc : X.calm = true) : CallR X (.builtin "sorted") (rSortA2 X) := by
  intro pins s σ H xs us Q I r h
  rcases h with h | h
  · exact cr_sortedSet hc pins s σ H xs us Q I r h
  · exact cr_sortedT hc pins s σ H xs us Q I r h
/-- sorted(set(xs)) -/
def dSortSet (x : D) (G : DHp) (Q : DK) : Prop :=
  (∃ (a : Addr) (ns : List Int), x = .ref a ∧ G a = some (.lst (ns.map .int)) ∧ ns.length < 63 ∧ ∀ (ms : List Int) (p : Addr), ms.Pairwise (· < ·) → (∀ k : Int, k ∈ ms ↔ k ∈ ns) → G p = none → Q (.ref p) (updD G p (.lst (ms.map .int)))) ∨
  ∃ (a : Addr) (ps : List (Int × Int)), x = .ref a ∧ G a = some (.lst (ps.map pairD)) ∧ ps.length < 63 ∧ (∀ q ∈ ps, (0 ≤ q.1 ∧ q.1 < 64) ∧ 0 ≤ q.2 ∧ q.2 < 64) ∧
    ∀ (qs : List (Int × Int)) (p : Addr), qs.Pairwise ltP → (∀ q, q ∈ qs ↔ q ∈ ps) → G p = none → Q (.ref p) (updD G p (.lst (qs.map pairD)))
@[simp] def wSortSet (we : WE) : WE := fun ρ G Q => we ρ G fun x G1 => dSortSet x G1 Q
theorem pair_rd {K : PySem.W.Frag} {H : Hp} {p : Int × Int} {v : V} (r : Rep K H (pairD p) v) : ∃ a, v = .ref a ∧ Rd H a (.tup [.int p.1, .int p.2]) := by
  obtain ⟨a, vs, rfl, h, rs⟩ := r
  obtain ⟨u, w, rfl, e1, e2⟩ := rs.two_inv
  cases e1; cases e2
  exact ⟨a, rfl, h⟩
theorem pairs_of {K : PySem.W.Frag} {H : Hp} : ∀ {ps : List (Int × Int)} {vs : List V}, Reps K H (ps.map pairD) vs → ∃ ks : List (Addr × List Int), vs = ks.map (fun p => V.ref p.1) ∧ ks.map (·.2) = ps.map (fun q => [q.1, q.2]) ∧ ∀ p ∈ ks, Rd H p.1 (.tup (p.2.map V.int))
  | [], vs, r => by cases r; exact ⟨[], rfl, rfl, fun _ h => absurd h List.not_mem_nil⟩
  | q :: ps, vs, r => by
    obtain ⟨v, t, rfl, h1, h2⟩ := r
    obtain ⟨a, rfl, ha⟩ := pair_rd h1
    obtain ⟨ks, rfl, e, hk⟩ := pairs_of h2
    refine ⟨(a, [q.1, q.2]) :: ks, rfl, by simp [e], fun p hp => ?_⟩
    rcases List.mem_cons.mp hp with rfl | hp
    · exact ha
    · exact hk p hp
def toP : List Int → Int × Int
  | [i, j] => (i, j)
  | _ => (0, 0)
theorem reps_pairs {K : PySem.W.Frag} {H : Hp} : ∀ {ks : List (Addr × List Int)}, (∀ p ∈ ks, ∃ i j, p.2 = [i, j] ∧ Rd H p.1 (.tup [.int i, .int j])) → Reps K H ((ks.map fun p => toP p.2).map pairD) (ks.map fun p => V.ref p.1)
  | [], _ => rfl
  | p :: ks, h => by
    obtain ⟨i, j, e, hr⟩ := h p (List.mem_cons_self ..)
    refine ⟨_, _, rfl, ⟨p.1, [.int i, .int j], rfl, hr, ?_⟩, reps_pairs fun q hq => h q (List.mem_cons_of_mem _ hq)⟩
    show Reps K H [D.int (toP p.2).1, D.int (toP p.2).2] [V.int i, V.int j]
    rw [e]
    exact ⟨_, _, rfl, rfl, _, _, rfl, rfl, rfl⟩
section
variable {X : Cx} {G0 : DHp} {H0 : Hp} {pos p1 p2 q : Pos} {e : Expr} {we : WE}
theorem de_sortset (hc : X.calm = true) (hu : X.A.units + 64 < cLine) (hg : Gl X "sorted") (hm : X.mg "sorted" = none) (hg2 : Gl X "set") (hm2 : X.mg "set" = none) (he : DE X G0 H0 e we)
    (na : starEach [e] X.env = (false, eval e X.env) :: starEach [] X.env := by rfl) :
    DE X G0 H0 (.Call (.Name "sorted" p1) [.Call (.Name "set" p2) [e] [] q] [] pos) (wSortSet we) := by
  have hset := pe_callTy (X := X) (cr_setA hc hu) hg2 hm2 PyProof.Rows.boot_set (pa_cons he pa_nil na) (p := p2) (pos := q) (he := na) (hpl := rfl)
  have hall := pe_callB (X := X) (cr_sortA2 hc) hg hm PyProof.Rows.boot_sorted (pa_cons hset pa_nil) (p := p1) (pos := pos)
  refine PE.to hall fun σ H Q ⟨ρ, G, QD, pt, w, k⟩ => ⟨ρ, G, _, pt, w, fun x G1 v H1 h1 r1 s1 w1 => ?_⟩
  rcases w1 with ⟨a, ns, rfl, ga, hl, w1⟩ | ⟨a, ps, rfl, ga, hl, hbd, w1⟩
  · cases r1
    obtain ⟨vs, hh, rs⟩ := h1 a _ ga
    rw [rs.ints] at hh
    refine .inl ⟨a, ns, rfl, SqL.of hh, hl, fun b S n hb hS hn => .inl ⟨b, S, n, rfl, upd_same, by omega, fun ms p hms hmem hlen hp => ?_⟩⟩
    have h2 := h1.newU (x := SetO X.w b S n) hb
    exact k (.ref p) _ _ _ (h2.new hp (o := .lst (ms.map .int)) ⟨_, upd_same, Reps.ofInts⟩) rfl (s1.trans ((Stp.newU hb).trans (Stp.new h2 hp))) (w1 ms p hms (fun k => (hmem k).trans (hS k)) (h2.free hp))
  · cases r1
    obtain ⟨vs, hh, rs⟩ := h1 a _ ga
    obtain ⟨ks, rfl, ek, hk⟩ := pairs_of rs
    have hkl : ks.length = ps.length := by have := congrArg List.length ek; simpa using this
    refine .inr ⟨a, ks, rfl, SqL.of hh, fun p hp => .inl (hk p hp), by omega, fun b L hb hL1 hL2 => .inr ⟨b, L, 2, 64, rfl, upd_same, fun p hp => .inl ((mn_upd (K := X.K) hb).rd (hk p (hL1 p hp))), by omega, fun p hp => ?_, fun L' p pm nd h64 pw hp => ?_⟩⟩
    · have : p.2 ∈ ks.map (·.2) := List.mem_map_of_mem (hL1 p hp)
      rw [ek] at this
      obtain ⟨q, hq, e⟩ := List.mem_map.mp this
      have hb' := hbd q hq
      rw [← e]
      refine ⟨rfl, ?_⟩
      intro x hx
      simp only [List.mem_cons, List.not_mem_nil, or_false] at hx
      rcases hx with rfl | rfl
      · exact hb'.1
      · exact hb'.2
    · have h2 := h1.newU (x := SetTO X.prog X.w b L) hb
      have h2m := mn_upd (K := X.K) (x := SetTO X.prog X.w b L) hb
      have h3m := mn_upd (K := X.K) (x := HO.lst (L'.map fun q => V.ref q.1)) hp
      have form : ∀ p ∈ L', ∃ i j, p.2 = [i, j] ∧ (i, j) ∈ ps := fun p hp => by
        have : p.2 ∈ ks.map (·.2) := List.mem_map_of_mem (hL1 p (pm.subset hp))
        rw [ek] at this
        obtain ⟨q, hq, e⟩ := List.mem_map.mp this
        exact ⟨q.1, q.2, e.symm, hq⟩
      have hreps : Reps X.K (upd (upd H1 b (SetTO X.prog X.w b L)) p (.lst (L'.map fun q => V.ref q.1))) ((L'.map fun p => toP p.2).map pairD) (L'.map fun p => V.ref p.1) := reps_pairs fun p hp => by
        obtain ⟨i, j, e, _⟩ := form p hp
        have := hk p (hL1 p (pm.subset hp))
        rw [e] at this
        exact ⟨i, j, e, h3m.rd (h2m.rd this)⟩
      refine k (.ref p) _ _ _ (h2.new hp (o := .lst ((L'.map fun p => toP p.2).map pairD)) ⟨_, upd_same, hreps⟩) rfl (s1.trans ((Stp.newU hb).trans (Stp.new h2 hp))) (w1 _ p ?_ (fun q => ?_) (h2.free hp))
      · have nd' : L'.Pairwise (fun p q => p.2 ≠ q.2) := List.pairwise_map.mp nd
        rw [List.pairwise_map]
        have both := pw.and nd'
        refine List.Pairwise.imp_of_mem (fun {p q} hp hq h => ?_) both
        obtain ⟨i, j, e, m1⟩ := form p hp
        obtain ⟨i', j', e', m2⟩ := form q hq
        obtain ⟨h1', h2'⟩ := h
        rw [e, e'] at h1' h2' ⊢
        have b1 := hbd _ m1
        have b2 := hbd _ m2
        exact pair_lt h1' h2' b1.1 b1.2 b2.1 b2.2
      · constructor
        · intro hq
          obtain ⟨p, hp, e⟩ := List.mem_map.mp hq
          obtain ⟨i, j, e', m⟩ := form p hp
          rw [e'] at e
          exact e ▸ m
        · intro hq
          have : [q.1, q.2] ∈ ks.map (·.2) := by rw [ek]; exact List.mem_map.mpr ⟨q, hq, rfl⟩
          obtain ⟨p, hp, e⟩ := List.mem_map.mp this
          obtain ⟨p', hp', e'⟩ := List.mem_map.mp (hL2 p hp)
          refine List.mem_map.mpr ⟨p', pm.symm.subset hp', ?_⟩
          rw [e', e]; rfl
end
end TC
set_option maxRecDepth 100000
/-! SA: shows and scripts recognized. -/
namespace TC
open PySem PySem.Spec PyProof.Rows L2

/-! ### short words -/
section
variable {G G' : DHp} {Q : DK} {d row x : D} {xs : List D} {i : Int} {a : Addr}
theorem itemsD_ext (e : Ext G G') (h : itemsD G d = some xs) : itemsD G' d = some xs := by
  cases d with
  | ref a =>
    unfold itemsD at h ⊢
    simp only at h ⊢
    split at h
    · rename_i ys ea
      rw [e a _ ea]; exact h
    · cases h
  | _ => exact h
theorem dLen_items (h : itemsD G row = some xs) (w : Q (.int xs.length) G) : dLen [row] G Q := by
  cases row with
  | tup ys => cases h; exact w
  | ft ys => cases h; exact w
  | kt ys => cases h; exact w
  | rl ys => cases h; exact w
  | ref a =>
    unfold itemsD at h
    simp only at h
    split at h
    · rename_i ys ea
      cases h
      exact ⟨_, ea, w⟩
    · cases h
  | _ => cases h
theorem dIx_items (h : itemsD G row = some xs) (e : pick xs i = some x) (w : Q x G) : dIx row (.int i) G Q := by
  cases row with
  | tup ys => cases h; rw [dIx_tup, e]; exact w
  | ft ys => cases h; rw [dIx_ft, e]; exact w
  | kt ys => cases h; rw [dIx_kt, e]; exact w
  | rl ys => cases h; rw [dIx_rl, e]; exact w
  | ref a =>
    unfold itemsD at h
    simp only at h
    split at h
    · rename_i ys ea
      cases h
      rw [dIx_ref]
      exact ⟨_, ea, by rw [e]; exact w⟩
    · cases h
  | _ => cases h
theorem intsD_mem {lo : Int} {n : Nat} (h : x ∈ intsD lo n) : ∃ i : Nat, i < n ∧ x = .int (lo + (i : Int)) := by
  unfold intsD at h
  obtain ⟨i, hi, rfl⟩ := List.mem_map.mp h
  exact ⟨i, List.mem_range.mp hi, rfl⟩
@[simp] theorem intsD_length {lo : Int} {n : Nat} : (intsD lo n).length = n := by simp [intsD]
theorem dAll_map {c : D → Bool} {p : Addr} {G : DHp} {xs : List D} (f : D → D) (hf : ∀ x ∈ xs, f x = .bl (c x)) (w : Q (.bl (xs.all c)) (updD G p (.lst (xs.map f)))) : dAll [.ref p] (updD G p (.lst (xs.map f))) Q := by
  rw [dAll_ref]
  refine ⟨xs.map c, ?_, ?_⟩
  · rw [updD_same]
    have : xs.map f = (xs.map c).map D.bl := by
      rw [List.map_map]
      exact List.map_congr_left fun x hx => by rw [hf x hx]; rfl
    rw [this]
  · have : (xs.map c).all id = xs.all c := by simp [List.all_map]
    rw [this]; exact w
end
@[simp] theorem updD_at {G : DHp} {a : Addr} {o : DO} : updD G a o a = some o := updD_same
@[simp] theorem startD_nil {N : List Str} : startD N [] = List.replicate N.length none := by simp [startD]

theorem notEmpty_all {c : D → Bool} : ∀ xs : List D, (xs.filter fun d => !c d).isEmpty = xs.all c
  | [] => rfl
  | x :: xs => by
    by_cases h : c x = true
    · simp [h, notEmpty_all xs]
    · simp [h]
theorem dEq_nil {G : DHp} {Q : DK} {p q : Addr} {xs : List D} (n : Nat) (hp : G p = some (.lst xs)) (hq : G q = some (.lst [])) (hn : n < 20) (hl : xs.length ≤ 1000 * (n + 1)) (h : ∀ d ∈ xs, Kn n G d) (w : Q (.bl xs.isEmpty) G) : dEq (.ref p) (.ref q) G Q :=
  dEqD_nil (neg := false) hp hq hn hl h (by simpa using w)
theorem dNe_nil {G : DHp} {Q : DK} {p q : Addr} {xs : List D} (n : Nat) (hp : G p = some (.lst xs)) (hq : G q = some (.lst [])) (hn : n < 20) (hl : xs.length ≤ 1000 * (n + 1)) (h : ∀ d ∈ xs, Kn n G d) (w : Q (.bl (!xs.isEmpty)) G) : dNe (.ref p) (.ref q) G Q :=
  dEqD_nil (neg := true) hp hq hn hl h (by simpa using w)
theorem dEq_nilT {G : DHp} {Q : DK} {xs : List D} (n : Nat) (hn : n < 20) (hl : xs.length ≤ 1000 * (n + 1)) (h : ∀ d ∈ xs, Kn n G d) (w : Q (.bl xs.isEmpty) G) : dEq (.tup xs) (.tup []) G Q :=
  dEqD_nilT (neg := false) hn hl h (by simpa using w)
theorem ne_new {G : DHp} {p q : Addr} {o : DO} (h : updD G p o q = none) : p ≠ q := fun z => by subst z; rw [updD_same] at h; cases h
/-! ### what shows and scripts are -/
def wholeB (lo hi : Int) : D → Bool
  | .int i => decide (lo ≤ i) && decide (i ≤ hi)
  | _ => false
def wideB (lo hi : Int) : D → Bool
  | .tup xs => decide (lo ≤ xs.length) && decide ((xs.length : Int) ≤ hi)
  | _ => false
def letB (c : Nat) : Bool := decide (c ∈ (Str.ofString "abcdefghijklmnopqrstuvwxyz").cps)
def chanB : D → Bool
  | .str z => decide (1 ≤ z.length) && (decide (z.length ≤ 8) && z.cps.toList.all letB)
  | _ => false
def ltAt (zs : List Str) (i : Nat) : Bool := match zs[i]?, zs[i + 1]? with
  | some a, some b => decide (a.cps.toList < b.cps.toList)
  | _, _ => false
def climbR (zs : List Str) : Bool := (List.range (zs.length - 1)).all (ltAt zs)
def strOf : D → Str
  | .str z => z
  | _ => ⟨#[]⟩
def nameOf : D → Str
  | .tup (.str z :: _) => z
  | _ => ⟨#[]⟩
def moveB (chs : List Str) : D → Bool
  | .tup [.str z, .int l] => decide (z ∈ chs) && (decide (0 ≤ l) && decide (l ≤ 100))
  | _ => false
def cueB (chs : List Str) : D → Bool
  | .tup ms => ms.all (moveB chs) && climbR (ms.map nameOf)
  | _ => false
def showB : D → Bool
  | .tup [.tup cs, .tup us] => (decide (1 ≤ cs.length) && decide (cs.length ≤ 4)) && (cs.all chanB && (climbR (cs.map strOf) && us.all (cueB (cs.map strOf))))
  | _ => false
def modeB (ms : List Str) : D → Bool
  | .str z => decide (z ∈ ms)
  | _ => false
def restB (w : Str) (n : Int) (rest : List D) : Bool :=
  if w = "set" then (match rest with
    | [c, l, m] => chanB c && (wholeB 0 100 l && modeB ["track", "only"] m)
    | _ => false)
  else if w = "clear" then (match rest with
    | [c, m] => chanB c && modeB ["track", "only"] m
    | _ => false)
  else if w = "delete" then (match rest with
    | [m] => modeB ["keep", "drop"] m
    | _ => false)
  else if w = "copy" then (match rest with
    | [.int k] => (decide (1 ≤ k) && decide (k ≤ 5)) && !(k == n)
    | _ => false)
  else decide (w ∈ (["block", "insert", "swap"] : List Str)) && rest.isEmpty
def stepB : D → Bool
  | .tup (.str w :: .int n :: rest) => (decide (1 ≤ n) && decide (n ≤ 5)) && restB w n rest
  | _ => false
def scriptB : D → Bool
  | .tup xs => decide (xs.length ≤ 4) && xs.all stepB
  | _ => false

/-! ### is_whole, is_wide -/
abbrev sp_is_whole : DSp := sp3 fun v lo hi G Q _ => ∃ a b n, lo = .int a ∧ hi = .int b ∧ Kn n G v ∧ Q (.bl (wholeB a b v)) G
abbrev sp_is_wide : DSp := sp3 fun v lo hi G Q _ => ∃ a b n, lo = .int a ∧ hi = .int b ∧ Kn n G v ∧ Q (.bl (wideB a b v)) G
def b_is_whole  (E : DXK) : WS :=
  (wRet (weAnd (wIsi .int (wVar 0)) (weAnd (weNot (wIsi .bool (wVar 0))) (wChain dLe dLe (wVar 1) (wVar 0) (wVar 2)))))
abbrev N_is_whole : List Str := ["value", "low", "high"]
abbrev Okb_is_whole  (sp : DSp) : Prop := ∀ ds G Q E, sp ds G Q E → b_is_whole  E { nx := fun _ G' => Q .non G', rt := Q } (startD N_is_whole ds) G
def b_is_wide  (E : DXK) : WS :=
  (wRet (weAnd (wIsi .tup (wVar 0)) (wChain dLe dLe (wVar 1) (wCB dLen (wCons (wVar 0) wNil)) (wVar 2))))
abbrev N_is_wide : List Str := ["value", "low", "high"]
abbrev Okb_is_wide  (sp : DSp) : Prop := ∀ ds G Q E, sp ds G Q E → b_is_wide  E { nx := fun _ G' => Q .non G', rt := Q } (startD N_is_wide ds) G
theorem ok_is_whole : Okb_is_whole sp_is_whole := by
  intro ds G Q E h
  obtain ⟨v, lo, hi, rfl, a, b, n, rfl, rfl, kn, h⟩ := sp3_inv h
  cases v with
  | int i =>
    by_cases h1 : a ≤ i
    · simpa [b_is_whole, startD, kn.isK, kindD, wholeB, h1] using h
    · simpa [b_is_whole, startD, kn.isK, kindD, wholeB, h1] using h
  | _ => simp_all [b_is_whole, startD, kn.isK, kindD, wholeB]
theorem ok_is_wide : Okb_is_wide sp_is_wide := by
  intro ds G Q E h
  obtain ⟨v, lo, hi, rfl, a, b, n, rfl, rfl, kn, h⟩ := sp3_inv h
  cases v with
  | tup xs =>
    by_cases h1 : a ≤ (xs.length : Int)
    · simpa [b_is_wide, startD, kn.isK, kindD, wideB, h1] using h
    · simpa [b_is_wide, startD, kn.isK, kindD, wideB, h1] using h
  | _ => simp_all [b_is_wide, startD, kn.isK, kindD, wideB]
abbrev sp__law_whole : DSp := sp_is_whole
abbrev sp__law_wide : DSp := sp_is_wide
def b__law_whole  (E : DXK) : WS :=
  (wRet (weAnd (wIsi .int (wVar 0)) (weAnd (weNot (wIsi .bool (wVar 0))) (wChain dLe dLe (wVar 1) (wVar 0) (wVar 2)))))
abbrev N__law_whole : List Str := ["value", "low", "high"]
abbrev Okb__law_whole  (sp : DSp) : Prop := ∀ ds G Q E, sp ds G Q E → b__law_whole  E { nx := fun _ G' => Q .non G', rt := Q } (startD N__law_whole ds) G
def b__law_wide  (E : DXK) : WS :=
  (wRet (weAnd (wIsi .tup (wVar 0)) (wChain dLe dLe (wVar 1) (wCB dLen (wCons (wVar 0) wNil)) (wVar 2))))
abbrev N__law_wide : List Str := ["value", "low", "high"]
abbrev Okb__law_wide  (sp : DSp) : Prop := ∀ ds G Q E, sp ds G Q E → b__law_wide  E { nx := fun _ G' => Q .non G', rt := Q } (startD N__law_wide ds) G
theorem ok__law_whole : Okb__law_whole sp__law_whole := ok_is_whole
theorem ok__law_wide : Okb__law_wide sp__law_wide := ok_is_wide

/-! ### is_channel -/
abbrev sp_is_channel : DSp := sp1 fun v G Q _ => ∃ n, Kn n G v ∧ ∀ G', Ext G G' → Q (.bl (chanB v)) G'
def b_is_channel  (E : DXK) : WS :=
  (wSeq (wIf (wtOr (wtNot (wTest (wIsi .str (wVar 0)))) (wtNot (wTest (wChain dLe dLe (wC (.int 1)) (wCB dLen (wCons (wVar 0) wNil)) (wC (.int 8)))))) (wRet (wC (.bl false))) wNext)
  (wRet (wCB dAll (wCons (wLc [1] (wiStr (wVar 0)) (wgName 1) wtYes (wOp (dIn false) (wVar 1) (wC (.str "abcdefghijklmnopqrstuvwxyz")))) wNil))))
abbrev N_is_channel : List Str := ["value", "sign"]
abbrev Okb_is_channel  (sp : DSp) : Prop := ∀ ds G Q E, sp ds G Q E → b_is_channel  E { nx := fun _ G' => Q .non G', rt := Q } (startD N_is_channel ds) G
def signB : D → Bool
  | .str z => z.cps.toList.all letB
  | _ => false
theorem signs_all {l : List Nat} : (l.map fun c => D.str ⟨#[c]⟩).all signB = l.all letB := by
  rw [List.all_map]
  congr 1
  funext c
  simp [signB]
theorem ok_is_channel : Okb_is_channel sp_is_channel := by
  intro ds G Q E h
  obtain ⟨v, rfl, n, kn, h⟩ := sp1_inv h
  cases v with
  | str z =>
    have hl := (kn_str.mp kn).2
    have h0 := h G .refl
    by_cases h1 : 1 ≤ z.length
    · by_cases h2 : z.length ≤ 8
      · simp [b_is_channel, startD, kn.isK, kindD, hl, show (1 : Int) ≤ (z.length : Int) by omega, show (z.length : Int) ≤ 8 by omega]
        refine lc_map (fun d => .bl (signB d)) (by simpa [Str.length] using hl) (fun _ _ => trivial) (fun x hx G1 K e hK => ?_) fun G1 p e hp => ?_
        · obtain ⟨c, _, rfl⟩ := List.mem_map.mp hx
          have := hK G1 .refl
          simpa [dIn, signB, letB] using this
        · refine dAll_map (c := signB) _ (fun _ _ => rfl) ?_
          rw [signs_all, show z.cps.toList.all letB = chanB (.str z) by simp [chanB, h1, h2]]
          exact h _ (e.trans (Ext.new hp))
      · have e2 : ¬ ((z.length : Int) ≤ 8) := by omega
        have e1 : (1 : Int) ≤ (z.length : Int) := by omega
        simpa [b_is_channel, startD, kn.isK, kindD, chanB, hl, e1, e2, h1, h2] using h0
    · have e2 : z.length = 0 := by omega
      simp_all [b_is_channel, startD, kn.isK, kindD, chanB]
  | _ => have h0 := h G .refl; simp_all [b_is_channel, startD, kn.isK, kindD, chanB]
abbrev sp__law_is_channel : DSp := sp_is_channel
def b__law_is_channel  (E : DXK) : WS :=
  (wSeq (wIf (wtOr (wtNot (wTest (wIsi .str (wVar 0)))) (wtNot (wTest (wChain dLe dLe (wC (.int 1)) (wCB dLen (wCons (wVar 0) wNil)) (wC (.int 8)))))) (wRet (wC (.bl false))) wNext)
  (wRet (wOp dEq (wLc [1] (wiStr (wVar 0)) (wgName 1) (wTest (wOp (dIn true) (wVar 1) (wC (.str "abcdefghijklmnopqrstuvwxyz")))) (wVar 1)) (wLst wNil))))
abbrev N__law_is_channel : List Str := ["value", "sign"]
abbrev Okb__law_is_channel  (sp : DSp) : Prop := ∀ ds G Q E, sp ds G Q E → b__law_is_channel  E { nx := fun _ G' => Q .non G', rt := Q } (startD N__law_is_channel ds) G
theorem ok__law_is_channel : Okb__law_is_channel sp__law_is_channel := by
  intro ds G Q E h
  obtain ⟨v, rfl, n, kn, h⟩ := sp1_inv h
  cases v with
  | str z =>
    have hl := (kn_str.mp kn).2
    have h0 := h G .refl
    by_cases h1 : 1 ≤ z.length
    · by_cases h2 : z.length ≤ 8
      · simp [b__law_is_channel, startD, kn.isK, kindD, hl, show (1 : Int) ≤ (z.length : Int) by omega, show (z.length : Int) ≤ 8 by omega]
        refine lc_keep (fun d => !signB d) (by simpa [Str.length] using hl) (fun _ _ => trivial) (fun x hx G1 acc K e ha hK => ?_) fun G1 p e hp => ?_
        · obtain ⟨c, _, rfl⟩ := List.mem_map.mp hx
          have := hK G1 .refl
          by_cases hc : c ∈ (Str.ofString "abcdefghijklmnopqrstuvwxyz").cps
          · simpa [dIn, signB, letB, hc] using this
          · simpa [dIn, signB, letB, hc, ha] using this
        · intro q hq
          refine dEq_nil 0 (by rw [updD_ne (ne_new hq), updD_same]) updD_same (by omega) ?_ ?_ ?_
          · have := List.length_filter_le (fun d => !signB d) (z.cps.toList.map fun c => D.str ⟨#[c]⟩)
            simp [Str.length] at this h2 ⊢
            omega
          · intro d hd
            simp only [List.mem_filter, List.mem_map] at hd
            obtain ⟨⟨c, hc, rfl⟩, _⟩ := hd
            refine kn_str.mpr ⟨?_, by simp [Str.length]⟩
            have hok := (kn_str.mp kn).1
            simp [PyData.strOk] at hok ⊢
            have := Array.mem_toList_iff.mp hc
            obtain ⟨i, hi, rfl⟩ := Array.mem_iff_getElem.mp this
            exact hok i hi
          · rw [notEmpty_all, signs_all, show z.cps.toList.all letB = chanB (.str z) by simp [chanB, h1, h2]]
            exact h _ ((e.trans (Ext.new hp)).trans (Ext.new hq))
      · have e2 : ¬ ((z.length : Int) ≤ 8) := by omega
        have e1 : (1 : Int) ≤ (z.length : Int) := by omega
        simpa [b__law_is_channel, startD, kn.isK, kindD, chanB, hl, e1, e2, h1, h2] using h0
    · have e2 : z.length = 0 := by omega
      simp_all [b__law_is_channel, startD, kn.isK, kindD, chanB]
  | _ => have h0 := h G .refl; simp_all [b__law_is_channel, startD, kn.isK, kindD, chanB]

/-! ### climbs -/
/-- items that are told apart by an order -/
def OrdAt (xs : List D) (lt : Nat → Bool) : Prop := ∀ i, i + 1 < xs.length → ∃ x y, xs[i]? = some x ∧ xs[i + 1]? = some y ∧ (∀ G Q, Q (.bl (lt i)) G → dLtA x y G Q) ∧ ∀ G Q, Q (.bl (!lt i)) G → dGeA x y G Q
def ClimbsP (row : D) (G : DHp) (Q : DK) : Prop := ∃ (xs : List D) (lt : Nat → Bool), itemsD G row = some xs ∧ xs.length ≤ 20000 ∧ OrdAt xs lt ∧ ∀ G', Ext G G' → Q (.bl ((List.range (xs.length - 1)).all lt)) G'
abbrev sp_climbs : DSp := sp1 fun row G Q _ => ClimbsP row G Q
theorem ClimbsP.str {row : D} {G : DHp} {Q : DK} (h : ∃ zs : List Str, itemsD G row = some (zs.map .str) ∧ zs.length ≤ 20000 ∧ ∀ G', Ext G G' → Q (.bl (climbR zs)) G') : ClimbsP row G Q := by
  obtain ⟨zs, h1, h2, h3⟩ := h
  refine ⟨zs.map .str, ltAt zs, h1, by simpa using h2, fun i hi => ?_, by simpa [climbR] using h3⟩
  rw [List.length_map] at hi
  have e1 : zs[i]? = some zs[i] := List.getElem?_eq_getElem (by omega)
  have e2 : zs[i + 1]? = some zs[i + 1] := List.getElem?_eq_getElem hi
  refine ⟨.str zs[i], .str zs[i + 1], by rw [List.getElem?_map, e1]; rfl, by rw [List.getElem?_map, e2]; rfl, fun G Q w => .inl ?_, fun G Q w => .inl ?_⟩
  · have e : ltAt zs i = decide ((zs[i]).cps.toList < (zs[i + 1]).cps.toList) := by unfold ltAt; rw [e1, e2]
    rw [e] at w; exact w
  · have e : ltAt zs i = decide ((zs[i]).cps.toList < (zs[i + 1]).cps.toList) := by unfold ltAt; rw [e1, e2]
    rw [e] at w; exact w
def ltPAt (ps : List (Int × Int)) (i : Nat) : Bool := match ps[i]?, ps[i + 1]? with
  | some p, some q => decide (ltP p q)
  | _, _ => false
def climbP (ps : List (Int × Int)) : Bool := (List.range (ps.length - 1)).all (ltPAt ps)
theorem ClimbsP.pair {row : D} {G : DHp} {Q : DK} (h : ∃ ps : List (Int × Int), itemsD G row = some (ps.map pairD) ∧ ps.length ≤ 20000 ∧ ∀ G', Ext G G' → Q (.bl (climbP ps)) G') : ClimbsP row G Q := by
  obtain ⟨ps, h1, h2, h3⟩ := h
  refine ⟨ps.map pairD, ltPAt ps, h1, by simpa using h2, fun i hi => ?_, by simpa [climbP] using h3⟩
  rw [List.length_map] at hi
  have e1 : ps[i]? = some ps[i] := List.getElem?_eq_getElem (by omega)
  have e2 : ps[i + 1]? = some ps[i + 1] := List.getElem?_eq_getElem hi
  refine ⟨pairD ps[i], pairD ps[i + 1], by rw [List.getElem?_map, e1]; rfl, by rw [List.getElem?_map, e2]; rfl, fun G Q w => .inr ⟨_, _, rfl, rfl, ?_⟩, fun G Q w => .inr ⟨_, _, rfl, rfl, ?_⟩⟩
  · simpa [ltPAt, e1, e2] using w
  · simpa [ltPAt, e1, e2] using w
def b_climbs  (E : DXK) : WS :=
  (wRet (wCB dAll (wCons (wLc [1] (wiRng1 (wCons (wOp dSub (wCB dLen (wCons (wVar 0) wNil)) (wC (.int 1))) wNil)) (wgName 1) wtYes (wOp dLtA (wOp dIx (wVar 0) (wVar 1)) (wOp dIx (wVar 0) (wOp dAdd (wVar 1) (wC (.int 1)))))) wNil)))
abbrev N_climbs : List Str := ["row", "at"]
abbrev Okb_climbs  (sp : DSp) : Prop := ∀ ds G Q E, sp ds G Q E → b_climbs  E { nx := fun _ G' => Q .non G', rt := Q } (startD N_climbs ds) G
def atB (lt : Nat → Bool) : D → Bool
  | .int i => lt i.toNat
  | _ => false
theorem ints_atB {lt : Nat → Bool} {n : Nat} : (intsD 0 n).all (atB lt) = (List.range n).all lt := by
  unfold intsD
  rw [List.all_map]
  congr 1
  funext i
  simp [atB]
theorem ok_climbs : Okb_climbs sp_climbs := by
  intro ds G Q E h
  obtain ⟨row, rfl, xs, lt, hz, hl, ho, h⟩ := sp1_inv h
  simp [b_climbs, startD]
  refine dLen_items hz ?_
  refine ⟨by omega, by omega, ?_⟩
  have e1 : ((xs.length : Int) - 1).toNat = xs.length - 1 := by omega
  rw [e1]
  refine lc_map (fun d => .bl (atB lt d)) (by simp; omega) (fun _ _ => trivial) (fun x hx G1 K e hK => ?_) fun G1 p e hp => ?_
  · obtain ⟨i, hi, rfl⟩ := intsD_mem hx
    obtain ⟨x, y, h1, h2, h3, _⟩ := ho i (by omega)
    have this : K (.bl (atB lt (.int (0 + (i : Int))))) G1 := hK G1 .refl
    have e4 : atB lt (.int (0 + (i : Int))) = lt i := by simp [atB]
    rw [e4] at this
    simp
    refine dIx_items (itemsD_ext e hz) (by rw [pick_nat]; exact h1) ?_
    have e3 : (i : Int) + 1 = ((i + 1 : Nat) : Int) := by omega
    rw [e3]
    exact dIx_items (itemsD_ext e hz) (by rw [pick_nat]; exact h2) (h3 _ _ this)
  · refine dAll_map (c := atB lt) _ (fun _ _ => rfl) ?_
    rw [ints_atB]
    exact h _ (e.trans (Ext.new hp))
abbrev sp__law_climbs : DSp := sp_climbs
def b__law_climbs  (E : DXK) : WS :=
  (wRet (wOp dEq (wLc [1] (wiRng1 (wCons (wOp dSub (wCB dLen (wCons (wVar 0) wNil)) (wC (.int 1))) wNil)) (wgName 1) (wTest (wOp dGeA (wOp dIx (wVar 0) (wVar 1)) (wOp dIx (wVar 0) (wOp dAdd (wVar 1) (wC (.int 1)))))) (wVar 1)) (wLst wNil)))
abbrev N__law_climbs : List Str := ["row", "at"]
abbrev Okb__law_climbs  (sp : DSp) : Prop := ∀ ds G Q E, sp ds G Q E → b__law_climbs  E { nx := fun _ G' => Q .non G', rt := Q } (startD N__law_climbs ds) G
theorem ok__law_climbs : Okb__law_climbs sp__law_climbs := by
  intro ds G Q E h
  obtain ⟨row, rfl, xs, lt, hz, hl, ho, h⟩ := sp1_inv h
  simp [b__law_climbs, startD]
  refine dLen_items hz ?_
  refine ⟨by omega, by omega, ?_⟩
  have e1 : ((xs.length : Int) - 1).toNat = xs.length - 1 := by omega
  rw [e1]
  refine lc_keep (fun d => !atB lt d) (by simp; omega) (fun _ _ => trivial) (fun x hx G1 acc K e ha hK => ?_) fun G1 p e hp => ?_
  · obtain ⟨i, hi, rfl⟩ := intsD_mem hx
    obtain ⟨x, y, h1, h2, _, h4⟩ := ho i (by omega)
    have := hK G1 .refl
    have e4 : atB lt (.int (0 + (i : Int))) = lt i := by simp [atB]
    rw [e4] at this
    simp
    refine dIx_items (itemsD_ext e hz) (by rw [pick_nat]; exact h1) ?_
    have e3 : (i : Int) + 1 = ((i + 1 : Nat) : Int) := by omega
    rw [e3]
    refine dIx_items (itemsD_ext e hz) (by rw [pick_nat]; exact h2) (h4 _ _ ?_)
    cases hc : lt i with
    | true => rw [hc] at this; simpa using this
    | false => rw [hc] at this; simpa [ha] using this
  · intro q hq
    refine dEq_nil 19 (by rw [updD_ne (ne_new hq), updD_same]) updD_same (by omega) ?_ ?_ ?_
    · have := List.length_filter_le (fun d => !atB lt d) (intsD 0 (xs.length - 1))
      simp at this ⊢
      omega
    · intro d hd
      obtain ⟨i, _, rfl⟩ := intsD_mem (List.mem_filter.mp hd).1
      simp
    · rw [notEmpty_all, ints_atB]
      exact h _ ((e.trans (Ext.new hp)).trans (Ext.new hq))

/-! ### is_cue -/
abbrev sp_is_cue : DSp := sp2 fun ch v G Q _ => ∃ (chs : List Str) (n : Nat), ch = .tup (chs.map .str) ∧ n < 20 ∧ Kn n G v ∧ ∀ G', Ext G G' → Q (.bl (cueB chs v)) G'
theorem wideB_true {lo hi : Int} {v : D} (h : wideB lo hi v = true) : ∃ xs, v = .tup xs ∧ lo ≤ xs.length ∧ (xs.length : Int) ≤ hi := by
  cases v with
  | tup xs =>
    simp [wideB] at h
    exact ⟨xs, rfl, h⟩
  | _ => cases h
theorem wideB_two {v : D} (h : wideB 2 2 v = true) : ∃ a b, v = .tup [a, b] := by
  obtain ⟨xs, rfl, h1, h2⟩ := wideB_true h
  match xs, h1, h2 with
  | [a, b], _, _ => exact ⟨a, b, rfl⟩
  | [], h1, _ => simp at h1
  | [a], h1, _ => simp at h1
  | a :: b :: c :: r, _, h2 => simp at h2; omega
theorem wholeB_true {lo hi : Int} {v : D} (h : wholeB lo hi v = true) : ∃ i, v = .int i ∧ lo ≤ i ∧ i ≤ hi := by
  cases v with
  | int i =>
    simp [wholeB] at h
    exact ⟨i, rfl, h⟩
  | _ => cases h
theorem moveB_true {chs : List Str} {v : D} (h : moveB chs v = true) : ∃ z l, v = .tup [.str z, .int l] ∧ z ∈ chs ∧ 0 ≤ l ∧ l ≤ 100 := by
  unfold moveB at h
  split at h
  · simp at h
    exact ⟨_, _, rfl, h.1, h.2.1, h.2.2⟩
  · cases h
theorem inF_strs {z : Str} : ∀ {chs : List Str}, inF (.str z) (chs.map .str) = decide (z ∈ chs)
  | [] => rfl
  | c :: chs => by
    have := inF_strs (z := z) (chs := chs)
    unfold inF at this ⊢
    rw [List.map_cons, List.any_cons, this]
    by_cases e : c = z
    · simp [eqF, e]
    · simp [eqF, e, Ne.symm (show c ≠ z from e)]
theorem flat_strs {chs : List Str} : (chs.map D.str).all flatD = true := by simp [List.all_map]; intros; rfl
theorem dIn_strs {neg : Bool} {z : Str} {chs : List Str} {G : DHp} {Q : DK} (w : Q (.bl (neg != decide (z ∈ chs))) G) : dIn neg (.str z) (.tup (chs.map .str)) G Q := by
  unfold dIn
  simp only [itemsD_tup]
  refine ⟨rfl, flat_strs, ?_⟩
  rw [inF_strs]; exact w
def b_is_cue  (E : DXK) : WS :=
  (wSeq (wIf (wtNot (wTest (wIsi .tup (wVar 1)))) (wRet (wC (.bl false))) wNext)
  (wSeq (wFor (wiTup (wVar 1)) (wgName 2) (wSeq (wIf (wtOr (wtNot (wTest (wCall sp_is_wide (fun _ => E) (wCons (wVar 2) (wCons (wC (.int 2)) (wCons (wC (.int 2)) wNil)))))) (wtOr (wtNot (wTest (wIsi .str (wOp dIx (wVar 2) (wC (.int 0)))))) (wTest (wOp (dIn true) (wOp dIx (wVar 2) (wC (.int 0))) (wVar 0))))) (wRet (wC (.bl false))) wNext)
  (wIf (wtNot (wTest (wCall sp_is_whole (fun _ => E) (wCons (wOp dIx (wVar 2) (wC (.int 1))) (wCons (wC (.int 0)) (wCons (wC (.int 100)) wNil)))))) (wRet (wC (.bl false))) wNext)))
  (wRet (wCall sp_climbs (fun _ => E) (wCons (wLc [2] (wiTup (wVar 1)) (wgName 2) wtYes (wOp dIx (wVar 2) (wC (.int 0)))) wNil)))))
abbrev N_is_cue : List Str := ["channels", "value", "move"]
abbrev Okb_is_cue  (sp : DSp) : Prop := ∀ ds G Q E, sp ds G Q E → b_is_cue  E { nx := fun _ G' => Q .non G', rt := Q } (startD N_is_cue ds) G
theorem ok_is_cue : Okb_is_cue sp_is_cue := by
  intro ds G Q E h
  obtain ⟨ch, v, rfl, chs, n, rfl, hn, kn, h⟩ := sp2_inv h
  have h0 := h G .refl
  cases v with
  | tup ms =>
    have hlen := kn.len
    simp [b_is_cue, startD, kindD]
    refine forW_rule (fun r ρ G1 => ∃ d o, ms = d ++ r ∧ d.all (moveB chs) = true ∧ Ext G G1 ∧ ρ = [some (.tup (chs.map .str)), some (.tup ms), o]) ?_ ?_ ⟨[], none, rfl, rfl, .refl, rfl⟩
    · rintro x r ρ G1 nx ⟨d, o, rfl, hd, e, rfl⟩ hnx
      refine ⟨trivial, ?_⟩
      have kx : Kn n G1 x := (kn.mem (by simp)).ext e
      have bad : moveB chs x = false → Q (.bl false) G1 := fun hb => by
        have := h G1 e
        have e2 : cueB chs (.tup (d ++ x :: r)) = false := by simp [cueB, hb]
        rwa [e2] at this
      simp
      refine ⟨⟨n, kx⟩, ?_⟩
      by_cases hw : wideB 2 2 x = true
      · obtain ⟨a, b, rfl⟩ := wideB_two hw
        have ka : Kn n G1 a := kx.mem (by simp)
        have kb : Kn n G1 b := kx.mem (by simp)
        simp [hw, ka.isK]
        cases a with
        | str z =>
          simp [kindD]
          refine dIn_strs ?_
          by_cases hz : z ∈ chs
          · simp [hz]
            refine ⟨⟨n, kb⟩, ?_⟩
            by_cases hb : wholeB 0 100 b = true
            · obtain ⟨l, rfl, l1, l2⟩ := wholeB_true hb
              simp [hb]
              exact hnx _ _ ⟨d ++ [.tup [.str z, .int l]], some (.tup [.str z, .int l]), by simp, by simp [hd, moveB, hz, l1, l2], e, rfl⟩
            · simp [hb]
              refine bad ?_
              cases hq : moveB chs (.tup [.str z, b]) with
              | false => rfl
              | true =>
                obtain ⟨z', l, e1, _, l1, l2⟩ := moveB_true hq
                cases e1
                simp [wholeB, l1, l2] at hb
          · simp [hz]
            refine bad ?_
            cases hq : moveB chs (.tup [.str z, b]) with
            | false => rfl
            | true =>
              obtain ⟨z', l, e1, hz', _⟩ := moveB_true hq
              cases e1
              exact absurd hz' hz
        | _ =>
          simp [kindD]
          exact bad rfl
      · simp [hw]
        refine bad ?_
        cases hq : moveB chs x with
        | false => rfl
        | true =>
          obtain ⟨z', l, rfl, _⟩ := moveB_true hq
          simp [wideB] at hw
    · rintro ρ G1 ⟨d, o, e1, hd, e, rfl⟩
      simp at e1
      subst e1
      refine ⟨trivial, ?_⟩
      simp
      refine lc_map (fun m => .str (nameOf m)) (by omega) (fun _ _ => trivial) (fun x hx G2 K e2 hK => ?_) fun G2 p e2 hp => ?_
      · obtain ⟨z, l, rfl, _⟩ := moveB_true (List.all_eq_true.mp hd x hx)
        simpa [nameOf] using hK G2 .refl
      · refine ClimbsP.str ⟨ms.map nameOf, itemsD_ref (by rw [updD_same, List.map_map]; rfl), by simp; omega, fun G3 e3 => ?_⟩
        have := h G3 ((e.trans (e2.trans (Ext.new hp))).trans e3)
        simpa [cueB, hd] using this
  | _ => simpa [b_is_cue, startD, kn.isK, kindD, cueB] using h0
abbrev sp__law_good_cue : DSp := sp_is_cue
def b__law_good_cue  (E : DXK) : WS :=
  (wSeq (wIf (wtNot (wTest (wIsi .tup (wVar 1)))) (wRet (wC (.bl false))) wNext)
  (wSeq (wFor (wiTup (wVar 1)) (wgName 2) (wSeq (wIf (wtOr (wtNot (wTest (wCall sp__law_wide (fun _ => E) (wCons (wVar 2) (wCons (wC (.int 2)) (wCons (wC (.int 2)) wNil)))))) (wtOr (wtNot (wTest (wIsi .str (wOp dIx (wVar 2) (wC (.int 0)))))) (wTest (wOp (dIn true) (wOp dIx (wVar 2) (wC (.int 0))) (wVar 0))))) (wRet (wC (.bl false))) wNext)
  (wIf (wtNot (wTest (wCall sp__law_whole (fun _ => E) (wCons (wOp dIx (wVar 2) (wC (.int 1))) (wCons (wC (.int 0)) (wCons (wC (.int 100)) wNil)))))) (wRet (wC (.bl false))) wNext)))
  (wRet (wCall sp__law_climbs (fun _ => E) (wCons (wLc [2] (wiTup (wVar 1)) (wgName 2) wtYes (wOp dIx (wVar 2) (wC (.int 0)))) wNil)))))
abbrev N__law_good_cue : List Str := ["channels", "value", "move"]
abbrev Okb__law_good_cue  (sp : DSp) : Prop := ∀ ds G Q E, sp ds G Q E → b__law_good_cue  E { nx := fun _ G' => Q .non G', rt := Q } (startD N__law_good_cue ds) G
theorem ok__law_good_cue : Okb__law_good_cue sp__law_good_cue := ok_is_cue
end TC
set_option maxRecDepth 100000
/-! SB: shows and scripts recognized, second part. -/
namespace TC
open PySem PySem.Spec PyProof.Rows L2

/-! ### shows -/
abbrev sp_is_right_show : DSp := sp1 fun v G Q _ => ∃ n, n < 20 ∧ Kn n G v ∧ ∀ G', Ext G G' → Q (.bl (showB v)) G'
theorem chan_strs {cs : List D} (h : cs.all chanB = true) : cs = (cs.map strOf).map .str := by
  rw [List.map_map]
  conv => lhs; rw [← List.map_id cs]
  refine List.map_congr_left fun x hx => ?_
  have := List.all_eq_true.mp h x hx
  cases x with
  | str z => rfl
  | _ => cases this
theorem showB_wide {v : D} (h : showB v = true) : ∃ cs us, v = .tup [.tup cs, .tup us] ∧ 1 ≤ cs.length ∧ cs.length ≤ 4 ∧ cs.all chanB = true ∧ climbR (cs.map strOf) = true ∧ us.all (cueB (cs.map strOf)) = true := by
  unfold showB at h
  split at h
  · simp only [Bool.and_eq_true, decide_eq_true_eq] at h
    exact ⟨_, _, rfl, h.1.1, h.1.2, h.2.1, h.2.2.1, h.2.2.2⟩
  · cases h
theorem showB_not {v : D} (h : ∀ cs us, v = .tup [.tup cs, .tup us] → 1 ≤ cs.length → cs.length ≤ 4 → cs.all chanB = true → climbR (cs.map strOf) = true → us.all (cueB (cs.map strOf)) = true → False) : showB v = false := by
  cases e : showB v with
  | false => rfl
  | true =>
    obtain ⟨cs, us, rfl, h1, h2, h3, h4, h5⟩ := showB_wide e
    exact (h cs us rfl h1 h2 h3 h4 h5).elim
def b_is_right_show  (E : DXK) : WS :=
  (wSeq (wIf (wtOr (wtNot (wTest (wCall sp_is_wide (fun _ => E) (wCons (wVar 0) (wCons (wC (.int 2)) (wCons (wC (.int 2)) wNil)))))) (wtNot (wTest (wCall sp_is_wide (fun _ => E) (wCons (wOp dIx (wVar 0) (wC (.int 0))) (wCons (wC (.int 1)) (wCons (wC (.int 4)) wNil))))))) (wRet (wC (.bl false))) wNext)
  (wSeq (wIf (wtOr (wtNot (wTest (wCB dAll (wCons (wLc [2] (wiTup (wOp dIx (wVar 0) (wC (.int 0)))) (wgName 2) wtYes (wCall sp_is_channel (noX) (wCons (wVar 2) wNil))) wNil)))) (wtNot (wTest (wCall sp_climbs (fun _ => E) (wCons (wOp dIx (wVar 0) (wC (.int 0))) wNil))))) (wRet (wC (.bl false))) wNext)
  (wRet (weAnd (wIsi .tup (wOp dIx (wVar 0) (wC (.int 1)))) (wCB dAll (wCons (wLc [1] (wiTup (wOp dIx (wVar 0) (wC (.int 1)))) (wgName 1) wtYes (wCall sp_is_cue (noX) (wCons (wOp dIx (wVar 0) (wC (.int 0))) (wCons (wVar 1) wNil)))) wNil))))))
abbrev N_is_right_show : List Str := ["value", "cue", "channel"]
abbrev Okb_is_right_show  (sp : DSp) : Prop := ∀ ds G Q E, sp ds G Q E → b_is_right_show  E { nx := fun _ G' => Q .non G', rt := Q } (startD N_is_right_show ds) G
theorem ok_is_right_show : Okb_is_right_show sp_is_right_show := by
  intro ds G Q E h
  obtain ⟨v, rfl, n, hn, kn, h⟩ := sp1_inv h
  by_cases hw : wideB 2 2 v = true
  · obtain ⟨a, b, rfl⟩ := wideB_two hw
    have ka : Kn n G a := kn.mem (by simp)
    have kb : Kn n G b := kn.mem (by simp)
    simp [b_is_right_show, startD, hw]
    refine ⟨⟨n, kn⟩, ⟨n, ka⟩, ?_⟩
    by_cases ha : wideB 1 4 a = true
    · obtain ⟨cs, rfl, c1, c2⟩ := wideB_true ha
      simp [ha]
      refine lc_map (fun d => .bl (chanB d)) (by omega) (fun _ _ => trivial) (fun x hx G1 K e hK => ?_) fun G1 p e hp => ?_
      · simp
        exact ⟨⟨n, (ka.mem hx).ext e⟩, hK⟩
      · refine dAll_map (c := chanB) _ (fun _ _ => rfl) ?_
        have e1 := e.trans (Ext.new (o := .lst (cs.map fun d => .bl (chanB d))) hp)
        generalize updD G1 p (.lst (cs.map fun d => .bl (chanB d))) = G2 at e1 ⊢
        by_cases hc : cs.all chanB = true
        · have hs := chan_strs hc
          simp [hc]
          refine ClimbsP.str ⟨cs.map strOf, congrArg some hs, by simp; omega, fun G3 e3 => ?_⟩
          have e13 := e1.trans e3
          by_cases hb : climbR (cs.map strOf) = true
          · simp [hb, (kb.ext e13).isK]
            cases b with
            | tup us =>
              have hlen := kb.len
              simp [kindD]
              refine lc_map (fun d => .bl (cueB (cs.map strOf) d)) (by omega) (fun _ _ => trivial) (fun x hx G4 K e4 hK => ?_) fun G4 q e4 hq => ?_
              · simp
                exact ⟨cs.map strOf, hs, n, hn, (kb.mem hx).ext (e13.trans e4), hK⟩
              · refine dAll_map (c := cueB (cs.map strOf)) _ (fun _ _ => rfl) ?_
                have := h _ ((e13.trans e4).trans (Ext.new (o := .lst (us.map fun d => .bl (cueB (cs.map strOf) d))) hq))
                have ee : showB (.tup [.tup cs, .tup us]) = us.all (cueB (cs.map strOf)) := by
                  simp only [showB, hc, hb, Bool.true_and]
                  have q1 : decide (1 ≤ cs.length) = true := by simp; omega
                  have q2 : decide (cs.length ≤ 4) = true := by simp; omega
                  rw [q1, q2]; rfl
                rwa [ee] at this
            | _ =>
              have := h G3 e13
              simpa [kindD, showB] using this
          · simp [hb]
            have := h G3 e13
            rwa [showB_not fun cs' us' e' _ _ _ h4 _ => by cases e'; exact hb h4] at this
        · simp [hc]
          have := h G2 e1
          rwa [showB_not fun cs' us' e' _ _ h3 _ _ => by cases e'; exact hc h3] at this
    · simp [ha]
      have := h G .refl
      rwa [showB_not fun cs' us' e' h1 h2 _ _ _ => by cases e'; exact ha (by simp [wideB]; omega)] at this
  · simp [b_is_right_show, startD, hw]
    have := h G .refl
    rw [showB_not fun cs' us' e' _ _ _ _ _ => by subst e'; exact hw rfl] at this
    exact ⟨⟨n, kn⟩, this⟩
abbrev sp__law_good_show : DSp := sp_is_right_show
def b__law_good_show  (E : DXK) : WS :=
  (wSeq (wIf (wtOr (wtNot (wTest (wCall sp__law_wide (fun _ => E) (wCons (wVar 0) (wCons (wC (.int 2)) (wCons (wC (.int 2)) wNil)))))) (wtOr (wtNot (wTest (wCall sp__law_wide (fun _ => E) (wCons (wOp dIx (wVar 0) (wC (.int 0))) (wCons (wC (.int 1)) (wCons (wC (.int 4)) wNil)))))) (wtNot (wTest (wIsi .tup (wOp dIx (wVar 0) (wC (.int 1)))))))) (wRet (wC (.bl false))) wNext)
  (wSeq (wIf (wtOr (wTest (wOp dNe (wLc [2] (wiTup (wOp dIx (wVar 0) (wC (.int 0)))) (wgName 2) (wtNot (wTest (wCall sp__law_is_channel (noX) (wCons (wVar 2) wNil)))) (wVar 2)) (wLst wNil))) (wtNot (wTest (wCall sp__law_climbs (fun _ => E) (wCons (wOp dIx (wVar 0) (wC (.int 0))) wNil))))) (wRet (wC (.bl false))) wNext)
  (wRet (wOp dEq (wLc [1] (wiTup (wOp dIx (wVar 0) (wC (.int 1)))) (wgName 1) (wtNot (wTest (wCall sp__law_good_cue (noX) (wCons (wOp dIx (wVar 0) (wC (.int 0))) (wCons (wVar 1) wNil))))) (wVar 1)) (wLst wNil)))))
abbrev N__law_good_show : List Str := ["value", "cue", "one"]
abbrev Okb__law_good_show  (sp : DSp) : Prop := ∀ ds G Q E, sp ds G Q E → b__law_good_show  E { nx := fun _ G' => Q .non G', rt := Q } (startD N__law_good_show ds) G
theorem ok__law_good_show : Okb__law_good_show sp__law_good_show := by
  intro ds G Q E h
  obtain ⟨v, rfl, n, hn, kn, h⟩ := sp1_inv h
  by_cases hw : wideB 2 2 v = true
  · obtain ⟨a, b, rfl⟩ := wideB_two hw
    have ka : Kn n G a := kn.mem (by simp)
    have kb : Kn n G b := kn.mem (by simp)
    simp [b__law_good_show, startD, hw]
    refine ⟨⟨n, kn⟩, ⟨n, ka⟩, ?_⟩
    by_cases ha : wideB 1 4 a = true
    · obtain ⟨cs, rfl, c1, c2⟩ := wideB_true ha
      simp [ha, kb.isK]
      cases b with
      | tup us =>
        have hlen := kb.len
        simp [kindD]
        refine lc_keep (fun d => !chanB d) (by omega) (fun _ _ => trivial) (fun x hx G1 acc K e hacc hK => ?_) fun G1 p e hp => ?_
        · simp
          refine ⟨⟨n, (ka.mem hx).ext e⟩, fun G2 e2 => ?_⟩
          have := hK G2 e2
          by_cases hc : chanB x = true
          · simpa [hc] using this
          · simpa [hc, hacc] using this
        · intro q hq
          have hfl := List.length_filter_le (fun d => !chanB d) cs
          have e1 := (e.trans (Ext.new hp)).trans (Ext.new (o := .lst []) hq)
          refine dNe_nil n (by rw [updD_ne (ne_new hq), updD_same]) updD_same hn (by omega) (fun d hd => (ka.mem (List.mem_filter.mp hd).1).ext e1) ?_
          rw [notEmpty_all]
          generalize updD _ _ _ = G2 at e1 ⊢
          by_cases hc : cs.all chanB = true
          · have hs := chan_strs hc
            simp [hc]
            refine ClimbsP.str ⟨cs.map strOf, congrArg some hs, by simp; omega, fun G3 e3 => ?_⟩
            have e13 := e1.trans e3
            by_cases hb : climbR (cs.map strOf) = true
            · simp [hb]
              refine lc_keep (fun d => !cueB (cs.map strOf) d) (by omega) (fun _ _ => trivial) (fun x hx G4 acc K e4 hacc hK => ?_) fun G4 q e4 hq => ?_
              · simp
                refine ⟨cs.map strOf, hs, n, hn, (kb.mem hx).ext (e13.trans e4), fun G5 e5 => ?_⟩
                have := hK G5 e5
                by_cases hc : cueB (cs.map strOf) x = true
                · simpa [hc] using this
                · simpa [hc, hacc] using this
              · intro q2 hq2
                have hfl := List.length_filter_le (fun d => !cueB (cs.map strOf) d) us
                have e5 := ((e13.trans e4).trans (Ext.new hq)).trans (Ext.new (o := .lst []) hq2)
                refine dEq_nil n (by rw [updD_ne (ne_new hq2), updD_same]) updD_same hn (by omega) (fun d hd => (kb.mem (List.mem_filter.mp hd).1).ext e5) ?_
                rw [notEmpty_all]
                have := h _ e5
                have ee : showB (.tup [.tup cs, .tup us]) = us.all (cueB (cs.map strOf)) := by
                  simp only [showB, hc, hb, Bool.true_and]
                  have q1 : decide (1 ≤ cs.length) = true := by simp; omega
                  have q2 : decide (cs.length ≤ 4) = true := by simp; omega
                  rw [q1, q2]; rfl
                rwa [ee] at this
            · simp [hb]
              have := h G3 e13
              rwa [showB_not fun cs' us' e' _ _ _ h4 _ => by cases e'; exact hb h4] at this
          · simp [hc]
            have := h G2 e1
            rwa [showB_not fun cs' us' e' _ _ h3 _ _ => by cases e'; exact hc h3] at this
      | _ =>
        have := h G .refl
        simpa [kindD, showB] using this
    · simp [ha]
      have := h G .refl
      rwa [showB_not fun cs' us' e' h1 h2 _ _ _ => by cases e'; exact ha (by simp [wideB]; omega)] at this
  · simp [b__law_good_show, startD, hw]
    have := h G .refl
    rw [showB_not fun cs' us' e' _ _ _ _ _ => by subst e'; exact hw rfl] at this
    exact ⟨⟨n, kn⟩, this⟩

/-! ### steps -/
abbrev sp_is_mode : DSp := sp2 fun v ms G Q _ => ∃ (mss : List Str) (n : Nat), ms = .tup (mss.map .str) ∧ Kn n G v ∧ Q (.bl (modeB mss v)) G
def b_is_mode  (E : DXK) : WS :=
  (wRet (weAnd (wIsi .str (wVar 0)) (wOp (dIn false) (wVar 0) (wVar 1))))
abbrev N_is_mode : List Str := ["value", "modes"]
abbrev Okb_is_mode  (sp : DSp) : Prop := ∀ ds G Q E, sp ds G Q E → b_is_mode  E { nx := fun _ G' => Q .non G', rt := Q } (startD N_is_mode ds) G
theorem ok_is_mode : Okb_is_mode sp_is_mode := by
  intro ds G Q E h
  obtain ⟨v, ms, rfl, mss, n, rfl, kn, h⟩ := sp2_inv h
  cases v with
  | str z =>
    simp [b_is_mode, startD, kindD]
    refine dIn_strs ?_
    simpa [modeB] using h
  | _ => simpa [b_is_mode, startD, kn.isK, kindD, modeB] using h
theorem cut_two {a b : D} {r : List D} : cut (a :: b :: r) (some 2) none = r := by
  unfold cut HT.sIx
  simp
theorem stepB_at {w : Str} {n : Int} {r : List D} : stepB (.tup (.str w :: .int n :: r)) = ((decide (1 ≤ n) && decide (n ≤ 5)) && restB w n r) := rfl
theorem wideB_rest {v : D} (h : wideB 2 5 v = true) : ∃ a b r, v = .tup (a :: b :: r) ∧ r.length ≤ 3 := by
  obtain ⟨xs, rfl, h1, h2⟩ := wideB_true h
  match xs, h1, h2 with
  | [], h1, _ => simp at h1
  | [a], h1, _ => simp at h1
  | a :: b :: r, _, h2 => exact ⟨a, b, r, rfl, by simp at h2; omega⟩
theorem restB_len {w : Str} {n : Int} {r : List D} (h : restB w n r = true) : r.length ≤ 3 := by
  unfold restB at h
  split at h
  · split at h
    · simp
    · cases h
  · split at h
    · split at h
      · simp
      · cases h
    · split at h
      · split at h
        · simp
        · cases h
      · split at h
        · split at h
          · simp
          · cases h
        · simp at h
          rw [h.2]; simp
theorem stepB_true {v : D} (h : stepB v = true) : ∃ w n r, v = .tup (.str w :: .int n :: r) ∧ 1 ≤ n ∧ n ≤ 5 ∧ restB w n r = true := by
  unfold stepB at h
  split at h
  · simp at h
    exact ⟨_, _, _, rfl, h.1.1, h.1.2, h.2⟩
  · cases h
theorem stepB_not {v : D} (h : ∀ w n r, v = .tup (.str w :: .int n :: r) → 1 ≤ n → n ≤ 5 → restB w n r = true → False) : stepB v = false := by
  cases e : stepB v with
  | false => rfl
  | true =>
    obtain ⟨w, n, r, rfl, h1, h2, h3⟩ := stepB_true e
    exact (h w n r rfl h1 h2 h3).elim
abbrev sp_is_right_step : DSp := sp1 fun v G Q _ => ∃ n, n < 20 ∧ Kn n G v ∧ ∀ G', Ext G G' → Q (.bl (stepB v)) G'
def b_is_right_step  (E : DXK) : WS :=
  (wSeq (wIf (wtOr (wtNot (wTest (wCall sp_is_wide (fun _ => E) (wCons (wVar 0) (wCons (wC (.int 2)) (wCons (wC (.int 5)) wNil)))))) (wtOr (wtNot (wTest (wIsi .str (wOp dIx (wVar 0) (wC (.int 0)))))) (wtNot (wTest (wCall sp_is_whole (fun _ => E) (wCons (wOp dIx (wVar 0) (wC (.int 1))) (wCons (wC (.int 1)) (wCons (wC (.int 5)) wNil)))))))) (wRet (wC (.bl false))) wNext)
  (wSeq (wPar 1 2 (wCons (wOp dIx (wVar 0) (wC (.int 0))) (wCons (wSl (wVar 0) (woSome (wC (.int 2))) woNone) wNil)))
  (wSeq (wIf (wTest (wOp dEq (wVar 1) (wC (.str "set")))) (wSeq (wIf (wtOr (wTest (wOp dNe (wCB dLen (wCons (wVar 2) wNil)) (wC (.int 3)))) (wtOr (wtNot (wTest (wCall sp_is_channel (fun _ => E) (wCons (wOp dIx (wVar 2) (wC (.int 0))) wNil)))) (wtNot (wTest (wCall sp_is_whole (fun _ => E) (wCons (wOp dIx (wVar 2) (wC (.int 1))) (wCons (wC (.int 0)) (wCons (wC (.int 100)) wNil)))))))) (wRet (wC (.bl false))) wNext)
  (wRet (wCall sp_is_mode (fun _ => E) (wCons (wOp dIx (wVar 2) (wC (.int 2))) (wCons (wTup (wCons (wC (.str "track")) (wCons (wC (.str "only")) wNil))) wNil))))) wNext)
  (wSeq (wIf (wTest (wOp dEq (wVar 1) (wC (.str "clear")))) (wRet (weAnd (wOp dEq (wCB dLen (wCons (wVar 2) wNil)) (wC (.int 2))) (weAnd (wCall sp_is_channel (fun _ => E) (wCons (wOp dIx (wVar 2) (wC (.int 0))) wNil)) (wCall sp_is_mode (fun _ => E) (wCons (wOp dIx (wVar 2) (wC (.int 1))) (wCons (wTup (wCons (wC (.str "track")) (wCons (wC (.str "only")) wNil))) wNil)))))) wNext)
  (wSeq (wIf (wTest (wOp dEq (wVar 1) (wC (.str "delete")))) (wRet (weAnd (wOp dEq (wCB dLen (wCons (wVar 2) wNil)) (wC (.int 1))) (wCall sp_is_mode (fun _ => E) (wCons (wOp dIx (wVar 2) (wC (.int 0))) (wCons (wTup (wCons (wC (.str "keep")) (wCons (wC (.str "drop")) wNil))) wNil))))) wNext)
  (wSeq (wIf (wTest (wOp dEq (wVar 1) (wC (.str "copy")))) (wRet (weAnd (wOp dEq (wCB dLen (wCons (wVar 2) wNil)) (wC (.int 1))) (weAnd (wCall sp_is_whole (fun _ => E) (wCons (wOp dIx (wVar 2) (wC (.int 0))) (wCons (wC (.int 1)) (wCons (wC (.int 5)) wNil)))) (wOp dNe (wOp dIx (wVar 2) (wC (.int 0))) (wOp dIx (wVar 0) (wC (.int 1))))))) wNext)
  (wRet (weAnd (wOp (dIn false) (wVar 1) (wTup (wCons (wC (.str "block")) (wCons (wC (.str "insert")) (wCons (wC (.str "swap")) wNil))))) (wOp dEq (wVar 2) (wTup wNil))))))))))
abbrev N_is_right_step : List Str := ["value", "word", "rest"]
abbrev Okb_is_right_step  (sp : DSp) : Prop := ∀ ds G Q E, sp ds G Q E → b_is_right_step  E { nx := fun _ G' => Q .non G', rt := Q } (startD N_is_right_step ds) G
theorem ok_is_right_step : Okb_is_right_step sp_is_right_step := by
  intro ds G Q E h
  obtain ⟨v, rfl, n, hn, kn, h⟩ := sp1_inv h
  have h0 := h G .refl
  by_cases hw : wideB 2 5 v = true
  · obtain ⟨a, b, r, rfl, hr⟩ := wideB_rest hw
    have ka : Kn n G a := kn.mem (by simp)
    have kb : Kn n G b := kn.mem (by simp)
    have kr : ∀ d ∈ r, Kn n G d := fun d hd => kn.mem (by simp [hd])
    simp [b_is_right_step, startD, hw, ka.isK, cut_two]
    refine ⟨⟨n, kn⟩, ?_⟩
    cases a with
    | str w =>
      simp [kindD]
      refine ⟨⟨n, kb⟩, ?_⟩
      by_cases hb : wholeB 1 5 b = true
      · obtain ⟨i, rfl, i1, i2⟩ := wholeB_true hb
        have e0 : stepB (.tup (.str w :: .int i :: r)) = restB w i r := by simp [stepB_at, i1, i2]
        rw [e0] at h0 h
        simp [hb, cut_two]
        by_cases w1 : w = Str.ofString "set"
        · rw [if_pos w1]
          simp only [restB, if_pos w1] at h0 h
          match r, hr with
          | [c, l, m], _ =>
            have kc : Kn n G c := kr c (by simp)
            have kl : Kn n G l := kr l (by simp)
            have km : Kn n G m := kr m (by simp)
            simp
            refine ⟨⟨n, kc⟩, fun G1 e1 => ?_⟩
            have h1 := h G1 e1
            by_cases hc : chanB c = true
            · simp [hc]
              refine ⟨⟨n, kl.ext e1⟩, ?_⟩
              by_cases hl : wholeB 0 100 l = true
              · simp [hl]
                refine ⟨["track", "only"], rfl, ⟨n, km.ext e1⟩, ?_⟩
                simpa [hc, hl] using h1
              · simpa [hc, hl] using h1
            · simpa [hc] using h1
          | [], _ => simpa using h0
          | [c], _ => simpa using h0
          | [c, l], _ => simpa using h0
        · rw [if_neg w1]
          by_cases w2 : w = Str.ofString "clear"
          · rw [if_pos w2]
            simp only [restB, if_neg w1, if_pos w2] at h0 h
            match r, hr with
            | [c, m], _ =>
              have kc : Kn n G c := kr c (by simp)
              have km : Kn n G m := kr m (by simp)
              simp
              refine ⟨⟨n, kc⟩, fun G1 e1 => ?_⟩
              have h1 := h G1 e1
              by_cases hc : chanB c = true
              · simp [hc]
                refine ⟨["track", "only"], rfl, ⟨n, km.ext e1⟩, ?_⟩
                simpa [hc] using h1
              · simpa [hc] using h1
            | [], _ => simpa using h0
            | [c], _ => simpa using h0
            | [c, l, m], _ => simpa using h0
          · rw [if_neg w2]
            by_cases w3 : w = Str.ofString "delete"
            · rw [if_pos w3]
              simp only [restB, if_neg w1, if_neg w2, if_pos w3] at h0 h
              match r, hr with
              | [m], _ =>
                have km : Kn n G m := kr m (by simp)
                simp
                refine ⟨["keep", "drop"], rfl, ⟨n, km⟩, ?_⟩
                simpa using h0
              | [], _ => simpa using h0
              | [c, l], _ => simpa using h0
              | [c, l, m], _ => simpa using h0
            · rw [if_neg w3]
              by_cases w4 : w = Str.ofString "copy"
              · rw [if_pos w4]
                simp only [restB, if_neg w1, if_neg w2, if_neg w3, if_pos w4] at h0 h
                match r, hr with
                | [m], _ =>
                  have km : Kn n G m := kr m (by simp)
                  simp
                  refine ⟨⟨n, km⟩, ?_⟩
                  by_cases hm : wholeB 1 5 m = true
                  · obtain ⟨k, rfl, k1, k2⟩ := wholeB_true hm
                    simp [hm]
                    simpa [k1, k2] using h0
                  · simp [hm]
                    cases m with
                    | int k =>
                      have : (decide (1 ≤ k) && decide (k ≤ 5)) = false := by simpa [wholeB] using hm
                      simpa [this] using h0
                    | _ => simpa using h0
                | [], _ => simpa using h0
                | [c, l], _ => simpa using h0
                | [c, l, m], _ => simpa using h0
              · rw [if_neg w4]
                simp only [restB, if_neg w1, if_neg w2, if_neg w3, if_neg w4] at h0 h
                refine dIn_strs (chs := ["block", "insert", "swap"]) ?_
                by_cases hm : w ∈ (["block", "insert", "swap"] : List Str)
                · simp only [hm, decide_true] at h0 ⊢
                  simp
                  refine dEqD_nilT (neg := false) hn (by omega) kr ?_
                  simpa using h0
                · simp only [hm, decide_false] at h0 ⊢
                  simp
                  simpa using h0
      · simp [hb]
        rwa [stepB_not fun w' n' r' e1 h1 h2 _ => by cases e1; exact hb (by simp [wholeB, h1, h2])] at h0
    | _ => simpa [kindD, stepB] using h0
  · simp [b_is_right_step, startD, hw]
    rw [stepB_not fun w' n' r' e1 h1 h2 h3 => by
      subst e1
      have := restB_len h3
      exact hw (by simp [wideB]; omega)] at h0
    exact ⟨⟨n, kn⟩, h0⟩
end TC
set_option maxRecDepth 100000
/-! SC: scripts recognized; the functions that raise. -/
namespace TC
open PySem PySem.Spec PyProof.Rows L2

abbrev sp_is_right_script : DSp := sp1 fun v G Q _ => ∃ n, n < 20 ∧ Kn n G v ∧ ∀ G', Ext G G' → Q (.bl (scriptB v)) G'
theorem scriptB_tup {xs : List D} : scriptB (.tup xs) = (decide (xs.length ≤ 4) && xs.all stepB) := rfl
def b_is_right_script  (E : DXK) : WS :=
  (wRet (weAnd (wCall sp_is_wide (fun _ => E) (wCons (wVar 0) (wCons (wC (.int 0)) (wCons (wC (.int 4)) wNil)))) (wCB dAll (wCons (wLc [1] (wiTup (wVar 0)) (wgName 1) wtYes (wCall sp_is_right_step (noX) (wCons (wVar 1) wNil))) wNil))))
abbrev N_is_right_script : List Str := ["value", "step"]
abbrev Okb_is_right_script  (sp : DSp) : Prop := ∀ ds G Q E, sp ds G Q E → b_is_right_script  E { nx := fun _ G' => Q .non G', rt := Q } (startD N_is_right_script ds) G
theorem ok_is_right_script : Okb_is_right_script sp_is_right_script := by
  intro ds G Q E h
  obtain ⟨v, rfl, n, hn, kn, h⟩ := sp1_inv h
  have h0 := h G .refl
  by_cases hw : wideB 0 4 v = true
  · obtain ⟨xs, rfl, l1, l2⟩ := wideB_true hw
    have l3 : xs.length ≤ 4 := by omega
    simp [b_is_right_script, startD, hw]
    refine ⟨⟨n, kn⟩, ?_⟩
    refine lc_map (fun d => .bl (stepB d)) (by omega) (fun _ _ => trivial) (fun x hx G1 K e hK => ?_) fun G1 p e hp => ?_
    · simp
      exact ⟨n, hn, (kn.mem hx).ext e, hK⟩
    · refine dAll_map (c := stepB) _ (fun _ _ => rfl) ?_
      have := h _ (e.trans (Ext.new (o := .lst (xs.map fun d => .bl (stepB d))) hp))
      simpa [scriptB_tup, l3] using this
  · simp [b_is_right_script, startD, hw]
    refine ⟨⟨n, kn⟩, ?_⟩
    cases v with
    | tup xs =>
      have : ¬ xs.length ≤ 4 := fun l => hw (by simp [wideB]; omega)
      simpa [scriptB_tup, this] using h0
    | _ => simpa [scriptB] using h0

/-! ### the law's own steps -/
abbrev sp__law_good_step : DSp := sp_is_right_step
def b__law_good_step  (E : DXK) : WS :=
  (wSeq (wIf (wtOr (wtNot (wTest (wIsi .tup (wVar 0)))) (wtOr (wTest (wOp dLt (wCB dLen (wCons (wVar 0) wNil)) (wC (.int 2)))) (wtNot (wTest (wIsi .str (wOp dIx (wVar 0) (wC (.int 0)))))))) (wRet (wC (.bl false))) wNext)
  (wSeq (wIf (wtNot (wTest (wCall sp__law_whole (fun _ => E) (wCons (wOp dIx (wVar 0) (wC (.int 1))) (wCons (wC (.int 1)) (wCons (wC (.int 5)) wNil)))))) (wRet (wC (.bl false))) wNext)
  (wSeq (wAsg (wDict (wDCons (wC (.str "set")) (wC (.str "cnm")) (wDCons (wC (.str "clear")) (wC (.str "cm")) (wDCons (wC (.str "block")) (wC (.str "")) (wDCons (wC (.str "insert")) (wC (.str "")) (wDCons (wC (.str "delete")) (wC (.str "w")) (wDCons (wC (.str "copy")) (wC (.str "d")) (wDCons (wC (.str "swap")) (wC (.str "")) wDNil)))))))) (wgName 1))
  (wSeq (wAsg (wDGet (wVar 1) (wOp dIx (wVar 0) (wC (.int 0))) (wC (.str "?"))) (wgName 2))
  (wSeq (wIf (wtOr (wTest (wOp dNe (wCB dLen (wCons (wVar 0) wNil)) (wOp dAdd (wC (.int 2)) (wCB dLen (wCons (wVar 2) wNil))))) (wTest (wOp dEq (wVar 2) (wC (.str "?"))))) (wRet (wC (.bl false))) wNext)
  (wSeq (wFor (wiZip (wCons (wVar 2) (wCons (wSl (wVar 0) (woSome (wC (.int 2))) woNone) wNil))) (wgTup 2 (wgCons (wgName 3) (wgCons (wgName 4) wgNil))) (wSeq (wAsg (weOr (weAnd (wOp dEq (wVar 3) (wC (.str "c"))) (wCall sp__law_is_channel (fun _ => E) (wCons (wVar 4) wNil))) (weAnd (wOp dEq (wVar 3) (wC (.str "n"))) (wCall sp__law_whole (fun _ => E) (wCons (wVar 4) (wCons (wC (.int 0)) (wCons (wC (.int 100)) wNil)))))) (wgName 5))
  (wSeq (wAsg (weOr (wVar 5) (weAnd (wOp dEq (wVar 3) (wC (.str "d"))) (weAnd (wCall sp__law_whole (fun _ => E) (wCons (wVar 4) (wCons (wC (.int 1)) (wCons (wC (.int 5)) wNil)))) (wOp dNe (wVar 4) (wOp dIx (wVar 0) (wC (.int 1))))))) (wgName 5))
  (wSeq (wIf (wtAnd (wTest (wOp (dIn false) (wVar 3) (wC (.str "mw")))) (wTest (wIsi .str (wVar 4)))) (wAsg (wOp (dIn false) (wVar 4) (wIfE (wTest (wOp dEq (wVar 3) (wC (.str "m")))) (wLst (wCons (wC (.str "track")) (wCons (wC (.str "only")) wNil))) (wLst (wCons (wC (.str "keep")) (wCons (wC (.str "drop")) wNil))))) (wgName 5)) wNext)
  (wIf (wtNot (wTest (wVar 5))) (wRet (wC (.bl false))) wNext)))))
  (wRet (wC (.bl true)))))))))
abbrev N__law_good_step : List Str := ["value", "shape", "sorts", "sort", "one", "good"]
abbrev Okb__law_good_step  (sp : DSp) : Prop := ∀ ds G Q E, sp ds G Q E → b__law_good_step  E { nx := fun _ G' => Q .non G', rt := Q } (startD N__law_good_step ds) G
def isInt (i : Int) : D → Bool
  | .int k => k == i
  | _ => false
def sortG (c : Nat) (i : Int) (one : D) : Bool := ((decide (c = 99) && chanB one) || (decide (c = 110) && wholeB 0 100 one)) || (decide (c = 100) && (wholeB 1 5 one && !isInt i one))
def sortB (c : Nat) (i : Int) (one : D) : Bool := match one with
  | .str z => if c = 109 then decide (z ∈ (["track", "only"] : List Str)) else if c = 119 then decide (z ∈ (["keep", "drop"] : List Str)) else sortG c i one
  | _ => sortG c i one
theorem sign_eq {c k : Nat} {x : Str} (h : x = ⟨#[k]⟩) : ((⟨#[c]⟩ : Str) == x) = decide (c = k) := by
  subst h
  by_cases e : c = k
  · subst e; simp
  · simp [e]
theorem mw_cps : (Str.ofString "mw").cps.toList = [109, 119] := by decide
theorem s_c : Str.ofString "c" = ⟨#[99]⟩ := by decide
theorem s_n : Str.ofString "n" = ⟨#[110]⟩ := by decide
theorem s_d : Str.ofString "d" = ⟨#[100]⟩ := by decide
theorem s_m : Str.ofString "m" = ⟨#[109]⟩ := by decide
def sortsOf (w : Str) : Str := (lookD (mergeD [] [(Sum.inr (Str.ofString "set"), D.str "cnm"), (Sum.inr (Str.ofString "clear"), .str "cm"), (Sum.inr (Str.ofString "block"), .str ""), (Sum.inr (Str.ofString "insert"), .str ""), (Sum.inr (Str.ofString "delete"), .str "w"), (Sum.inr (Str.ofString "copy"), .str "d"), (Sum.inr (Str.ofString "swap"), .str "")]) (Sum.inr w)).elim "?" strOf
theorem in_two {neg : Bool} {z : Str} {chs : List Str} {G : DHp} {Q : DK} {p : Addr} (hp : G p = some (.lst (chs.map .str))) (w : Q (.bl (neg != decide (z ∈ chs))) G) : dIn neg (.str z) (.ref p) G Q := by
  unfold dIn
  simp only [itemsD_ref hp]
  refine ⟨rfl, flat_strs, ?_⟩
  rw [inF_strs]; exact w
abbrev shapeL : List (Key × D) := [(Sum.inr (Str.ofString "set"), D.str "cnm"), (Sum.inr (Str.ofString "clear"), .str "cm"), (Sum.inr (Str.ofString "block"), .str ""), (Sum.inr (Str.ofString "insert"), .str ""), (Sum.inr (Str.ofString "delete"), .str "w"), (Sum.inr (Str.ofString "copy"), .str "d"), (Sum.inr (Str.ofString "swap"), .str "")]
theorem merge_shape : mergeD [] shapeL = shapeL := by rfl
theorem look_shape {w : Str} : (lookD (mergeD [] shapeL) (Sum.inr w)).getD (.str "?") = .str (sortsOf w) := by
  unfold sortsOf
  show _ = D.str ((lookD (mergeD [] shapeL) (Sum.inr w)).elim ("?" : Str) strOf)
  rw [merge_shape]
  unfold shapeL
  simp only [lookD]
  repeat' split
  all_goals rfl
theorem sortsOf_eq {w : Str} : sortsOf w = if w = Str.ofString "set" then "cnm" else if w = Str.ofString "clear" then "cm" else if w = Str.ofString "block" then "" else if w = Str.ofString "insert" then "" else if w = Str.ofString "delete" then "w" else if w = Str.ofString "copy" then "d" else if w = Str.ofString "swap" then "" else "?" := by
  unfold sortsOf
  show (lookD (mergeD [] shapeL) (Sum.inr w)).elim ("?" : Str) strOf = _
  rw [merge_shape]
  unfold shapeL
  simp only [lookD, Sum.inr.injEq, eq_comm (b := w)]
  repeat' split
  all_goals rfl
def mkP (p : Nat × D) : D := .tup [.str ⟨#[p.1]⟩, p.2]
theorem zip_signs {z : Str} {r : List D} : zipD (signsD z) r = (z.cps.toList.zip r).map mkP := by
  unfold zipD signsD
  rw [List.zip, List.map_zipWith, List.zipWith_map_left]
  rfl
theorem mode_sort {i : Int} {m : D} : sortB 109 i m = modeB ["track", "only"] m := by
  cases m <;> simp [sortB, sortG, modeB]
theorem keep_sort {i : Int} {m : D} : sortB 119 i m = modeB ["keep", "drop"] m := by
  cases m <;> simp [sortB, sortG, modeB]
theorem c_sort {i : Int} {m : D} : sortB 99 i m = chanB m := by
  cases m <;> simp [sortB, sortG, chanB]
theorem n_sort {i : Int} {m : D} : sortB 110 i m = wholeB 0 100 m := by
  cases m <;> simp [sortB, sortG, wholeB]
theorem d_sort {i : Int} {m : D} : sortB 100 i m = (wholeB 1 5 m && !isInt i m) := by
  cases m <;> simp [sortB, sortG, wholeB]
theorem q_cps : (Str.ofString "?").cps.toList = [63] := by decide
theorem restB_sorts {w : Str} {i : Int} {r : List D} : restB w i r = (decide (r.length = (sortsOf w).length) && (!(sortsOf w == "?") && ((sortsOf w).cps.toList.zip r).all fun p => sortB p.1 i p.2)) := by
  rw [sortsOf_eq]
  unfold restB
  by_cases w1 : w = Str.ofString "set"
  · have e1 : (Str.ofString "cnm").cps.toList = [99, 110, 109] := by decide
    have e2 : (Str.ofString "cnm").length = 3 := by decide
    have e3 : (Str.ofString "cnm" == Str.ofString "?") = false := by decide
    rw [if_pos w1, if_pos w1]
    match r with
    | [c, l, m] => simp [e1, e2, e3, mode_sort, c_sort, n_sort]
    | [] => simp [e2]
    | [c] => simp [e2]
    | [c, l] => simp [e2]
    | c :: l :: m :: x :: t => simp [e2]
  · rw [if_neg w1, if_neg w1]
    by_cases w2 : w = Str.ofString "clear"
    · have e1 : (Str.ofString "cm").cps.toList = [99, 109] := by decide
      have e2 : (Str.ofString "cm").length = 2 := by decide
      have e3 : (Str.ofString "cm" == Str.ofString "?") = false := by decide
      rw [if_pos w2, if_pos w2]
      match r with
      | [c, m] => simp [e1, e2, e3, mode_sort, c_sort]
      | [] => simp [e2]
      | [c] => simp [e2]
      | c :: l :: x :: t => simp [e2]
    · rw [if_neg w2, if_neg w2]
      by_cases w3 : w = Str.ofString "delete"
      · have e1 : (Str.ofString "w").cps.toList = [119] := by decide
        have e2 : (Str.ofString "w").length = 1 := by decide
        have e3 : (Str.ofString "w" == Str.ofString "?") = false := by decide
        have n1 : ¬ w = Str.ofString "block" := by rw [w3]; decide
        have n2 : ¬ w = Str.ofString "insert" := by rw [w3]; decide
        rw [if_pos w3, if_neg n1, if_neg n2, if_pos w3]
        match r with
        | [m] => simp [e1, e2, e3, keep_sort]
        | [] => simp [e2]
        | c :: x :: t => simp [e2]
      · rw [if_neg w3]
        by_cases w4 : w = Str.ofString "copy"
        · have e1 : (Str.ofString "d").cps.toList = [100] := by decide
          have e2 : (Str.ofString "d").length = 1 := by decide
          have e3 : (Str.ofString "d" == Str.ofString "?") = false := by decide
          have n1 : ¬ w = Str.ofString "block" := by rw [w4]; decide
          have n2 : ¬ w = Str.ofString "insert" := by rw [w4]; decide
          rw [if_pos w4, if_neg n1, if_neg n2, if_neg w3, if_pos w4]
          match r with
          | [m] => cases m <;> simp [e1, e2, e3, d_sort, wholeB, isInt]
          | [] => simp [e2]
          | c :: x :: t => simp [e2]
        · rw [if_neg w4]
          have e1 : (Str.ofString "").cps.toList = [] := by decide
          have e2 : (Str.ofString "").length = 0 := by decide
          have e3 : (Str.ofString "" == Str.ofString "?") = false := by decide
          by_cases w5 : w = Str.ofString "block"
          · rw [if_pos w5]
            subst w5
            cases r <;> simp [e1, e2, e3]
          · rw [if_neg w5]
            by_cases w6 : w = Str.ofString "insert"
            · rw [if_pos w6]
              subst w6
              cases r <;> simp [e1, e2, e3]
            · rw [if_neg w6, if_neg w3, if_neg w4]
              by_cases w7 : w = Str.ofString "swap"
              · rw [if_pos w7]
                subst w7
                cases r <;> simp [e1, e2, e3]
              · rw [if_neg w7]
                have e4 : (Str.ofString "?" == Str.ofString "?") = true := by decide
                simp [w5, w6, w7, e4]

theorem dLook_at {G : DHp} {p : Addr} {kvs : List (Key × D)} {w : Str} (h : G p = some (.dK kvs)) : dLook G (.ref p) (.str w) = some (lookD kvs (.inr w)) := by
  simp [dLook, h, keyOf]
theorem sortsOf_codes {w : Str} {c : Nat} (hq : ¬ sortsOf w = Str.ofString "?") (h : c ∈ (sortsOf w).cps.toList) : c = 99 ∨ c = 110 ∨ c = 100 ∨ c = 109 ∨ c = 119 := by
  have e1 : (Str.ofString "cnm").cps.toList = [99, 110, 109] := by decide
  have e2 : (Str.ofString "cm").cps.toList = [99, 109] := by decide
  have e3 : (Str.ofString "w").cps.toList = [119] := by decide
  have e4 : (Str.ofString "d").cps.toList = [100] := by decide
  have e5 : (Str.ofString "").cps.toList = [] := by decide
  rw [sortsOf_eq] at h hq
  by_cases w1 : w = Str.ofString "set"
  · rw [if_pos w1, e1] at h; simp at h; omega
  rw [if_neg w1] at h hq
  by_cases w2 : w = Str.ofString "clear"
  · rw [if_pos w2, e2] at h; simp at h; omega
  rw [if_neg w2] at h hq
  by_cases w3 : w = Str.ofString "block"
  · rw [if_pos w3, e5] at h; simp at h
  rw [if_neg w3] at h hq
  by_cases w4 : w = Str.ofString "insert"
  · rw [if_pos w4, e5] at h; simp at h
  rw [if_neg w4] at h hq
  by_cases w5 : w = Str.ofString "delete"
  · rw [if_pos w5, e3] at h; simp at h; omega
  rw [if_neg w5] at h hq
  by_cases w6 : w = Str.ofString "copy"
  · rw [if_pos w6, e4] at h; simp at h; omega
  rw [if_neg w6] at h hq
  by_cases w7 : w = Str.ofString "swap"
  · rw [if_pos w7, e5] at h; simp at h
  rw [if_neg w7] at h hq
  exact absurd rfl hq
theorem dIn_mw {c : Nat} {G : DHp} {Q : DK} : dIn false (.str ⟨#[c]⟩) (.str (Str.ofString "mw")) G Q = Q (.bl (decide (c ∈ ([109, 119] : List Nat)))) G := by
  unfold dIn
  simp only [mw_cps]
  refine propext ⟨fun ⟨c', e, h⟩ => ?_, fun h => ⟨c, rfl, by simpa using h⟩⟩
  have : c = c' := by simpa using e
  subst this
  simpa using h
theorem ok__law_good_step : Okb__law_good_step sp__law_good_step := by
  intro ds G Q E h
  obtain ⟨v, rfl, n, hn, kn, h⟩ := sp1_inv h
  have h0 := h G .refl
  cases v with
  | tup xs =>
    have kxs : ∀ d ∈ xs, Kn n G d := fun d hd => kn.mem hd
    match xs, kxs with
    | [], _ => simpa [b__law_good_step, startD, kindD, stepB] using h0
    | [a], _ => simpa [b__law_good_step, startD, kindD, stepB] using h0
    | a :: b :: r, kxs =>
      have ka : Kn n G a := kxs a (by simp)
      have kb : Kn n G b := kxs b (by simp)
      have kr : ∀ d ∈ r, Kn n G d := fun d hd => kxs d (by simp [hd])
      have hl := kn.len
      have ge : ¬ ((r.length : Int) + 1 + 1 < 2) := by omega
      simp [b__law_good_step, startD, ka.isK, ge]
      cases a with
      | str w =>
        simp [kindD]
        refine ⟨⟨n, kb⟩, ?_⟩
        by_cases hb : wholeB 1 5 b = true
        · obtain ⟨i, rfl, i1, i2⟩ := wholeB_true hb
          have e0 : stepB (.tup (.str w :: .int i :: r)) = restB w i r := by simp [stepB_at, i1, i2]
          rw [e0, restB_sorts] at h0 h
          simp [hb]
          refine ⟨by decide, fun p hp => ?_⟩
          have e1 : Ext G (updD G p (.dK (mergeD [] shapeL))) := Ext.new hp
          refine ⟨⟨.str w, _, dLook_at updD_same⟩, ?_⟩
          rw [dLook_at updD_same]
          simp only [look_shape]
          generalize updD G p (.dK (mergeD [] shapeL)) = G1 at e1 ⊢
          have hz : (sortsOf w).length ≤ 10 := by
            rw [sortsOf_eq]
            repeat' split
            all_goals decide
          simp [show (sortsOf w).length ≤ 1000000 by omega]
          by_cases hlen : r.length = (sortsOf w).length
          · have e2 : (r.length : Int) + 1 + 1 = 2 + (sortsOf w).length := by omega
            simp [e2]
            by_cases hq : sortsOf w = Str.ofString "?"
            · simp [hq]
              have := h G1 e1
              simpa [hlen, hq] using this
            · simp [hq]
              rw [cut_two, zip_signs]
              have hres : ∀ G', Ext G G' → Q (.bl (((sortsOf w).cps.toList.zip r).all fun p => sortB p.1 i p.2)) G' := fun G' e' => by
                have := h G' e'
                have hq' : (sortsOf w == Str.ofString "?") = false := by simpa using hq
                simpa [hlen, hq'] using this
              refine forW_rule (fun rr ρ G2 => ∃ d t o3 o4 o5, (sortsOf w).cps.toList.zip r = d ++ t ∧ rr = t.map mkP ∧ (d.all fun p => sortB p.1 i p.2) = true ∧ Ext G G2 ∧ ρ = [some (.tup (.str w :: .int i :: r)), some (.ref p), some (.str (sortsOf w)), o3, o4, o5]) ?_ ?_ ⟨[], _, none, none, none, rfl, rfl, rfl, e1, rfl⟩
              · rintro x rr ρ G2 nx ⟨d, t, o3, o4, o5, e3, e4, hd, e, rfl⟩ hnx
                match t, e4 with
                | (c, one) :: t, e4 =>
                  simp at e4
                  obtain ⟨rfl, rfl⟩ := e4
                  refine ⟨by simp, ?_⟩
                  have hm : (c, one) ∈ (sortsOf w).cps.toList.zip r := by rw [e3]; simp
                  have k1 : Kn n G2 one := (kr one (List.of_mem_zip hm).2).ext e
                  have bad : ∀ G', Ext G G' → sortB c i one = false → Q (.bl false) G' := fun G' e' hb => by
                    have := hres G' e'
                    rw [e3] at this
                    simpa [hb] using this
                  have good : ∀ G' o3 o4 o5, Ext G G' → sortB c i one = true → nx [some (.tup (.str w :: .int i :: r)), some (.ref p), some (.str (sortsOf w)), o3, o4, o5] G' := fun G' o3 o4 o5 e' hb =>
                    hnx _ _ ⟨d ++ [(c, one)], t, o3, o4, o5, by simp [e3], rfl, by simp [hd, hb], e', rfl⟩
                  have hc5 := sortsOf_codes hq (List.of_mem_zip hm).1
                  rcases hc5 with rfl | rfl | rfl | rfl | rfl
                  · simp [mkP, s_c, s_n, s_d, s_m, dIn_mw, mw_cps]
                    refine ⟨⟨n, k1⟩, fun G3 e5 => ?_⟩
                    by_cases hg : chanB one = true
                    · simpa [hg] using good G3 _ _ _ (e.trans e5) (by rw [c_sort]; exact hg)
                    · simpa [hg] using bad G3 (e.trans e5) (by rw [c_sort]; simpa using hg)
                  · simp [mkP, s_c, s_n, s_d, s_m, dIn_mw, mw_cps]
                    refine ⟨⟨n, k1⟩, ?_⟩
                    by_cases hg : wholeB 0 100 one = true
                    · simpa [hg] using good G2 _ _ _ e (by rw [n_sort]; exact hg)
                    · simpa [hg] using bad G2 e (by rw [n_sort]; simpa using hg)
                  · simp [mkP, s_c, s_n, s_d, s_m, dIn_mw, mw_cps]
                    refine ⟨⟨n, k1⟩, ?_⟩
                    by_cases hg : wholeB 1 5 one = true
                    · obtain ⟨k, rfl, k2, k3⟩ := wholeB_true hg
                      by_cases hk : k = i
                      · simpa [hg, hk] using bad G2 e (by rw [d_sort]; simp [isInt, hk])
                      · simpa [hg, hk] using good G2 _ _ _ e (by rw [d_sort]; simp [isInt, hk, hg])
                    · simpa [hg] using bad G2 e (by rw [d_sort]; simp [hg])
                  · simp [mkP, s_c, s_n, s_d, s_m, dIn_mw, mw_cps, k1.isK]
                    cases one with
                    | str z =>
                      simp [kindD]
                      intro q hq2
                      refine in_two (chs := ["track", "only"]) updD_same ?_
                      have e6 : Ext G (updD G2 q (.lst [.str (Str.ofString "track"), .str (Str.ofString "only")])) := e.trans (Ext.new hq2)
                      by_cases hg : z ∈ (["track", "only"] : List Str)
                      · simp only [hg]
                        simpa using good _ _ _ _ e6 (by rw [mode_sort]; simpa [modeB] using hg)
                      · simp only [hg]
                        simpa using bad _ e6 (by rw [mode_sort]; simpa [modeB] using hg)
                    | _ => simpa [kindD] using bad G2 e (by rw [mode_sort]; rfl)
                  · simp [mkP, s_c, s_n, s_d, s_m, dIn_mw, mw_cps, k1.isK]
                    cases one with
                    | str z =>
                      simp [kindD]
                      intro q hq2
                      refine in_two (chs := ["keep", "drop"]) updD_same ?_
                      have e6 : Ext G (updD G2 q (.lst [.str (Str.ofString "keep"), .str (Str.ofString "drop")])) := e.trans (Ext.new hq2)
                      by_cases hg : z ∈ (["keep", "drop"] : List Str)
                      · simp only [hg]
                        simpa using good _ _ _ _ e6 (by rw [keep_sort]; simpa [modeB] using hg)
                      · simp only [hg]
                        simpa using bad _ e6 (by rw [keep_sort]; simpa [modeB] using hg)
                    | _ => simpa [kindD] using bad G2 e (by rw [keep_sort]; rfl)
              · rintro ρ G2 ⟨d, t, o3, o4, o5, e3, e4, hd, e, rfl⟩
                have : t = [] := by simpa using e4
                subst this
                simp at e3
                refine ⟨by simp, ?_⟩
                have := hres G2 e
                rw [e3] at this
                simpa [hd] using this
          · have e2 : ¬ ((r.length : Int) + 1 + 1 = 2 + (sortsOf w).length) := by omega
            simp [e2]
            have := h G1 e1
            simpa [hlen] using this
        · simp [hb]
          rwa [stepB_not fun w' n' r' e1 h1 h2 _ => by cases e1; exact hb (by simp [wholeB, h1, h2])] at h0
      | _ => simpa [kindD, stepB] using h0
  | _ => simpa [b__law_good_step, startD, kn.isK, kindD, stepB] using h0
end TC
set_option maxRecDepth 100000
/-! SD: scripts, the functions that ask, draws. -/
namespace TC
open PySem PySem.Spec PyProof.Rows L2

abbrev sp__law_good_script : DSp := sp_is_right_script
def b__law_good_script  (E : DXK) : WS :=
  (wRet (weAnd (wCall sp__law_wide (fun _ => E) (wCons (wVar 0) (wCons (wC (.int 0)) (wCons (wC (.int 4)) wNil)))) (wOp dEq (wLc [1] (wiTup (wVar 0)) (wgName 1) (wtNot (wTest (wCall sp__law_good_step (noX) (wCons (wVar 1) wNil)))) (wVar 1)) (wLst wNil))))
abbrev N__law_good_script : List Str := ["value", "one"]
abbrev Okb__law_good_script  (sp : DSp) : Prop := ∀ ds G Q E, sp ds G Q E → b__law_good_script  E { nx := fun _ G' => Q .non G', rt := Q } (startD N__law_good_script ds) G
theorem ok__law_good_script : Okb__law_good_script sp__law_good_script := by
  intro ds G Q E h
  obtain ⟨v, rfl, n, hn, kn, h⟩ := sp1_inv h
  have h0 := h G .refl
  by_cases hw : wideB 0 4 v = true
  · obtain ⟨xs, rfl, l1, l2⟩ := wideB_true hw
    have l3 : xs.length ≤ 4 := by omega
    simp [b__law_good_script, startD, hw]
    refine ⟨⟨n, kn⟩, ?_⟩
    refine lc_keep (fun d => !stepB d) (by omega) (fun _ _ => trivial) (fun x hx G1 acc K e hacc hK => ?_) fun G1 p e hp => ?_
    · simp
      refine ⟨n, hn, (kn.mem hx).ext e, fun G2 e2 => ?_⟩
      have := hK G2 e2
      by_cases hc : stepB x = true
      · simpa [hc] using this
      · simpa [hc, hacc] using this
    · intro q hq
      have hfl := List.length_filter_le (fun d => !stepB d) xs
      have e1 := (e.trans (Ext.new hp)).trans (Ext.new (o := .lst []) hq)
      refine dEq_nil n (by rw [updD_ne (ne_new hq), updD_same]) updD_same hn (by omega) (fun d hd => (kn.mem (List.mem_filter.mp hd).1).ext e1) ?_
      rw [notEmpty_all]
      have := h _ e1
      simpa [scriptB_tup, l3] using this
  · simp [b__law_good_script, startD, hw]
    refine ⟨⟨n, kn⟩, ?_⟩
    cases v with
    | tup xs =>
      have : ¬ xs.length ≤ 4 := fun l => hw (by simp [wideB]; omega)
      simpa [scriptB_tup, this] using h0
    | _ => simpa [scriptB] using h0

/-! ### asking -/
abbrev sp_need_show (C : Addr) : DSp := sp1 fun v G Q E => ∃ n, n < 20 ∧ Kn n G v ∧ ∀ G', Ext G G' → if showB v = true then Q .non G' else E ⟨C, none⟩ G'
def b_need_show (C : ExC) (E : DXK) : WS :=
  (wIf (wtNot (wTest (wCall sp_is_right_show (fun _ => E) (wCons (wVar 0) wNil)))) (wRaise (fun _ => E) C.InvalidShow) wNext)
abbrev N_need_show : List Str := ["value"]
abbrev Okb_need_show (C : ExC) (sp : DSp) : Prop := ∀ ds G Q E, sp ds G Q E → b_need_show C E { nx := fun _ G' => Q .non G', rt := Q } (startD N_need_show ds) G
theorem ok_need_show {C : ExC} : Okb_need_show C (sp_need_show C.InvalidShow) := by
  intro ds G Q E h
  obtain ⟨v, rfl, n, hn, kn, h⟩ := sp1_inv h
  simp [b_need_show, startD]
  refine ⟨n, hn, kn, fun G1 e => ?_⟩
  have := h G1 e
  by_cases hs : showB v = true
  · simpa [hs] using this
  · simpa [hs] using this
abbrev sp_is_show : DSp := sp_is_right_show
abbrev sp_is_step : DSp := sp_is_right_step
abbrev sp_is_script : DSp := sp_is_right_script
def b_is_show  (E : DXK) : WS :=
  (wRet (wCall sp_is_right_show (fun _ => E) (wCons (wVar 0) wNil)))
abbrev N_is_show : List Str := ["value"]
abbrev Okb_is_show  (sp : DSp) : Prop := ∀ ds G Q E, sp ds G Q E → b_is_show  E { nx := fun _ G' => Q .non G', rt := Q } (startD N_is_show ds) G
def b_is_step  (E : DXK) : WS :=
  (wRet (wCall sp_is_right_step (fun _ => E) (wCons (wVar 0) wNil)))
abbrev N_is_step : List Str := ["value"]
abbrev Okb_is_step  (sp : DSp) : Prop := ∀ ds G Q E, sp ds G Q E → b_is_step  E { nx := fun _ G' => Q .non G', rt := Q } (startD N_is_step ds) G
def b_is_script  (E : DXK) : WS :=
  (wRet (wCall sp_is_right_script (fun _ => E) (wCons (wVar 0) wNil)))
abbrev N_is_script : List Str := ["value"]
abbrev Okb_is_script  (sp : DSp) : Prop := ∀ ds G Q E, sp ds G Q E → b_is_script  E { nx := fun _ G' => Q .non G', rt := Q } (startD N_is_script ds) G
theorem ok_is_show : Okb_is_show sp_is_show := by
  intro ds G Q E h
  obtain ⟨v, rfl, h⟩ := sp1_inv h
  simpa [b_is_show, startD] using h
theorem ok_is_step : Okb_is_step sp_is_step := by
  intro ds G Q E h
  obtain ⟨v, rfl, h⟩ := sp1_inv h
  simpa [b_is_step, startD] using h
theorem ok_is_script : Okb_is_script sp_is_script := by
  intro ds G Q E h
  obtain ⟨v, rfl, h⟩ := sp1_inv h
  simpa [b_is_script, startD] using h
def lenD : D → Int
  | .tup ms => ms.length
  | _ => 0
def sizeD : D → Int
  | .tup [_, .tup us] => (us.map lenD).sum
  | _ => 0
theorem cueB_tup {chs : List Str} {v : D} (h : cueB chs v = true) : ∃ ms, v = .tup ms := by
  cases v with
  | tup ms => exact ⟨ms, rfl⟩
  | _ => cases h
abbrev sp_count_moves (C : Addr) : DSp := sp1 fun v G Q E => ∃ n, n < 20 ∧ Kn n G v ∧ ∀ G', Ext G G' → if showB v = true then Q (.int (sizeD v)) G' else E ⟨C, none⟩ G'
def b_count_moves (C : ExC) (E : DXK) : WS :=
  (wSeq (wExpr (wCall (sp_need_show C.InvalidShow) (fun _ => E) (wCons (wVar 0) wNil)))
  (wRet (wCB dSum (wCons (wLc [1] (wiTup (wOp dIx (wVar 0) (wC (.int 1)))) (wgName 1) wtYes (wCB dLen (wCons (wVar 1) wNil))) wNil))))
abbrev N_count_moves : List Str := ["show", "cue"]
abbrev Okb_count_moves (C : ExC) (sp : DSp) : Prop := ∀ ds G Q E, sp ds G Q E → b_count_moves C E { nx := fun _ G' => Q .non G', rt := Q } (startD N_count_moves ds) G
theorem sum_lens {G : DHp} {Q : DK} {us : List D} {p : Addr} (w : Q (.int (us.map lenD).sum) (updD G p (.lst (us.map fun d => .int (lenD d))))) : dSum [.ref p] (updD G p (.lst (us.map fun d => .int (lenD d)))) Q := by
  rw [dSum_ref]
  exact ⟨us.map lenD, by rw [updD_same, List.map_map]; rfl, w⟩
theorem ok_count_moves {C : ExC} : Okb_count_moves C (sp_count_moves C.InvalidShow) := by
  intro ds G Q E h
  obtain ⟨v, rfl, n, hn, kn, h⟩ := sp1_inv h
  simp [b_count_moves, startD]
  refine ⟨n, hn, kn, fun G1 e => ?_⟩
  by_cases hs : showB v = true
  · obtain ⟨cs, us, rfl, _, _, _, _, hu⟩ := showB_wide hs
    have ku : Kn n G (.tup us) := kn.mem (by simp)
    have hl := ku.len
    simp [hs]
    refine lc_map (fun d => .int (lenD d)) (by omega) (fun _ _ => trivial) (fun x hx G2 K e2 hK => ?_) fun G2 p e2 hp => ?_
    · obtain ⟨ms, rfl⟩ := cueB_tup (List.all_eq_true.mp hu x hx)
      simpa [lenD] using hK G2 .refl
    · refine sum_lens ?_
      have := h _ ((e.trans e2).trans (Ext.new (o := .lst (us.map fun d => .int (lenD d))) hp))
      simpa [hs, sizeD] using this
  · have := h G1 e
    simpa [hs] using this
abbrev sp__law_size : DSp := sp1 fun v G Q _ => ∃ n, n < 20 ∧ Kn n G v ∧ showB v = true ∧ ∀ G', Ext G G' → Q (.int (sizeD v)) G'
def b__law_size  (E : DXK) : WS :=
  (wRet (wCB dSum (wCons (wLc [1] (wiTup (wOp dIx (wVar 0) (wC (.int 1)))) (wgName 1) wtYes (wCB dLen (wCons (wVar 1) wNil))) wNil)))
abbrev N__law_size : List Str := ["show", "cue"]
abbrev Okb__law_size  (sp : DSp) : Prop := ∀ ds G Q E, sp ds G Q E → b__law_size  E { nx := fun _ G' => Q .non G', rt := Q } (startD N__law_size ds) G
theorem ok__law_size : Okb__law_size sp__law_size := by
  intro ds G Q E h
  obtain ⟨v, rfl, n, hn, kn, hs, h⟩ := sp1_inv h
  obtain ⟨cs, us, rfl, _, _, _, _, hu⟩ := showB_wide hs
  have ku : Kn n G (.tup us) := kn.mem (by simp)
  have hl := ku.len
  simp [b__law_size, startD]
  refine lc_map (fun d => .int (lenD d)) (by omega) (fun _ _ => trivial) (fun x hx G2 K e2 hK => ?_) fun G2 p e2 hp => ?_
  · obtain ⟨ms, rfl⟩ := cueB_tup (List.all_eq_true.mp hu x hx)
    simpa [lenD] using hK G2 .refl
  · refine sum_lens ?_
    have := h _ (e2.trans (Ext.new (o := .lst (us.map fun d => .int (lenD d))) hp))
    simpa [sizeD] using this
/-- a bool told, a bool due -/
def isBoolF (a b : D) (G : DHp) (Q : DK) : Prop := match a, b with
  | .bl x, .bl y => Q (.bl (x == y)) G
  | _, _ => False
@[simp] theorem isBoolF_bl {x y : Bool} {G : DHp} {Q : DK} : isBoolF (.bl x) (.bl y) G Q = Q (.bl (x == y)) G := rfl
abbrev sp__law_is_bool : DSp := sp2 fun a b G Q _ => isBoolF a b G Q
def b__law_is_bool  (E : DXK) : WS :=
  (wRet (weAnd (wIsi .bool (wVar 0)) (wOp dEq (wVar 0) (wVar 1))))
abbrev N__law_is_bool : List Str := ["told", "due"]
abbrev Okb__law_is_bool  (sp : DSp) : Prop := ∀ ds G Q E, sp ds G Q E → b__law_is_bool  E { nx := fun _ G' => Q .non G', rt := Q } (startD N__law_is_bool ds) G
theorem ok__law_is_bool : Okb__law_is_bool sp__law_is_bool := by
  intro ds G Q E h
  obtain ⟨a, b, rfl, hh⟩ := sp2_inv h
  clear h
  unfold isBoolF at hh
  split at hh
  · simpa [b__law_is_bool, startD] using hh
  · exact hh.elim

/-! ### draws -/
/-- what a draw leaves: all but the source as it was, the source a source -/
def Drew (s : Addr) (G G' : DHp) : Prop := ExtB s G G' ∧ Src G' s
theorem Drew.trans {s : Addr} {G G1 G2 : DHp} (a : Drew s G G1) (b : Drew s G1 G2) : Drew s G G2 := ⟨a.1.trans b.1, b.2⟩
theorem Drew.of {s : Addr} {G : DHp} (h : Src G s) : Drew s G G := ⟨.refl, h⟩
theorem Drew.ext {s : Addr} {G G1 G2 : DHp} (a : Drew s G G1) (e : Ext G1 G2) : Drew s G G2 := ⟨a.1.trans e.b, a.2.ext e⟩
theorem Src.drew {s : Addr} {G G' : DHp} (h : Src G s) (e : Ext G G') : Drew s G G' := ⟨e.b, h.ext e⟩
abbrev sp__law_source : DSp := sp2 fun sc k G Q _ => ∃ (ns : List Int) (i : Nat), sc = .rl (ns.map .int) ∧ k = .int i ∧ i ≤ 1000000 ∧ ∀ p G', G p = none → Ext G G' → Src G' p → Q (.ref p) G'
def b__law_source  (E : DXK) : WS :=
  (wSeq (wAsg (wC (.int 0)) (wgName 2))
  (wSeq (wIf (wTest (wOp dGt (wCB dLen (wCons (wVar 0) wNil)) (wVar 1))) (wAsg (wCB dInt1 (wCons (wOp dIx (wVar 0) (wVar 1)) wNil)) (wgName 2)) wNext)
  (wSeq (wAsg (wOp dMod (wOp dAdd (wOp dAdd (wOp dMul (wVar 2) (wC (.int 16807))) (wOp dMul (wC (.int 60919)) (wVar 1))) (wC (.int 31))) (wC (.int 2147481173))) (wgName 3))
  (wSeq (wAsg (wOp dAdd (wOp dAdd (wOp dMod (wOp dMul (wVar 3) (wVar 3)) (wC (.int 2147481151))) (wOp dMul (wC (.int 2)) (wVar 1))) (wC (.int 5))) (wgName 3))
  (wRet (wLst (wCons (wIfE (wTest (wOp dGe (wVar 2) (wOp dPow (wC (.int 10)) (wC (.int 18))))) (wVar 2) (wC (.int 0))) (wCons (wVar 3) wNil))))))))
abbrev N__law_source : List Str := ["script", "k", "number", "start"]
abbrev Okb__law_source  (sp : DSp) : Prop := ∀ ds G Q E, sp ds G Q E → b__law_source  E { nx := fun _ G' => Q .non G', rt := Q } (startD N__law_source ds) G
theorem ok__law_source : Okb__law_source sp__law_source := by
  intro ds G Q E h
  obtain ⟨sc, k, rfl, ns, i, rfl, rfl, hi, h⟩ := sp2_inv h
  have fin : ∀ (x y : Int), 0 ≤ y → y < 2147481151 → (0 ≤ x) → ∀ q, G q = none → Q (.ref q) (updD G q (.lst [.int x, .int (y + 2 * (i : Int) + 5)])) := fun x y y0 y1 x0 q hq =>
    h q _ hq (Ext.new hq) ⟨x, _, updD_same, x0, by omega, by omega⟩
  have m1 : ∀ x : Int, CMul x 16807 := fun x => .inr (by omega)
  have m2 : CMul 60919 (i : Int) := .inl (by omega)
  have m3 : CMul 2 (i : Int) := .inl (by omega)
  have m4 : ∀ x : Int, CMul (x % 2147481173) (x % 2147481173) := fun x => .inl (by omega)
  have m5 : CPow 10 18 := ⟨by omega, by omega, by decide⟩
  simp [b__law_source, startD]
  by_cases hl : i < ns.length
  · have e1 : pick (ns.map D.int) (i : Int) = some (.int ns[i]) := by rw [pick_nat, List.getElem?_map, List.getElem?_eq_getElem hl]; rfl
    simp [hl, e1, m1, m2, m3, m4, m5]
    by_cases hb : 1000000000000000000 ≤ ns[i]
    · simp [hb]
      exact fin _ _ (by omega) (by omega) (by omega)
    · simp [hb]
      exact fin _ _ (by omega) (by omega) (by omega)
  · simp [hl, m1, m2, m3, m4, m5]
    exact fin _ _ (by omega) (by omega) (by omega)
abbrev sp__law_pick : DSp := sp2 fun s m G Q _ => ∃ (a : Addr) (k : Nat), s = .ref a ∧ m = .int k ∧ 1 ≤ k ∧ k ≤ 1000000 ∧ Src G a ∧ ∀ G' (r : Nat), Drew a G G' → r < k → Q (.int r) G'
def b__law_pick  (E : DXK) : WS :=
  (wSeq (wIf (wTest (wOp dGt (wOp dIx (wVar 0) (wC (.int 0))) (wC (.int 0)))) (wSeq (wAsg (wOp dMod (wCB dInt1 (wCons (wOp dIx (wVar 0) (wC (.int 0))) wNil)) (wVar 1)) (wgName 2))
  (wSeq (wAsg (wOp dFdiv (wCB dInt1 (wCons (wOp dIx (wVar 0) (wC (.int 0))) wNil)) (wVar 1)) (wgSub (wVar 0) (wC (.int 0))))
  (wRet (wVar 2)))) wNext)
  (wSeq (wAsg (wOp dMod (wCB dInt1 (wCons (wOp dAdd (wOp dMul (wOp dIx (wVar 0) (wC (.int 1))) (wC (.int 44497))) (wC (.int 9973))) wNil)) (wC (.int 2147483647))) (wgSub (wVar 0) (wC (.int 1))))
  (wRet (wOp dMod (wOp dFdiv (wOp dMod (wCB dInt1 (wCons (wOp dMul (wOp dIx (wVar 0) (wC (.int 1))) (wOp dIx (wVar 0) (wC (.int 1)))) wNil)) (wC (.int 2147483399))) (wC (.int 11))) (wVar 1)))))
abbrev N__law_pick : List Str := ["source", "many", "found"]
abbrev Okb__law_pick  (sp : DSp) : Prop := ∀ ds G Q E, sp ds G Q E → b__law_pick  E { nx := fun _ G' => Q .non G', rt := Q } (startD N__law_pick ds) G
theorem ok__law_pick : Okb__law_pick sp__law_pick := by
  intro ds G Q E h
  obtain ⟨s, m, rfl, p, k, rfl, rfl, k1, k2, hs, h⟩ := sp2_inv h
  obtain ⟨a, b, hp, ha, hb, hb2⟩ := hs.at_
  simp [b__law_pick, startD, hp]
  by_cases h0 : 0 < a
  · simp [h0]
    refine ⟨by omega, ⟨by omega, by omega⟩, ?_⟩
    have e1 : 0 ≤ a % (k : Int) := Int.emod_nonneg _ (by omega)
    have e2 : a % (k : Int) < k := Int.emod_lt_of_pos _ (by omega)
    have e3 : a % (k : Int) = ((a % (k : Int)).toNat : Int) := by omega
    rw [e3]
    refine h _ _ ⟨.write, ⟨_, _, updD_same, Int.ediv_nonneg ha (by omega), hb, hb2⟩⟩ (by omega)
  · simp [h0]
    refine ⟨.inr (by omega), ?_⟩

    have e0 : 0 ≤ (b * 44497 + 9973) % 2147483647 := by omega
    have e4 : (b * 44497 + 9973) % 2147483647 < 2147483647 := by omega
    generalize (b * 44497 + 9973) % 2147483647 = c at e0 e4 ⊢
    refine ⟨.inl (by omega), ⟨by omega, by omega⟩, by omega, ?_⟩
    generalize c * c % 2147483399 / 11 = x
    have e1 : 0 ≤ x % (k : Int) := Int.emod_nonneg _ (by omega)
    have e2 : x % (k : Int) < k := Int.emod_lt_of_pos _ (by omega)
    have e3 : x % (k : Int) = ((x % (k : Int)).toNat : Int) := by omega
    rw [e3]
    refine h _ _ ⟨.write, ⟨_, _, updD_same, ha, e0, by omega⟩⟩ (by omega)
end TC
set_option maxRecDepth 100000
/-! SE: drawn values. -/
namespace TC
open PySem PySem.Spec PyProof.Rows L2

abbrev sp__law_chosen : DSp := sp2 fun s t G Q _ => ∃ a xs, s = .ref a ∧ itemsD (hid a G) t = some xs ∧ xs ≠ [] ∧ xs.length ≤ 1000000 ∧ Src G a ∧ ∀ G' x, Drew a G G' → x ∈ xs → Q x G'
def b__law_chosen  (E : DXK) : WS :=
  (wRet (wOp dIx (wVar 1) (wCall sp__law_pick (fun _ => E) (wCons (wVar 0) (wCons (wCB dLen (wCons (wVar 1) wNil)) wNil)))))
abbrev N__law_chosen : List Str := ["source", "things"]
abbrev Okb__law_chosen  (sp : DSp) : Prop := ∀ ds G Q E, sp ds G Q E → b__law_chosen  E { nx := fun _ G' => Q .non G', rt := Q } (startD N__law_chosen ds) G
theorem ok__law_chosen : Okb__law_chosen sp__law_chosen := by
  intro ds G Q E h
  obtain ⟨s, t, rfl, a, xs, rfl, ht, hne, hl, hs, h⟩ := sp2_inv h
  simp [b__law_chosen, startD]
  refine dLen_items (itemsD_ext hid_le ht) ?_
  refine ⟨xs.length, rfl, List.length_pos_iff.mpr hne, hl, hs, fun G1 r d hr => ?_⟩
  refine dIx_items (itemsD_ext hid_le (itemsD_ext d.1.hid ht)) (x := xs[r]) (by rw [pick_nat]; exact List.getElem?_eq_getElem hr) ?_
  exact h G1 _ d (List.getElem_mem hr)

/-- a comprehension of draws -/
theorem lc_draw {gd : DHp → Prop} {g : WG} {we : WE} {ρ : Ro} {Q : DK} {xs : List D} {G : DHp} (s : Addr) (P : DHp → D → Prop) (hs : Src G s) (hm : ∀ G1 G2 d, ExtB s G1 G2 → P G1 d → P G2 d) (hl : xs.length ≤ 1000000) (hgd : ∀ G', Drew s G G' → gd G')
    (step : ∀ x, x ∈ xs → ∀ (G1 : DHp) (K : DK), Drew s G G1 → (∀ G2 y, Drew s G1 G2 → P G2 y → K y G2) → g x ρ G1 fun ρ1 G2 => we ρ1 G2 K)
    (fin : ∀ G1 p ys, Drew s G G1 → G1 p = none → ys.length = xs.length → (∀ y ∈ ys, P G1 y) → Q (.ref p) (updD G1 p (.lst ys))) : lcW gd g wtYes we ρ Q xs [] G := by
  refine lcW_rule (fun r acc G1 => ∃ d, xs = d ++ r ∧ acc.length = d.length ∧ Drew s G G1 ∧ ∀ y ∈ acc, P G1 y) ?_ ?_ ⟨[], rfl, rfl, .of hs, by simp⟩
  · rintro x r acc G1 K ⟨d, rfl, ha, e, hp⟩ hK
    refine ⟨hgd _ e, ?_⟩
    have hmx : x ∈ d ++ x :: r := by simp
    have := step x hmx G1 (fun y G3 => acc.length < 1000000 ∧ K (acc ++ [y]) G3) e fun G2 y e2 py => ⟨by simp at hl ⊢; omega, hK _ _ ⟨d ++ [x], by simp, by simp [ha], e.trans e2, fun z hz => by
      rcases List.mem_append.mp hz with h | h
      · exact hm _ _ _ e2.1 (hp z h)
      · rw [List.mem_singleton.mp h]; exact py⟩⟩
    simpa using this
  · rintro acc G1 ⟨d, e1, ha, e, hp⟩
    simp at e1
    subst e1
    exact ⟨hgd _ e, fun p hp' => fin G1 p acc e hp' ha hp⟩
theorem ks_mono {s : Addr} {n : Nat} : ∀ G1 G2 d, ExtB s G1 G2 → Ks n s G1 d → Ks n s G2 d := fun _ _ _ e h => h.exb e
theorem items_hid {s p : Addr} {G : DHp} {xs : List D} (hp : s ≠ p) : itemsD (hid s (updD G p (.lst xs))) (.ref p) = some xs := itemsD_ref (by rw [hid_ne (Ne.symm hp), updD_same])

abbrev sp__law_any_value_n (n : Nat) : DSp := sp2 fun s d G Q _ => ∃ (a : Addr) (k : Nat), s = .ref a ∧ d = .int k ∧ k ≤ n ∧ Src G a ∧ ∀ G' x, Drew a G G' → Kf (k + 1) a G G' x → Q x G'
abbrev sp__law_any_value : DSp := sp__law_any_value_n 3
def b__law_any_value (R : DSp) (E : DXK) : WS :=
  (wSeq (wAsg (wLst (wCons (wC .non) (wCons (wC (.bl true)) (wCons (wC (.bl false)) (wCons (wC (.int 0)) (wCons (wC (.int 1)) (wCons (wC (.int 5)) (wCons (wC (.int 101)) (wCons (wUn dNeg (wC (.int 2))) (wCons (wOp dPow (wC (.int 10)) (wC (.int 12))) (wCons (wC (.str "")) (wCons (wC (.str "a")) (wCons (wC (.str "ab")) (wCons (wC (.str "track")) (wCons (wC (.str "only")) (wCons (wC (.str "A")) (wCons (wC (.str "z z")) (wCons (wTup wNil) (wCons (wLst wNil) (wCons (wTup (wCons (wC (.str "a")) wNil)) wNil)))))))))))))))))))) (wgName 2))
  (wSeq (wAsg (wCall sp__law_pick (fun _ => E) (wCons (wVar 0) (wCons (wC (.int 8)) wNil))) (wgName 3))
  (wSeq (wIf (wtOr (wTest (wOp dLt (wVar 1) (wC (.int 1)))) (wTest (wOp dLt (wVar 3) (wC (.int 5))))) (wRet (wCall sp__law_chosen (fun _ => E) (wCons (wVar 0) (wCons (wVar 2) wNil)))) wNext)
  (wSeq (wAsg (wLc [5] (wiRng1 (wCons (wCall sp__law_pick (fun _ => E) (wCons (wVar 0) (wCons (wC (.int 5)) wNil))) wNil)) (wgName 5) wtYes (wCall R (noX) (wCons (wVar 0) (wCons (wOp dSub (wVar 1) (wC (.int 1))) wNil)))) (wgName 4))
  (wRet (wIfE (wTest (wOp dEq (wVar 3) (wC (.int 5)))) (wVar 4) (wCB dTuple (wCons (wVar 4) wNil))))))))
abbrev N__law_any_value : List Str := ["source", "deep", "plain", "way", "parts", "turn"]
abbrev Okb__law_any_value (R : DSp) (sp : DSp) : Prop := ∀ ds G Q E, sp ds G Q E → b__law_any_value R E { nx := fun _ G' => Q .non G', rt := Q } (startD N__law_any_value ds) G
theorem any_core {R : DSp} {ds : List D} {G : DHp} {Q : DK} {E : DXK} {n : Nat} (h : sp__law_any_value_n n ds G Q E) (hR : ∀ (a : Addr) (k : Nat) (G : DHp) (Q : DK) (E : DXK), k + 1 ≤ n → Src G a → (∀ G' x, Drew a G G' → Kf (k + 1) a G G' x → Q x G') → R [.ref a, .int k] G Q E) :
    b__law_any_value R E { nx := fun _ G' => Q .non G', rt := Q } (startD N__law_any_value ds) G := by
  obtain ⟨s, d, rfl, a, k, rfl, rfl, hk, hs, h⟩ := sp2_inv h
  have m5 : CPow 10 12 := ⟨by omega, by omega, by decide⟩
  simp [b__law_any_value, startD, m5]
  intro p hp q hq
  have hap : a ≠ p := hs.ne hp
  have haq : a ≠ q := fun z => by subst z; rw [updD_ne hap] at hq; exact hs.ne hq rfl
  have hpq : p ≠ q := ne_new hq
  generalize hL : ([D.non, D.bl true, D.bl false, D.int 0, D.int 1, D.int 5, D.int 101, D.int (-2), D.int 1000000000000, D.str (Str.ofString ""), D.str (Str.ofString "a"), D.str (Str.ofString "ab"), D.str (Str.ofString "track"), D.str (Str.ofString "only"), D.str (Str.ofString "A"), D.str (Str.ofString "z z"), D.tup [], D.ref p, D.tup [D.str (Str.ofString "a")]] : List D) = L
  have e0 : Ext G (updD (updD G p (.lst [])) q (.lst L)) := (Ext.new hp).trans (Ext.new hq)
  have kL : ∀ x ∈ L, Kf 1 a G (updD (updD G p (.lst [])) q (.lst L)) x := by
    intro x hx
    rw [← hL] at hx
    have kr : Kf 1 a G (updD (updD G p (.lst [])) q (.lst L)) (.ref p) := ⟨[], by rw [hid_ne (Ne.symm hap), fre_at hp, updD_ne hpq, updD_same], by simp, by simp⟩
    simp only [List.mem_cons, List.not_mem_nil, or_false] at hx
    rcases hx with rfl | rfl | rfl | rfl | rfl | rfl | rfl | rfl | rfl | rfl | rfl | rfl | rfl | rfl | rfl | rfl | rfl | rfl | rfl
    all_goals first
      | exact kr
      | exact kn_non
      | exact kn_bl
      | exact kn_int
      | exact kn_str.mpr (by decide +kernel)
      | exact ⟨Nat.zero_le _, fun d hd => absurd hd List.not_mem_nil⟩
      | exact ⟨Nat.le_of_ble_eq_true rfl, fun d hd => by rw [List.mem_singleton.mp hd]; exact kn_str.mpr (by decide +kernel)⟩
  have iL : itemsD (hid a (updD (updD G p (.lst [])) q (.lst L))) (.ref q) = some L := items_hid haq
  have nL : L ≠ [] := by rw [← hL]; simp
  have lL : L.length ≤ 1000000 := by rw [← hL]; simp
  have d0 := hs.drew e0
  generalize updD (updD G p (.lst [])) q (.lst L) = G1 at e0 kL iL d0 ⊢
  refine ⟨8, rfl, by omega, by omega, d0.2, fun G2 r d1 hr => ?_⟩
  have d2 := d0.trans d1
  have flat : ∃ x, itemsD (hid a G2) (.ref q) = some x ∧ ¬ x = [] ∧ x.length ≤ 1000000 ∧ Src G2 a ∧ ∀ (G3 : DHp) (y : D), Drew a G2 G3 → y ∈ x → Q y G3 :=
    ⟨L, itemsD_ext d1.1.hid iL, nL, lL, d1.2, fun G3 y d3 hy => h G3 y (d2.trans d3) (Kn.mono (by omega) (Kf.on (kL y hy) (d1.trans d3).1))⟩
  by_cases hk1 : (k : Int) < 1
  · rw [if_pos hk1]; exact flat
  · rw [if_neg hk1]
    by_cases hr5 : (r : Int) < 5
    · rw [if_pos hr5]; exact flat
    · rw [if_neg hr5]
      refine ⟨5, rfl, by omega, by omega, d1.2, fun G3 m d3 hm => ⟨by omega, ?_⟩⟩
      have d13 := d2.trans d3
      refine lc_draw a (fun G' d => Kf k a G G' d) d3.2 (fun _ _ _ e h => Kf.on h e) (by simp; omega) (fun _ _ => trivial) (fun x hx G4 K d4 hK => ?_) fun G4 p4 ys d4 hp4 hl hys => ?_
      · simp
        have e1 : (k : Int) - 1 = ((k - 1 : Nat) : Int) := by omega
        rw [e1]
        refine hR a (k - 1) G4 K _ (by omega) d4.2 fun G5 y d5 ky => hK G5 y d5 ?_
        have e2 : k - 1 + 1 = k := by omega
        rw [e2] at ky
        exact Kf.from ky (d13.trans d4).1
      · have ha4 : a ≠ p4 := d4.2.ne hp4
        have e4 : Ext G4 (updD G4 p4 (.lst ys)) := Ext.new hp4
        have d5 : Drew a G (updD G4 p4 (.lst ys)) := (d13.trans d4).ext e4
        have hlen : ys.length ≤ 5 := by simp at hl; omega
        have ky : ∀ y ∈ ys, Kf k a G (updD G4 p4 (.lst ys)) y := fun y hy => Kf.on (hys y hy) e4.b
        have np : G p4 = none := by
          cases g : G p4 with
          | none => rfl
          | some u => have := (d13.trans d4).1 p4 u (Ne.symm ha4) g; rw [hp4] at this; cases this
        by_cases hr6 : (r : Int) = 5
        · rw [if_pos hr6]
          exact h _ _ d5 ⟨ys, by rw [hid_ne (Ne.symm ha4), fre_at np, updD_same], by omega, ky⟩
        · rw [if_neg hr6, dTuple_ref updD_same]
          exact h _ _ d5 ⟨by omega, ky⟩
theorem ok__law_any_value_0 : Okb__law_any_value noSp (sp__law_any_value_n 0) := fun ds G Q E h => any_core h fun a k G Q E hk _ _ => by omega
theorem ok__law_any_value_s (n : Nat) : Okb__law_any_value (sp__law_any_value_n n) (sp__law_any_value_n (n + 1)) := fun ds G Q E h => any_core h fun a k G Q E hk hs h' => ⟨a, k, rfl, rfl, by omega, hs, h'⟩
end TC
set_option maxRecDepth 100000
set_option maxHeartbeats 2000000
/-! SF: variants, drawn steps and shows. -/
namespace TC
open PySem PySem.Spec PyProof.Rows L2

abbrev sp__law_variant_n (n : Nat) : DSp := sp3 fun s v d G Q _ => ∃ (a : Addr) (k m : Nat) (xs : List D) (V : DHp), s = .ref a ∧ v = .tup xs ∧ d = .int k ∧ k ≤ n ∧ 3 ≤ m ∧ m + k ≤ 18 ∧ Src G a ∧ Ext V (hid a G) ∧ Kn m V v ∧ ∀ G' x, Drew a G G' → Kn (m + 1 + k) (ovr a G V G') x → Q x G'
abbrev sp__law_variant : DSp := sp__law_variant_n 4
def b__law_variant (R : DSp) (E : DXK) : WS :=
  (wSeq (wAsg (wCB dList (wCons (wVar 1) wNil)) (wgName 3))
  (wSeq (wIf (wTest (wOp dEq (wVar 3) (wLst wNil))) (wRet (wTup (wCons (wCall sp__law_any_value (fun _ => E) (wCons (wVar 0) (wCons (wC (.int 1)) wNil))) wNil))) wNext)
  (wSeq (wPar 5 6 (wCons (wCall sp__law_pick (fun _ => E) (wCons (wVar 0) (wCons (wCB dLen (wCons (wVar 3) wNil)) wNil))) (wCons (wCall sp__law_pick (fun _ => E) (wCons (wVar 0) (wCons (wC (.int 9)) wNil))) wNil)))
  (wSeq (wAsg (wOp dIx (wVar 3) (wVar 5)) (wgName 4))
  (wSeq (wIf (wtAnd (wTest (wIsi .tup (wVar 4))) (wtAnd (wTest (wOp dGt (wVar 2) (wC (.int 0)))) (wTest (wOp dGt (wVar 6) (wC (.int 2)))))) (wRet (wOp dAdd (wOp dAdd (wCB dTuple (wCons (wSl (wVar 3) woNone (woSome (wVar 5))) wNil)) (wTup (wCons (wCall R (fun _ => E) (wCons (wVar 0) (wCons (wVar 4) (wCons (wOp dSub (wVar 2) (wC (.int 1))) wNil)))) wNil))) (wCB dTuple (wCons (wSl (wVar 3) (woSome (wOp dAdd (wVar 5) (wC (.int 1)))) woNone) wNil)))) wNext)
  (wSeq (wIf (wTest (wOp dEq (wVar 6) (wC (.int 0)))) (wRet (wCB dTuple (wCons (wOp dAdd (wSl (wVar 3) woNone (woSome (wVar 5))) (wSl (wVar 3) (woSome (wOp dAdd (wVar 5) (wC (.int 1)))) woNone)) wNil))) wNext)
  (wSeq (wIf (wTest (wOp dEq (wVar 6) (wC (.int 1)))) (wRet (wCB dTuple (wCons (wOp dAdd (wSl (wVar 3) woNone (woSome (wOp dAdd (wVar 5) (wC (.int 1))))) (wSl (wVar 3) (woSome (wVar 5)) woNone)) wNil))) wNext)
  (wSeq (wIf (wTest (wOp dEq (wVar 6) (wC (.int 2)))) (wRet (wCB dTuple (wCons (wOp dAdd (wOp dAdd (wSl (wVar 3) woNone (woSome (wVar 5))) (wRev (wSl (wVar 3) (woSome (wVar 5)) (woSome (wOp dAdd (wVar 5) (wC (.int 2))))))) (wSl (wVar 3) (woSome (wOp dAdd (wVar 5) (wC (.int 2)))) woNone)) wNil))) wNext)
  (wSeq (wIf (wTest (wOp dEq (wVar 6) (wC (.int 3)))) (wRet (wVar 3)) wNext)
  (wSeq (wIf (wTest (wOp dLt (wVar 6) (wC (.int 6)))) (wAsg (wCall sp__law_any_value (fun _ => E) (wCons (wVar 0) (wCons (wC (.int 2)) wNil))) (wgSub (wVar 3) (wVar 5))) (wSeq (wAsg (wLst (wCons (wC (.str "a")) (wCons (wC (.str "b")) (wCons (wC (.str "track")) (wCons (wC (.str "only")) (wCons (wC (.str "keep")) (wCons (wC (.str "drop")) (wCons (wC (.str "set")) (wCons (wC (.str "clear")) (wCons (wC (.str "copy")) (wCons (wC (.str "swap")) (wCons (wC (.str "insert")) (wCons (wC (.str "block")) (wCons (wC (.int 6)) wNil)))))))))))))) (wgName 7))
  (wAsg (wCall sp__law_chosen (fun _ => E) (wCons (wVar 0) (wCons (wOp dAdd (wVar 7) (wLst (wCons (wC .non) (wCons (wC (.int 0)) (wCons (wC (.int 1)) (wCons (wC (.int 2)) (wCons (wC (.int 5)) (wCons (wC (.int 100)) (wCons (wC (.int 101)) (wCons (wTup wNil) (wCons (wLst wNil) wNil))))))))))) wNil))) (wgSub (wVar 3) (wVar 5)))))
  (wRet (wCB dTuple (wCons (wVar 3) wNil)))))))))))))
abbrev N__law_variant : List Str := ["source", "value", "deep", "parts", "inner", "spot", "way", "near"]
abbrev Okb__law_variant (R : DSp) (sp : DSp) : Prop := ∀ ds G Q E, sp ds G Q E → b__law_variant R E { nx := fun _ G' => Q .non G', rt := Q } (startD N__law_variant ds) G
theorem cut_mem {xs : List D} {lo hi : Option Int} {x : D} (h : x ∈ cut xs lo hi) : x ∈ xs := by
  unfold cut at h
  exact List.mem_of_mem_drop (List.mem_of_mem_take h)
theorem variant_core {R : DSp} {ds : List D} {G : DHp} {Q : DK} {E : DXK} {n : Nat} (h00 : sp__law_variant_n n ds G Q E)
    (hR : ∀ (a : Addr) (k m : Nat) (xs : List D) (V G : DHp) (Q : DK) (E : DXK), k + 1 ≤ n → 3 ≤ m → m + k ≤ 18 → Src G a → Ext V (hid a G) → Kn m V (.tup xs) → (∀ G' x, Drew a G G' → Kn (m + 1 + k) (ovr a G V G') x → Q x G') → R [.ref a, .tup xs, .int k] G Q E) :
    b__law_variant R E { nx := fun _ G' => Q .non G', rt := Q } (startD N__law_variant ds) G := by
  obtain ⟨s, v, d, rfl, a, k, m, xs, V, rfl, rfl, rfl, hk, hm, hmk, hs, hV, kv, h⟩ := sp3_inv h00
  clear h00
  have hlen := kv.len
  simp [b__law_variant, startD]
  intro p hp q hq
  have hap : a ≠ p := hs.ne hp
  have haq : a ≠ q := fun z => by subst z; rw [updD_ne hap] at hq; exact hs.ne hq rfl
  have hpq : p ≠ q := ne_new hq
  have e0 : Ext G (updD (updD G p (.lst xs)) q (.lst [])) := (Ext.new hp).trans (Ext.new hq)
  have kx : ∀ x ∈ xs, Kn m (ovr a G V (updD (updD G p (.lst xs)) q (.lst []))) x := fun x hx => (kv.mem hx).ext (ovr_base hV)
  have gp : updD (updD G p (.lst xs)) q (.lst []) p = some (.lst xs) := by rw [updD_ne hpq, updD_same]
  have gq : updD (updD G p (.lst xs)) q (.lst []) q = some (.lst []) := updD_same
  have d0 := hs.drew e0
  generalize updD (updD G p (.lst xs)) q (.lst []) = G1 at e0 kx gp gq d0 ⊢
  refine dEq_nil m gp gq (by omega) (by omega) (fun x hx => (kx x hx).ext ((ovr_le hV d0.1).trans hid_le)) ?_
  cases xs with
  | nil =>
    simp
    refine ⟨1, rfl, by omega, d0.2, fun G2 x d1 k2 => ?_⟩
    exact h _ _ (d0.trans d1) (Kn.mono (n := 3) (by omega) ⟨by simp, fun d hd => by rw [List.mem_singleton.mp hd]; exact Kn.ext (ovr_fre d0.1) k2⟩)
  | cons x0 xr =>
    generalize hX : x0 :: xr = xs at kv hlen kx gp ⊢
    have hne : xs ≠ [] := by rw [← hX]; simp
    have hpos : 0 < xs.length := List.length_pos_iff.mpr hne
    have hemp : xs.isEmpty = false := by cases xs <;> simp_all
    simp [hemp, gp, wPar_two]
    refine ⟨xs.length, rfl, hpos, by omega, d0.2, fun G2 s d1 hs1 => ⟨9, rfl, by omega, by omega, d1.2, fun G3 w d2 hw => ?_⟩⟩
    have d3 := (d0.trans d1).trans d2
    have gp3 : G3 p = some (.lst xs) := (d1.trans d2).1 p _ (Ne.symm hap) gp
    have kx3 : ∀ x ∈ xs, Kn m (ovr a G V G3) x := fun x hx => (kx x hx).ext (ovr_on (d1.trans d2).1)
    have hV3 : Ext (ovr a G V G3) (hid a G3) := ovr_le hV d3.1
    refine ⟨xs, gp3, ?_⟩
    have e1 : pick xs (s : Int) = some xs[s] := by rw [pick_nat]; exact List.getElem?_eq_getElem hs1
    have ky : Kn m (ovr a G V G3) xs[s] := kx3 _ (List.getElem_mem hs1)
    have c1 : (s : Int) + 1 = ((s + 1 : Nat) : Int) := by omega
    have c2 : (s : Int) + 2 = ((s + 2 : Nat) : Int) := by omega
    have fin : ∀ (L : List D) (G' : DHp), Drew a G3 G' → (∀ x ∈ L, Kn (m + k) (ovr a G V G') x) → L.length ≤ xs.length + 1 → Q (.tup L) G' := fun L G' d hL hl => by
      refine h _ _ (d3.trans d) ?_
      have : m + 1 + k = (m + k) + 1 := by omega
      rw [this]
      exact ⟨by omega, hL⟩
    have finX : ∀ (L : List D) (G' : DHp), Ext G3 G' → (∀ x ∈ L, x ∈ xs) → L.length ≤ xs.length + 1 → Q (.tup L) G' := fun L G' e hL hl =>
      fin L G' (d2.2.drew e) (fun x hx => ((kx3 x (hL x hx)).ext (ovr_on e.b)).mono (by omega)) hl
    have mt : ∀ {n : Nat} {x : D}, x ∈ xs.take n → x ∈ xs := List.mem_of_mem_take
    have md : ∀ {n : Nat} {x : D}, x ∈ xs.drop n → x ∈ xs := List.mem_of_mem_drop
    simp [e1, (ky.ext (hV3.trans hid_le)).isK]
    simp only [c1, c2, cut_to, cut_from, cut_ft]
    by_cases hall : kindD .tup xs[s] = true ∧ 0 < k ∧ (2 : Int) < w
    · obtain ⟨i1, i2, i3⟩ := hall
      simp [i1, i2, i3]
      obtain ⟨ys, ey⟩ : ∃ ys, xs[s] = .tup ys := by
        cases hq' : xs[s] with
        | tup ys => exact ⟨ys, rfl⟩
        | _ => rw [hq'] at i1; simp [kindD] at i1
      rw [ey] at ky ⊢
      refine ⟨xs, gp3, fun r hr => ?_⟩
      have har := d2.2.ne hr
      rw [dTuple_ref updD_same]
      have e4 : Ext G3 (updD G3 r (.lst (xs.take s))) := Ext.new hr
      have d4 := d2.2.drew e4
      have ky4 : Kn m (ovr a G V (updD G3 r (.lst (xs.take s)))) (.tup ys) := ky.ext (ovr_on e4.b)
      have gp4 : updD G3 r (.lst (xs.take s)) p = some (.lst xs) := e4 p _ gp3
      generalize updD G3 r (.lst (xs.take s)) = G4 at e4 d4 ky4 gp4 ⊢
      have e5 : (k : Int) - 1 = ((k - 1 : Nat) : Int) := by omega
      rw [e5]
      refine hR a (k - 1) m ys (ovr a G V G4) G4 _ _ (by omega) hm (by omega) d4.2 (ovr_le hV (d3.trans d4).1) ky4 fun G5 x d5 kx5 => ?_
      replace kx5 := kx5.ext (ovr_trans (d3.trans d4).1 d5.1)
      have gp5 : G5 p = some (.lst xs) := d5.1 p _ (Ne.symm hap) gp4
      simp
      refine ⟨by omega, xs, gp5, fun r2 hr2 => ?_⟩
      rw [dTuple_ref updD_same]
      simp
      refine ⟨by omega, ?_⟩
      have e6 : Ext G5 (updD G5 r2 (.lst (xs.drop (s + 1)))) := Ext.new hr2
      have d6 : Drew a G3 (updD G5 r2 (.lst (xs.drop (s + 1)))) := (d4.trans d5).ext e6
      refine fin _ _ d6 (fun y hy => ?_) (by simp; omega)
      have hy' : y ∈ xs ∨ y = x := by
        simp at hy
        rcases hy with h | h | h
        · exact .inl (mt h)
        · exact .inr h
        · exact .inl (md h)
      rcases hy' with h | rfl
      · exact ((kx3 y h).ext (ovr_on d6.1)).mono (by omega)
      · exact (kx5.ext (ovr_on e6.b)).mono (by omega)
    · refine ite3 hall ?_
      by_cases w0 : w = 0
      · rw [if_pos w0]
        refine ⟨xs, gp3, fun r hr => ⟨xs, Ext.new hr p _ gp3, fun r1 hr1 => ⟨_, Ext.new hr1 r _ updD_same, by simp; omega, fun r2 hr2 => ?_⟩⟩⟩
        rw [dTuple_ref updD_same]
        refine finX _ _ ((Ext.new hr).trans ((Ext.new hr1).trans (Ext.new hr2))) (fun x hx => ?_) (by simp; omega)
        simp at hx
        exact hx.elim mt md
      · rw [if_neg w0]
        by_cases w1 : (w : Int) = 1
        · rw [if_pos w1]
          refine ⟨xs, gp3, fun r hr => ⟨xs, Ext.new hr p _ gp3, fun r1 hr1 => ⟨_, Ext.new hr1 r _ updD_same, by simp; omega, fun r2 hr2 => ?_⟩⟩⟩
          rw [dTuple_ref updD_same]
          refine finX _ _ ((Ext.new hr).trans ((Ext.new hr1).trans (Ext.new hr2))) (fun x hx => ?_) (by simp; omega)
          simp at hx
          exact hx.elim mt md
        · rw [if_neg w1]
          by_cases w2 : (w : Int) = 2
          · rw [if_pos w2]
            refine ⟨xs, gp3, fun r hr => ⟨xs, Ext.new hr p _ gp3, fun r1 hr1 p1 hp1 => ⟨_, Ext.new hp1 r _ (Ext.new hr1 r _ updD_same), by simp; omega, fun r3 hr3 => ?_⟩⟩⟩
            refine ⟨xs, (((Ext.new hr).trans ((Ext.new hr1).trans (Ext.new hp1))).trans (Ext.new hr3)) p _ gp3, fun r4 hr4 => ⟨_, Ext.new hr4 r3 _ updD_same, by simp; omega, fun r5 hr5 => ?_⟩⟩
            rw [dTuple_ref updD_same]
            refine finX _ _ ((((Ext.new hr).trans ((Ext.new hr1).trans (Ext.new hp1))).trans (Ext.new hr3)).trans ((Ext.new hr4).trans (Ext.new hr5))) (fun x hx => ?_) (by simp; omega)
            simp at hx
            rcases hx with h | h | h
            · exact mt h
            · exact md (List.mem_of_mem_take h)
            · exact md h
          · rw [if_neg w2]
            by_cases w3 : (w : Int) = 3
            · rw [if_pos w3]
              refine h _ _ d3 ?_
              have : m + 1 + k = (m + k) + 1 := by omega
              rw [this]
              exact ⟨xs, by rw [ovr_new hp, hid_ne (Ne.symm hap)]; exact gp3, by omega, fun x hx => (kx3 x hx).mono (by omega)⟩
            · rw [if_neg w3]
              have fin2 : ∀ G' x, Drew a G3 G' → Kf (m + k) a G3 G' x → ∃ xs, G' p = some (.lst xs) ∧ s < xs.length ∧ dTuple [.ref p] (updD G' p (.lst (xs.set s x))) Q := fun G' x d kx' => by
                have gp' : G' p = some (.lst xs) := d.1 p _ (Ne.symm hap) gp3
                refine ⟨xs, gp', hs1, ?_⟩
                rw [dTuple_ref updD_same]
                have dd := d3.trans d
                have eb : ExtB a G (updD G' p (.lst (xs.set s x))) := dd.1.writeN hp
                have sr : Src (updD G' p (.lst (xs.set s x))) a := by
                  obtain ⟨u, v, q1, q2⟩ := dd.2.at_
                  exact ⟨u, v, by rw [updD_ne hap]; exact q1, q2⟩
                refine h _ _ ⟨eb, sr⟩ ?_
                have : m + 1 + k = (m + k) + 1 := by omega
                rw [this]
                refine ⟨by simp; omega, fun y hy => ?_⟩
                rcases List.mem_or_eq_of_mem_set hy with h' | rfl
                · exact ((kv.mem h').ext (ovr_base hV)).mono (by omega)
                · exact Kn.ext (ovr_write d3.1 gp3) kx'
              by_cases w6 : (w : Int) < 6
              · rw [if_pos w6]
                exact ⟨2, rfl, by omega, d2.2, fun G4 x d4 k4 => fin2 G4 x d4 (Kn.mono (by omega) k4)⟩
              · rw [if_neg w6]
                intro p1 hp1 p2 hp2 p3 hp3
                generalize hL1 : ([D.str (Str.ofString "a"), D.str (Str.ofString "b"), D.str (Str.ofString "track"), D.str (Str.ofString "only"), D.str (Str.ofString "keep"), D.str (Str.ofString "drop"), D.str (Str.ofString "set"), D.str (Str.ofString "clear"), D.str (Str.ofString "copy"), D.str (Str.ofString "swap"), D.str (Str.ofString "insert"), D.str (Str.ofString "block"), D.int 6] : List D) = L1 at hp2 hp3 ⊢
                generalize hL2 : ([D.non, D.int 0, D.int 1, D.int 2, D.int 5, D.int 100, D.int 101, D.tup [], D.ref p2] : List D) = L2 at hp3 ⊢
                have e1 : Ext G3 (updD G3 p1 (.lst L1)) := Ext.new hp1
                have e2 : Ext (updD G3 p1 (.lst L1)) (updD (updD G3 p1 (.lst L1)) p2 (.lst [])) := Ext.new hp2
                have e3 : Ext (updD (updD G3 p1 (.lst L1)) p2 (.lst [])) (updD (updD (updD G3 p1 (.lst L1)) p2 (.lst [])) p3 (.lst L2)) := Ext.new hp3
                refine ⟨L1, e3 p1 _ (e2 p1 _ updD_same), by rw [← hL1]; simp, fun r hr => ?_⟩
                have e4 : Ext (updD (updD (updD G3 p1 (.lst L1)) p2 (.lst [])) p3 (.lst L2)) (updD (updD (updD (updD G3 p1 (.lst L1)) p2 (.lst [])) p3 (.lst L2)) r (.lst (L1 ++ L2))) := Ext.new hr
                have ee := e1.trans (e2.trans (e3.trans e4))
                have a2 : a ≠ p2 := (d2.2.ext e1).ne hp2
                have ar : a ≠ r := (d2.2.ext (e1.trans (e2.trans e3))).ne hr
                have g2 : G3 p2 = none := e1.free hp2
                have q2 := e4 p2 _ (e3 p2 _ updD_same)
                refine ⟨L1 ++ L2, items_hid ar, by rw [← hL1]; simp, by rw [← hL1, ← hL2]; simp, d2.2.ext ee, fun G4 x d4 hx => ?_⟩
                refine fin2 G4 x ((d2.2.drew ee).trans d4) (Kf.on (G1 := updD (updD (updD (updD G3 p1 (.lst L1)) p2 (.lst [])) p3 (.lst L2)) r (.lst (L1 ++ L2))) ?_ d4.1)
                generalize updD (updD (updD (updD G3 p1 (.lst L1)) p2 (.lst [])) p3 (.lst L2)) r (.lst (L1 ++ L2)) = G5 at q2 ⊢
                have kr : Kf 1 a G3 G5 (.ref p2) := ⟨[], by rw [hid_ne (Ne.symm a2), fre_at g2]; exact q2, by simp, by simp⟩
                refine Kn.mono (n := 1) (by omega) ?_
                rw [← hL1, ← hL2] at hx
                simp only [List.cons_append, List.nil_append, List.mem_cons, List.not_mem_nil, or_false] at hx
                rcases hx with rfl | rfl | rfl | rfl | rfl | rfl | rfl | rfl | rfl | rfl | rfl | rfl | rfl | rfl | rfl | rfl | rfl | rfl | rfl | rfl | rfl | rfl
                all_goals first
                  | exact kr
                  | exact kn_non
                  | exact kn_int
                  | exact kn_str.mpr (by decide +kernel)
                  | exact ⟨Nat.zero_le _, fun d hd => absurd hd List.not_mem_nil⟩
theorem ok__law_variant_0 : Okb__law_variant noSp (sp__law_variant_n 0) := fun ds G Q E h => variant_core h fun a k m xs V G Q E hk _ _ _ _ _ _ => by omega
theorem ok__law_variant_s (n : Nat) : Okb__law_variant (sp__law_variant_n n) (sp__law_variant_n (n + 1)) := fun ds G Q E h => variant_core h fun a k m xs V G Q E hk hm hmk hs hV kv h' => ⟨a, k, m, xs, V, rfl, rfl, rfl, by omega, hm, hmk, hs, hV, kv, h'⟩
end TC
set_option maxRecDepth 100000
set_option maxHeartbeats 2000000
/-! SG: drawn steps, scripts, shows. -/
namespace TC
open PySem PySem.Spec PyProof.Rows L2

/-- known without a heap -/
abbrev K0 (n : Nat) (d : D) : Prop := Kn n (fun _ => none) d
theorem K0.kn {n : Nat} {d : D} {G : DHp} (h : K0 n d) : Kn n G d := Kn.ext (fun _ _ e => by cases e) h
def StepP (k : Nat) (x : D) : Prop := K0 1 x ∧ (k ≤ 5 → stepB x = true)
abbrev sp__law_step : DSp := sp2 fun s m G Q _ => ∃ (a : Addr) (k : Nat), s = .ref a ∧ m = .int k ∧ 1 ≤ k ∧ k ≤ 1000000 ∧ Src G a ∧ ∀ G' x, Drew a G G' → StepP k x → Q x G'
def b__law_step  (E : DXK) : WS :=
  (wSeq (wPar 2 3 (wCons (wOp dAdd (wC (.int 1)) (wCall sp__law_pick (fun _ => E) (wCons (wVar 0) (wCons (wVar 1) wNil)))) (wCons (wCall sp__law_chosen (fun _ => E) (wCons (wVar 0) (wCons (wLst (wCons (wC (.str "a")) (wCons (wC (.str "a")) (wCons (wC (.str "b")) (wCons (wC (.str "lamp")) wNil))))) wNil))) wNil)))
  (wSeq (wPar 4 5 (wCons (wCall sp__law_pick (fun _ => E) (wCons (wVar 0) (wCons (wC (.int 10)) wNil))) (wCons (wCall sp__law_chosen (fun _ => E) (wCons (wVar 0) (wCons (wLst (wCons (wC (.str "track")) (wCons (wC (.str "only")) wNil))) wNil))) wNil)))
  (wSeq (wIf (wTest (wOp dLt (wVar 4) (wC (.int 2)))) (wSeq (wAsg (wCall sp__law_chosen (fun _ => E) (wCons (wVar 0) (wCons (wLst (wCons (wC (.int 0)) (wCons (wC (.int 50)) (wCons (wC (.int 100)) (wCons (wCall sp__law_pick (fun _ => E) (wCons (wVar 0) (wCons (wC (.int 101)) wNil))) wNil))))) wNil))) (wgName 6))
  (wRet (wTup (wCons (wC (.str "set")) (wCons (wVar 2) (wCons (wVar 3) (wCons (wVar 6) (wCons (wVar 5) wNil)))))))) wNext)
  (wSeq (wIf (wTest (wOp dLt (wVar 4) (wC (.int 4)))) (wRet (wTup (wCons (wC (.str "clear")) (wCons (wVar 2) (wCons (wVar 3) (wCons (wVar 5) wNil)))))) wNext)
  (wSeq (wIf (wTest (wOp dLt (wVar 4) (wC (.int 6)))) (wRet (wTup (wCons (wC (.str "delete")) (wCons (wVar 2) (wCons (wCall sp__law_chosen (fun _ => E) (wCons (wVar 0) (wCons (wLst (wCons (wC (.str "keep")) (wCons (wC (.str "drop")) wNil))) wNil))) wNil))))) wNext)
  (wSeq (wIf (wTest (wOp dEq (wVar 4) (wC (.int 6)))) (wRet (wTup (wCons (wC (.str "copy")) (wCons (wVar 2) (wCons (wOp dAdd (wOp dAdd (wC (.int 1)) (wCB dInt1 (wCons (wOp dEq (wVar 2) (wC (.int 1))) wNil))) (wOp dMul (wOp dMul (wCB dInt1 (wCons (wOp dEq (wVar 2) (wC (.int 2))) wNil)) (wCall sp__law_pick (fun _ => E) (wCons (wVar 0) (wCons (wC (.int 2)) wNil)))) (wC (.int 2)))) wNil))))) wNext)
  (wRet (wTup (wCons (wCall sp__law_chosen (fun _ => E) (wCons (wVar 0) (wCons (wLst (wCons (wC (.str "block")) (wCons (wC (.str "insert")) (wCons (wC (.str "swap")) wNil)))) wNil))) (wCons (wVar 2) wNil))))))))))
abbrev N__law_step : List Str := ["source", "most", "cue", "channel", "way", "mode", "level"]
abbrev Okb__law_step  (sp : DSp) : Prop := ∀ ds G Q E, sp ds G Q E → b__law_step  E { nx := fun _ G' => Q .non G', rt := Q } (startD N__law_step ds) G
/-- a draw from a list just made -/
theorem itemsNew {a p : Addr} {G : DHp} {xs : List D} (hs : Src G a) (hp : G p = none) : itemsD (hid a (updD G p (.lst xs))) (.ref p) = some xs := items_hid (hs.ne hp)
theorem chanB_of {z : Str} (h : z ∈ (["a", "b", "lamp", "z"] : List Str)) : chanB (.str z) = true := by
  simp only [List.mem_cons, List.not_mem_nil, or_false] at h
  rcases h with rfl | rfl | rfl | rfl <;> decide +kernel
theorem k0_lit {z : Str} {n : Nat} (h : (PyData.strOk z && decide (z.length ≤ 1000000)) = true) : K0 n (.str z) := by
  rw [Bool.and_eq_true] at h
  exact kn_str.mpr ⟨h.1, of_decide_eq_true h.2⟩
theorem restB_set {n : Int} {c l m : D} : restB "set" n [c, l, m] = (chanB c && (wholeB 0 100 l && modeB ["track", "only"] m)) := by
  unfold restB; rw [if_pos rfl]
theorem restB_clear {n : Int} {c m : D} : restB "clear" n [c, m] = (chanB c && modeB ["track", "only"] m) := by
  unfold restB; rw [if_neg (by decide), if_pos rfl]
theorem restB_delete {n : Int} {m : D} : restB "delete" n [m] = modeB ["keep", "drop"] m := by
  unfold restB; rw [if_neg (by decide), if_neg (by decide), if_pos rfl]
theorem restB_copy {n k : Int} : restB "copy" n [.int k] = ((decide (1 ≤ k) && decide (k ≤ 5)) && !(k == n)) := by
  unfold restB; rw [if_neg (by decide), if_neg (by decide), if_neg (by decide), if_pos rfl]
theorem restB_block {n : Int} : restB "block" n [] = true := by
  unfold restB; rw [if_neg (by decide), if_neg (by decide), if_neg (by decide), if_neg (by decide)]; decide
theorem restB_insert {n : Int} : restB "insert" n [] = true := by
  unfold restB; rw [if_neg (by decide), if_neg (by decide), if_neg (by decide), if_neg (by decide)]; decide
theorem restB_swap {n : Int} : restB "swap" n [] = true := by
  unfold restB; rw [if_neg (by decide), if_neg (by decide), if_neg (by decide), if_neg (by decide)]; decide
theorem k0_tup {n : Nat} {ds : List D} (h : ds.length ≤ 1000) (h2 : ∀ d ∈ ds, K0 n d) : K0 (n + 1) (.tup ds) := ⟨by omega, h2⟩
theorem ok__law_step : Okb__law_step sp__law_step := by
  intro ds G Q E h
  obtain ⟨s, m, rfl, a, k, rfl, rfl, k1, k2, hs, h⟩ := sp2_inv h
  simp [b__law_step, startD]
  refine ⟨k, rfl, k1, k2, hs, fun G1 r d1 hr p hp => ⟨_, itemsNew d1.2 hp, by simp, by simp, (d1.2.drew (Ext.new hp)).2, fun G2 ch d2 hch => ?_⟩⟩
  have hch' : ∃ z, ch = .str z ∧ z ∈ (["a", "b", "lamp"] : List Str) := by
    simp only [List.mem_cons, List.not_mem_nil, or_false] at hch
    rcases hch with rfl | rfl | rfl | rfl <;> exact ⟨_, rfl, by simp⟩
  obtain ⟨z, rfl, hz⟩ := hch'
  have kz : K0 1 (.str z) := by
    simp only [List.mem_cons, List.not_mem_nil, or_false] at hz
    rcases hz with rfl | rfl | rfl <;> exact k0_lit (by decide +kernel)
  have cz : chanB (.str z) = true := chanB_of (by simp at hz ⊢; rcases hz with h | h | h <;> simp [h])
  have d12 := (d1.ext (Ext.new (o := .lst [.str (Str.ofString "a"), .str (Str.ofString "a"), .str (Str.ofString "b"), .str (Str.ofString "lamp")]) hp)).trans d2
  refine ⟨10, rfl, by omega, by omega, d2.2, fun G3 w d3 hw p2 hp2 => ⟨_, itemsNew d3.2 hp2, by simp, by simp, (d3.2.drew (Ext.new hp2)).2, fun G4 md d4 hmd => ?_⟩⟩
  have hmd' : ∃ z, md = .str z ∧ z ∈ (["track", "only"] : List Str) := by
    simp only [List.mem_cons, List.not_mem_nil, or_false] at hmd
    rcases hmd with rfl | rfl <;> exact ⟨_, rfl, by simp⟩
  obtain ⟨mz, rfl, hmz⟩ := hmd'
  have kmz : K0 1 (.str mz) := by
    simp only [List.mem_cons, List.not_mem_nil, or_false] at hmz
    rcases hmz with rfl | rfl <;> exact k0_lit (by decide +kernel)
  have d14 := d12.trans ((d3.ext (Ext.new (o := .lst [.str (Str.ofString "track"), .str (Str.ofString "only")]) hp2)).trans d4)
  have kmz0 : K0 0 (.str mz) := by
    simp only [List.mem_cons, List.not_mem_nil, or_false] at hmz
    rcases hmz with rfl | rfl <;> exact k0_lit (by decide +kernel)
  have kz0 : K0 0 (.str z) := by
    simp only [List.mem_cons, List.not_mem_nil, or_false] at hz
    rcases hz with rfl | rfl | rfl <;> exact k0_lit (by decide +kernel)
  have mm : modeB ["track", "only"] (.str mz) = true := by simpa [modeB] using hmz
  have step : ∀ (x : Str) (rest : List D), (k ≤ 5 → restB x (1 + (r : Int)) rest = true) → k ≤ 5 → stepB (.tup (.str x :: .int (1 + (r : Int)) :: rest)) = true := fun x rest hr' hk => by
    rw [stepB_at, hr' hk]
    simp; omega
  by_cases w2 : (w : Int) < 2
  · rw [if_pos w2]
    refine ⟨101, rfl, by omega, by omega, d4.2, fun G5 l d5 hl p5 hp5 => ⟨_, itemsNew d5.2 hp5, by simp, by simp, (d5.2.drew (Ext.new hp5)).2, fun G6 x d6 hx => ?_⟩⟩
    have hx' : ∃ i : Int, x = .int i ∧ 0 ≤ i ∧ i ≤ 100 := by
      simp only [List.mem_cons, List.not_mem_nil, or_false] at hx
      rcases hx with rfl | rfl | rfl | rfl
      · exact ⟨_, rfl, by omega, by omega⟩
      · exact ⟨_, rfl, by omega, by omega⟩
      · exact ⟨_, rfl, by omega, by omega⟩
      · exact ⟨_, rfl, by omega, by omega⟩
    obtain ⟨i, rfl, i0, i1⟩ := hx'
    refine h _ _ (d14.trans ((d5.ext (Ext.new hp5)).trans d6)) ⟨k0_tup (by simp) ?_, step _ _ fun _ => by
      rw [restB_set, cz, mm]
      simp [wholeB, i0, i1]⟩
    intro d hd
    simp only [List.mem_cons, List.not_mem_nil, or_false] at hd
    rcases hd with rfl | rfl | rfl | rfl | rfl
    · exact k0_lit (by decide +kernel)
    · exact kn_int
    · exact kz0
    · exact kn_int
    · exact kmz0
  · rw [if_neg w2]
    by_cases w4 : (w : Int) < 4
    · rw [if_pos w4]
      refine h _ _ d14 ⟨k0_tup (by simp) ?_, step _ _ fun _ => by rw [restB_clear, cz, mm]; rfl⟩
      intro d hd
      simp only [List.mem_cons, List.not_mem_nil, or_false] at hd
      rcases hd with rfl | rfl | rfl | rfl
      · exact k0_lit (by decide +kernel)
      · exact kn_int
      · exact kz0
      · exact kmz0
    · rw [if_neg w4]
      by_cases w6 : (w : Int) < 6
      · rw [if_pos w6]
        refine fun p5 hp5 => ⟨_, itemsNew d4.2 hp5, by simp, by simp, (d4.2.drew (Ext.new hp5)).2, fun G6 x d6 hx => ?_⟩
        have d16 := d14.trans ((d4.2.drew (Ext.new (o := .lst [.str (Str.ofString "keep"), .str (Str.ofString "drop")]) hp5)).trans d6)
        simp only [List.mem_cons, List.not_mem_nil, or_false] at hx
        rcases hx with rfl | rfl
        · refine h _ _ d16 ⟨k0_tup (by simp) ?_, step _ _ fun _ => by rw [restB_delete]; decide⟩
          intro d hd
          simp only [List.mem_cons, List.not_mem_nil, or_false] at hd
          rcases hd with rfl | rfl | rfl
          · exact k0_lit (by decide +kernel)
          · exact kn_int
          · exact k0_lit (by decide +kernel)
        · refine h _ _ d16 ⟨k0_tup (by simp) ?_, step _ _ fun _ => by rw [restB_delete]; decide⟩
          intro d hd
          simp only [List.mem_cons, List.not_mem_nil, or_false] at hd
          rcases hd with rfl | rfl | rfl
          · exact k0_lit (by decide +kernel)
          · exact kn_int
          · exact k0_lit (by decide +kernel)
      · rw [if_neg w6]
        by_cases w7 : (w : Int) = 6
        · rw [if_pos w7]
          refine ⟨2, rfl, by omega, by omega, d4.2, fun G5 l d5 hl => ⟨.inl (by split <;> omega), ?_, ?_⟩⟩
          · refine .inr (by omega)
          · refine h _ _ (d14.trans d5) ⟨k0_tup (by simp) ?_, step _ _ fun _ => ?_⟩
            · intro d hd
              simp only [List.mem_cons, List.not_mem_nil, or_false] at hd
              rcases hd with rfl | rfl | rfl
              · exact k0_lit (by decide +kernel)
              · exact kn_int
              · exact kn_int
            · rw [restB_copy]
              have hl2 : l = 0 ∨ l = 1 := by omega
              rcases hl2 with rfl | rfl
              · by_cases r1 : 1 + (r : Int) = 1
                · have r2 : ¬ 1 + (r : Int) = 2 := by omega
                  simp [r1]
                · by_cases r2 : 1 + (r : Int) = 2
                  · simp [r2]
                  · simp [r1, r2]; omega
              · by_cases r1 : 1 + (r : Int) = 1
                · have r2 : ¬ 1 + (r : Int) = 2 := by omega
                  simp [r1]
                · by_cases r2 : 1 + (r : Int) = 2
                  · simp [r2]
                  · simp [r1, r2]; omega
        · rw [if_neg w7]
          refine fun p5 hp5 => ⟨_, itemsNew d4.2 hp5, by simp, by simp, (d4.2.drew (Ext.new hp5)).2, fun G6 x d6 hx => ?_⟩
          have d16 := d14.trans ((d4.2.drew (Ext.new (o := .lst [.str (Str.ofString "block"), .str (Str.ofString "insert"), .str (Str.ofString "swap")]) hp5)).trans d6)
          simp only [List.mem_cons, List.not_mem_nil, or_false] at hx
          have two : ∀ w : Str, K0 0 (.str w) → ∀ d ∈ ([.str w, .int (1 + (r : Int))] : List D), K0 0 d := fun w kw d hd => by
            simp only [List.mem_cons, List.not_mem_nil, or_false] at hd
            rcases hd with rfl | rfl
            · exact kw
            · exact kn_int
          rcases hx with rfl | rfl | rfl
          · exact h _ _ d16 ⟨k0_tup (by simp) (two _ (k0_lit (by decide +kernel))), step _ _ fun _ => restB_block⟩
          · exact h _ _ d16 ⟨k0_tup (by simp) (two _ (k0_lit (by decide +kernel))), step _ _ fun _ => restB_insert⟩
          · exact h _ _ d16 ⟨k0_tup (by simp) (two _ (k0_lit (by decide +kernel))), step _ _ fun _ => restB_swap⟩

def ScriptP (j k : Nat) (x : D) : Prop := ∃ xs, x = .tup xs ∧ xs.length ≤ j ∧ ∀ d ∈ xs, StepP k d
abbrev sp__law_script : DSp := sp3 fun s m c G Q _ => ∃ (a : Addr) (j k : Nat), s = .ref a ∧ m = .int j ∧ c = .int k ∧ j ≤ 999 ∧ 1 ≤ k ∧ k ≤ 1000000 ∧ Src G a ∧ ∀ G' x, Drew a G G' → ScriptP j k x → Q x G'
def b__law_script  (E : DXK) : WS :=
  (wRet (wCB dTuple (wCons (wLc [3] (wiRng1 (wCons (wCall sp__law_pick (fun _ => E) (wCons (wVar 0) (wCons (wOp dAdd (wVar 1) (wC (.int 1))) wNil))) wNil)) (wgName 3) wtYes (wCall sp__law_step (noX) (wCons (wVar 0) (wCons (wVar 2) wNil)))) wNil)))
abbrev N__law_script : List Str := ["source", "most", "number", "turn"]
abbrev Okb__law_script  (sp : DSp) : Prop := ∀ ds G Q E, sp ds G Q E → b__law_script  E { nx := fun _ G' => Q .non G', rt := Q } (startD N__law_script ds) G
theorem ok__law_script : Okb__law_script sp__law_script := by
  intro ds G Q E h
  obtain ⟨s, m, c, rfl, a, j, k, rfl, rfl, rfl, hj, k1, k2, hs, h⟩ := sp3_inv h
  simp [b__law_script, startD]
  refine ⟨j + 1, by simp, by omega, by omega, hs, fun G1 n d1 hn => ⟨by omega, ?_⟩⟩
  refine lc_draw a (fun _ d => StepP k d) d1.2 (fun _ _ _ _ h => h) (by simp; omega) (fun _ _ => trivial) (fun x hx G4 K d4 hK => ?_) fun G4 p4 ys d4 hp4 hl hys => ?_
  · simp
    exact ⟨k, rfl, k1, k2, d4.2, hK⟩
  · rw [dTuple_ref updD_same]
    exact h _ _ ((d1.trans d4).ext (Ext.new hp4)) ⟨ys, rfl, by simp at hl; omega, hys⟩
theorem ScriptP.kn {j k : Nat} {x : D} (h : ScriptP j k x) (hj : j ≤ 999) : K0 2 x := by
  obtain ⟨xs, rfl, hl, hx⟩ := h
  exact k0_tup (by omega) fun d hd => (hx d hd).1
end TC
set_option maxRecDepth 100000
set_option maxHeartbeats 2000000
/-! SHf: drawn shows, their channels known to the object. -/
namespace TC
open PySem PySem.Spec PyProof.Rows L2

def chanLists : List (List Str) := [["a"], ["a", "b"], ["a", "b"], ["b", "lamp"], ["a", "b", "lamp", "z"]]
def CueP (chs : List Str) (u : D) : Prop := ∃ ms, u = .tup ms ∧ ms.all (moveB chs) = true ∧ (ms.map nameOf).Sublist chs
def ShowP (j : Nat) (x : D) : Prop := ∃ chs us, x = .tup [.ft (chs.map .str), .tup us] ∧ chs ∈ chanLists ∧ us.length ≤ j ∧ ∀ u ∈ us, CueP chs u
abbrev StrLt (a b : Str) : Prop := a.cps.toList < b.cps.toList
theorem climbR_of {zs : List Str} (h : zs.Pairwise StrLt) : climbR zs = true := by
  unfold climbR
  rw [List.all_eq_true]
  intro i hi
  have hi' := List.mem_range.mp hi
  have h1 : zs[i]? = some zs[i] := List.getElem?_eq_getElem (by omega)
  have h2 : zs[i + 1]? = some zs[i + 1] := List.getElem?_eq_getElem (by omega)
  unfold ltAt
  rw [h1, h2]
  have := List.pairwise_iff_getElem.mp h i (i + 1) (by omega) (by omega) (by omega)
  simpa using this
theorem chanLists_ok : ∀ chs ∈ chanLists, chs.Pairwise StrLt ∧ (chs.map D.str).all chanB = true ∧ 1 ≤ chs.length ∧ chs.length ≤ 4 ∧ ∀ z ∈ chs, (PyData.strOk z && decide (z.length ≤ 1000000)) = true := by
  intro chs h
  simp only [chanLists, List.mem_cons, List.not_mem_nil, or_false] at h
  have dec : ∀ a b : Str, decide (a.cps.toList < b.cps.toList) = true → StrLt a b := fun a b h => of_decide_eq_true h
  rcases h with rfl | rfl | rfl | rfl | rfl
  · refine ⟨by simp, by decide +kernel, by decide, by decide, ?_⟩
    intro z hz
    simp only [List.mem_cons, List.not_mem_nil, or_false] at hz
    rcases hz with rfl
    decide +kernel
  · refine ⟨?_, by decide +kernel, by decide, by decide, ?_⟩
    · simp only [List.pairwise_cons, List.mem_cons, List.not_mem_nil, or_false, false_implies, implies_true, List.Pairwise.nil, and_true, forall_eq]
      exact dec _ _ (by decide +kernel)
    · intro z hz
      simp only [List.mem_cons, List.not_mem_nil, or_false] at hz
      rcases hz with rfl | rfl <;> decide +kernel
  · refine ⟨?_, by decide +kernel, by decide, by decide, ?_⟩
    · simp only [List.pairwise_cons, List.mem_cons, List.not_mem_nil, or_false, false_implies, implies_true, List.Pairwise.nil, and_true, forall_eq]
      exact dec _ _ (by decide +kernel)
    · intro z hz
      simp only [List.mem_cons, List.not_mem_nil, or_false] at hz
      rcases hz with rfl | rfl <;> decide +kernel
  · refine ⟨?_, by decide +kernel, by decide, by decide, ?_⟩
    · simp only [List.pairwise_cons, List.mem_cons, List.not_mem_nil, or_false, false_implies, implies_true, List.Pairwise.nil, and_true, forall_eq]
      exact dec _ _ (by decide +kernel)
    · intro z hz
      simp only [List.mem_cons, List.not_mem_nil, or_false] at hz
      rcases hz with rfl | rfl <;> decide +kernel
  · refine ⟨?_, by decide +kernel, by decide, by decide, ?_⟩
    · simp only [List.pairwise_cons, List.mem_cons, List.not_mem_nil, or_false, false_implies, implies_true, List.Pairwise.nil, and_true, forall_eq, forall_eq_or_imp]
      exact ⟨⟨dec _ _ (by decide +kernel), dec _ _ (by decide +kernel), dec _ _ (by decide +kernel)⟩, ⟨dec _ _ (by decide +kernel), dec _ _ (by decide +kernel)⟩, dec _ _ (by decide +kernel)⟩
    · intro z hz
      simp only [List.mem_cons, List.not_mem_nil, or_false] at hz
      rcases hz with rfl | rfl | rfl | rfl <;> decide +kernel
theorem CueP.cueB {chs : List Str} {u : D} (h : CueP chs u) (hc : chs.Pairwise StrLt) : cueB chs u = true := by
  obtain ⟨ms, rfl, h1, h2⟩ := h
  simp only [TC.cueB, h1, Bool.true_and]
  exact climbR_of (hc.sublist h2)
theorem CueP.k0 {chs : List Str} {u : D} (h : CueP chs u) (hl : chs.length ≤ 4) (hk : ∀ z ∈ chs, (PyData.strOk z && decide (z.length ≤ 1000000)) = true) : K0 2 u := by
  obtain ⟨ms, rfl, h1, h2⟩ := h
  have := h2.length_le
  simp at this
  refine k0_tup (by omega) fun m hm => ?_
  obtain ⟨z, l, rfl, hz, _⟩ := moveB_true (List.all_eq_true.mp h1 m hm)
  refine k0_tup (by simp) fun d hd => ?_
  simp only [List.mem_cons, List.not_mem_nil, or_false] at hd
  rcases hd with rfl | rfl
  · exact k0_lit (hk z hz)
  · exact kn_int
theorem CueP.wk {chs : List Str} {u : D} (h : CueP chs u) : TC.wk u = u := by
  obtain ⟨ms, rfl, h1, _⟩ := h
  rw [wk_tup]
  congr 1
  have : ∀ m ∈ ms, TC.wk m = m := fun m hm => by
    obtain ⟨z, l, rfl, _⟩ := moveB_true (List.all_eq_true.mp h1 m hm)
    simp
  exact (List.map_congr_left this).trans (List.map_id _)
theorem show_wk {chs : List Str} {us : List D} (hu : ∀ u ∈ us, CueP chs u) : TC.wk (.tup [.ft (chs.map .str), .tup us]) = .tup [.tup (chs.map .str), .tup us] := by
  have e1 : us.map TC.wk = us := (List.map_congr_left fun u h => (hu u h).wk).trans (List.map_id _)
  have e2 : (chs.map D.str).map TC.wk = chs.map D.str := by rw [List.map_map]; exact List.map_congr_left fun z _ => wk_str
  simp only [wk_tup, wk_ft, List.map_cons, List.map_nil, e1, e2]
theorem ShowP.showB {j : Nat} {x : D} (h : ShowP j x) : showB (TC.wk x) = true := by
  obtain ⟨chs, us, rfl, hc, hl, hu⟩ := h
  rw [show_wk hu]
  obtain ⟨c1, c2, c3, c4, c5⟩ := chanLists_ok chs hc
  have e : (chs.map D.str).map strOf = chs := by rw [List.map_map]; simp [Function.comp_def, strOf]
  simp only [TC.showB, c2, e, climbR_of c1, Bool.true_and, List.length_map]
  have : us.all (TC.cueB chs) = true := List.all_eq_true.mpr fun u h => (hu u h).cueB c1
  simp [this, c3, c4]
theorem ShowP.k0 {j : Nat} {x : D} (h : ShowP j x) (hj : j ≤ 1000) : K0 4 (TC.wk x) := by
  obtain ⟨chs, us, rfl, hc, hl, hu⟩ := h
  rw [show_wk hu]
  obtain ⟨c1, c2, c3, c4, c5⟩ := chanLists_ok chs hc
  refine k0_tup (by simp) fun d hd => ?_
  simp only [List.mem_cons, List.not_mem_nil, or_false] at hd
  rcases hd with rfl | rfl
  · refine k0_tup (by simp; omega) fun d hd => ?_
    obtain ⟨z, hz, rfl⟩ := List.mem_map.mp hd
    exact k0_lit (c5 z hz)
  · exact k0_tup (by omega) fun d hd => (hu d hd).k0 c4 c5

abbrev sp__law_show : DSp := sp2 fun s m G Q _ => ∃ (a : Addr) (j : Nat), s = .ref a ∧ m = .int j ∧ j ≤ 999 ∧ Src G a ∧ ∀ G' x, Drew a G G' → ShowP j x → Q x G'
def b__law_show  (E : DXK) : WS :=
  (wSeq (wAsg (wCall sp__law_chosen (fun _ => E) (wCons (wVar 0) (wCons (wLst (wCons (wTupF (wCons (wC (.str "a")) wNil)) (wCons (wTupF (wCons (wC (.str "a")) (wCons (wC (.str "b")) wNil))) (wCons (wTupF (wCons (wC (.str "a")) (wCons (wC (.str "b")) wNil))) (wCons (wTupF (wCons (wC (.str "b")) (wCons (wC (.str "lamp")) wNil))) (wCons (wTupF (wCons (wC (.str "a")) (wCons (wC (.str "b")) (wCons (wC (.str "lamp")) (wCons (wC (.str "z")) wNil))))) wNil)))))) wNil))) (wgName 2))
  (wSeq (wAsg (wTup wNil) (wgName 3))
  (wSeq (wFor (wiRng1 (wCons (wCall sp__law_pick (fun _ => E) (wCons (wVar 0) (wCons (wOp dAdd (wVar 1) (wC (.int 1))) wNil))) wNil)) (wgName 4) (wSeq (wAsg (wTup wNil) (wgName 5))
  (wSeq (wFor (wiTup (wVar 2)) (wgName 6) (wSeq (wAsg (wCall sp__law_chosen (fun _ => E) (wCons (wVar 0) (wCons (wLst (wCons (wC (.int 0)) (wCons (wC (.int 50)) (wCons (wC (.int 50)) (wCons (wC (.int 70)) (wCons (wCall sp__law_pick (fun _ => E) (wCons (wVar 0) (wCons (wC (.int 101)) wNil))) wNil)))))) wNil))) (wgName 7))
  (wIf (wTest (wOp dLt (wCall sp__law_pick (fun _ => E) (wCons (wVar 0) (wCons (wC (.int 5)) wNil))) (wC (.int 2)))) (wAsg (wOp dAdd (wVar 5) (wTup (wCons (wTup (wCons (wVar 6) (wCons (wVar 7) wNil))) wNil))) (wgName 5)) wNext)))
  (wAsg (wOp dAdd (wVar 3) (wTup (wCons (wVar 5) wNil))) (wgName 3)))))
  (wRet (wTup (wCons (wVar 2) (wCons (wVar 3) wNil)))))))
abbrev N__law_show : List Str := ["source", "most", "channels", "cues", "turn", "cue", "channel", "level"]
abbrev Okb__law_show  (sp : DSp) : Prop := ∀ ds G Q E, sp ds G Q E → b__law_show  E { nx := fun _ G' => Q .non G', rt := Q } (startD N__law_show ds) G
theorem ok__law_show : Okb__law_show sp__law_show := by
  intro ds G Q E h
  obtain ⟨s, m, rfl, a, j, rfl, rfl, hj, hs, h⟩ := sp2_inv h
  simp [b__law_show, startD]
  intro p hp
  refine ⟨_, itemsNew hs hp, by simp, by simp, (hs.drew (Ext.new hp)).2, fun G1 cc d1 hcc => ?_⟩
  have d01 := (hs.drew (Ext.new (o := .lst [.ft [.str (Str.ofString "a")], .ft [.str (Str.ofString "a"), .str (Str.ofString "b")], .ft [.str (Str.ofString "a"), .str (Str.ofString "b")], .ft [.str (Str.ofString "b"), .str (Str.ofString "lamp")], .ft [.str (Str.ofString "a"), .str (Str.ofString "b"), .str (Str.ofString "lamp"), .str (Str.ofString "z")]]) hp)).trans d1
  have hcc' : ∃ chs, cc = .ft (chs.map .str) ∧ chs ∈ chanLists := by
    simp only [List.mem_cons, List.not_mem_nil, or_false] at hcc
    rcases hcc with rfl | rfl | rfl | rfl | rfl
    · exact ⟨["a"], rfl, by simp [chanLists]⟩
    · exact ⟨["a", "b"], rfl, by simp [chanLists]⟩
    · exact ⟨["a", "b"], rfl, by simp [chanLists]⟩
    · exact ⟨["b", "lamp"], rfl, by simp [chanLists]⟩
    · exact ⟨["a", "b", "lamp", "z"], rfl, by simp [chanLists]⟩
  obtain ⟨chs, rfl, hch⟩ := hcc'
  refine ⟨j + 1, by simp, by omega, by omega, d1.2, fun G2 n d2 hn => ⟨by omega, ?_⟩⟩
  have d02 := d01.trans d2
  refine forW_rule (fun r ρ G3 => ∃ us o4 o5 o6 o7, us.length + r.length = n ∧ (∀ u ∈ us, CueP chs u) ∧ Drew a G G3 ∧ ρ = [some (.ref a), some (.int j), some (.ft (chs.map .str)), some (.tup us), o4, o5, o6, o7]) ?_ ?_ ⟨[], none, none, none, none, by simp, by simp, d02, rfl⟩
  · rintro x r ρ G3 nx ⟨us, o4, o5, o6, o7, hl, hu, d03, rfl⟩ hnx
    refine ⟨trivial, ?_⟩
    simp
    refine forW_rule (fun r2 ρ G4 => ∃ dn ms o6 o7, chs.map .str = dn ++ r2 ∧ ms.all (moveB chs) = true ∧ ((ms.map nameOf).map D.str).Sublist dn ∧ Drew a G G4 ∧ ρ = [some (.ref a), some (.int j), some (.ft (chs.map .str)), some (.tup us), some x, some (.tup ms), o6, o7]) ?_ ?_ ⟨[], [], o6, o7, rfl, rfl, by simp, d03, rfl⟩
    · rintro c r2 ρ G4 nx2 ⟨dn, ms, o6, o7, e1, hm, hsub, d04, rfl⟩ hnx2
      refine ⟨trivial, ?_⟩
      have hcm : c ∈ chs.map D.str := by rw [e1]; simp
      obtain ⟨z, hz, rfl⟩ := List.mem_map.mp hcm
      simp
      refine ⟨101, rfl, by omega, by omega, d04.2, fun G5 l d5 hl5 p5 hp5 => ⟨_, itemsNew d5.2 hp5, by simp, by simp, (d5.2.drew (Ext.new hp5)).2, fun G6 lv d6 hlv => ?_⟩⟩
      have hlv' : ∃ i : Int, lv = .int i ∧ 0 ≤ i ∧ i ≤ 100 := by
        simp only [List.mem_cons, List.not_mem_nil, or_false] at hlv
        rcases hlv with rfl | rfl | rfl | rfl | rfl
        · exact ⟨_, rfl, by omega, by omega⟩
        · exact ⟨_, rfl, by omega, by omega⟩
        · exact ⟨_, rfl, by omega, by omega⟩
        · exact ⟨_, rfl, by omega, by omega⟩
        · exact ⟨_, rfl, by omega, by omega⟩
      obtain ⟨i, rfl, i0, i1⟩ := hlv'
      have d06 := d04.trans ((d5.ext (Ext.new hp5)).trans d6)
      refine ⟨5, rfl, by omega, by omega, d6.2, fun G7 w d7 hw => ?_⟩
      have d07 := d06.trans d7
      have hlen : ms.length ≤ 4 := by
        have := hsub.length_le
        have e2 := congrArg List.length e1
        obtain ⟨_, _, _, c4, _⟩ := chanLists_ok chs hch
        simp at this e2
        omega
      by_cases w2 : (w : Int) < 2
      · rw [if_pos w2]
        refine ⟨by omega, hnx2 _ _ ⟨dn ++ [.str z], ms ++ [.tup [.str z, .int i]], _, _, by simp [e1], ?_, ?_, d07, rfl⟩⟩
        · simp [hm, moveB, hz, i0, i1]
        · simp only [List.map_append, List.map_cons, List.map_nil, nameOf]
          exact hsub.append (List.Sublist.refl _)
      · rw [if_neg w2]
        exact hnx2 _ _ ⟨dn ++ [.str z], ms, _, _, by simp [e1], hm, hsub.trans (List.sublist_append_left _ _), d07, rfl⟩
    · rintro ρ G4 ⟨dn, ms, o6, o7, e1, hm, hsub, d04, rfl⟩
      refine ⟨trivial, ?_⟩
      simp at e1
      subst e1
      have hcue : CueP chs (.tup ms) := by
        refine ⟨ms, rfl, hm, ?_⟩
        have e3 : (chs.map D.str).map strOf = chs := by rw [List.map_map]; simp [Function.comp_def, strOf]
        have e4 : ((ms.map nameOf).map D.str).map strOf = ms.map nameOf := by rw [List.map_map]; simp [Function.comp_def, strOf]
        have := hsub.map strOf
        rwa [e3, e4] at this
      simp
      simp at hl
      refine ⟨by omega, hnx _ _ ⟨us ++ [.tup ms], _, _, _, _, by simp; omega, fun u h => ?_, d04, rfl⟩⟩
      rcases List.mem_append.mp h with h | h
      · exact hu u h
      · rw [List.mem_singleton.mp h]; exact hcue
  · rintro ρ G3 ⟨us, o4, o5, o6, o7, hl, hu, d03, rfl⟩
    refine ⟨trivial, ?_⟩
    simp
    refine h _ _ d03 ⟨chs, us, rfl, hch, by simp at hl; omega, hu⟩
end TC
set_option maxRecDepth 100000
set_option maxHeartbeats 2000000
/-! SK: cues as rows; what the program's functions about shows tell. -/
namespace TC
open PySem PySem.Spec PyProof.Rows L2

abbrev Row := List (Option Int)
def mvD (p : Str × Int) : D := .tup [.str p.1, .int p.2]
/-- the moves of a row -/
def mvs : List Str → Row → List (Str × Int)
  | c :: cs, some l :: r => (c, l) :: mvs cs r
  | _ :: cs, none :: r => mvs cs r
  | _, _ => []
def cueR (chs : List Str) (r : Row) : D := .tup ((mvs chs r).map mvD)
def levD : Option Int → D
  | none => .non
  | some l => .int l
def lev : List (Str × Int) → Str → Option Int
  | [], _ => none
  | p :: r, c => if p.1 = c then some p.2 else lev r c
theorem mvs_fst {chs : List Str} {r : Row} {p : Str × Int} (h : p ∈ mvs chs r) : p.1 ∈ chs := by
  induction chs generalizing r with
  | nil => cases r <;> simp [mvs] at h
  | cons c cs ih =>
    cases r with
    | nil => simp [mvs] at h
    | cons x r =>
      cases x with
      | none => exact List.mem_cons_of_mem _ (ih (by simpa [mvs] using h))
      | some l =>
        rw [mvs] at h
        rcases List.mem_cons.mp h with rfl | h
        · exact List.mem_cons_self ..
        · exact List.mem_cons_of_mem _ (ih h)
theorem lev_none {ms : List (Str × Int)} {c : Str} (h : ∀ p ∈ ms, p.1 ≠ c) : lev ms c = none := by
  induction ms with
  | nil => rfl
  | cons p r ih => rw [lev, if_neg (h p (by simp)), ih fun q hq => h q (by simp [hq])]
/-- the level of a channel is the cell -/
theorem lev_cell {chs : List Str} {r : Row} {i : Nat} {c : Str} (nd : chs.Nodup) (hl : r.length = chs.length) (hc : chs[i]? = some c) : some (lev (mvs chs r) c) = r[i]? := by
  induction chs generalizing r i with
  | nil => simp at hc
  | cons c0 cs ih =>
    rw [List.nodup_cons] at nd
    cases r with
    | nil => simp at hl
    | cons x r =>
      have hl' : r.length = cs.length := by simpa using hl
      cases i with
      | zero =>
        have : c0 = c := by simpa using hc
        subst this
        have no : lev (mvs cs r) c0 = none := lev_none fun p hp e => nd.1 (e ▸ mvs_fst hp)
        cases x with
        | none => simp [mvs, no]
        | some l => simp [mvs, lev]
      | succ i =>
        have hc' : cs[i]? = some c := by simpa using hc
        have hne : c0 ≠ c := fun e => nd.1 (e ▸ List.mem_of_getElem? hc')
        cases x with
        | none => simpa [mvs] using ih nd.2 hl' hc'
        | some l => simpa [mvs, lev, hne] using ih nd.2 hl' hc'

abbrev sp_level_in : DSp := sp2 fun u c G Q _ => ∃ (ms : List (Str × Int)) (z : Str), u = .tup (ms.map mvD) ∧ c = .str z ∧ ∀ G', Ext G G' → Q (levD (lev ms z)) G'
def b_level_in  (E : DXK) : WS :=
  (wSeq (wFor (wiTup (wVar 0)) (wgTup 2 (wgCons (wgName 2) (wgCons (wgName 3) wgNil))) (wIf (wTest (wOp dEq (wVar 2) (wVar 1))) (wRet (wVar 3)) wNext))
  (wRet (wC .non)))
abbrev N_level_in : List Str := ["cue", "channel", "one", "level"]
abbrev Okb_level_in  (sp : DSp) : Prop := ∀ ds G Q E, sp ds G Q E → b_level_in  E { nx := fun _ G' => Q .non G', rt := Q } (startD N_level_in ds) G
theorem ok_level_in : Okb_level_in sp_level_in := by
  intro ds G Q E h0
  obtain ⟨u, c, rfl, ms, z, rfl, rfl, h⟩ := sp2_inv h0
  clear h0
  simp [b_level_in, startD]
  refine forW_rule (fun r ρ G' => ∃ ms' o2 o3, r = ms'.map mvD ∧ lev ms' z = lev ms z ∧ Ext G G' ∧ ρ = [some (.tup (ms.map mvD)), some (.str z), o2, o3]) ?_ ?_ ⟨ms, none, none, rfl, rfl, .refl, rfl⟩
  · rintro x r ρ G' nx ⟨ms', o2, o3, e1, e2, ex, rfl⟩ hnx
    refine ⟨trivial, ?_⟩
    cases ms' with
    | nil => cases e1
    | cons p ms' =>
      obtain ⟨rfl, rfl⟩ := List.cons.inj e1
      simp [mvD]
      by_cases hp : p.1 = z
      · rw [if_pos hp]
        have := h G' ex
        rw [← e2, lev, if_pos hp] at this
        exact this
      · rw [if_neg hp]
        exact hnx _ _ ⟨ms', _, _, rfl, by rw [← e2, lev, if_neg hp], ex, rfl⟩
  · rintro ρ G' ⟨ms', o2, o3, e1, e2, ex, rfl⟩
    refine ⟨trivial, ?_⟩
    have : ms' = [] := by simpa using e1.symm
    subst this
    have := h G' ex
    rw [← e2, lev] at this
    exact this

abbrev sp_with_cue : DSp := sp3 fun cs at_ u G Q _ => ∃ (us : List D) (i : Nat), cs = .tup us ∧ at_ = .int i ∧ i < us.length ∧ us.length ≤ 1000 ∧ ∀ G', Ext G G' → Q (.tup (us.set i u)) G'
def b_with_cue  (E : DXK) : WS :=
  (wRet (wOp dAdd (wOp dAdd (wSl (wVar 0) woNone (woSome (wVar 1))) (wTup (wCons (wVar 2) wNil))) (wSl (wVar 0) (woSome (wOp dAdd (wVar 1) (wC (.int 1)))) woNone)))
abbrev N_with_cue : List Str := ["cues", "at", "cue"]
abbrev Okb_with_cue  (sp : DSp) : Prop := ∀ ds G Q E, sp ds G Q E → b_with_cue  E { nx := fun _ G' => Q .non G', rt := Q } (startD N_with_cue ds) G
theorem set_cut {α : Type} {us : List α} {i : Nat} {u : α} (hi : i < us.length) : us.take i ++ u :: us.drop (i + 1) = us.set i u := by
  rw [List.set_eq_take_append_cons_drop, if_pos hi]
theorem ok_with_cue : Okb_with_cue sp_with_cue := by
  intro ds G Q E h0
  obtain ⟨cs, at_, u, rfl, us, i, rfl, rfl, hi, hl, h⟩ := sp3_inv h0
  clear h0
  simp [b_with_cue, startD]
  have e1 : (i : Int) + 1 = ((i + 1 : Nat) : Int) := by omega
  simp only [e1, cut_to, cut_from]
  simp only [List.length_take, List.length_drop, List.append_assoc, List.cons_append, List.nil_append]
  refine ⟨by omega, by omega, ?_⟩
  rw [set_cut hi]
  exact h G .refl
def notD (z : Str) : D → Bool
  | .tup (.str x :: _) => !(x == z)
  | _ => false
abbrev sp_without_move : DSp := sp2 fun u c G Q _ => ∃ (ms : List (Str × Int)) (z : Str), u = .tup (ms.map mvD) ∧ c = .str z ∧ ms.length ≤ 1000 ∧ ∀ G', Ext G G' → Q (.tup ((ms.filter fun p => !(p.1 == z)).map mvD)) G'
def b_without_move  (E : DXK) : WS :=
  (wRet (wCB dTuple (wCons (wLc [2] (wiTup (wVar 0)) (wgName 2) (wTest (wOp dNe (wOp dIx (wVar 2) (wC (.int 0))) (wVar 1))) (wVar 2)) wNil)))
abbrev N_without_move : List Str := ["cue", "channel", "move"]
abbrev Okb_without_move  (sp : DSp) : Prop := ∀ ds G Q E, sp ds G Q E → b_without_move  E { nx := fun _ G' => Q .non G', rt := Q } (startD N_without_move ds) G
theorem ok_without_move : Okb_without_move sp_without_move := by
  intro ds G Q E h0
  obtain ⟨u, c, rfl, ms, z, rfl, rfl, hl, h⟩ := sp2_inv h0
  clear h0
  simp [b_without_move, startD]
  have ef : (ms.map mvD).filter (notD z) = (ms.filter fun p => !(p.1 == z)).map mvD := by rw [List.filter_map]; rfl
  refine lc_keep (notD z) (by simp; omega) (fun _ _ => trivial) (fun x hx G1 acc K e hacc hK => ?_) fun G1 p e hp => ?_
  · obtain ⟨q, hq, rfl⟩ := List.mem_map.mp hx
    simp [mvD]
    have := hK G1 .refl
    by_cases hz : q.1 = z
    · simp [hz, notD, mvD] at this ⊢
      exact this
    · simp [hz, notD, mvD] at this ⊢
      exact ⟨hacc, this⟩
  · rw [ef]
    have hb : (ms.filter fun p => !(p.1 == z)).length ≤ 1000 := Nat.le_trans (List.length_filter_le ..) hl
    rw [dTuple_ref updD_same]
    exact h _ (e.trans (Ext.new hp))

def intsT (l : List Int) : D := .tup (l.map .int)
def lkStep (chs : List Str) (prev : List Int) (ms : List (Str × Int)) : List Int := List.zipWith (fun c l => (lev ms c).getD l) chs prev
def looksL (chs : List Str) : List Int → List (List (Str × Int)) → List (List Int)
  | prev, [] => [prev]
  | prev, ms :: r => prev :: looksL chs (lkStep chs prev ms) r
def cueD (ms : List (Str × Int)) : D := .tup (ms.map mvD)
def looksOf (chs : List Str) (mss : List (List (Str × Int))) : List (List Int) := looksL chs (List.replicate chs.length 0) mss
abbrev sp_all_looks : DSp := sp1 fun s G Q _ => ∃ (chd : D) (chs : List Str) (mss : List (List (Str × Int))), s = .tup [chd, .tup (mss.map cueD)] ∧ (chd = .tup (chs.map .str) ∨ chd = .ft (chs.map .str)) ∧ chs.length ≤ 900 ∧ mss.length ≤ 900 ∧
  ∀ p G', G p = none → Ext G G' → G' p = some (.lst ((looksOf chs mss).map intsT)) → Q (.ref p) G'
def b_all_looks  (E : DXK) : WS :=
  (wSeq (wAsg (wVar 0) (wgTup 2 (wgCons (wgName 3) (wgCons (wgName 4) wgNil))))
  (wSeq (wAsg (wLst (wCons (wOp dMul (wTup (wCons (wC (.int 0)) wNil)) (wCB dLen (wCons (wVar 3) wNil))) wNil)) (wgName 1))
  (wSeq (wFor (wiTup (wVar 4)) (wgName 2) (wSeq (wAsg (wTup wNil) (wgName 5))
  (wSeq (wFor (wiZip (wCons (wVar 3) (wCons (wOp dIx (wVar 1) (wOp dSub (wCB dLen (wCons (wVar 1) wNil)) (wC (.int 1)))) wNil))) (wgTup 2 (wgCons (wgName 6) (wgCons (wgName 7) wgNil))) (wSeq (wAsg (wCall sp_level_in (fun _ => E) (wCons (wVar 2) (wCons (wVar 6) wNil))) (wgName 8))
  (wAsg (wOp dAdd (wVar 5) (wTup (wCons (wIfE (wTest (wOp (dIsN false) (wVar 8) (wC .non))) (wVar 7) (wVar 8)) wNil))) (wgName 5))))
  (wExpr (wMt dAppend (wVar 1) (wCons (wVar 5) wNil))))))
  (wRet (wVar 1)))))
abbrev N_all_looks : List Str := ["show", "found", "cue", "channels", "cues", "look_now", "channel", "level", "more"]
abbrev Okb_all_looks  (sp : DSp) : Prop := ∀ ds G Q E, sp ds G Q E → b_all_looks  E { nx := fun _ G' => Q .non G', rt := Q } (startD N_all_looks ds) G
theorem lkStep_length {chs : List Str} {prev : List Int} {ms : List (Str × Int)} (h : prev.length = chs.length) : (lkStep chs prev ms).length = chs.length := by
  unfold lkStep; rw [List.length_zipWith, h, Nat.min_self]
theorem ok_all_looks : Okb_all_looks sp_all_looks := by
  intro ds G Q E h0
  obtain ⟨s, rfl, chd, chs, mss, rfl, hcd, hl, hm, h⟩ := sp1_inv h0
  clear h0
  have hlen : ∀ G Q, dLen [chd] G Q = Q (.int (chs.length : Nat)) G := by
    intro G Q; rcases hcd with rfl | rfl <;> simp
  have hwalk : ∀ G, walkD G chd = some (chs.map .str) := by
    intro G; rcases hcd with rfl | rfl <;> simp
  simp [b_all_looks, startD, hlen]
  refine ⟨by omega, fun p hp => ?_⟩
  refine forW_rule (fun r ρ G' => ∃ (dn : List (List Int)) (prev : List Int) (mss' : List (List (Str × Int))) (o2 o5 o6 o7 o8 : Option D), r = mss'.map cueD ∧ dn.length + mss'.length = mss.length ∧ dn ++ looksL chs prev mss' = looksOf chs mss ∧ prev.length = chs.length ∧ Ext G G' ∧
      G' p = some (.lst ((dn ++ [prev]).map intsT)) ∧ ρ = [some (D.tup [chd, D.tup (List.map cueD mss)]), some (D.ref p), o2, some chd, some (D.tup (List.map cueD mss)), o5, o6, o7, o8]) ?_ ?_
    ⟨[], List.replicate chs.length 0, mss, none, none, none, none, none, rfl, by simp, rfl, by simp, Ext.new hp, by rw [updD_same]; simp [intsT], rfl⟩
  · rintro x r ρ G1 nx ⟨dn, prev, mss', o2, o5, o6, o7, o8, e1, e2, e3, e4, ex, gp, rfl⟩ hnx
    refine ⟨trivial, ?_⟩
    cases mss' with
    | nil => cases e1
    | cons ms mss' =>
      obtain ⟨rfl, rfl⟩ := List.cons.inj e1
      simp [gp, hwalk]
      have e5 : pick (List.map intsT dn ++ [intsT prev]) (dn.length : Int) = some (intsT prev) := by rw [pick_nat]; simp
      rw [e5]
      refine ⟨prev.map .int, by rfl, ?_⟩
      refine forW_rule (fun r2 ρ G' => ∃ (cs1 cs2 : List Str) (ps1 ps2 : List Int) (o6 o7 o8 : Option D), chs = cs1 ++ cs2 ∧ prev = ps1 ++ ps2 ∧ cs1.length = ps1.length ∧ r2 = zipD (cs2.map .str) (ps2.map .int) ∧ Ext G1 G' ∧
          ρ = [some (D.tup [chd, D.tup (List.map cueD mss)]), some (D.ref p), some (cueD ms), some chd, some (D.tup (List.map cueD mss)), some (intsT (lkStep cs1 ps1 ms)), o6, o7, o8]) ?_ ?_
        ⟨[], chs, [], prev, o6, o7, o8, rfl, rfl, rfl, rfl, .refl, rfl⟩
      · rintro y r2 ρ G2 nx2 ⟨cs1, cs2, ps1, ps2, o6, o7, o8, f1, f2, f3, f4, ex2, rfl⟩ hnx2
        refine ⟨by rfl, ?_⟩
        have flen : cs2.length = ps2.length := by
          have a1 := congrArg List.length f1
          have a2 := congrArg List.length f2
          simp at a1 a2; omega
        cases cs2 with
        | nil => cases f4
        | cons c cs2 =>
          cases ps2 with
          | nil => cases f4
          | cons l ps2 =>
            simp only [List.map_cons, zipD, List.zipWith_cons_cons] at f4
            obtain ⟨rfl, rfl⟩ := List.cons.inj f4
            simp
            refine ⟨ms, rfl, fun G3 ex3 => ?_⟩
            have fin : nx2 [some (D.tup [chd, D.tup (List.map cueD mss)]), some (D.ref p), some (cueD ms), some chd, some (D.tup (List.map cueD mss)), some (intsT (lkStep (cs1 ++ [c]) (ps1 ++ [l]) ms)), some (.str c), some (.int l), some (levD (lev ms c))] G3 :=
              hnx2 _ _ ⟨cs1 ++ [c], cs2, ps1 ++ [l], ps2, _, _, _, by simp [f1], by simp [f2], by simp [f3], rfl, ex2.trans ex3, rfl⟩
            have el : lkStep (cs1 ++ [c]) (ps1 ++ [l]) ms = lkStep cs1 ps1 ms ++ [(lev ms c).getD l] := by
              unfold lkStep; rw [List.zipWith_append f3]; rfl
            rw [el] at fin
            have bnd : (lkStep cs1 ps1 ms).length ≤ 900 := by
              unfold lkStep; rw [List.length_zipWith]
              have a1 := congrArg List.length f1
              simp at a1; omega
            cases hv : lev ms c with
            | none => 
              rw [hv] at fin
              simp [levD, intsT] at fin ⊢
              exact ⟨by omega, fin⟩
            | some m =>
              rw [hv] at fin
              simp [levD, intsT] at fin ⊢
              exact ⟨by omega, fin⟩
      · rintro ρ G2 ⟨cs1, cs2, ps1, ps2, o6, o7, o8, f1, f2, f3, f4, ex2, rfl⟩
        refine ⟨by rfl, ?_⟩
        have flen : cs2.length = ps2.length := by
          have a1 := congrArg List.length f1
          have a2 := congrArg List.length f2
          simp at a1 a2; omega
        have c0 : cs2 = [] := by
          cases cs2 with
          | nil => rfl
          | cons c cs2 => cases ps2 with
            | nil => simp at flen
            | cons l ps2 => cases f4
        subst c0
        have p0 : ps2 = [] := List.length_eq_zero_iff.mp flen.symm
        subst p0
        simp at f1 f2
        subst f1 f2
        have gp2 := ex2 _ _ gp
        refine ⟨⟨_, _, rfl, gp2⟩, ?_⟩
        refine ⟨_, gp2, by simp; omega, ?_⟩
        refine hnx _ _ ⟨dn ++ [prev], lkStep chs prev ms, mss', _, _, _, _, _, rfl, by simp at e2 ⊢; omega, by rw [← e3, looksL]; simp, lkStep_length e4, fun a u hu => ?_, by rw [updD_same]; simp, rfl⟩
        rw [updD_ne fun z => by subst z; rw [hp] at hu; cases hu]
        exact ex2 _ _ (ex a u hu)
  · rintro ρ G1 ⟨dn, prev, mss', o2, o5, o6, o7, o8, e1, e2, e3, e4, ex, gp, rfl⟩
    refine ⟨trivial, ?_⟩
    have : mss' = [] := by simpa using e1.symm
    subst this
    simp
    refine h p G1 hp ex ?_
    rw [gp, ← e3, looksL]
end TC
set_option maxRecDepth 100000
set_option maxHeartbeats 2000000
/-! SL: a cue with a move. -/
namespace TC
open PySem PySem.Spec PyProof.Rows L2
def encM (p : Str × Int) : PyData := .tuple [.str p.1, .int p.2]
theorem lexM {a b : List Nat} {r t : List (Int ⊕ List Nat)} (h : a < b) : PyProof.Rows.lexLt itemOrd (.inl 1 :: .inr a :: r) (.inl 1 :: .inr b :: t) = true := by
  have hb : itemOrd.blt (.inr a) (.inr b) = true := decide_eq_true h
  have h0 : itemOrd.blt (.inl 1) (.inl 1) = false := by decide
  refine (PyProof.Rows.lex_cons (O := itemOrd) _ _ _ _).trans ?_
  rw [h0]
  refine Eq.trans (b := PyProof.Rows.lexLt itemOrd (.inr a :: r) (.inr b :: t)) (by simp) ?_
  refine (PyProof.Rows.lex_cons (O := itemOrd) _ _ _ _).trans ?_
  rw [hb]; rfl
theorem leM_ge {p q : Str × Int} (h : StrLt p.1 q.1) : PySem.W.dataLe false encM q p = false := by
  show (!PyProof.Rows.lexLt itemOrd (PySem.W.keyToks (encM p)) (PySem.W.keyToks (encM q))) = false
  have e : PyProof.Rows.lexLt itemOrd (PySem.W.keyToks (encM p)) (PySem.W.keyToks (encM q)) = true := lexM h
  rw [e]; rfl
theorem leM_total : PySem.W.TotalLe (PySem.W.dataLe false encM) := PySem.W.sortLe_total _ _ _
theorem leM_lt {p q : Str × Int} (h : StrLt p.1 q.1) : PySem.W.dataLe false encM p q = true := by
  have := leM_total.total p q
  rw [leM_ge h] at this
  simpa using this

theorem mvs_sorted {chs : List Str} (hc : chs.Pairwise StrLt) : ∀ (r : Row), (mvs chs r).Pairwise fun p q => StrLt p.1 q.1 := by
  induction chs with
  | nil => intro r; cases r <;> simp [mvs]
  | cons c cs ih =>
    intro r
    rw [List.pairwise_cons] at hc
    cases r with
    | nil => simp [mvs]
    | cons x r =>
      cases x with
      | none => rw [mvs]; exact ih hc.2 r
      | some l =>
        rw [mvs, List.pairwise_cons]
        exact ⟨fun q hq => hc.1 _ (mvs_fst hq), ih hc.2 r⟩
theorem mvs_nil_row {chs : List Str} : mvs chs [] = [] := by cases chs <;> rfl
/-- a cell set: the moves of the others, and this one -/
theorem mvs_set {chs : List Str} {r : Row} {i : Nat} {c : Str} {l : Int} (nd : chs.Nodup) (hl : r.length = chs.length) (hc : chs[i]? = some c) :
    (mvs chs (r.set i (some l))).Perm ((mvs chs r).filter (fun p => !(p.1 == c)) ++ [(c, l)]) := by
  induction chs generalizing r i with
  | nil => simp at hc
  | cons c0 cs ih =>
    rw [List.nodup_cons] at nd
    cases r with
    | nil => simp at hl
    | cons x r =>
      have hl' : r.length = cs.length := by simpa using hl
      cases i with
      | zero =>
        have : c0 = c := by simpa using hc
        subst this
        have keep : (mvs cs r).filter (fun p => !(p.1 == c0)) = mvs cs r := by
          rw [List.filter_eq_self]
          intro p hp
          have : p.1 ≠ c0 := fun e => nd.1 (e ▸ mvs_fst hp)
          simpa using this
        cases x with
        | none => simp only [List.set_cons_zero, mvs, keep]; exact (List.perm_append_singleton _ _).symm
        | some k => simp only [List.set_cons_zero, mvs, List.filter_cons, beq_self_eq_true, Bool.not_true, Bool.false_eq_true, if_false, keep]; exact (List.perm_append_singleton _ _).symm
      | succ i =>
        have hc' : cs[i]? = some c := by simpa using hc
        have hne : c0 ≠ c := fun e => nd.1 (e ▸ List.mem_of_getElem? hc')
        have hb : (!(c0 == c)) = true := by simpa using hne
        cases x with
        | none => simp only [List.set_cons_succ, mvs]; exact ih nd.2 hl' hc'
        | some k => simp only [List.set_cons_succ, mvs, List.filter_cons, hb, if_true, List.cons_append]; exact (ih nd.2 hl' hc').cons _
theorem mvs_clear {chs : List Str} {r : Row} {i : Nat} {c : Str} (nd : chs.Nodup) (hl : r.length = chs.length) (hc : chs[i]? = some c) :
    mvs chs (r.set i none) = (mvs chs r).filter (fun p => !(p.1 == c)) := by
  induction chs generalizing r i with
  | nil => simp at hc
  | cons c0 cs ih =>
    rw [List.nodup_cons] at nd
    cases r with
    | nil => simp at hl
    | cons x r =>
      have hl' : r.length = cs.length := by simpa using hl
      cases i with
      | zero =>
        have : c0 = c := by simpa using hc
        subst this
        have keep : (mvs cs r).filter (fun p => !(p.1 == c0)) = mvs cs r := by
          rw [List.filter_eq_self]
          intro p hp
          have : p.1 ≠ c0 := fun e => nd.1 (e ▸ mvs_fst hp)
          simpa using this
        cases x with
        | none => simp only [List.set_cons_zero, mvs, keep]
        | some k => simp only [List.set_cons_zero, mvs, List.filter_cons, beq_self_eq_true, Bool.not_true, Bool.false_eq_true, if_false, keep]
      | succ i =>
        have hc' : cs[i]? = some c := by simpa using hc
        have hne : c0 ≠ c := fun e => nd.1 (e ▸ List.mem_of_getElem? hc')
        have hb : (!(c0 == c)) = true := by simpa using hne
        cases x with
        | none => simp only [List.set_cons_succ, mvs]; exact ih nd.2 hl' hc'
        | some k => simp only [List.set_cons_succ, mvs, List.filter_cons, hb, if_true]; rw [ih nd.2 hl' hc']

theorem mvs_pair {chs : List Str} (hc : chs.Pairwise StrLt) {r : Row} {p q : Str × Int} (hp : p ∈ mvs chs r) (hq : q ∈ mvs chs r) : p = q ∨ StrLt p.1 q.1 ∨ StrLt q.1 p.1 := by
  have := mvs_sorted hc r
  generalize mvs chs r = l at *
  induction l with
  | nil => cases hp
  | cons x l ih =>
    rw [List.pairwise_cons] at this
    rcases List.mem_cons.mp hp with rfl | hp' <;> rcases List.mem_cons.mp hq with rfl | hq'
    · exact .inl rfl
    · exact .inr (.inl (this.1 _ hq'))
    · exact .inr (.inr (this.1 _ hp'))
    · exact ih hp' hq' this.2
/-- sorting the other moves and this one gives the moves of the row with the cell set -/
theorem sort_moves {chs : List Str} {r : Row} {i : Nat} {c : Str} {l : Int} (hs : chs.Pairwise StrLt) (nd : chs.Nodup) (hl : r.length = chs.length) (hc : chs[i]? = some c) :
    ((mvs chs r).filter (fun p => !(p.1 == c)) ++ [(c, l)]).mergeSort (PySem.W.dataLe false encM) = mvs chs (r.set i (some l)) := by
  have pm := (List.mergeSort_perm ((mvs chs r).filter (fun p => !(p.1 == c)) ++ [(c, l)]) (PySem.W.dataLe false encM)).trans (mvs_set (l := l) nd hl hc).symm
  refine List.Perm.eq_of_pairwise (le := fun a b => PySem.W.dataLe false encM a b = true) (fun a b ha hb h1 h2 => ?_) (List.pairwise_mergeSort leM_total.trans (fun a b => by simpa using leM_total.total a b) _) ((mvs_sorted hs _).imp leM_lt) pm
  rcases mvs_pair hs (pm.subset ha) hb with e | e | e
  · exact e
  · rw [leM_ge e] at h2; cases h2
  · rw [leM_ge e] at h1; cases h1
end TC
set_option maxRecDepth 100000
set_option maxHeartbeats 2000000
/-! SM: with_move. -/
namespace TC
open PySem PySem.Spec PyProof.Rows L2
structure ChsOk (chs : List Str) : Prop where
  up : chs.Pairwise StrLt
  nd : chs.Nodup
  few : chs.length ≤ 900
theorem mvs_len : ∀ {chs : List Str} {r : Row}, (mvs chs r).length ≤ chs.length
  | [], r => by cases r <;> simp [mvs]
  | c :: cs, [] => by simp [mvs]
  | c :: cs, none :: r => by rw [mvs, List.length_cons]; exact Nat.le_succ_of_le mvs_len
  | c :: cs, some l :: r => by rw [mvs, List.length_cons, List.length_cons]; exact Nat.succ_le_succ mvs_len
abbrev sp_with_move : DSp := sp3 fun u c l G Q _ => ∃ (chs : List Str) (r : Row) (i : Nat) (z : Str) (k : Int), u = cueR chs r ∧ c = .str z ∧ l = .int k ∧ ChsOk chs ∧ r.length = chs.length ∧ chs[i]? = some z ∧ ∀ G', Ext G G' → Q (cueR chs (r.set i (some k))) G'
def b_with_move  (E : DXK) : WS :=
  (wRet (wCB dTuple (wCons (wCB dSort (wCons (wOp dAdd (wLc [3] (wiTup (wVar 0)) (wgName 3) (wTest (wOp dNe (wOp dIx (wVar 3) (wC (.int 0))) (wVar 1))) (wVar 3)) (wLst (wCons (wTup (wCons (wVar 1) (wCons (wVar 2) wNil))) wNil))) wNil)) wNil)))
abbrev N_with_move : List Str := ["cue", "channel", "level", "move"]
abbrev Okb_with_move  (sp : DSp) : Prop := ∀ ds G Q E, sp ds G Q E → b_with_move  E { nx := fun _ G' => Q .non G', rt := Q } (startD N_with_move ds) G
theorem ok_with_move : Okb_with_move sp_with_move := by
  intro ds G Q E h0
  obtain ⟨u, c, l, rfl, chs, r, i, z, k, rfl, rfl, rfl, hok, hl, hi, h⟩ := sp3_inv h0
  clear h0
  have hm := mvs_len (chs := chs) (r := r)
  have hfew := hok.few
  simp [b_with_move, startD, cueR]
  have ef : ((mvs chs r).map mvD).filter (notD z) = ((mvs chs r).filter fun p => !(p.1 == z)).map mvD := by rw [List.filter_map]; rfl
  refine lc_keep (notD z) (by simp; omega) (fun _ _ => trivial) (fun x hx G1 acc K e hacc hK => ?_) fun G1 p e hp => ?_
  · obtain ⟨q, hq, rfl⟩ := List.mem_map.mp hx
    simp [mvD]
    have := hK G1 .refl
    by_cases hz : q.1 = z
    · simp [hz, notD, mvD] at this ⊢
      exact this
    · simp [hz, notD, mvD] at this ⊢
      exact ⟨hacc, this⟩
  · rw [ef]
    have hb : ((mvs chs r).filter fun p => !(p.1 == z)).length ≤ 900 := Nat.le_trans (List.length_filter_le ..) (by omega)
    generalize hms : (mvs chs r).filter (fun p => !(p.1 == z)) = ms at hb ⊢
    intro q hq
    have hpq : p ≠ q := ne_new hq
    refine ⟨ms.map mvD, [mvD (z, k)], by rw [updD_ne hpq, updD_same], updD_same, by simp; omega, fun w hw => ?_⟩
    have e4 := ((e.trans (Ext.new hp)).trans (Ext.new hq)).trans (Ext.new (o := .lst ((ms ++ [(z, k)]).map mvD)) hw)
    refine ⟨Str × Int, encM, mvD, ms ++ [(z, k)], by rw [updD_same]; simp, fun b _ => rfl, fun d hd d' hd' => ?_, .inl fun d hd => ?_, fun b _ => Nat.le_of_ble_eq_true rfl, by simp; omega, fun v hv => ?_⟩
    · obtain ⟨b, _, rfl⟩ := List.mem_map.mp hd
      obtain ⟨b', _, rfl⟩ := List.mem_map.mp hd'
      rfl
    · obtain ⟨b, _, rfl⟩ := List.mem_map.mp hd
      exact ⟨_, _, rfl⟩
    · show dTuple [D.ref v] _ Q
      rw [dTuple_ref updD_same, ← hms, sort_moves hok.up hok.nd hl hi, hms]
      have e5 : List.map mvD ms ++ [mvD (z, k)] = (ms ++ [(z, k)]).map mvD := by simp
      rw [e5] at hv ⊢
      exact h _ (e4.trans (Ext.new hv))
end TC
set_option maxRecDepth 100000
set_option maxHeartbeats 2000000
/-! SN: looks, channel by channel. -/
namespace TC
open PySem PySem.Spec PyProof.Rows L2
/-- what is seen, from the level before -/
def seenL {α : Type} : α → List (Option α) → List α
  | p, [] => [p]
  | p, c :: r => p :: seenL (c.getD p) r
/-- the cells of a channel -/
def colR (j : Nat) (rs : List Row) : List (Option Int) := rs.map fun r => (r[j]?).getD none
theorem looks_col {chs : List Str} {j : Nat} {z : Str} (nd : chs.Nodup) (hz : chs[j]? = some z) : ∀ {rs : List Row} {prev : List Int} {p : Int}, (∀ r ∈ rs, r.length = chs.length) → prev.length = chs.length → prev[j]? = some p →
    (looksL chs prev (rs.map (mvs chs))).map (fun lk => lk[j]?) = (seenL p (colR j rs)).map some
  | [], prev, p, _, _, hp => by simp [looksL, seenL, colR, hp]
  | r :: rs, prev, p, hr, hl, hp => by
    have hlr := hr r (by simp)
    have hc := lev_cell nd hlr hz
    have e : (lkStep chs prev (mvs chs r))[j]? = some (((r[j]?).getD none).getD p) := by
      unfold lkStep
      rw [List.getElem?_zipWith, hz, hp, ← hc]
      rfl
    have ih := looks_col nd hz (rs := rs) (fun r' h => hr r' (by simp [h])) (lkStep_length (ms := mvs chs r) hl) e
    simp only [List.map_cons, looksL, seenL, colR, hp]
    rw [ih]; rfl
theorem seenL_length {α : Type} : ∀ {p : α} {l : List (Option α)}, (seenL p l).length = l.length + 1
  | p, [] => rfl
  | p, c :: r => by rw [seenL, List.length_cons, seenL_length, List.length_cons]
end TC
set_option maxRecDepth 100000
set_option maxHeartbeats 2000000
/-! SO: steps as the program does them. -/
namespace TC
open PySem PySem.Spec PyProof.Rows L2
def showR (chs : List Str) (rs : List Row) : D := .tup [.ft (chs.map .str), .tup (rs.map (cueR chs))]
def cell (rs : List Row) (t j : Nat) : Option Int := ((rs[t]?).bind fun r => r[j]?).getD none
/-- the row at t with the cell j set -/
def setCell (rs : List Row) (t j : Nat) (c : Option Int) : List Row := rs.modify t fun r => r.set j c
theorem set_cell {chs : List Str} {rs : List Row} {t j : Nat} {r : Row} {c : Option Int} (h : rs[t]? = some r) : (setCell rs t j c).map (cueR chs) = (rs.map (cueR chs)).set t (cueR chs (r.set j c)) := by
  unfold setCell
  apply List.ext_getElem?
  intro i
  rw [List.getElem?_map, List.getElem?_modify, List.getElem?_set]
  by_cases e : t = i
  · subst e
    have hl := (List.getElem?_eq_some_iff.mp h).1
    have hg : rs[t] = r := (List.getElem?_eq_some_iff.mp h).2
    simp [h, hl, hg]
  · simp [e]
def heldR (rs0 rs : List Row) (t j : Nat) : List Row :=
  if rs.length ≤ t + 1 ∨ (cell rs (t + 1) j).isSome then rs else setCell rs (t + 1) j ((seenL 0 (colR j rs0))[t + 2]?)
structure RowsOk (chs : List Str) (rs : List Row) : Prop where
  wide : ∀ r ∈ rs, r.length = chs.length
  few : rs.length ≤ 800
abbrev sp_held : DSp := sp4 fun s cs at_ ch G Q _ => ∃ (chs : List Str) (rs0 rs : List Row) (t j : Nat) (z : Str), s = showR chs rs0 ∧ cs = .tup (rs.map (cueR chs)) ∧ at_ = .int t ∧ ch = .str z ∧ ChsOk chs ∧ RowsOk chs rs0 ∧ RowsOk chs rs ∧ rs0.length = rs.length ∧ t < rs.length ∧ chs[j]? = some z ∧
  ∀ G', Ext G G' → Q (.tup ((heldR rs0 rs t j).map (cueR chs))) G'
def b_held  (E : DXK) : WS :=
  (wSeq (wIf (wtOr (wTest (wOp dGe (wOp dAdd (wVar 2) (wC (.int 1))) (wCB dLen (wCons (wVar 1) wNil)))) (wTest (wOp (dIsN true) (wCall sp_level_in (fun _ => E) (wCons (wOp dIx (wVar 1) (wOp dAdd (wVar 2) (wC (.int 1)))) (wCons (wVar 3) wNil))) (wC .non)))) (wRet (wVar 1)) wNext)
  (wSeq (wAsg (wOp dIx (wOp dIx (wCall sp_all_looks (fun _ => E) (wCons (wVar 0) wNil)) (wOp dAdd (wVar 2) (wC (.int 2)))) (wIdx (wOp dIx (wVar 0) (wC (.int 0))) (wCons (wVar 3) wNil))) (wgName 4))
  (wRet (wCall sp_with_cue (fun _ => E) (wCons (wVar 1) (wCons (wOp dAdd (wVar 2) (wC (.int 1))) (wCons (wCall sp_with_move (fun _ => E) (wCons (wOp dIx (wVar 1) (wOp dAdd (wVar 2) (wC (.int 1)))) (wCons (wVar 3) (wCons (wVar 4) wNil)))) wNil)))))))
abbrev N_held : List Str := ["show", "cues", "at", "channel", "level"]
abbrev Okb_held  (sp : DSp) : Prop := ∀ ds G Q E, sp ds G Q E → b_held  E { nx := fun _ G' => Q .non G', rt := Q } (startD N_held ds) G
theorem ok_held : Okb_held sp_held := by
  intro ds G Q E h0
  obtain ⟨s, cs, at_, ch, rfl, chs, rs0, rs, t, j, z, rfl, rfl, rfl, rfl, hok, hr0, hr, hlen, ht, hj, h⟩ := sp4_inv h0
  clear h0
  simp [b_held, startD, showR]
  by_cases c1 : rs.length ≤ t + 1
  · rw [if_pos (by omega)]
    have := h G .refl
    rw [heldR, if_pos (.inl c1)] at this
    exact this
  rw [if_neg (by omega)]
  have c1' : t + 1 < rs.length := by omega
  obtain ⟨r1, hr1⟩ : ∃ r1, rs[t + 1]? = some r1 := ⟨_, List.getElem?_eq_getElem c1'⟩
  have e1 : (t : Int) + 1 = ((t + 1 : Nat) : Int) := by omega
  have e2 : (t : Int) + 2 = ((t + 2 : Nat) : Int) := by omega
  have hp1 : pick (rs.map (cueR chs)) (((t + 1 : Nat) : Int)) = some (cueR chs r1) := by rw [pick_nat, List.getElem?_map, hr1]; rfl
  simp only [e1, e2, hp1, pick_nat]
  have hw1 : r1.length = chs.length := hr.wide _ (List.mem_of_getElem? hr1)
  have hlev := lev_cell hok.nd hw1 hj
  have hcell : cell rs (t + 1) j = lev (mvs chs r1) z := by unfold cell; rw [hr1]; simp [← hlev]
  refine ⟨mvs chs r1, rfl, fun G1 ex1 => ?_⟩
  cases hv : lev (mvs chs r1) z with
  | some l =>
    rw [if_neg (by simp [levD, isNon])]
    have := h G1 ex1
    rw [heldR, if_pos (.inr (by rw [hcell, hv]; rfl))] at this
    exact this
  | none =>
    rw [if_pos (by rfl)]
    refine ⟨_, chs, rs0.map (mvs chs), ⟨rfl, by rw [List.map_map]; rfl⟩, .inr rfl, hok.few, by rw [List.length_map]; have := hr0.few; omega, fun p G2 _ ex2 gp => ⟨_, gp, ?_⟩⟩
    have hcol := looks_col hok.nd hj (rs := rs0) (prev := List.replicate chs.length 0) (p := 0) hr0.wide (by simp) (by rw [List.getElem?_replicate, if_pos (List.getElem?_eq_some_iff.mp hj).1])
    have hsl : t + 2 < (seenL 0 (colR j rs0)).length := by rw [seenL_length, colR, List.length_map]; omega
    obtain ⟨lv, hlv⟩ : ∃ lv, (seenL 0 (colR j rs0))[t + 2]? = some lv := ⟨_, List.getElem?_eq_getElem hsl⟩
    have hat : ((looksOf chs (rs0.map (mvs chs)))[t + 2]?).map (fun lk => lk[j]?) = some (some lv) := by
      have := congrArg (fun l => l[t + 2]?) hcol
      simp only [List.getElem?_map, hlv, Option.map_some] at this
      exact this
    obtain ⟨lk, hlk, hlkj⟩ := Option.map_eq_some_iff.mp hat
    have fin := h
    rw [heldR, if_neg (by rw [hcell, hv]; simpa using c1), hlv] at fin
    simp only [List.getElem?_map, hlk, Option.map_some, must_some]
    refine ⟨chs, rfl, j, hj, fun m hm e => ?_, ?_⟩
    · have h1 := List.getElem?_eq_some_iff.mp hj
      have h2 := List.getElem?_eq_some_iff.mp e
      obtain ⟨l1, g1⟩ := h1
      obtain ⟨l2, g2⟩ := h2
      have := (List.getElem_inj hok.nd).mp (g2.trans g1.symm)
      omega
    · have e3 : pick (lk.map D.int) (j : Int) = some (.int lv) := by rw [pick_nat, List.getElem?_map, hlkj]; rfl
      simp only [intsT, dIx_tup, e3, must_some]
      refine ⟨chs, r1, rfl, j, lv, rfl, hok, hw1, hj, fun G3 ex3 => ⟨t + 1, rfl, c1', by have := hr.few; omega, fun G4 ex4 => ?_⟩⟩
      rw [← set_cell hr1]
      exact fin G4 (((ex1.trans ex2).trans ex3).trans ex4)
end TC
set_option maxRecDepth 100000
set_option maxHeartbeats 2000000
/-! SP: steps, by rows and by columns. -/
namespace TC
open PySem PySem.Spec PyProof.Rows L2
inductive Sp where
  | set (t : Nat) (z : Str) (l : Int) (only : Bool)
  | clear (t : Nat) (z : Str) (only : Bool)
  | block (t : Nat)
  | insert (t : Nat)
  | delete (t : Nat) (keep : Bool)
  | copy (t u : Nat)
  | swap (t : Nat)
def modeS (o : Bool) : Str := if o then "only" else "track"
def keepS (k : Bool) : Str := if k then "keep" else "drop"
def cN (t : Nat) : D := .int ((t : Int) + 1)
def spD : Sp → D
  | .set t z l o => .tup [.str "set", cN t, .str z, .int l, .str (modeS o)]
  | .clear t z o => .tup [.str "clear", cN t, .str z, .str (modeS o)]
  | .block t => .tup [.str "block", cN t]
  | .insert t => .tup [.str "insert", cN t]
  | .delete t k => .tup [.str "delete", cN t, .str (keepS k)]
  | .copy t u => .tup [.str "copy", cN t, cN u]
  | .swap t => .tup [.str "swap", cN t]
def SpOk : Sp → Prop
  | .set t z l _ => t ≤ 4 ∧ chanB (.str z) = true ∧ 0 ≤ l ∧ l ≤ 100
  | .clear t z _ => t ≤ 4 ∧ chanB (.str z) = true
  | .block t => t ≤ 4
  | .insert t => t ≤ 4
  | .delete t _ => t ≤ 4
  | .copy t u => t ≤ 4 ∧ u ≤ 4 ∧ t ≠ u
  | .swap t => t ≤ 4
theorem mode_of {m : D} (h : modeB ["track", "only"] m = true) : ∃ o, m = .str (modeS o) := by
  cases m with
  | str z =>
    have : z = "track" ∨ z = "only" := by simpa [modeB] using h
    rcases this with rfl | rfl
    · exact ⟨false, rfl⟩
    · exact ⟨true, rfl⟩
  | _ => cases h
theorem keep_of {m : D} (h : modeB ["keep", "drop"] m = true) : ∃ o, m = .str (keepS o) := by
  cases m with
  | str z =>
    have : z = "keep" ∨ z = "drop" := by simpa [modeB] using h
    rcases this with rfl | rfl
    · exact ⟨true, rfl⟩
    · exact ⟨false, rfl⟩
  | _ => cases h
theorem chan_of {c : D} (h : chanB c = true) : ∃ z, c = .str z := by
  cases c with
  | str z => exact ⟨z, rfl⟩
  | _ => cases h
theorem stepB_sp {x : D} (h : stepB x = true) : ∃ s, x = spD s ∧ SpOk s := by
  obtain ⟨w, n, r, rfl, h1, h5, hr⟩ := stepB_true h
  obtain ⟨t, rfl⟩ : ∃ t : Nat, n = (t : Int) + 1 := ⟨(n - 1).toNat, by omega⟩
  have ht : t ≤ 4 := by omega
  unfold restB at hr
  split at hr
  · rename_i hw
    subst hw
    split at hr
    · rename_i c l m
      simp only [Bool.and_eq_true] at hr
      obtain ⟨z, rfl⟩ := chan_of hr.1
      obtain ⟨i, rfl, i0, i1⟩ := wholeB_true hr.2.1
      obtain ⟨o, rfl⟩ := mode_of hr.2.2
      exact ⟨.set t z i o, rfl, ht, hr.1, i0, i1⟩
    · cases hr
  · split at hr
    · rename_i hw
      subst hw
      split at hr
      · rename_i c m
        simp only [Bool.and_eq_true] at hr
        obtain ⟨z, rfl⟩ := chan_of hr.1
        obtain ⟨o, rfl⟩ := mode_of hr.2
        exact ⟨.clear t z o, rfl, ht, hr.1⟩
      · cases hr
    · split at hr
      · rename_i hw
        subst hw
        split at hr
        · obtain ⟨o, rfl⟩ := keep_of hr
          exact ⟨.delete t o, rfl, ht⟩
        · cases hr
      · split at hr
        · rename_i hw
          subst hw
          split at hr
          · rename_i k
            simp at hr
            obtain ⟨u, rfl⟩ : ∃ u : Nat, k = (u : Int) + 1 := ⟨(k - 1).toNat, by omega⟩
            exact ⟨.copy t u, rfl, ht, by omega, by omega⟩
          · cases hr
        · simp at hr
          obtain ⟨hw, rfl⟩ := hr
          rcases hw with rfl | rfl | rfl
          · exact ⟨.block t, rfl, ht⟩
          · exact ⟨.insert t, rfl, ht⟩
          · exact ⟨.swap t, rfl, ht⟩

/-! ### by rows -/
def fullRow (chs : List Str) (rs : List Row) (i : Nat) : Row := (((looksOf chs (rs.map (mvs chs)))[i]?).getD []).map some
def orRow (r g : Row) : Row := List.zipWith (fun c d => if c.isNone then d else c) r g
def delR (rs : List Row) (t : Nat) (k : Bool) : List Row :=
  if k = true ∧ t < (rs.eraseIdx t).length then (rs.eraseIdx t).modify t (fun r => orRow r ((rs[t]?).getD [])) else rs.eraseIdx t
def setR (chs : List Str) (rs : List Row) (t : Nat) (z : Str) (c : Option Int) (o : Bool) : List Row :=
  if o = true then heldR rs (setCell rs t (chs.idxOf z) c) t (chs.idxOf z) else setCell rs t (chs.idxOf z) c
def stepR (chs : List Str) (s : Sp) (rs : List Row) : List Row := match s with
  | .set t z l o => if rs.length ≤ t then rs else if z ∈ chs then setR chs rs t z (some l) o else rs
  | .clear t z o => if rs.length ≤ t then rs else if z ∈ chs then (if cell rs t (chs.idxOf z) = none then rs else setR chs rs t z none o) else rs
  | .block t => if rs.length ≤ t then rs else rs.set t (fullRow chs rs (t + 1))
  | .insert t => if t ≤ rs.length then rs.take t ++ List.replicate chs.length none :: rs.drop t else rs
  | .delete t k => if rs.length ≤ t then rs else delR rs t k
  | .copy t u => if rs.length ≤ t ∨ rs.length ≤ u then rs else rs.set u ((rs[t]?).getD [])
  | .swap t => if rs.length ≤ t + 1 then rs else rs.take t ++ (rs[t + 1]?).getD [] :: (rs[t]?).getD [] :: rs.drop (t + 2)
def runR (chs : List Str) (ss : List Sp) (rs : List Row) : List Row := ss.foldl (fun rs s => stepR chs s rs) rs

/-! ### by columns -/
section
variable {α β : Type}
def isGap (cs : List (Option α)) (i : Nat) : Bool := match cs[i]? with
  | some none => true
  | _ => false
def holdC (lv : Int → α) (cs f : List (Option α)) (t : Nat) (o : Bool) : List (Option α) :=
  if o = true ∧ isGap f (t + 1) = true then f.set (t + 1) ((seenL (lv 0) cs)[t + 2]?) else f
def ledC (lv : Int → α) (s : Sp) (z : Str) (cs : List (Option α)) : List (Option α) := match s with
  | .set t y l o => if cs.length ≤ t ∨ y ≠ z then cs else holdC lv cs (cs.set t (some (lv l))) t o
  | .clear t y o => if cs.length ≤ t ∨ y ≠ z ∨ isGap cs t = true then cs else holdC lv cs (cs.set t none) t o
  | .block t => if cs.length ≤ t then cs else cs.set t ((seenL (lv 0) cs)[t + 1]?)
  | .insert t => if t ≤ cs.length then cs.take t ++ none :: cs.drop t else cs
  | .delete t k => if cs.length ≤ t then cs else if k = true ∧ isGap (cs.eraseIdx t) t = true then (cs.eraseIdx t).set t (cs[t]?).join else cs.eraseIdx t
  | .copy t u => if cs.length ≤ t ∨ cs.length ≤ u then cs else cs.set u (cs[t]?).join
  | .swap t => if cs.length ≤ t + 1 then cs else cs.take t ++ (cs[t + 1]?).join :: (cs[t]?).join :: cs.drop (t + 2)
def runC (lv : Int → α) (ss : List Sp) (z : Str) (cs : List (Option α)) : List (Option α) := ss.foldl (fun cs s => ledC lv s z cs) cs
end
end TC
set_option maxRecDepth 100000
set_option maxHeartbeats 2000000
/-! SQ: a step by rows is the step by columns. -/
namespace TC
open PySem PySem.Spec PyProof.Rows L2
section
variable {rs f : List Row} {j t : Nat} {chs : List Str}
@[simp] theorem colR_length : (colR j rs).length = rs.length := by simp [colR]
theorem colR_at : (colR j rs)[t]? = (rs[t]?).map fun r => (r[j]?).getD none := by simp [colR]
theorem colR_set {r : Row} : colR j (rs.set t r) = (colR j rs).set t ((r[j]?).getD none) := by simp [colR, List.map_set]
theorem cell_col : cell rs t j = ((colR j rs)[t]?).join := by
  unfold cell; rw [colR_at]
  cases rs[t]? with
  | none => rfl
  | some r => simp
theorem gap_col : isGap (colR j rs) t = true ↔ t < rs.length ∧ cell rs t j = none := by
  unfold isGap
  rw [cell_col]
  by_cases h : t < rs.length
  · obtain ⟨c, hc⟩ : ∃ c, (colR j rs)[t]? = some c := ⟨_, List.getElem?_eq_getElem (by simpa using h)⟩
    rw [hc]
    cases c <;> simp [h]
  · have : (colR j rs)[t]? = none := List.getElem?_eq_none (by simp; omega)
    rw [this]; simp [h]
theorem setCell_length {c : Option Int} : (setCell rs t j c).length = rs.length := by simp [setCell]
theorem col_setCell {i : Nat} {c : Option Int} (hw : ∀ r ∈ rs, j < r.length) : colR i (setCell rs t j c) = if j = i then (colR i rs).set t c else colR i rs := by
  apply List.ext_getElem?
  intro m
  rw [colR_at, setCell, List.getElem?_modify]
  by_cases e : t = m
  · subst e
    cases hr : rs[t]? with
    | none =>
      have hn : rs.length ≤ t := List.getElem?_eq_none_iff.mp hr
      by_cases q : j = i
      · rw [if_pos q, List.getElem?_eq_none (by simp; omega)]; simp
      · rw [if_neg q, colR_at, hr]; simp
    | some r =>
      have hj := hw r (List.mem_of_getElem? hr)
      have hl : t < (colR i rs).length := by
        have := (List.getElem?_eq_some_iff.mp hr).1
        simpa using this
      by_cases q : j = i
      · subst q
        rw [if_pos rfl, List.getElem?_set_self hl]
        simp [hj]
      · rw [if_neg q, colR_at, hr]
        simp [List.getElem?_set_ne q]
  · by_cases q : j = i
    · rw [if_pos q, List.getElem?_set_ne e, colR_at]; simp [e]
    · rw [if_neg q, colR_at]; simp [e]
theorem setCell_wide {n : Nat} {c : Option Int} (hw : ∀ r ∈ rs, r.length = n) : ∀ r ∈ setCell rs t j c, r.length = n := by
  intro r hr
  obtain ⟨i, hi⟩ := List.getElem?_of_mem hr
  rw [setCell, List.getElem?_modify] at hi
  obtain ⟨r0, h0, e⟩ := Option.map_eq_some_iff.mp hi
  have := hw r0 (List.mem_of_getElem? h0)
  subst e
  split <;> simp [this]
theorem heldR_length {rs0 : List Row} : (heldR rs0 rs t j).length = rs.length := by
  unfold heldR; split
  · rfl
  · exact setCell_length
theorem heldR_wide {n : Nat} {rs0 : List Row} (hw : ∀ r ∈ rs, r.length = n) : ∀ r ∈ heldR rs0 rs t j, r.length = n := by
  unfold heldR; split
  · exact hw
  · exact setCell_wide hw
theorem col_held {i : Nat} {rs0 : List Row} (hw : ∀ r ∈ rs, j < r.length) : colR i (heldR rs0 rs t j) = if j = i then holdC id (colR i rs0) (colR i rs) t true else colR i rs := by
  unfold heldR holdC
  by_cases c : rs.length ≤ t + 1 ∨ (cell rs (t + 1) j).isSome = true
  · rw [if_pos c]
    by_cases q : j = i
    · subst q
      rw [if_pos rfl, if_neg ?_]
      rintro ⟨_, g⟩
      obtain ⟨g1, g2⟩ := gap_col.mp g
      rcases c with c | c
      · omega
      · rw [g2] at c; cases c
    · rw [if_neg q]
  · rw [if_neg c, col_setCell hw]
    by_cases q : j = i
    · subst q
      rw [if_pos rfl, if_pos rfl, if_pos ?_]; rfl
      refine ⟨rfl, gap_col.mpr ⟨by omega, ?_⟩⟩
      cases h : cell rs (t + 1) j with
      | none => rfl
      | some l => rw [h] at c; exact absurd (.inr rfl) c
    · rw [if_neg q, if_neg q]
theorem setR_length {z : Str} {c : Option Int} {o : Bool} : (setR chs rs t z c o).length = rs.length := by
  unfold setR; split
  · rw [heldR_length, setCell_length]
  · exact setCell_length
theorem setR_wide {n : Nat} {z : Str} {c : Option Int} {o : Bool} (hw : ∀ r ∈ rs, r.length = n) : ∀ r ∈ setR chs rs t z c o, r.length = n := by
  unfold setR; split
  · exact heldR_wide (setCell_wide hw)
  · exact setCell_wide hw
theorem idx_at {z : Str} (h : z ∈ chs) : chs[chs.idxOf z]? = some z := by
  have hl := List.idxOf_lt_length_of_mem h
  rw [List.getElem?_eq_getElem hl, List.getElem_idxOf hl]
theorem idx_nd {z : Str} {i : Nat} (nd : chs.Nodup) (h : chs[i]? = some z) : chs.idxOf z = i := by
  have hm := List.mem_of_getElem? h
  have h1 := List.getElem?_eq_some_iff.mp (idx_at hm)
  have h2 := List.getElem?_eq_some_iff.mp h
  obtain ⟨l1, g1⟩ := h1
  obtain ⟨l2, g2⟩ := h2
  exact (List.getElem_inj nd).mp (g1.trans g2.symm)
theorem col_setR {i : Nat} {z y : Str} {c : Option Int} {o : Bool} (nd : chs.Nodup) (hw : ∀ r ∈ rs, r.length = chs.length) (hz : chs[i]? = some z) (hy : y ∈ chs) :
    colR i (setR chs rs t y c o) = if y = z then holdC id (colR i rs) ((colR i rs).set t c) t o else colR i rs := by
  have hlt := List.idxOf_lt_length_of_mem hy
  have hw1 : ∀ r ∈ rs, chs.idxOf y < r.length := fun r hr => by rw [hw r hr]; exact hlt
  have hw2 : ∀ r ∈ setCell rs t (chs.idxOf y) c, chs.idxOf y < r.length := fun r hr => by rw [setCell_wide hw r hr]; exact hlt
  have hi : (chs.idxOf y = i) ↔ y = z := by
    constructor
    · rintro rfl
      have := idx_at hy
      rw [hz] at this; cases this; rfl
    · rintro rfl
      exact idx_nd nd hz
  unfold setR
  cases o with
  | true =>
    rw [if_pos rfl, col_held hw2, col_setCell hw1]
    by_cases q : y = z
    · rw [if_pos (hi.mpr q), if_pos (hi.mpr q), if_pos q]
    · rw [if_neg (fun e => q (hi.mp e)), if_neg (fun e => q (hi.mp e)), if_neg q]
  | false =>
    rw [if_neg (by simp), col_setCell hw1]
    by_cases q : y = z
    · rw [if_pos (hi.mpr q), if_pos q]; simp [holdC]
    · rw [if_neg (fun e => q (hi.mp e)), if_neg q]
theorem looksL_wide {n : Nat} : ∀ {mss : List (List (Str × Int))} {prev : List Int}, n = chs.length → prev.length = n → ∀ lk ∈ looksL chs prev mss, lk.length = n
  | [], prev, hn, h, lk, hl => by
    rw [looksL] at hl
    rw [List.mem_singleton.mp hl]; exact h
  | ms :: mss, prev, hn, h, lk, hl => by
    rw [looksL] at hl
    rcases List.mem_cons.mp hl with rfl | hl
    · exact h
    · exact looksL_wide hn (by rw [hn]; exact lkStep_length (h.trans hn)) lk hl
theorem looksL_length : ∀ {mss : List (List (Str × Int))} {prev : List Int}, (looksL chs prev mss).length = mss.length + 1
  | [], prev => rfl
  | ms :: mss, prev => by rw [looksL, List.length_cons, looksL_length, List.length_cons]
/-- the look of a cue, in a channel -/
theorem look_at {i : Nat} {z : Str} (nd : chs.Nodup) (hw : ∀ r ∈ rs, r.length = chs.length) (hz : chs[i]? = some z) (ht : t ≤ rs.length) :
    ∃ lk l, (looksOf chs (rs.map (mvs chs)))[t]? = some lk ∧ lk.length = chs.length ∧ lk[i]? = some l ∧ (seenL 0 (colR i rs))[t]? = some l := by
  have hcol := looks_col nd hz (rs := rs) (prev := List.replicate chs.length 0) (p := 0) hw (by simp) (by rw [List.getElem?_replicate, if_pos (List.getElem?_eq_some_iff.mp hz).1])
  have hsl : t < (seenL 0 (colR i rs)).length := by rw [seenL_length]; simp; omega
  obtain ⟨lv, hlv⟩ : ∃ lv, (seenL 0 (colR i rs))[t]? = some lv := ⟨_, List.getElem?_eq_getElem hsl⟩
  have hat : ((looksOf chs (rs.map (mvs chs)))[t]?).map (fun lk => lk[i]?) = some (some lv) := by
    have := congrArg (fun l => l[t]?) hcol
    simp only [List.getElem?_map, hlv, Option.map_some] at this
    exact this
  obtain ⟨lk, hlk, hlkj⟩ := Option.map_eq_some_iff.mp hat
  exact ⟨lk, lv, hlk, looksL_wide rfl (by simp) lk (List.mem_of_getElem? hlk), hlkj, hlv⟩
theorem look_there (ht : t ≤ rs.length) : ∃ lk, (looksOf chs (rs.map (mvs chs)))[t]? = some lk ∧ lk.length = chs.length := by
  have h : t < (looksOf chs (rs.map (mvs chs))).length := by unfold looksOf; rw [looksL_length]; simp; omega
  exact ⟨_, List.getElem?_eq_getElem h, looksL_wide rfl (by simp) _ (List.getElem_mem h)⟩
theorem fullRow_wide (ht : t ≤ rs.length) : (fullRow chs rs t).length = chs.length := by
  obtain ⟨lk, h1, h2⟩ := look_there (chs := chs) ht
  unfold fullRow; rw [h1]; simpa using h2
theorem fullRow_at {i : Nat} {z : Str} (nd : chs.Nodup) (hw : ∀ r ∈ rs, r.length = chs.length) (hz : chs[i]? = some z) (ht : t ≤ rs.length) : ((fullRow chs rs t)[i]?).getD none = (seenL 0 (colR i rs))[t]? := by
  obtain ⟨lk, l, h1, h2, h3, h4⟩ := look_at nd hw hz ht
  unfold fullRow; rw [h1, h4]; simp [h3]
theorem orRow_wide {r g : Row} {n : Nat} (h1 : r.length = n) (h2 : g.length = n) : (orRow r g).length = n := by
  unfold orRow; rw [List.length_zipWith, h1, h2, Nat.min_self]
theorem orRow_at {r g : Row} {i : Nat} (h1 : i < r.length) (h2 : i < g.length) : ((orRow r g)[i]?).getD none = if ((r[i]?).getD none).isNone then (g[i]?).getD none else (r[i]?).getD none := by
  unfold orRow
  rw [List.getElem?_zipWith, List.getElem?_eq_getElem h1, List.getElem?_eq_getElem h2]; rfl
theorem erase_wide {n : Nat} (hw : ∀ r ∈ rs, r.length = n) : ∀ r ∈ rs.eraseIdx t, r.length = n := fun r hr => hw r (List.mem_of_mem_eraseIdx hr)
theorem delR_wide {n : Nat} {k : Bool} (ht : t < rs.length) (hw : ∀ r ∈ rs, r.length = n) : ∀ r ∈ delR rs t k, r.length = n := by
  unfold delR; split
  · intro r hr
    obtain ⟨i, hi⟩ := List.getElem?_of_mem hr
    rw [List.getElem?_modify] at hi
    obtain ⟨r0, h0, e⟩ := Option.map_eq_some_iff.mp hi
    have := erase_wide hw r0 (List.mem_of_getElem? h0)
    subst e
    split
    · refine orRow_wide this ?_
      rw [List.getElem?_eq_getElem ht]
      exact hw _ (List.getElem_mem ht)
    · exact this
  · exact erase_wide hw
theorem col_erase {i : Nat} : colR i (rs.eraseIdx t) = (colR i rs).eraseIdx t := by
  unfold colR; simp [List.eraseIdx_eq_take_drop_succ, List.map_take, List.map_drop]
theorem col_delR {i n : Nat} {k : Bool} (ht : t < rs.length) (hw : ∀ r ∈ rs, r.length = n) (hi : i < n) :
    colR i (delR rs t k) = if k = true ∧ isGap ((colR i rs).eraseIdx t) t = true then ((colR i rs).eraseIdx t).set t ((colR i rs)[t]?).join else (colR i rs).eraseIdx t := by
  have hg : rs[t]? = some rs[t] := List.getElem?_eq_getElem ht
  have hgl : i < (rs[t]).length := by rw [hw _ (List.getElem_mem ht)]; exact hi
  rw [← col_erase]
  unfold delR
  by_cases c : k = true ∧ t < (rs.eraseIdx t).length
  · rw [if_pos c]
    have hr : (rs.eraseIdx t)[t]? = some (rs.eraseIdx t)[t] := List.getElem?_eq_getElem c.2
    have hrl : i < ((rs.eraseIdx t)[t]).length := by rw [erase_wide hw _ (List.getElem_mem c.2)]; exact hi
    have e1 : (rs.eraseIdx t).modify t (fun r => orRow r ((rs[t]?).getD [])) = (rs.eraseIdx t).set t (orRow (rs.eraseIdx t)[t] rs[t]) := by
      rw [List.modify_eq_set, hr, hg]; rfl
    rw [e1, colR_set, orRow_at hrl hgl]
    have gc : isGap (colR i (rs.eraseIdx t)) t = true ↔ (((rs.eraseIdx t)[t])[i]?).getD none = none := by
      rw [gap_col]
      unfold cell
      rw [hr]
      simp [c.2]
    have hval : ((colR i rs)[t]?).join = ((rs[t])[i]?).getD none := by rw [colR_at, hg]; rfl
    by_cases q : isGap (colR i (rs.eraseIdx t)) t = true
    · rw [if_pos (show k = true ∧ isGap (colR i (rs.eraseIdx t)) t = true from ⟨c.1, q⟩), if_pos (show ((((rs.eraseIdx t)[t])[i]?).getD none).isNone = true by rw [gc.mp q]; rfl), hval]
    · rw [if_neg (show ¬ (k = true ∧ isGap (colR i (rs.eraseIdx t)) t = true) from fun h => q h.2)]
      have : ¬ ((((rs.eraseIdx t)[t])[i]?).getD none).isNone = true := fun h => q (gc.mpr (Option.isNone_iff_eq_none.mp h))
      rw [if_neg this]
      have h2 : (colR i (rs.eraseIdx t))[t]? = some ((((rs.eraseIdx t)[t])[i]?).getD none) := by rw [colR_at, hr]; rfl
      apply List.ext_getElem?
      intro m
      rw [List.getElem?_set]
      split
      · rename_i e; subst e; rw [h2]; simp [c.2]
      · rfl
  · rw [if_neg c, if_neg ?_]
    rintro ⟨k1, g⟩
    exact c ⟨k1, (gap_col.mp g).1⟩
theorem stepR_wide {s : Sp} (hw : ∀ r ∈ rs, r.length = chs.length) : ∀ r ∈ stepR chs s rs, r.length = chs.length := by
  have at_ : ∀ t, t < rs.length → ((rs[t]?).getD []).length = chs.length := fun t ht => by
    rw [List.getElem?_eq_getElem ht]; exact hw _ (List.getElem_mem ht)
  cases s with
  | set t z l o => unfold stepR; simp only; split; · exact hw
                   split
                   · exact setR_wide hw
                   · exact hw
  | clear t z o =>
    unfold stepR; simp only; split
    · exact hw
    split
    · split
      · exact hw
      · exact setR_wide hw
    · exact hw
  | block t =>
    unfold stepR; simp only; split
    · exact hw
    · intro r hr
      rcases List.mem_or_eq_of_mem_set hr with h | rfl
      · exact hw r h
      · exact fullRow_wide (by omega)
  | insert t =>
    unfold stepR; simp only; split
    · intro r hr
      rcases List.mem_append.mp hr with h | h
      · exact hw r (List.mem_of_mem_take h)
      · rcases List.mem_cons.mp h with rfl | h
        · simp
        · exact hw r (List.mem_of_mem_drop h)
    · exact hw
  | delete t k =>
    unfold stepR; simp only; split
    · exact hw
    · exact delR_wide (by omega) hw
  | copy t u =>
    unfold stepR; simp only; split
    · exact hw
    · intro r hr
      rcases List.mem_or_eq_of_mem_set hr with h | rfl
      · exact hw r h
      · exact at_ t (by omega)
  | swap t =>
    unfold stepR; simp only; split
    · exact hw
    · intro r hr
      rcases List.mem_append.mp hr with h | h
      · exact hw r (List.mem_of_mem_take h)
      · rcases List.mem_cons.mp h with rfl | h
        · exact at_ _ (by omega)
        · rcases List.mem_cons.mp h with rfl | h
          · exact at_ _ (by omega)
          · exact hw r (List.mem_of_mem_drop h)
theorem delR_length {k : Bool} (ht : t < rs.length) : (delR rs t k).length = rs.length - 1 := by
  unfold delR; split
  · rw [List.length_modify, List.length_eraseIdx, if_pos ht]
  · rw [List.length_eraseIdx, if_pos ht]
theorem stepR_length {s : Sp} : (stepR chs s rs).length ≤ rs.length + 1 := by
  cases s with
  | set t z l o => unfold stepR; simp only; split; · omega
                   split
                   · rw [setR_length]; omega
                   · omega
  | clear t z o =>
    unfold stepR; simp only; split
    · omega
    split
    · split
      · omega
      · rw [setR_length]; omega
    · omega
  | block t => unfold stepR; simp only; split <;> simp
  | insert t => unfold stepR; simp only; split <;> simp; omega
  | delete t k =>
    unfold stepR; simp only; split
    · omega
    · rw [delR_length (by omega)]; omega
  | copy t u => unfold stepR; simp only; split <;> simp
  | swap t => unfold stepR; simp only; split <;> simp; omega
/-- a step by rows is the step by columns -/
theorem step_col {i : Nat} {z : Str} {s : Sp} (nd : chs.Nodup) (hw : ∀ r ∈ rs, r.length = chs.length) (hz : chs[i]? = some z) : colR i (stepR chs s rs) = ledC id s z (colR i rs) := by
  have hil := (List.getElem?_eq_some_iff.mp hz).1
  have hzm := List.mem_of_getElem? hz
  cases s with
  | set t y l o =>
    unfold stepR ledC
    simp only [colR_length]
    by_cases c : rs.length ≤ t
    · rw [if_pos c, if_pos (.inl c)]
    · rw [if_neg c]
      by_cases hy : y ∈ chs
      · rw [if_pos hy, col_setR nd hw hz hy]
        by_cases e : y = z
        · rw [if_pos e, if_neg (by simp [c, e])]; rfl
        · rw [if_neg e, if_pos (.inr e)]
      · rw [if_neg hy, if_pos (.inr (fun e => hy (e ▸ hzm)))]
  | clear t y o =>
    unfold stepR ledC
    simp only [colR_length]
    by_cases c : rs.length ≤ t
    · rw [if_pos c, if_pos (.inl c)]
    · rw [if_neg c]
      by_cases hy : y ∈ chs
      · rw [if_pos hy]
        by_cases e : y = z
        · subst e
          have hix := idx_nd nd hz
          by_cases g : cell rs t (chs.idxOf y) = none
          · rw [if_pos g, if_pos]
            rw [hix] at g
            exact .inr (.inr (gap_col.mpr ⟨by omega, g⟩))
          · rw [if_neg g, col_setR nd hw hz hy, if_pos rfl, if_neg]
            rintro (h | h | h)
            · exact c h
            · exact h rfl
            · rw [hix] at g
              exact g (gap_col.mp h).2
        · rw [if_pos (show rs.length ≤ t ∨ y ≠ z ∨ isGap (colR i rs) t = true from .inr (.inl e))]
          by_cases g : cell rs t (chs.idxOf y) = none
          · rw [if_pos g]
          · rw [if_neg g, col_setR nd hw hz hy, if_neg e]
      · rw [if_neg hy, if_pos (.inr (.inl (fun e => hy (e ▸ hzm))))]
  | block t =>
    unfold stepR ledC
    simp only [colR_length]
    by_cases c : rs.length ≤ t
    · rw [if_pos c, if_pos c]
    · rw [if_neg c, if_neg c, colR_set, fullRow_at nd hw hz (by omega)]; rfl
  | insert t =>
    unfold stepR ledC
    simp only [colR_length]
    by_cases c : t ≤ rs.length
    · rw [if_pos c, if_pos c]
      simp [colR, List.map_take, List.map_drop, hil]
    · rw [if_neg c, if_neg c]
  | delete t k =>
    unfold stepR ledC
    simp only [colR_length]
    by_cases c : rs.length ≤ t
    · rw [if_pos c, if_pos c]
    · rw [if_neg c, if_neg c, col_delR (by omega) hw hil]
  | copy t u =>
    unfold stepR ledC
    simp only [colR_length]
    by_cases c : rs.length ≤ t ∨ rs.length ≤ u
    · rw [if_pos c, if_pos c]
    · rw [if_neg c, if_neg c, colR_set]
      have ht : t < rs.length := by omega
      have : ((colR i rs)[t]?).join = (((rs[t]?).getD [])[i]?).getD none := by rw [colR_at, List.getElem?_eq_getElem ht]; rfl
      rw [this]
  | swap t =>
    unfold stepR ledC
    simp only [colR_length]
    by_cases c : rs.length ≤ t + 1
    · rw [if_pos c, if_pos c]
    · rw [if_neg c, if_neg c]
      have ht : t < rs.length := by omega
      have ht1 : t + 1 < rs.length := by omega
      have e0 : ((colR i rs)[t]?).join = (((rs[t]?).getD [])[i]?).getD none := by rw [colR_at, List.getElem?_eq_getElem ht]; rfl
      have e1 : ((colR i rs)[t + 1]?).join = (((rs[t + 1]?).getD [])[i]?).getD none := by rw [colR_at, List.getElem?_eq_getElem ht1]; rfl
      rw [e0, e1]
      simp [colR, List.map_take, List.map_drop]
theorem runR_wide {ss : List Sp} (hw : ∀ r ∈ rs, r.length = chs.length) : ∀ r ∈ runR chs ss rs, r.length = chs.length := by
  induction ss generalizing rs with
  | nil => exact hw
  | cons s ss ih => exact ih (rs := stepR chs s rs) (stepR_wide hw)
theorem runR_length {ss : List Sp} : (runR chs ss rs).length ≤ rs.length + ss.length := by
  induction ss generalizing rs with
  | nil => exact Nat.le_refl _
  | cons s ss ih =>
    have := ih (rs := stepR chs s rs)
    have h2 := stepR_length (chs := chs) (rs := rs) (s := s)
    simp only [runR, List.foldl_cons, List.length_cons] at this ⊢
    omega
theorem run_col {i : Nat} {z : Str} {ss : List Sp} (nd : chs.Nodup) (hw : ∀ r ∈ rs, r.length = chs.length) (hz : chs[i]? = some z) : colR i (runR chs ss rs) = runC id ss z (colR i rs) := by
  induction ss generalizing rs with
  | nil => rfl
  | cons s ss ih =>
    have := ih (rs := stepR chs s rs) (stepR_wide hw)
    rw [step_col nd hw hz] at this
    exact this
end
end TC
set_option maxRecDepth 100000
set_option maxHeartbeats 2000000
/-! SR: the program's steps. -/
namespace TC
open PySem PySem.Spec PyProof.Rows L2
theorem dIn_ft {neg : Bool} {z : Str} {chs : List Str} {G : DHp} {Q : DK} : dIn neg (.str z) (.ft (chs.map .str)) G Q = Q (.bl (neg != decide (z ∈ chs))) G := by
  unfold dIn
  simp only [itemsD_ft, flat_strs, inF_strs]
  apply propext
  exact ⟨fun h => h.2.2, fun h => ⟨rfl, trivial, h⟩⟩
theorem dIn_lit {neg : Bool} {z : Str} {chs : List Str} {G : DHp} {Q : DK} : dIn neg (.str z) (.tup (chs.map .str)) G Q = Q (.bl (neg != decide (z ∈ chs))) G := by
  unfold dIn
  simp only [itemsD_tup, flat_strs, inF_strs]
  apply propext
  exact ⟨fun h => h.2.2, fun h => ⟨rfl, trivial, h⟩⟩
def Sp.at_ : Sp → Nat
  | .set t _ _ _ => t
  | .clear t _ _ => t
  | .block t => t
  | .insert t => t
  | .delete t _ => t
  | .copy t _ => t
  | .swap t => t
def Sp.isSet : Sp → Bool
  | .set _ _ _ _ => true
  | .clear _ _ _ => true
  | _ => false
theorem pick_rows {chs : List Str} {rs : List Row} {t : Nat} {r : Row} (h : rs[t]? = some r) : pick (rs.map (cueR chs)) (t : Int) = some (cueR chs r) := by
  rw [pick_nat, List.getElem?_map, h]; rfl
theorem cueR_set {chs : List Str} {r : Row} {z : Str} (nd : chs.Nodup) (hl : r.length = chs.length) (hz : z ∈ chs) : .tup (((mvs chs r).filter fun p => !(p.1 == z)).map mvD) = cueR chs (r.set (chs.idxOf z) none) := by
  unfold cueR; rw [mvs_clear nd hl (idx_at hz)]
theorem RowsOk.set {chs : List Str} {rs : List Row} {t j : Nat} {c : Option Int} (h : RowsOk chs rs) : RowsOk chs (setCell rs t j c) := ⟨setCell_wide h.wide, by rw [setCell_length]; exact h.few⟩
theorem mode_only {o : Bool} : (modeS o == Str.ofString "only") = o := by cases o <;> decide
abbrev sp_moved : DSp := sp2 fun st sh G Q _ => ∃ (chs : List Str) (rs : List Row) (s : Sp), st = spD s ∧ sh = showR chs rs ∧ s.isSet = true ∧ s.at_ < rs.length ∧ ChsOk chs ∧ RowsOk chs rs ∧ ∀ G', Ext G G' → Q (.tup ((stepR chs s rs).map (cueR chs))) G'
def b_moved  (E : DXK) : WS :=
  (wSeq (wAsg (wVar 1) (wgTup 2 (wgCons (wgName 2) (wgCons (wgName 3) wgNil))))
  (wSeq (wPar 4 5 (wCons (wOp dSub (wOp dIx (wVar 0) (wC (.int 1))) (wC (.int 1))) (wCons (wOp dIx (wVar 0) (wC (.int 2))) wNil)))
  (wSeq (wIf (wTest (wOp (dIn true) (wVar 5) (wVar 2))) (wRet (wVar 3)) wNext)
  (wSeq (wIf (wTest (wOp dEq (wOp dIx (wVar 0) (wC (.int 0))) (wC (.str "set")))) (wAsg (wCall sp_with_cue (fun _ => E) (wCons (wVar 3) (wCons (wVar 4) (wCons (wCall sp_with_move (fun _ => E) (wCons (wOp dIx (wVar 3) (wVar 4)) (wCons (wVar 5) (wCons (wOp dIx (wVar 0) (wC (.int 3))) wNil)))) wNil)))) (wgName 6)) (wIf (wTest (wOp (dIsN false) (wCall sp_level_in (fun _ => E) (wCons (wOp dIx (wVar 3) (wVar 4)) (wCons (wVar 5) wNil))) (wC .non))) (wRet (wVar 3)) (wAsg (wCall sp_with_cue (fun _ => E) (wCons (wVar 3) (wCons (wVar 4) (wCons (wCall sp_without_move (fun _ => E) (wCons (wOp dIx (wVar 3) (wVar 4)) (wCons (wVar 5) wNil))) wNil)))) (wgName 6))))
  (wRet (wIfE (wTest (wOp dEq (wOp dIx (wVar 0) (wOp dSub (wCB dLen (wCons (wVar 0) wNil)) (wC (.int 1)))) (wC (.str "only")))) (wCall sp_held (fun _ => E) (wCons (wVar 1) (wCons (wVar 6) (wCons (wVar 4) (wCons (wVar 5) wNil))))) (wVar 6)))))))
abbrev N_moved : List Str := ["step", "show", "channels", "cues", "at", "channel", "found"]
abbrev Okb_moved  (sp : DSp) : Prop := ∀ ds G Q E, sp ds G Q E → b_moved  E { nx := fun _ G' => Q .non G', rt := Q } (startD N_moved ds) G
theorem ok_moved : Okb_moved sp_moved := by
  intro ds G Q E h0
  obtain ⟨st, sh, rfl, chs, rs, s, rfl, rfl, hs, ht, hok, hr, h⟩ := sp2_inv h0
  clear h0
  cases s with
  | set t z l o =>
    have ht : t < rs.length := ht
    have hr1 : rs[t]? = some rs[t] := List.getElem?_eq_getElem ht
    have hw := hr.wide _ (List.getElem_mem ht)
    unfold stepR at h
    simp only [if_neg (show ¬ rs.length ≤ t by omega)] at h
    simp [b_moved, startD, showR, spD, cN, dIn_ft]
    by_cases hz : z ∈ chs
    · simp only [hz, not_true, if_true, if_false, pick_rows hr1, must_some] at h ⊢
      refine ⟨chs, _, rfl, hok, hw, chs.idxOf z, idx_at hz, fun G1 e1 => ⟨t, rfl, ht, by have := hr.few; omega, fun G2 e2 => ?_⟩⟩
      rw [← set_cell hr1]
      have el : (modeS o = Str.ofString "only") ↔ o = true := by cases o <;> decide
      by_cases ho : o = true
      · rw [if_pos (el.mpr ho)]
        refine ⟨chs, rs, ⟨rfl, rfl⟩, _, rfl, t, rfl, hok, hr, hr.set, setCell_length.symm, (by rw [setCell_length]; exact ht), chs.idxOf z, idx_at hz, fun G3 e3 => ?_⟩
        have := h G3 (e1.trans (e2.trans e3))
        rwa [setR, if_pos ho] at this
      · rw [if_neg (fun e => ho (el.mp e))]
        have := h G2 (e1.trans e2)
        rwa [setR, if_neg ho] at this
    · simp only [hz, not_false_iff, if_true, if_false] at h ⊢
      exact h G .refl
  | clear t z o =>
    have ht : t < rs.length := ht
    have hr1 : rs[t]? = some rs[t] := List.getElem?_eq_getElem ht
    have hw := hr.wide _ (List.getElem_mem ht)
    unfold stepR at h
    simp only [if_neg (show ¬ rs.length ≤ t by omega)] at h
    have hse : ¬ (Str.ofString "clear" = Str.ofString "set") := by decide
    simp [b_moved, startD, showR, spD, cN, dIn_ft, hse]
    by_cases hz : z ∈ chs
    · simp only [hz, not_true, if_true, if_false, pick_rows hr1, must_some] at h ⊢
      refine ⟨mvs chs rs[t], rfl, fun G1 e1 => ?_⟩
      have hlev := lev_cell hok.nd hw (idx_at hz)
      have hcell : cell rs t (chs.idxOf z) = lev (mvs chs rs[t]) z := by unfold cell; rw [hr1]; simp [← hlev]
      rw [hcell] at h
      cases hv : lev (mvs chs rs[t]) z with
      | none =>
        rw [if_pos (by rfl)]
        rw [hv, if_pos rfl] at h
        exact h G1 e1
      | some k =>
        rw [if_neg (by simp [levD, isNon])]
        rw [hv, if_neg (by simp)] at h
        refine ⟨mvs chs rs[t], rfl, by have := hok.few; have := mvs_len (chs := chs) (r := rs[t]); omega, fun G2 e2 => ⟨t, rfl, ht, by have := hr.few; omega, fun G3 e3 => ?_⟩⟩
        rw [cueR_set hok.nd hw hz, ← set_cell hr1]
        have el : (modeS o = Str.ofString "only") ↔ o = true := by cases o <;> decide
        by_cases ho : o = true
        · rw [if_pos (el.mpr ho)]
          refine ⟨chs, rs, ⟨rfl, rfl⟩, _, rfl, t, rfl, hok, hr, hr.set, setCell_length.symm, (by rw [setCell_length]; exact ht), chs.idxOf z, idx_at hz, fun G4 e4 => ?_⟩
          have := h G4 (e1.trans (e2.trans (e3.trans e4)))
          rwa [setR, if_pos ho] at this
        · rw [if_neg (fun e => ho (el.mp e))]
          have := h G3 (e1.trans (e2.trans e3))
          rwa [setR, if_neg ho] at this
    · simp only [hz, not_false_iff, if_true, if_false] at h ⊢
      exact h G .refl
  | _ => cases hs

theorem mvs_full {chs : List Str} : ∀ {lk : List Int}, mvs chs (lk.map some) = chs.zip lk := by
  induction chs with
  | nil => intro lk; cases lk <;> simp [mvs]
  | cons c cs ih =>
    intro lk
    cases lk with
    | nil => simp [mvs]
    | cons l lk => simp [mvs, ih]
theorem zipD_moves {chs : List Str} {lk : List Int} : zipD (chs.map .str) (lk.map .int) = (chs.zip lk).map mvD := by
  unfold zipD
  rw [List.zipWith_map, List.zip, List.map_zipWith]
  rfl
theorem map_set_row {chs : List Str} {rs : List Row} {t : Nat} {r : Row} : (rs.set t r).map (cueR chs) = (rs.map (cueR chs)).set t (cueR chs r) := List.map_set
abbrev sp_blocked : DSp := sp2 fun sh at_ G Q _ => ∃ (chs : List Str) (rs : List Row) (t : Nat), sh = showR chs rs ∧ at_ = .int t ∧ t < rs.length ∧ ChsOk chs ∧ RowsOk chs rs ∧ ∀ G', Ext G G' → Q (.tup ((stepR chs (.block t) rs).map (cueR chs))) G'
def b_blocked  (E : DXK) : WS :=
  (wSeq (wAsg (wVar 0) (wgTup 2 (wgCons (wgName 2) (wgCons (wgName 3) wgNil))))
  (wRet (wCall sp_with_cue (fun _ => E) (wCons (wVar 3) (wCons (wVar 1) (wCons (wCB dZipT (wCons (wVar 2) (wCons (wOp dIx (wCall sp_all_looks (fun _ => E) (wCons (wVar 0) wNil)) (wOp dAdd (wVar 1) (wC (.int 1)))) wNil))) wNil))))))
abbrev N_blocked : List Str := ["show", "at", "channels", "cues"]
abbrev Okb_blocked  (sp : DSp) : Prop := ∀ ds G Q E, sp ds G Q E → b_blocked  E { nx := fun _ G' => Q .non G', rt := Q } (startD N_blocked ds) G
theorem ok_blocked : Okb_blocked sp_blocked := by
  intro ds G Q E h0
  obtain ⟨sh, at_, rfl, chs, rs, t, rfl, rfl, ht, hok, hr, h⟩ := sp2_inv h0
  clear h0
  simp [b_blocked, startD, showR]
  refine ⟨_, chs, rs.map (mvs chs), ⟨rfl, by rw [List.map_map]; rfl⟩, .inr rfl, hok.few, by rw [List.length_map]; have := hr.few; omega, fun p G1 _ e1 gp => ⟨_, gp, ?_⟩⟩
  obtain ⟨lk, h1, h2⟩ := look_there (chs := chs) (show t + 1 ≤ rs.length by omega)
  have e : (t : Int) + 1 = ((t + 1 : Nat) : Int) := by omega
  rw [e, pick_nat, List.getElem?_map, h1]
  simp only [Option.map_some, must_some]
  refine ⟨_, rfl, by have := hok.few; omega, t, rfl, ht, by have := hr.few; omega, fun G2 e2 => ?_⟩
  have := h G2 (e1.trans e2)
  unfold stepR at this
  simp only [if_neg (show ¬ rs.length ≤ t by omega), map_set_row] at this
  have e3 : cueR chs (fullRow chs rs (t + 1)) = .tup (zipD (chs.map .str) (lk.map .int)) := by
    unfold cueR fullRow
    rw [h1, Option.getD_some, mvs_full, zipD_moves]
  rw [e3] at this
  exact this
/-- moves put in one by one where there is none -/
theorem or_none {r : Row} : orRow r (r.map fun _ => none) = r := by
  induction r with
  | nil => rfl
  | cons c r ih =>
    simp only [orRow, List.map_cons, List.zipWith_cons_cons] at ih ⊢
    rw [ih]
    cases c <;> rfl
end TC
set_option maxRecDepth 100000
set_option maxHeartbeats 2000000
/-! SS: deleted, step_behind, show_behind, edited, look, looks. -/
namespace TC
open PySem PySem.Spec PyProof.Rows L2
/-- a statement and the rest, the rest not looked into -/
theorem seq_go {t u : WS} {F : DEnds} {ρ : Ro} {G : DHp} (h : ∀ nx : Ro → DHp → Prop, (∀ ρ' G', u F ρ' G' → nx ρ' G') → t { F with nx := nx } ρ G) : wSeq t u F ρ G := h _ fun _ _ h => h
def stepM (chs : List Str) (r : Row) (p : Str × Int) : Row := if (r[chs.idxOf p.1]?).getD none = none then r.set (chs.idxOf p.1) (some p.2) else r
theorem stepM_put {chs : List Str} {r : Row} {p : Str × Int} (h : (r[chs.idxOf p.1]?).getD none = none) : stepM chs r p = r.set (chs.idxOf p.1) (some p.2) := if_pos h
theorem stepM_keep {chs : List Str} {r : Row} {p : Str × Int} (h : ¬ (r[chs.idxOf p.1]?).getD none = none) : stepM chs r p = r := if_neg h
theorem stepM_length {chs : List Str} {r : Row} {p : Str × Int} : (stepM chs r p).length = r.length := by
  unfold stepM; split <;> simp
theorem foldM_length {chs : List Str} {ms : List (Str × Int)} : ∀ {r : Row}, (ms.foldl (stepM chs) r).length = r.length := by
  induction ms with
  | nil => intro r; rfl
  | cons p ms ih => intro r; rw [List.foldl_cons, ih, stepM_length]
theorem foldM_at {chs : List Str} (nd : chs.Nodup) {j : Nat} {z : Str} (hz : chs[j]? = some z) : ∀ {ms : List (Str × Int)} {r : Row}, r.length = chs.length → (∀ p ∈ ms, p.1 ∈ chs) →
    ((ms.foldl (stepM chs) r)[j]?).getD none = if ((r[j]?).getD none).isNone then lev ms z else (r[j]?).getD none
  | [], r, hl, hm => by
    simp only [List.foldl_nil, lev]
    cases (r[j]?).getD none <;> rfl
  | p :: ms, r, hl, hm => by
    have hjl := (List.getElem?_eq_some_iff.mp hz).1
    rw [List.foldl_cons, foldM_at nd hz (r := stepM chs r p) (by rw [stepM_length, hl]) (fun q hq => hm q (by simp [hq])), lev]
    by_cases e : p.1 = z
    · have hi : chs.idxOf p.1 = j := by rw [e]; exact idx_nd nd hz
      rw [if_pos e]
      unfold stepM
      rw [hi]
      by_cases hr : (r[j]?).getD none = none
      · rw [if_pos hr, List.getElem?_set_self (by omega), hr]; rfl
      · rw [if_neg hr]
        cases q : (r[j]?).getD none with
        | none => exact absurd q hr
        | some l => rfl
    · have hi : chs.idxOf p.1 ≠ j := fun q => by
        have := idx_at (hm p (by simp))
        rw [q, hz] at this; cases this; exact e rfl
      rw [if_neg e]
      have : (stepM chs r p)[j]? = r[j]? := by
        unfold stepM; split
        · rw [List.getElem?_set_ne hi]
        · rfl
      rw [this]
theorem foldM_or {chs : List Str} (nd : chs.Nodup) {r g : Row} (h1 : r.length = chs.length) (h2 : g.length = chs.length) : (mvs chs g).foldl (stepM chs) r = orRow r g := by
  apply List.ext_getElem?
  intro j
  by_cases hj : j < chs.length
  · have hz : chs[j]? = some chs[j] := List.getElem?_eq_getElem hj
    have e1 := foldM_at nd hz (ms := mvs chs g) (r := r) h1 (fun p hp => mvs_fst hp)
    have e2 := orRow_at (r := r) (g := g) (i := j) (by omega) (by omega)
    have e3 := lev_cell nd h2 hz
    rw [← e3, Option.getD_some, ← e1] at e2
    have j1 : j < ((mvs chs g).foldl (stepM chs) r).length := by rw [foldM_length]; omega
    have j2 : j < (orRow r g).length := by rw [orRow_wide h1 h2]; omega
    rw [List.getElem?_eq_getElem j1, List.getElem?_eq_getElem j2] at e2
    rw [List.getElem?_eq_getElem j1, List.getElem?_eq_getElem j2]
    exact congrArg some e2.symm
  · rw [List.getElem?_eq_none (by rw [foldM_length]; omega), List.getElem?_eq_none (by rw [orRow_wide h1 h2]; omega)]
theorem erase_cut {α : Type} {us : List α} {i : Nat} : us.take i ++ us.drop (i + 1) = us.eraseIdx i := (List.eraseIdx_eq_take_drop_succ us i).symm
theorem map_erase {chs : List Str} {rs : List Row} {t : Nat} : (rs.map (cueR chs)).eraseIdx t = (rs.eraseIdx t).map (cueR chs) := by simp [List.eraseIdx_eq_take_drop_succ, List.map_take, List.map_drop]
abbrev sp_deleted : DSp := sp3 fun cs at_ m G Q _ => ∃ (chs : List Str) (rs : List Row) (t : Nat) (k : Bool), cs = .tup (rs.map (cueR chs)) ∧ at_ = .int t ∧ m = .str (keepS k) ∧ t < rs.length ∧ ChsOk chs ∧ RowsOk chs rs ∧ ∀ G', Ext G G' → Q (.tup ((delR rs t k).map (cueR chs))) G'
def b_deleted  (E : DXK) : WS :=
  (wSeq (wAsg (wOp dAdd (wSl (wVar 0) woNone (woSome (wVar 1))) (wSl (wVar 0) (woSome (wOp dAdd (wVar 1) (wC (.int 1)))) woNone)) (wgName 3))
  (wSeq (wIf (wtOr (wTest (wOp dEq (wVar 2) (wC (.str "drop")))) (wTest (wOp dGe (wVar 1) (wCB dLen (wCons (wVar 3) wNil))))) (wRet (wVar 3)) wNext)
  (wSeq (wAsg (wOp dIx (wVar 3) (wVar 1)) (wgName 4))
  (wSeq (wFor (wiTup (wOp dIx (wVar 0) (wVar 1))) (wgTup 2 (wgCons (wgName 5) (wgCons (wgName 6) wgNil))) (wIf (wTest (wOp (dIsN false) (wCall sp_level_in (fun _ => E) (wCons (wVar 4) (wCons (wVar 5) wNil))) (wC .non))) (wAsg (wCall sp_with_move (fun _ => E) (wCons (wVar 4) (wCons (wVar 5) (wCons (wVar 6) wNil)))) (wgName 4)) wNext))
  (wRet (wCall sp_with_cue (fun _ => E) (wCons (wVar 3) (wCons (wVar 1) (wCons (wVar 4) wNil)))))))))
abbrev N_deleted : List Str := ["cues", "at", "mode", "rest", "cue", "channel", "level"]
abbrev Okb_deleted  (sp : DSp) : Prop := ∀ ds G Q E, sp ds G Q E → b_deleted  E { nx := fun _ G' => Q .non G', rt := Q } (startD N_deleted ds) G
theorem ok_deleted : Okb_deleted sp_deleted := by
  intro ds G Q E h0
  obtain ⟨cs, at_, m, rfl, chs, rs, t, k, rfl, rfl, rfl, ht, hok, hr, h⟩ := sp3_inv h0
  clear h0
  have e1 : (t : Int) + 1 = ((t + 1 : Nat) : Int) := by omega
  have hrt : rs[t]? = some rs[t] := List.getElem?_eq_getElem ht
  have hwt := hr.wide _ (List.getElem_mem ht)
  have hfew := hr.few
  have hsl : (cut (rs.map (cueR chs)) none (some (t : Int))) ++ cut (rs.map (cueR chs)) (some ((t : Int) + 1)) none = (rs.eraseIdx t).map (cueR chs) := by
    rw [e1, cut_to, cut_from, erase_cut, map_erase]
  have hsl2 : (cut (rs.map (cueR chs)) none (some (t : Int))).length + (cut (rs.map (cueR chs)) (some ((t : Int) + 1)) none).length ≤ 1000000 := by
    rw [e1, cut_to, cut_from]; simp; omega
  unfold b_deleted
  refine seq_go fun nx hnx => ?_
  simp [startD, hsl]
  refine ⟨hsl2, ?_⟩
  refine hnx _ _ ?_
  clear hnx hsl hsl2
  refine seq_go fun nx hnx => ?_
  simp
  by_cases c : k = true ∧ t < (rs.eraseIdx t).length
  · have ck := c.1
    subst ck
    have hkd : ¬ (keepS true = Str.ofString "drop") := by decide
    have hlen : ¬ (rs.eraseIdx t).length ≤ t := by have := c.2; omega
    have hre : (rs.eraseIdx t)[t]? = some (rs.eraseIdx t)[t] := List.getElem?_eq_getElem c.2
    have hwe := erase_wide (t := t) hr.wide _ (List.getElem_mem c.2)
    simp only [hkd, hlen, if_false]
    refine hnx _ _ ?_
    clear hnx
    refine seq_go fun nx hnx => ?_
    simp [pick_rows hre]
    refine hnx _ _ ?_
    clear hnx
    refine seq_go fun nx hnx => ?_
    simp only [wFor, wiTup, wOp, wVar, List.getElem?_cons_zero, List.getElem?_cons_succ, dIx_tup, pick_rows hrt, must_some, cueR, kTupI_tup]
    refine forW_rule (fun r ρ G' => ∃ (dn ms : List (Str × Int)) (o5 o6 : Option D), mvs chs rs[t] = dn ++ ms ∧ r = ms.map mvD ∧ Ext G G' ∧
      ρ = [some (.tup (rs.map (cueR chs))), some (.int t), some (.str (keepS true)), some (.tup ((rs.eraseIdx t).map (cueR chs))), some (cueR chs (dn.foldl (stepM chs) (rs.eraseIdx t)[t])), o5, o6]) ?_ ?_
      ⟨[], mvs chs rs[t], none, none, rfl, rfl, .refl, rfl⟩
    · rintro x r ρ G1 nx ⟨dn, ms, o5, o6, f1, f2, ex, rfl⟩ hnx
      refine ⟨trivial, ?_⟩
      cases ms with
      | nil => cases f2
      | cons p ms =>
        obtain ⟨rfl, rfl⟩ := List.cons.inj f2
        have hpm : p ∈ mvs chs rs[t] := by rw [f1]; simp
        have hpc := mvs_fst hpm
        have hwd : (dn.foldl (stepM chs) (rs.eraseIdx t)[t]).length = chs.length := by rw [foldM_length]; exact hwe
        simp [mvD]
        refine ⟨mvs chs (dn.foldl (stepM chs) (rs.eraseIdx t)[t]), rfl, fun G2 e2 => ?_⟩
        have hlev := lev_cell hok.nd hwd (idx_at hpc)
        have hstep : (dn ++ [p]).foldl (stepM chs) (rs.eraseIdx t)[t] = stepM chs (dn.foldl (stepM chs) (rs.eraseIdx t)[t]) p := by rw [List.foldl_append]; rfl
        cases hv : lev (mvs chs (dn.foldl (stepM chs) (rs.eraseIdx t)[t])) p.1 with
        | none =>
          rw [if_pos (by rfl)]
          refine ⟨chs, _, rfl, hok, hwd, chs.idxOf p.1, idx_at hpc, fun G3 e3 => ?_⟩
          refine hnx _ _ ⟨dn ++ [p], ms, some (.str p.1), some (.int p.2), by simp [f1], rfl, ex.trans (e2.trans e3), ?_⟩
          rw [hstep, stepM_put (by rw [← hlev, hv]; rfl)]
        | some l =>
          rw [if_neg (by simp [levD, isNon])]
          refine hnx _ _ ⟨dn ++ [p], ms, some (.str p.1), some (.int p.2), by simp [f1], rfl, ex.trans e2, ?_⟩
          rw [hstep, stepM_keep (by rw [← hlev, hv]; simp)]
    · rintro ρ G1 ⟨dn, ms, o5, o6, f1, f2, ex, rfl⟩
      refine ⟨trivial, ?_⟩
      have hm0 : ms = [] := by simpa using f2.symm
      subst hm0
      simp at f1
      subst f1
      refine hnx _ _ ?_
      simp
      refine ⟨t, rfl, by simpa using c.2, by rw [List.length_eraseIdx]; split <;> omega, fun G2 e2 => ?_⟩
      have := h G2 (ex.trans e2)
      unfold delR at this
      rw [if_pos c, List.modify_eq_set, hre, hrt] at this
      simp only [Option.getD_some, Option.map_some, map_set_row] at this
      rw [foldM_or hok.nd hwe hwt]
      exact this
  · have hc : (keepS k = Str.ofString "drop") ∨ (rs.eraseIdx t).length ≤ t := by
      cases k with
      | false => exact .inl (by decide)
      | true => exact .inr (by simp at c; omega)
    have := h G .refl
    unfold delR at this
    rw [if_neg c] at this
    rcases hc with hc | hc
    · rw [if_pos hc]; exact this
    · by_cases hk : keepS k = Str.ofString "drop"
      · rw [if_pos hk]; exact this
      · rw [if_neg hk, if_pos hc]; exact this

abbrev sp_step_behind : DSp := sp2 fun st sh G Q _ => ∃ (chs : List Str) (rs : List Row) (s : Sp), st = spD s ∧ sh = showR chs rs ∧ ChsOk chs ∧ RowsOk chs rs ∧ ∀ G', Ext G G' → Q (showR chs (stepR chs s rs)) G'
def b_step_behind  (E : DXK) : WS :=
  (wSeq (wAsg (wVar 1) (wgTup 2 (wgCons (wgName 3) (wgCons (wgName 4) wgNil))))
  (wSeq (wPar 5 6 (wCons (wOp dIx (wVar 0) (wC (.int 0))) (wCons (wOp dSub (wOp dIx (wVar 0) (wC (.int 1))) (wC (.int 1))) wNil)))
  (wSeq (wAsg (wCB dLen (wCons (wVar 4) wNil)) (wgName 2))
  (wSeq (wIf (wTest (wOp dEq (wVar 5) (wC (.str "insert")))) (wRet (wIfE (wTest (wOp dLe (wVar 6) (wVar 2))) (wTup (wCons (wVar 3) (wCons (wOp dAdd (wOp dAdd (wSl (wVar 4) woNone (woSome (wVar 6))) (wTup (wCons (wTup wNil) wNil))) (wSl (wVar 4) (woSome (wVar 6)) woNone)) wNil))) (wVar 1))) wNext)
  (wSeq (wIf (wtOr (wTest (wOp dGe (wVar 6) (wVar 2))) (wtOr (wtAnd (wTest (wOp dEq (wVar 5) (wC (.str "swap")))) (wTest (wOp dGe (wOp dAdd (wVar 6) (wC (.int 1))) (wVar 2)))) (wtAnd (wTest (wOp dEq (wVar 5) (wC (.str "copy")))) (wTest (wOp dGt (wOp dIx (wVar 0) (wC (.int 2))) (wVar 2)))))) (wRet (wVar 1)) wNext)
  (wSeq (wIf (wTest (wOp (dIn false) (wVar 5) (wTup (wCons (wC (.str "set")) (wCons (wC (.str "clear")) wNil))))) (wRet (wTup (wCons (wVar 3) (wCons (wCall sp_moved (fun _ => E) (wCons (wVar 0) (wCons (wVar 1) wNil))) wNil)))) wNext)
  (wSeq (wIf (wTest (wOp dEq (wVar 5) (wC (.str "block")))) (wRet (wTup (wCons (wVar 3) (wCons (wCall sp_blocked (fun _ => E) (wCons (wVar 1) (wCons (wVar 6) wNil))) wNil)))) wNext)
  (wSeq (wIf (wTest (wOp dEq (wVar 5) (wC (.str "delete")))) (wRet (wTup (wCons (wVar 3) (wCons (wCall sp_deleted (fun _ => E) (wCons (wVar 4) (wCons (wVar 6) (wCons (wOp dIx (wVar 0) (wC (.int 2))) wNil)))) wNil)))) wNext)
  (wSeq (wIf (wTest (wOp dEq (wVar 5) (wC (.str "copy")))) (wRet (wTup (wCons (wVar 3) (wCons (wCall sp_with_cue (fun _ => E) (wCons (wVar 4) (wCons (wOp dSub (wOp dIx (wVar 0) (wC (.int 2))) (wC (.int 1))) (wCons (wOp dIx (wVar 4) (wVar 6)) wNil)))) wNil)))) wNext)
  (wRet (wTup (wCons (wVar 3) (wCons (wOp dAdd (wOp dAdd (wSl (wVar 4) woNone (woSome (wVar 6))) (wTup (wCons (wOp dIx (wVar 4) (wOp dAdd (wVar 6) (wC (.int 1)))) (wCons (wOp dIx (wVar 4) (wVar 6)) wNil)))) (wSl (wVar 4) (woSome (wOp dAdd (wVar 6) (wC (.int 2)))) woNone)) wNil)))))))))))))
abbrev N_step_behind : List Str := ["step", "show", "many", "channels", "cues", "word", "at"]
abbrev Okb_step_behind  (sp : DSp) : Prop := ∀ ds G Q E, sp ds G Q E → b_step_behind  E { nx := fun _ G' => Q .non G', rt := Q } (startD N_step_behind ds) G
theorem ok_step_behind : Okb_step_behind sp_step_behind := by
  intro ds G Q E h0
  obtain ⟨st, sh, rfl, chs, rs, s, rfl, rfl, hok, hr, h⟩ := sp2_inv h0
  clear h0
  unfold b_step_behind
  refine seq_go fun nx hnx => ?_
  simp [startD, showR]
  refine hnx _ _ ?_
  clear hnx
  have hfew := hr.few
  have n1 : ∀ t : Nat, (t : Int) + 1 = ((t + 1 : Nat) : Int) := fun t => by omega
  have n2 : ∀ t : Nat, (t : Int) + 2 = ((t + 2 : Nat) : Int) := fun t => by omega
  have inL : ∀ (w : Str) {Q' : DK} {G' : DHp}, dIn false (.str w) (.tup [.str "set", .str "clear"]) G' Q' = Q' (.bl (decide (w ∈ (["set", "clear"] : List Str)))) G' := fun w Q' G' => by
    have := dIn_lit (neg := false) (z := w) (chs := ["set", "clear"]) (G := G') (Q := Q')
    simpa using this
  cases s with
  | set t z l o =>
    have w1 : ¬ (Str.ofString "set" = Str.ofString "insert") := by decide
    have w2 : ¬ (Str.ofString "set" = Str.ofString "swap") := by decide
    have w3 : ¬ (Str.ofString "set" = Str.ofString "copy") := by decide
    refine seq_go fun nx hnx => ?_
    simp [spD, cN]
    refine hnx _ _ ?_
    clear hnx
    refine seq_go fun nx hnx => ?_
    simp
    refine hnx _ _ ?_
    clear hnx
    refine seq_go fun nx hnx => ?_
    simp [w1]
    refine hnx _ _ ?_
    clear hnx
    refine seq_go fun nx hnx => ?_
    simp [w2, w3]
    by_cases c : rs.length ≤ t
    · rw [if_pos c]
      have := h G .refl
      unfold stepR at this
      simp only [if_pos (show rs.length ≤ t by omega)] at this
      exact this
    · rw [if_neg c]
      refine hnx _ _ ?_
      clear hnx
      refine seq_go fun nx hnx => ?_
      simp [inL]
      exact ⟨chs, rs, .set t z l o, rfl, rfl, rfl, by show t < rs.length; omega, hok, hr, h⟩
  | clear t z o =>
    have w1 : ¬ (Str.ofString "clear" = Str.ofString "insert") := by decide
    have w2 : ¬ (Str.ofString "clear" = Str.ofString "swap") := by decide
    have w3 : ¬ (Str.ofString "clear" = Str.ofString "copy") := by decide
    refine seq_go fun nx hnx => ?_
    simp [spD, cN]
    refine hnx _ _ ?_
    clear hnx
    refine seq_go fun nx hnx => ?_
    simp
    refine hnx _ _ ?_
    clear hnx
    refine seq_go fun nx hnx => ?_
    simp [w1]
    refine hnx _ _ ?_
    clear hnx
    refine seq_go fun nx hnx => ?_
    simp [w2, w3]
    by_cases c : rs.length ≤ t
    · rw [if_pos c]
      have := h G .refl
      unfold stepR at this
      simp only [if_pos (show rs.length ≤ t by omega)] at this
      exact this
    · rw [if_neg c]
      refine hnx _ _ ?_
      clear hnx
      refine seq_go fun nx hnx => ?_
      simp [inL]
      exact ⟨chs, rs, .clear t z o, rfl, rfl, rfl, by show t < rs.length; omega, hok, hr, h⟩
  | block t =>
    have w1 : ¬ (Str.ofString "block" = Str.ofString "insert") := by decide
    have w2 : ¬ (Str.ofString "block" = Str.ofString "swap") := by decide
    have w3 : ¬ (Str.ofString "block" = Str.ofString "copy") := by decide
    have w4 : ¬ (Str.ofString "block" = Str.ofString "set") := by decide
    have w5 : ¬ (Str.ofString "block" = Str.ofString "clear") := by decide
    refine seq_go fun nx hnx => ?_
    simp [spD, cN]
    refine hnx _ _ ?_
    clear hnx
    refine seq_go fun nx hnx => ?_
    simp
    refine hnx _ _ ?_
    clear hnx
    refine seq_go fun nx hnx => ?_
    simp [w1]
    refine hnx _ _ ?_
    clear hnx
    refine seq_go fun nx hnx => ?_
    simp [w2, w3]
    by_cases c : rs.length ≤ t
    · rw [if_pos c]
      have := h G .refl
      unfold stepR at this
      simp only [if_pos (show rs.length ≤ t by omega)] at this
      exact this
    · rw [if_neg c]
      refine hnx _ _ ?_
      clear hnx
      refine seq_go fun nx hnx => ?_
      simp [inL, w4, w5]
      refine hnx _ _ ?_
      clear hnx
      refine seq_go fun nx hnx => ?_
      simp
      exact ⟨chs, rs, rfl, t, rfl, by omega, hok, hr, h⟩
  | insert t =>
    refine seq_go fun nx hnx => ?_
    simp [spD, cN]
    refine hnx _ _ ?_
    clear hnx
    refine seq_go fun nx hnx => ?_
    simp
    refine hnx _ _ ?_
    clear hnx
    refine seq_go fun nx hnx => ?_
    simp
    clear hnx
    unfold stepR at h
    by_cases c : t ≤ rs.length
    · rw [if_pos c]
      simp only [if_pos (show t ≤ rs.length by omega)] at h
      simp only [cut_to, cut_from]
      refine ⟨by simp; omega, by simp; omega, ?_⟩
      have := h G .refl
      have e : cueR chs (List.replicate chs.length none) = .tup [] := by
        have : ∀ cs : List Str, mvs cs (List.replicate cs.length none) = [] := by
          intro cs
          induction cs with
          | nil => rfl
          | cons c cs ih => exact ih
        unfold cueR; rw [this]; rfl
      simpa [showR, e, List.map_take, List.map_drop] using this
    · rw [if_neg c]
      simp only [if_neg (show ¬ t ≤ rs.length by omega)] at h
      exact h G .refl
  | delete t k =>
    have w1 : ¬ (Str.ofString "delete" = Str.ofString "insert") := by decide
    have w2 : ¬ (Str.ofString "delete" = Str.ofString "swap") := by decide
    have w3 : ¬ (Str.ofString "delete" = Str.ofString "copy") := by decide
    have w4 : ¬ (Str.ofString "delete" = Str.ofString "set") := by decide
    have w5 : ¬ (Str.ofString "delete" = Str.ofString "clear") := by decide
    have w6 : ¬ (Str.ofString "delete" = Str.ofString "block") := by decide
    refine seq_go fun nx hnx => ?_
    simp [spD, cN]
    refine hnx _ _ ?_
    clear hnx
    refine seq_go fun nx hnx => ?_
    simp
    refine hnx _ _ ?_
    clear hnx
    refine seq_go fun nx hnx => ?_
    simp [w1]
    refine hnx _ _ ?_
    clear hnx
    refine seq_go fun nx hnx => ?_
    simp [w2, w3]
    by_cases c : rs.length ≤ t
    · rw [if_pos c]
      have := h G .refl
      unfold stepR at this
      simp only [if_pos (show rs.length ≤ t by omega)] at this
      exact this
    · rw [if_neg c]
      refine hnx _ _ ?_
      clear hnx
      refine seq_go fun nx hnx => ?_
      simp [inL, w4, w5]
      refine hnx _ _ ?_
      clear hnx
      refine seq_go fun nx hnx => ?_
      simp [w6]
      refine hnx _ _ ?_
      clear hnx
      refine seq_go fun nx hnx => ?_
      simp [-Bool.exists_bool]
      refine ⟨chs, rs, rfl, t, rfl, k, rfl, by omega, hok, hr, fun G1 e1 => ?_⟩
      have := h G1 e1
      unfold stepR at this
      simp only [if_neg (show ¬ rs.length ≤ t by omega)] at this
      exact this
  | copy t u =>
    have w1 : ¬ (Str.ofString "copy" = Str.ofString "insert") := by decide
    have w2 : ¬ (Str.ofString "copy" = Str.ofString "swap") := by decide
    have w4 : ¬ (Str.ofString "copy" = Str.ofString "set") := by decide
    have w5 : ¬ (Str.ofString "copy" = Str.ofString "clear") := by decide
    have w6 : ¬ (Str.ofString "copy" = Str.ofString "block") := by decide
    have w7 : ¬ (Str.ofString "copy" = Str.ofString "delete") := by decide
    refine seq_go fun nx hnx => ?_
    simp [spD, cN]
    refine hnx _ _ ?_
    clear hnx
    refine seq_go fun nx hnx => ?_
    simp
    refine hnx _ _ ?_
    clear hnx
    refine seq_go fun nx hnx => ?_
    simp [w1]
    refine hnx _ _ ?_
    clear hnx
    refine seq_go fun nx hnx => ?_
    simp [w2]
    have bad : rs.length ≤ t ∨ rs.length ≤ u → Q (showR chs rs) G := fun c => by
      have := h G .refl
      unfold stepR at this
      simp only [if_pos c] at this
      exact this
    by_cases c : rs.length ≤ t
    · rw [if_pos c]
      exact bad (.inl (by omega))
    · rw [if_neg c]
      by_cases c2 : (rs.length : Int) < (u : Int) + 1
      · rw [if_pos c2]
        exact bad (.inr (by omega))
      · rw [if_neg c2]
        refine hnx _ _ ?_
        clear hnx
        refine seq_go fun nx hnx => ?_
        simp [inL, w4, w5]
        refine hnx _ _ ?_
        clear hnx
        refine seq_go fun nx hnx => ?_
        simp [w6]
        refine hnx _ _ ?_
        clear hnx
        refine seq_go fun nx hnx => ?_
        simp [w7]
        refine hnx _ _ ?_
        clear hnx
        refine seq_go fun nx hnx => ?_
        simp
        have ht : t < rs.length := by omega
        have hrt : rs[t]? = some rs[t] := List.getElem?_eq_getElem ht
        rw [pick_rows hrt, must_some]
        refine ⟨u, rfl, by omega, by omega, fun G1 e1 => ?_⟩
        have := h G1 e1
        unfold stepR at this
        simp only [if_neg (show ¬ (rs.length ≤ t ∨ rs.length ≤ u) by omega), hrt, Option.getD_some] at this
        rw [← map_set_row]
        exact this
  | swap t =>
    have w1 : ¬ (Str.ofString "swap" = Str.ofString "insert") := by decide
    have w3 : ¬ (Str.ofString "swap" = Str.ofString "copy") := by decide
    have w4 : ¬ (Str.ofString "swap" = Str.ofString "set") := by decide
    have w5 : ¬ (Str.ofString "swap" = Str.ofString "clear") := by decide
    have w6 : ¬ (Str.ofString "swap" = Str.ofString "block") := by decide
    have w7 : ¬ (Str.ofString "swap" = Str.ofString "delete") := by decide
    refine seq_go fun nx hnx => ?_
    simp [spD, cN]
    refine hnx _ _ ?_
    clear hnx
    refine seq_go fun nx hnx => ?_
    simp
    refine hnx _ _ ?_
    clear hnx
    refine seq_go fun nx hnx => ?_
    simp [w1]
    refine hnx _ _ ?_
    clear hnx
    refine seq_go fun nx hnx => ?_
    simp [w3]
    unfold stepR at h
    by_cases c : (rs.length : Int) ≤ (t : Int) + 1
    · simp only [if_pos (show rs.length ≤ t + 1 by omega)] at h
      have := h G .refl
      by_cases c0 : rs.length ≤ t
      · rw [if_pos c0]; exact this
      · rw [if_neg c0, if_pos c]; exact this
    · rw [if_neg (by omega), if_neg c]
      refine hnx _ _ ?_
      clear hnx
      refine seq_go fun nx hnx => ?_
      simp [inL, w4, w5]
      refine hnx _ _ ?_
      clear hnx
      refine seq_go fun nx hnx => ?_
      simp [w6]
      refine hnx _ _ ?_
      clear hnx
      refine seq_go fun nx hnx => ?_
      simp [w7]
      refine hnx _ _ ?_
      clear hnx
      refine seq_go fun nx hnx => ?_
      simp [w3]
      refine hnx _ _ ?_
      clear hnx
      simp
      simp only [if_neg (show ¬ rs.length ≤ t + 1 by omega)] at h
      have ht : t < rs.length := by omega
      have ht1 : t + 1 < rs.length := by omega
      have hrt : rs[t]? = some rs[t] := List.getElem?_eq_getElem ht
      have hrt1 : rs[t + 1]? = some rs[t + 1] := List.getElem?_eq_getElem ht1
      simp only [n1, n2, pick_rows hrt, pick_rows hrt1, must_some, cut_to, cut_from]
      refine ⟨by simp; omega, by simp; omega, ?_⟩
      have := h G .refl
      simpa [showR, hrt, hrt1, List.map_take, List.map_drop] using this

theorem stepR_ok {chs : List Str} {rs : List Row} {s : Sp} (hr : RowsOk chs rs) (hl : rs.length < 800) : RowsOk chs (stepR chs s rs) := ⟨stepR_wide hr.wide, by have := stepR_length (chs := chs) (rs := rs) (s := s); omega⟩
abbrev sp_show_behind : DSp := sp2 fun sc sh G Q _ => ∃ (chs : List Str) (rs : List Row) (ss : List Sp), sc = .tup (ss.map spD) ∧ sh = showR chs rs ∧ ChsOk chs ∧ (∀ r ∈ rs, r.length = chs.length) ∧ rs.length + ss.length ≤ 800 ∧ ∀ G', Ext G G' → Q (showR chs (runR chs ss rs)) G'
def b_show_behind  (E : DXK) : WS :=
  (wSeq (wFor (wiTup (wVar 0)) (wgName 2) (wAsg (wCall sp_step_behind (fun _ => E) (wCons (wVar 2) (wCons (wVar 1) wNil))) (wgName 1)))
  (wRet (wVar 1)))
abbrev N_show_behind : List Str := ["script", "show", "step"]
abbrev Okb_show_behind  (sp : DSp) : Prop := ∀ ds G Q E, sp ds G Q E → b_show_behind  E { nx := fun _ G' => Q .non G', rt := Q } (startD N_show_behind ds) G
theorem ok_show_behind : Okb_show_behind sp_show_behind := by
  intro ds G Q E h0
  obtain ⟨sc, sh, rfl, chs, rs, ss, rfl, rfl, hok, hw, hl, h⟩ := sp2_inv h0
  clear h0
  simp [b_show_behind, startD]
  refine forW_rule (fun r ρ G' => ∃ (dn rest : List Sp) (o2 : Option D), ss = dn ++ rest ∧ r = rest.map spD ∧ Ext G G' ∧ ρ = [some (.tup (ss.map spD)), some (showR chs (runR chs dn rs)), o2]) ?_ ?_ ⟨[], ss, none, rfl, rfl, .refl, rfl⟩
  · rintro x r ρ G1 nx ⟨dn, rest, o2, e1, e2, ex, rfl⟩ hnx
    refine ⟨trivial, ?_⟩
    cases rest with
    | nil => cases e2
    | cons s rest =>
      obtain ⟨rfl, rfl⟩ := List.cons.inj e2
      have hlen := runR_length (chs := chs) (rs := rs) (ss := dn)
      have hsl : ss.length = dn.length + (rest.length + 1) := by rw [e1]; simp
      simp
      refine ⟨chs, _, s, rfl, rfl, hok, ⟨runR_wide hw, by omega⟩, fun G2 ex2 => ?_⟩
      refine hnx _ _ ⟨dn ++ [s], rest, some (spD s), by simp [e1], rfl, ex.trans ex2, ?_⟩
      simp [runR]
  · rintro ρ G1 ⟨dn, rest, o2, e1, e2, ex, rfl⟩
    refine ⟨trivial, ?_⟩
    have : rest = [] := by simpa using e2.symm
    subst this
    simp at e1
    subst e1
    simp
    exact h _ ex
end TC
set_option maxRecDepth 100000
set_option maxHeartbeats 2000000
/-! ST: what is asked first; edited, look, looks. -/
namespace TC
open PySem PySem.Spec PyProof.Rows L2
abbrev sp_need_script (C : Addr) : DSp := sp1 fun v G Q E => ∃ n, n < 20 ∧ Kn n G v ∧ ∀ G', Ext G G' → if scriptB v = true then Q .non G' else E ⟨C, none⟩ G'
def b_need_script (C : ExC) (E : DXK) : WS :=
  (wIf (wtNot (wTest (wCall sp_is_right_script (fun _ => E) (wCons (wVar 0) wNil)))) (wRaise (fun _ => E) C.InvalidScript) wNext)
abbrev N_need_script : List Str := ["value"]
abbrev Okb_need_script (C : ExC) (sp : DSp) : Prop := ∀ ds G Q E, sp ds G Q E → b_need_script C E { nx := fun _ G' => Q .non G', rt := Q } (startD N_need_script ds) G
theorem ok_need_script {C : ExC} : Okb_need_script C (sp_need_script C.InvalidScript) := by
  intro ds G Q E h0
  obtain ⟨v, rfl, n, hn, kn, h⟩ := sp1_inv h0
  clear h0
  simp [b_need_script, startD]
  refine ⟨n, hn, kn, fun G1 e1 => ?_⟩
  have := h G1 e1
  cases hb : scriptB v with
  | true => rw [hb] at this; simpa using this
  | false => rw [hb] at this; simpa using this
abbrev sp_need_cue (C : Addr) : DSp := sp3 fun s v lo G Q E => ∃ (u : D) (us : List D) (l : Int) (n : Nat), s = .tup [u, .tup us] ∧ lo = .int l ∧ Kn n G v ∧ if wholeB l us.length v = true then Q .non G else E ⟨C, none⟩ G
def b_need_cue (C : ExC) (E : DXK) : WS :=
  (wIf (wtNot (wTest (wCall sp_is_whole (fun _ => E) (wCons (wVar 1) (wCons (wVar 2) (wCons (wCB dLen (wCons (wOp dIx (wVar 0) (wC (.int 1))) wNil)) wNil)))))) (wRaise (fun _ => E) C.InvalidCue) wNext)
abbrev N_need_cue : List Str := ["show", "value", "low"]
abbrev Okb_need_cue (C : ExC) (sp : DSp) : Prop := ∀ ds G Q E, sp ds G Q E → b_need_cue C E { nx := fun _ G' => Q .non G', rt := Q } (startD N_need_cue ds) G
theorem ok_need_cue {C : ExC} : Okb_need_cue C (sp_need_cue C.InvalidCue) := by
  intro ds G Q E h0
  obtain ⟨s, v, lo, rfl, u, us, l, n, rfl, rfl, kn, h⟩ := sp3_inv h0
  clear h0
  simp [b_need_cue, startD]
  refine ⟨⟨n, kn⟩, ?_⟩
  cases hb : wholeB l us.length v with
  | true => rw [hb] at h; simpa using h
  | false => rw [hb] at h; simpa using h

abbrev sp_edited (C1 C2 : Addr) : DSp := sp2 fun sc sh G Q E => ∃ n m, n < 20 ∧ m < 20 ∧ Kn n G sc ∧ Kn m G (wk sh) ∧
  (scriptB sc = false → ∀ G', Ext G G' → E ⟨C1, none⟩ G') ∧ (scriptB sc = true → showB (wk sh) = false → ∀ G', Ext G G' → E ⟨C2, none⟩ G') ∧
  (scriptB sc = true → showB (wk sh) = true → ∃ (chs : List Str) (rs : List Row) (ss : List Sp), sc = .tup (ss.map spD) ∧ sh = showR chs rs ∧ ChsOk chs ∧ (∀ r ∈ rs, r.length = chs.length) ∧ rs.length + ss.length ≤ 800 ∧ ∀ G', Ext G G' → Q (showR chs (runR chs ss rs)) G')
def b_edited (C : ExC) (E : DXK) : WS :=
  (wSeq (wExpr (wCall (sp_need_script C.InvalidScript) (fun _ => E) (wCons (wVar 0) wNil)))
  (wSeq (wExpr (wCall (sp_need_show C.InvalidShow) (fun _ => E) (wWk (wCons (wVar 1) wNil))))
  (wRet (wCall sp_show_behind (fun _ => E) (wCons (wVar 0) (wCons (wVar 1) wNil))))))
abbrev N_edited : List Str := ["script", "show"]
abbrev Okb_edited (C : ExC) (sp : DSp) : Prop := ∀ ds G Q E, sp ds G Q E → b_edited C E { nx := fun _ G' => Q .non G', rt := Q } (startD N_edited ds) G
theorem ok_edited {C : ExC} : Okb_edited C (sp_edited C.InvalidScript C.InvalidShow) := by
  intro ds G Q E h0
  obtain ⟨sc, sh, rfl, n, m, hn, hm, k1, k2, h1, h2, h3⟩ := sp2_inv h0
  clear h0
  simp [b_edited, startD]
  refine ⟨n, hn, k1, fun G1 e1 => ?_⟩
  cases hb : scriptB sc with
  | false => simpa using h1 hb G1 e1
  | true =>
    simp
    refine ⟨m, hm, k2.ext e1, fun G2 e2 => ?_⟩
    cases hb2 : showB (wk sh) with
    | false => simpa using h2 hb hb2 G2 (e1.trans e2)
    | true =>
      simp
      obtain ⟨chs, rs, ss, f1, f2, f3, f4, f5, f6⟩ := h3 hb hb2
      exact ⟨chs, rs, ss, f1, f2, f3, f4, f5, fun G3 e3 => f6 G3 (e1.trans (e2.trans e3))⟩

def isTF (chd : D) (chs : List Str) : Prop := chd = .tup (chs.map .str) ∨ chd = .ft (chs.map .str)
abbrev sp_look (C1 C2 : Addr) : DSp := sp2 fun sh cu G Q E => ∃ n m, n < 20 ∧ Kn n G (wk sh) ∧ Kn m G cu ∧
  (showB (wk sh) = false → ∀ G', Ext G G' → E ⟨C1, none⟩ G') ∧
  (showB (wk sh) = true → ∃ (chd : D) (chs : List Str) (mss : List (List (Str × Int))), sh = .tup [chd, .tup (mss.map cueD)] ∧ isTF chd chs ∧ chs.length ≤ 900 ∧ mss.length ≤ 900 ∧
    (wholeB 0 mss.length cu = false → ∀ G', Ext G G' → E ⟨C2, none⟩ G') ∧ (∀ (i : Nat) lk, cu = .int i → (looksOf chs mss)[i]? = some lk → ∀ G', Ext G G' → Q (intsT lk) G'))
def b_look (C : ExC) (E : DXK) : WS :=
  (wSeq (wExpr (wCall (sp_need_show C.InvalidShow) (fun _ => E) (wWk (wCons (wVar 0) wNil))))
  (wSeq (wExpr (wCall (sp_need_cue C.InvalidCue) (fun _ => E) (wCons (wVar 0) (wCons (wVar 1) (wCons (wC (.int 0)) wNil)))))
  (wRet (wOp dIx (wCall sp_all_looks (fun _ => E) (wCons (wVar 0) wNil)) (wVar 1)))))
abbrev N_look : List Str := ["show", "cue"]
abbrev Okb_look (C : ExC) (sp : DSp) : Prop := ∀ ds G Q E, sp ds G Q E → b_look C E { nx := fun _ G' => Q .non G', rt := Q } (startD N_look ds) G
theorem looksOf_length {chs : List Str} {mss : List (List (Str × Int))} : (looksOf chs mss).length = mss.length + 1 := looksL_length
theorem ok_look {C : ExC} : Okb_look C (sp_look C.InvalidShow C.InvalidCue) := by
  intro ds G Q E h0
  obtain ⟨sh, cu, rfl, n, m, hn, k1, k2, h1, h2⟩ := sp2_inv h0
  clear h0
  simp [b_look, startD]
  refine ⟨n, hn, k1, fun G1 e1 => ?_⟩
  cases hb : showB (wk sh) with
  | false => simpa using h1 hb G1 e1
  | true =>
    simp
    obtain ⟨chd, chs, mss, rfl, hcd, hl1, hl2, f1, f2⟩ := h2 hb
    refine ⟨_, _, rfl, ⟨m, k2.ext e1⟩, ?_⟩
    cases hw : wholeB 0 ((mss.map cueD).length : Nat) cu with
    | false =>
      rw [if_neg (by simp)]
      exact f1 (by simpa using hw) G1 e1
    | true =>
      rw [if_pos rfl]
      obtain ⟨i, rfl, i0, i1⟩ := wholeB_true hw
      obtain ⟨j, rfl⟩ : ∃ j : Nat, i = j := ⟨i.toNat, by omega⟩
      have hj : j < (looksOf chs mss).length := by rw [looksOf_length]; simp at i1; omega
      have hlk : (looksOf chs mss)[j]? = some (looksOf chs mss)[j] := List.getElem?_eq_getElem hj
      refine ⟨chd, chs, mss, rfl, hcd, hl1, hl2, fun p G2 _ e2 gp => ⟨_, gp, ?_⟩⟩
      rw [pick_nat, List.getElem?_map, hlk]
      exact f2 j _ rfl hlk G2 (e1.trans e2)
abbrev sp_looks (C1 : Addr) : DSp := sp1 fun sh G Q E => ∃ n, n < 20 ∧ Kn n G (wk sh) ∧
  (showB (wk sh) = false → ∀ G', Ext G G' → E ⟨C1, none⟩ G') ∧
  (showB (wk sh) = true → ∃ (chd : D) (chs : List Str) (mss : List (List (Str × Int))), sh = .tup [chd, .tup (mss.map cueD)] ∧ isTF chd chs ∧ chs.length ≤ 900 ∧ mss.length ≤ 900 ∧
    ∀ p G', G p = none → Ext G G' → G' p = some (.lst (((looksOf chs mss).drop 1).map intsT)) → Q (.ref p) G')
def b_looks (C : ExC) (E : DXK) : WS :=
  (wSeq (wExpr (wCall (sp_need_show C.InvalidShow) (fun _ => E) (wWk (wCons (wVar 0) wNil))))
  (wRet (wSl (wCall sp_all_looks (fun _ => E) (wCons (wVar 0) wNil)) (woSome (wC (.int 1))) woNone)))
abbrev N_looks : List Str := ["show"]
abbrev Okb_looks (C : ExC) (sp : DSp) : Prop := ∀ ds G Q E, sp ds G Q E → b_looks C E { nx := fun _ G' => Q .non G', rt := Q } (startD N_looks ds) G
theorem ok_looks {C : ExC} : Okb_looks C (sp_looks C.InvalidShow) := by
  intro ds G Q E h0
  obtain ⟨sh, rfl, n, hn, k1, h1, h2⟩ := sp1_inv h0
  clear h0
  simp [b_looks, startD]
  refine ⟨n, hn, k1, fun G1 e1 => ?_⟩
  cases hb : showB (wk sh) with
  | false => simpa using h1 hb G1 e1
  | true =>
    simp
    obtain ⟨chd, chs, mss, rfl, hcd, hl1, hl2, f1⟩ := h2 hb
    refine ⟨chd, chs, mss, rfl, hcd, hl1, hl2, fun p G2 hp e2 gp => ⟨_, gp, fun r hr => ?_⟩⟩
    have e : cut ((looksOf chs mss).map intsT) (some 1) none = ((looksOf chs mss).drop 1).map intsT := by
      have : (1 : Int) = ((1 : Nat) : Int) := rfl
      rw [this, cut_from, List.map_drop]
    rw [e]
    have e12 := e1.trans e2
    exact f1 r _ (e12.free hr) (e12.trans (Ext.new hr)) updD_same
end TC
set_option maxRecDepth 100000
set_option maxHeartbeats 2000000
/-! SU: the law's own way: cells, what is seen, what is led. -/
namespace TC
open PySem PySem.Spec PyProof.Rows L2
def keyD : Key → D
  | .inl i => .int i
  | .inr s => .str s
def ckD : Option Key → D
  | none => .non
  | some k => keyD k
@[simp] theorem isNon_ckD {c : Option Key} : isNon (ckD c) = c.isNone := by
  cases c with
  | none => rfl
  | some k => cases k <;> rfl
theorem ckD_lev {c : Option Int} : ckD (c.map Sum.inl) = levD c := by cases c <;> rfl
theorem pick_last {α : Type} {xs : List α} {x : α} : pick (xs ++ [x]) (-1) = some x := by
  unfold pick
  have e1 : ¬ (0 : Int) ≤ -1 := by omega
  have e2 : -((xs ++ [x]).length : Int) ≤ -1 := by simp; omega
  have e3 : ((-1 : Int) + ((xs ++ [x]).length : Int)).toNat = xs.length := by simp; omega
  rw [if_neg e1, if_pos e2, e3]; simp
theorem merge_nodup {κ : Type} [DecidableEq κ] : ∀ {more kvs : List (κ × D)}, ((kvs ++ more).map (·.1)).Nodup → more.foldl (fun acc kv => putD acc kv.1 kv.2) kvs = kvs ++ more
  | [], kvs, _ => by simp
  | (k, v) :: more, kvs, h => by
    have hno : (kvs.any fun kv => decide (kv.1 = k)) = false := by
      rw [List.any_eq_false]
      intro kv hkv
      simp only [decide_eq_true_eq]
      intro e
      rw [List.map_append, List.nodup_append] at h
      exact h.2.2 _ (List.mem_map_of_mem hkv) _ (List.mem_map_of_mem (List.mem_cons_self ..)) e
    have e : putD kvs k v = kvs ++ [(k, v)] := by unfold putD; rw [hno]; simp
    rw [List.foldl_cons, e, merge_nodup (by simpa using h)]; simp
theorem pairs_moves : ∀ {ms : List (Str × Int)}, pairsD (ms.map mvD) = some (ms.map fun p => (Sum.inr p.1, .int p.2))
  | [] => rfl
  | p :: ms => by
    rw [List.map_cons, mvD, pairsD, keyOf]
    rw [pairs_moves]; rfl
theorem look_moves {z : Str} : ∀ {ms : List (Str × Int)}, ((lookD (ms.map fun p => ((Sum.inr p.1 : Key), D.int p.2)) (Sum.inr z)).getD .non) = levD (lev ms z)
  | [] => rfl
  | p :: ms => by
    rw [List.map_cons, lookD, lev]
    by_cases e : p.1 = z
    · rw [if_pos (by rw [e]), if_pos e]; rfl
    · rw [if_neg (by intro h; exact e (Sum.inr.inj h)), if_neg e]; exact look_moves
theorem mvs_nodup {chs : List Str} (nd : chs.Nodup) : ∀ {r : Row}, ((mvs chs r).map (·.1)).Nodup := by
  induction chs with
  | nil => intro r; cases r <;> simp [mvs]
  | cons c cs ih =>
    intro r
    rw [List.nodup_cons] at nd
    cases r with
    | nil => simp [mvs]
    | cons x r =>
      cases x with
      | none => rw [mvs]; exact ih nd.2
      | some l =>
        rw [mvs, List.map_cons, List.nodup_cons]
        refine ⟨fun h => ?_, ih nd.2⟩
        obtain ⟨p, hp, e⟩ := List.mem_map.mp h
        exact nd.1 (by have := mvs_fst hp; rw [e] at this; exact this)
def unMv : D → Option (Str × Int)
  | .tup [.str y, .int l] => some (y, l)
  | _ => none
def movesOf : D → List (Str × Int)
  | .tup ms => ms.filterMap unMv
  | _ => []
theorem movesOf_moves {ms : List (Str × Int)} : movesOf (.tup (ms.map mvD)) = ms := by
  show (ms.map mvD).filterMap unMv = ms
  rw [List.filterMap_map]
  have : unMv ∘ mvD = some := by funext p; rfl
  rw [this, List.filterMap_some]
/-- the cells of a channel -/
def cellsZ (chs : List Str) (rs : List Row) (z : Str) : List (Option Int) := rs.map fun r => lev (mvs chs r) z
theorem cellsZ_col {chs : List Str} {rs : List Row} {j : Nat} {z : Str} (nd : chs.Nodup) (hw : ∀ r ∈ rs, r.length = chs.length) (hz : chs[j]? = some z) : cellsZ chs rs z = colR j rs := by
  unfold cellsZ colR
  refine List.map_congr_left fun r hr => ?_
  have := lev_cell nd (hw r hr) hz
  rw [← this]; rfl
abbrev sp__law_cells : DSp := sp2 fun s c G Q _ => ∃ (chd : D) (chs : List Str) (rs : List Row) (z : Str), s = .tup [chd, .tup (rs.map (cueR chs))] ∧ c = .str z ∧ chs.Nodup ∧ rs.length ≤ 1000 ∧
  ∀ p G', G p = none → Ext G G' → G' p = some (.lst ((cellsZ chs rs z).map levD)) → Q (.ref p) G'
def b__law_cells  (E : DXK) : WS :=
  (wRet (wLc [2] (wiTup (wOp dIx (wVar 0) (wC (.int 1)))) (wgName 2) wtYes (wDGet (wCB dDict (wCons (wCB dList (wCons (wVar 2) wNil)) wNil)) (wVar 1) (wC .non))))
abbrev N__law_cells : List Str := ["show", "channel", "cue"]
abbrev Okb__law_cells  (sp : DSp) : Prop := ∀ ds G Q E, sp ds G Q E → b__law_cells  E { nx := fun _ G' => Q .non G', rt := Q } (startD N__law_cells ds) G
theorem ok__law_cells : Okb__law_cells sp__law_cells := by
  intro ds G Q E h0
  obtain ⟨s, c, rfl, chd, chs, rs, z, rfl, rfl, nd, hl, h⟩ := sp2_inv h0
  clear h0
  simp [b__law_cells, startD]
  have key : ∀ r : Row, ∀ (G1 : DHp) (K : DK), (∀ G2, Ext G1 G2 → K (levD (lev (mvs chs r) z)) G2) → ∀ p, G1 p = none → ∃ xs kvs, updD G1 p (.lst ((mvs chs r).map mvD)) p = some (.lst xs) ∧ pairsD xs = some kvs ∧ ∀ q, updD G1 p (.lst ((mvs chs r).map mvD)) q = none →
      ((∃ k o, dLook (updD (updD G1 p (.lst ((mvs chs r).map mvD))) q (.dK (mergeD [] kvs))) (.ref q) k = some o) ∧ match dLook (updD (updD G1 p (.lst ((mvs chs r).map mvD))) q (.dK (mergeD [] kvs))) (.ref q) (.str z) with
        | some o => K (o.getD .non) (updD (updD G1 p (.lst ((mvs chs r).map mvD))) q (.dK (mergeD [] kvs)))
        | none => False) := by
    intro r G1 K hK p hp
    refine ⟨_, _, updD_same, pairs_moves, fun q hq => ?_⟩
    have e := dLook_at (w := z) (updD_same (G := updD G1 p (.lst ((mvs chs r).map mvD))) (a := q) (o := .dK (mergeD [] ((mvs chs r).map fun p => ((Sum.inr p.1 : Key), D.int p.2)))))
    refine ⟨⟨.str z, _, e⟩, ?_⟩
    rw [e]
    have em : mergeD [] ((mvs chs r).map fun p => ((Sum.inr p.1 : Key), D.int p.2)) = (mvs chs r).map fun p => ((Sum.inr p.1 : Key), D.int p.2) := by
      have := merge_nodup (κ := Key) (more := (mvs chs r).map fun p => ((Sum.inr p.1 : Key), D.int p.2)) (kvs := []) (by
        rw [List.nil_append, List.map_map]
        have : ((fun x : Key × D => x.1) ∘ fun p : Str × Int => ((Sum.inr p.1 : Key), D.int p.2)) = (fun z : Str => (Sum.inr z : Key)) ∘ (fun p : Str × Int => p.1) := rfl
        rw [this, ← List.map_map]
        have nd2 := mvs_nodup nd (r := r)
        exact List.Pairwise.map _ (fun a b hab e => hab (Sum.inr.inj e)) nd2)
      simpa [mergeD] using this
    rw [em]
    show K ((lookD ((mvs chs r).map fun p => ((Sum.inr p.1 : Key), D.int p.2)) (Sum.inr z)).getD .non) _
    rw [look_moves]
    exact hK _ ((Ext.new hp).trans (Ext.new hq))
  refine lc_map (fun d => levD (lev (movesOf d) z)) (by simpa using (show rs.length ≤ 1000000 by omega)) (fun _ _ => trivial) (fun x hx G1 K e hK => ?_) fun G1 p e hp => ?_
  · obtain ⟨r, hr, rfl⟩ := List.mem_map.mp hx
    have ef : movesOf (cueR chs r) = mvs chs r := movesOf_moves
    rw [ef] at hK
    simp [cueR]
    intro p hp
    obtain ⟨xs, kvs, q1, q2, q3⟩ := key r G1 K hK p hp
    rw [updD_same] at q1
    cases q1
    exact ⟨kvs, q2, q3⟩
  · have ef : (rs.map (cueR chs)).map (fun d => levD (lev (movesOf d) z)) = (cellsZ chs rs z).map levD := by
      unfold cellsZ
      rw [List.map_map, List.map_map]
      exact List.map_congr_left fun r _ => congrArg (fun m => levD (lev m z)) movesOf_moves
    rw [ef]
    exact h p _ (e.free hp) (e.trans (Ext.new hp)) updD_same

theorem seenL_concat {α : Type} : ∀ {p : α} {l : List (Option α)} {c : Option α}, ∃ t q, seenL p l = t ++ [q] ∧ seenL p (l ++ [c]) = t ++ [q, c.getD q]
  | p, [], c => ⟨[], p, rfl, rfl⟩
  | p, x :: l, c => by
    obtain ⟨t, q, h1, h2⟩ := seenL_concat (p := x.getD p) (l := l) (c := c)
    exact ⟨p :: t, q, by rw [seenL, h1]; rfl, by rw [List.cons_append, seenL, h2]; rfl⟩
abbrev k0 : Key := .inl 0
abbrev sp__law_seen : DSp := sp1 fun s G Q _ => ∃ (a : Addr) (cs : List (Option Key)), s = .ref a ∧ G a = some (.lst (cs.map ckD)) ∧ cs.length ≤ 1000 ∧ ∀ p G', G p = none → Ext G G' → G' p = some (.lst ((seenL k0 cs).map keyD)) → Q (.ref p) G'
def b__law_seen  (E : DXK) : WS :=
  (wSeq (wAsg (wLst (wCons (wC (.int 0)) wNil)) (wgName 1))
  (wSeq (wFor (wiLst (wVar 0)) (wgName 2) (wExpr (wMt dAppend (wVar 1) (wCons (wIfE (wTest (wOp (dIsN false) (wVar 2) (wC .non))) (wOp dIx (wVar 1) (wUn dNeg (wC (.int 1)))) (wVar 2)) wNil))))
  (wRet (wVar 1))))
abbrev N__law_seen : List Str := ["cells", "found", "cell"]
abbrev Okb__law_seen  (sp : DSp) : Prop := ∀ ds G Q E, sp ds G Q E → b__law_seen  E { nx := fun _ G' => Q .non G', rt := Q } (startD N__law_seen ds) G
theorem ok__law_seen : Okb__law_seen sp__law_seen := by
  intro ds G Q E h0
  obtain ⟨s, rfl, a, cs, rfl, ga, hl, h⟩ := sp1_inv h0
  clear h0
  simp [b__law_seen, startD]
  intro p hp
  have hne : a ≠ p := fun e => by subst e; rw [ga] at hp; cases hp
  refine ⟨_, by rw [updD_ne hne]; exact ga, ?_⟩
  refine forW_rule (fun r ρ G' => ∃ (dn rest : List (Option Key)) (o2 : Option D), cs = dn ++ rest ∧ r = rest.map ckD ∧ Ext G G' ∧ G' p = some (.lst ((seenL k0 dn).map keyD)) ∧ ρ = [some (.ref a), some (.ref p), o2]) ?_ ?_
    ⟨[], cs, none, rfl, rfl, Ext.new hp, updD_same, rfl⟩
  · rintro x r ρ G1 nx ⟨dn, rest, o2, e1, e2, ex, gp, rfl⟩ hnx
    refine ⟨ex a _ ga, ?_⟩
    cases rest with
    | nil => cases e2
    | cons c rest =>
      obtain ⟨rfl, rfl⟩ := List.cons.inj e2
      obtain ⟨t, q, s1, s2⟩ := seenL_concat (p := k0) (l := dn) (c := c)
      have hlen : (seenL k0 dn).length ≤ 1001 := by rw [seenL_length]; have := congrArg List.length e1; simp at this; omega
      have step : ∀ d, d = keyD (c.getD q) → ∃ ys, G1 p = some (.lst ys) ∧ ys.length < 1000000 ∧ nx [some (.ref a), some (.ref p), some (ckD c)] (updD G1 p (.lst (ys ++ [d]))) := fun d hd => by
        refine ⟨_, gp, by simp; omega, hnx _ _ ⟨dn ++ [c], rest, _, by simp [e1], rfl, fun b u hb => ?_, by rw [updD_same, s2, s1, hd]; simp, rfl⟩⟩
        rw [updD_ne fun z => by subst z; rw [hp] at hb; cases hb]
        exact ex b u hb
      simp
      refine ⟨⟨p, _, rfl, gp⟩, ?_⟩
      cases c with
      | none =>
        rw [if_pos (by rfl)]
        refine ⟨_, gp, ?_⟩
        rw [s1, List.map_append, List.map_cons, List.map_nil, pick_last, must_some]
        exact step _ rfl
      | some k =>
        rw [if_neg (by simp)]
        exact step _ rfl
  · rintro ρ G1 ⟨dn, rest, o2, e1, e2, ex, gp, rfl⟩
    refine ⟨ex a _ ga, ?_⟩
    have : rest = [] := by simpa using e2.symm
    subst this
    simp at e1
    subst e1
    simp
    exact h p G1 hp ex gp
end TC
set_option maxRecDepth 100000
set_option maxHeartbeats 4000000
/-! SV: _law_led. -/
namespace TC
open PySem PySem.Spec PyProof.Rows L2
section
variable {α : Type} {lv : Int → α} {z : Str}
theorem holdC_length {cs f : List (Option α)} {t : Nat} {o : Bool} : (holdC lv cs f t o).length = f.length := by
  unfold holdC; split <;> simp
theorem ledC_length {s : Sp} {cs : List (Option α)} : (ledC lv s z cs).length ≤ cs.length + 1 := by
  cases s with
  | set t y l o => unfold ledC; simp only; split
                   · omega
                   · rw [holdC_length]; simp
  | clear t y o => unfold ledC; simp only; split
                   · omega
                   · rw [holdC_length]; simp
  | block t => unfold ledC; simp only; split <;> simp
  | insert t => unfold ledC; simp only; split <;> simp; omega
  | delete t k =>
    unfold ledC; simp only; split
    · omega
    · split <;> simp [List.length_eraseIdx] <;> split <;> omega
  | copy t u => unfold ledC; simp only; split <;> simp
  | swap t => unfold ledC; simp only; split <;> simp; omega
theorem runC_length {ss : List Sp} {cs : List (Option α)} : (runC lv ss z cs).length ≤ cs.length + ss.length := by
  induction ss generalizing cs with
  | nil => exact Nat.le_refl _
  | cons s ss ih =>
    have := ih (cs := ledC lv s z cs)
    have h2 := ledC_length (lv := lv) (z := z) (s := s) (cs := cs)
    simp only [runC, List.foldl_cons, List.length_cons] at this ⊢
    omega
end
theorem ExtB.ofNew {p : Addr} {G G' : DHp} (e : ExtB p G G') (h : G p = none) : Ext G G' := fun a o q => e a o (fun z => by subst z; rw [h] at q; cases q) q
theorem ckD_at {cs : List (Option Key)} {i : Nat} : (cs.map ckD)[i]? = (cs[i]?).map ckD := by simp
theorem gap_at {cs : List (Option Key)} {i : Nat} {c : Option Key} (h : cs[i]? = some c) : isGap cs i = c.isNone := by
  unfold isGap; rw [h]; cases c <;> rfl
theorem if_go {t : WT} {a b : WS} {F : DEnds} {ρ : Ro} {G : DHp} (h : ∀ A B : DHp → Prop, (∀ G', a F ρ G' → A G') → (∀ G', b F ρ G' → B G') → t ρ G fun c G1 => if c = true then A G1 else B G1) : wIf t a b F ρ G := h _ _ (fun _ h => h) fun _ h => h
theorem dIn_sc {w : Str} {Q' : DK} {G' : DHp} : dIn false (.str w) (.tup [.str "set", .str "clear"]) G' Q' = Q' (.bl (decide (w ∈ (["set", "clear"] : List Str)))) G' := by
  have := dIn_lit (neg := false) (z := w) (chs := ["set", "clear"]) (G := G') (Q := Q')
  simpa using this
section
variable {α : Type} {a b c d e : α}
@[simp] theorem pickM2 : pick [a, b] (-1) = some b := rfl
@[simp] theorem pickM3 : pick [a, b, c] (-1) = some c := rfl
@[simp] theorem pickM4 : pick [a, b, c, d] (-1) = some d := rfl
@[simp] theorem pickM5 : pick [a, b, c, d, e] (-1) = some e := rfl
end
theorem gap_lt {α : Type} {l : List (Option α)} {i : Nat} (h : isGap l i = true) : i < l.length ∧ l[i]? = some none := by
  unfold isGap at h
  split at h
  · rename_i e
    exact ⟨(List.getElem?_eq_some_iff.mp e).1, e⟩
  · cases h
theorem seen_pick {cs : List (Option Key)} {i : Nat} (h : i ≤ cs.length) : ∃ v, (seenL (Sum.inl 0 : Key) cs)[i]? = some v ∧ pick ((seenL k0 cs).map keyD) (i : Int) = some (keyD v) := by
  have hl : i < (seenL (Sum.inl 0 : Key) cs).length := by rw [seenL_length]; omega
  refine ⟨_, List.getElem?_eq_getElem hl, ?_⟩
  rw [pick_nat, List.getElem?_map, List.getElem?_eq_getElem hl]; rfl
theorem map_eraseIdx_ck {cs : List (Option Key)} {t : Nat} : (cs.map ckD).eraseIdx t = (cs.eraseIdx t).map ckD := by simp [List.eraseIdx_eq_take_drop_succ, List.map_take, List.map_drop]
theorem cell_pick {cs : List (Option Key)} {i : Nat} (h : i < cs.length) : pick (cs.map ckD) (i : Int) = some (ckD cs[i]) := by
  rw [pick_nat, List.getElem?_map, List.getElem?_eq_getElem h]; rfl
theorem mode_lit {o : Bool} : (modeS o = Str.ofString "only") ↔ o = true := by cases o <;> decide
theorem keep_lit {o : Bool} : (keepS o = Str.ofString "keep") ↔ o = true := by cases o <;> decide
abbrev sp__law_led : DSp := sp3 fun sc c cl G Q _ => ∃ (ss : List Sp) (z : Str) (a : Addr) (cs : List (Option Key)), sc = .tup (ss.map spD) ∧ c = .str z ∧ cl = .ref a ∧ G a = some (.lst (cs.map ckD)) ∧ cs.length + ss.length ≤ 1000 ∧
  ∀ p G', G p = none → Ext G G' → G' p = some (.lst ((runC Sum.inl ss z cs).map ckD)) → Q (.ref p) G'
def b__law_led  (E : DXK) : WS :=
  (wSeq (wAsg (wCB dList (wCons (wVar 2) wNil)) (wgName 2))
  (wSeq (wFor (wiTup (wVar 0)) (wgName 3) (wSeq (wPar3 5 6 7 (wCons (wOp dIx (wVar 3) (wC (.int 0))) (wCons (wOp dSub (wOp dIx (wVar 3) (wC (.int 1))) (wC (.int 1))) (wCons (wCB dLen (wCons (wVar 2) wNil)) wNil))))
  (wSeq (wAsg (wCall sp__law_seen (fun _ => E) (wCons (wVar 2) wNil)) (wgName 4))
  (wIf (wTest (wOp dEq (wVar 5) (wC (.str "insert")))) (wAsg (wIfE (wTest (wOp dLe (wVar 6) (wVar 7))) (wLst (wCons (wC .non) wNil)) (wLst wNil)) (wgSlice (wVar 2) (wVar 6) (wVar 6))) (wIf (wTest (wOp dGe (wVar 6) (wVar 7))) wCnt (wIf (wtAnd (wTest (wOp (dIn false) (wVar 5) (wTup (wCons (wC (.str "set")) (wCons (wC (.str "clear")) wNil))))) (wTest (wOp dEq (wOp dIx (wVar 3) (wC (.int 2))) (wVar 1)))) (wSeq (wAsg (weAnd (wOp dEq (wVar 5) (wC (.str "clear"))) (wOp (dIsN false) (wOp dIx (wVar 2) (wVar 6)) (wC .non))) (wgName 8))
  (wSeq (wAsg (wIfE (wTest (wOp dEq (wVar 5) (wC (.str "set")))) (wOp dIx (wVar 3) (wC (.int 3))) (wC .non)) (wgSub (wVar 2) (wVar 6)))
  (wIf (wtAnd (wTest (wOp dEq (wOp dIx (wVar 3) (wUn dNeg (wC (.int 1)))) (wC (.str "only")))) (wtAnd (wtNot (wTest (wVar 8))) (wtAnd (wTest (wOp dLt (wOp dAdd (wVar 6) (wC (.int 1))) (wVar 7))) (wTest (wOp (dIsN false) (wOp dIx (wVar 2) (wOp dAdd (wVar 6) (wC (.int 1)))) (wC .non)))))) (wAsg (wOp dIx (wVar 4) (wOp dAdd (wVar 6) (wC (.int 2)))) (wgSub (wVar 2) (wOp dAdd (wVar 6) (wC (.int 1))))) wNext))) (wIf (wTest (wOp dEq (wVar 5) (wC (.str "block")))) (wAsg (wOp dIx (wVar 4) (wOp dAdd (wVar 6) (wC (.int 1)))) (wgSub (wVar 2) (wVar 6))) (wIf (wTest (wOp dEq (wVar 5) (wC (.str "delete")))) (wSeq (wAsg (wMt dPopAt (wVar 2) (wCons (wVar 6) wNil)) (wgName 9))
  (wIf (wtAnd (wTest (wOp dEq (wOp dIx (wVar 3) (wC (.int 2))) (wC (.str "keep")))) (wtAnd (wTest (wOp dLt (wVar 6) (wCB dLen (wCons (wVar 2) wNil)))) (wTest (wOp (dIsN false) (wOp dIx (wVar 2) (wVar 6)) (wC .non))))) (wAsg (wVar 9) (wgSub (wVar 2) (wVar 6))) wNext)) (wIf (wtAnd (wTest (wOp dEq (wVar 5) (wC (.str "copy")))) (wTest (wOp dLe (wOp dIx (wVar 3) (wC (.int 2))) (wVar 7)))) (wAsg (wOp dIx (wVar 2) (wVar 6)) (wgSub (wVar 2) (wOp dSub (wOp dIx (wVar 3) (wC (.int 2))) (wC (.int 1))))) (wIf (wTest (wOp dEq (wVar 5) (wC (.str "swap")))) (wAsg (wRev (wSl (wVar 2) (woSome (wVar 6)) (woSome (wOp dAdd (wVar 6) (wC (.int 2)))))) (wgSlice (wVar 2) (wVar 6) (wOp dAdd (wVar 6) (wC (.int 2))))) wNext))))))))))
  (wRet (wVar 2))))
abbrev N__law_led : List Str := ["script", "channel", "cells", "step", "seen", "word", "at", "many", "idle_so", "gone"]
abbrev Okb__law_led  (sp : DSp) : Prop := ∀ ds G Q E, sp ds G Q E → b__law_led  E { nx := fun _ G' => Q .non G', rt := Q } (startD N__law_led ds) G
theorem ok__law_led : Okb__law_led sp__law_led := by
  intro ds G Q E h0
  obtain ⟨sc, c, cl, rfl, ss, z, a, cs, rfl, rfl, rfl, ga, hl, h⟩ := sp3_inv h0
  clear h0
  have n1 : ∀ t : Nat, (t : Int) + 1 = ((t + 1 : Nat) : Int) := fun t => by omega
  have n2 : ∀ t : Nat, (t : Int) + 2 = ((t + 2 : Nat) : Int) := fun t => by omega
  unfold b__law_led
  rw [show startD N__law_led [.tup (ss.map spD), .str z, .ref a] = [some (.tup (ss.map spD)), some (.str z), some (.ref a), none, none, none, none, none, none, none] from rfl]
  simp only [wSeq, wAsg, wCB, wCons, wNil, wVar, wgName, List.getElem?_cons_zero, List.getElem?_cons_succ, List.set_cons_zero, List.set_cons_succ, wFor, wiTup, kTupI_tup]
  rw [dList_ref ga]
  intro p hp
  have hap : a ≠ p := fun e => by subst e; rw [ga] at hp; cases hp
  refine forW_rule (fun r ρ G' => ∃ (dn rest : List Sp) (o3 o4 o5 o6 o7 o8 o9 : Option D), ss = dn ++ rest ∧ r = rest.map spD ∧ ExtB p G G' ∧ G' p = some (.lst ((runC Sum.inl dn z cs).map ckD)) ∧
      ρ = [some (.tup (ss.map spD)), some (.str z), some (.ref p), o3, o4, o5, o6, o7, o8, o9]) ?_ ?_
    ⟨[], ss, none, none, none, none, none, none, none, rfl, rfl, (Ext.new hp).b, updD_same, rfl⟩
  · rintro x r ρ G1 nx ⟨dn, rest, o3, o4, o5, o6, o7, o8, o9, e1, e2, ex, gp, rfl⟩ hnx
    refine ⟨trivial, ?_⟩
    cases rest with
    | nil => cases e2
    | cons s rest =>
      obtain ⟨rfl, rfl⟩ := List.cons.inj e2
      have hlen := runC_length (lv := (Sum.inl : Int → Key)) (z := z) (ss := dn) (cs := cs)
      have hsl : ss.length = dn.length + (rest.length + 1) := by rw [e1]; simp
      have next : ∀ o3 o4 o5 o6 o7 o8 o9 G', ExtB p G1 G' → G' p = some (.lst ((ledC Sum.inl s z (runC Sum.inl dn z cs)).map ckD)) → nx [some (.tup (ss.map spD)), some (.str z), some (.ref p), o3, o4, o5, o6, o7, o8, o9] G' := fun o3 o4 o5 o6 o7 o8 o9 G' e g =>
        hnx _ _ ⟨dn ++ [s], rest, o3, o4, o5, o6, o7, o8, o9, by simp [e1], rfl, ex.trans e, by rw [g]; simp [runC], rfl⟩
      clear hnx e1
      generalize hcs1 : runC Sum.inl dn z cs = cs1 at *
      have hl1 : cs1.length ≤ 1000 := by omega
      have sn : ∀ (Qs : DK) (E : DXK), (∀ q G2, G1 q = none → Ext G1 G2 → G2 q = some (.lst ((seenL k0 cs1).map keyD)) → Qs (.ref q) G2) → sp__law_seen [.ref p] G1 Qs E := fun Qs E hq => ⟨p, cs1, rfl, gp, hl1, hq⟩
      have wr : ∀ {G' : DHp} {o : DO}, ExtB p G1 G' → ExtB p G1 (updD G' p o) := fun e => e.trans ExtB.write
      cases s with
      | insert t =>
        have wse : ¬ (Str.ofString "insert" = Str.ofString "set") := by decide
        have wcl : ¬ (Str.ofString "insert" = Str.ofString "clear") := by decide
        have wbl : ¬ (Str.ofString "insert" = Str.ofString "block") := by decide
        have wde : ¬ (Str.ofString "insert" = Str.ofString "delete") := by decide
        have wco : ¬ (Str.ofString "insert" = Str.ofString "copy") := by decide
        have wsw : ¬ (Str.ofString "insert" = Str.ofString "swap") := by decide
        refine seq_go fun nx hnx => ?_
        simp [spD, cN, gp]
        refine hnx _ _ ?_
        clear hnx
        refine seq_go fun nx2 hnx2 => ?_
        simp only [wAsg, wCall, wCons, wVar, wNil, wgName, List.getElem?_cons_zero, List.getElem?_cons_succ, List.set_cons_zero, List.set_cons_succ]
        refine sn _ _ fun q G2 hq ex2 gq => ?_
        have gp2 := ex2 _ _ gp
        have hpq : p ≠ q := fun e => by subst e; rw [gp] at hq; cases hq
        refine hnx2 _ _ ?_
        clear hnx2
        unfold ledC at next
        simp only at next
        refine if_go fun A B hA hB => ?_
        simp
        refine hA _ ?_
        clear hA hB
        by_cases c : t ≤ cs1.length
        · rw [if_pos c] at next
          simp [c]
          intro r hr
          have hpr : p ≠ r := fun e => by subst e; rw [gp2] at hr; cases hr
          refine ⟨_, (by rw [updD_ne hpr]; exact gp2), hpr, by simp; omega, ?_⟩
          refine next _ _ _ _ _ _ _ _ ((ex2.trans (Ext.new hr)).b.trans ExtB.write) ?_
          rw [updD_same]; simp [ckD, List.map_take, List.map_drop]
        · rw [if_neg c] at next
          simp [c]
          intro r hr
          have hpr : p ≠ r := fun e => by subst e; rw [gp2] at hr; cases hr
          refine ⟨_, (by rw [updD_ne hpr]; exact gp2), hpr, by simp; omega, ?_⟩
          exact next _ _ _ _ _ _ _ _ ((ex2.trans (Ext.new hr)).b.trans ExtB.write) updD_same
      | set t y l o =>
        have win : ¬ (Str.ofString "set" = Str.ofString "insert") := by decide
        have wcl : ¬ (Str.ofString "set" = Str.ofString "clear") := by decide
        have wbl : ¬ (Str.ofString "set" = Str.ofString "block") := by decide
        have wde : ¬ (Str.ofString "set" = Str.ofString "delete") := by decide
        have wco : ¬ (Str.ofString "set" = Str.ofString "copy") := by decide
        have wsw : ¬ (Str.ofString "set" = Str.ofString "swap") := by decide
        refine seq_go fun nx hnx => ?_
        simp [spD, cN, gp]
        refine hnx _ _ ?_
        clear hnx
        refine seq_go fun nx2 hnx2 => ?_
        simp only [wAsg, wCall, wCons, wVar, wNil, wgName, List.getElem?_cons_zero, List.getElem?_cons_succ, List.set_cons_zero, List.set_cons_succ]
        refine sn _ _ fun q G2 hq ex2 gq => ?_
        have gp2 := ex2 _ _ gp
        have hpq : p ≠ q := fun e => by subst e; rw [gp] at hq; cases hq
        refine hnx2 _ _ ?_
        clear hnx2
        unfold ledC at next
        simp only at next
        refine if_go fun A B hA hB => ?_
        simp [win]
        refine hB _ ?_
        clear hA hB
        by_cases c : cs1.length ≤ t
        · refine if_go fun A B hA hB => ?_
          simp [c]
          refine hA _ ?_
          clear hA hB
          exact next _ _ _ _ _ _ _ _ ex2.b (by rw [if_pos (.inl c)]; exact gp2)
        refine if_go fun A B hA hB => ?_
        simp [c]
        refine hB _ ?_
        clear hA hB
        by_cases hy : y = z
        · rw [if_neg (by simp [c, hy])] at next
          refine if_go fun A B hA hB => ?_
          simp [dIn_sc, hy]
          refine hA _ ?_
          clear hA hB
          refine seq_go fun nx hnx => ?_
          simp [wcl]
          refine hnx _ _ ?_
          clear hnx
          refine seq_go fun nx hnx => ?_
          simp [gp2]
          have hct : t < cs1.length := by omega
          have ef : (cs1.map ckD).set t (.int l) = (cs1.set t (some (Sum.inl l))).map ckD := by rw [List.map_set]; rfl
          refine ⟨hct, hnx _ _ ?_⟩
          clear hnx
          rw [ef]
          have gq3 : updD G2 p (.lst ((cs1.set t (some (Sum.inl l))).map ckD)) q = some (.lst ((seenL k0 cs1).map keyD)) := by rw [updD_ne (Ne.symm hpq)]; exact gq
          have gp3 : updD G2 p (.lst ((cs1.set t (some (Sum.inl l))).map ckD)) p = some (.lst ((cs1.set t (some (Sum.inl l))).map ckD)) := updD_same
          have ex3 : ExtB p G1 (updD G2 p (.lst ((cs1.set t (some (Sum.inl l))).map ckD))) := ex2.b.trans ExtB.write
          have hln : (cs1.set t (some (Sum.inl l))).length = cs1.length := List.length_set
          generalize cs1.set t (some (Sum.inl l)) = f at *
          generalize updD G2 p (.lst (f.map ckD)) = G3 at *
          unfold holdC at next
          cases o with
          | false =>
            rw [if_neg (by simp)] at next
            refine if_go fun A B hA hB => ?_
            simp [mode_lit]
            refine hB _ ?_
            clear hA hB
            exact next _ _ _ _ _ _ _ _ ex3 gp3
          | true =>
            by_cases cl : t + 1 < cs1.length
            · have hg : isGap f (t + 1) = (f[t + 1]'(by omega)).isNone := gap_at (List.getElem?_eq_getElem _)
              have hp1 := cell_pick (cs := f) (i := t + 1) (by omega)
              obtain ⟨v, hv, hpv⟩ := seen_pick (cs := cs1) (i := t + 2) (by omega)
              cases hc : (f[t + 1]'(by omega)) with
              | none =>
                rw [hc] at hg hp1
                rw [if_pos ⟨rfl, hg⟩] at next
                rw [← n1] at hp1
                rw [← n2] at hpv
                have cl' : (t : Int) + 1 < (cs1.length : Int) := by omega
                refine if_go fun A B hA hB => ?_
                simp [mode_lit, cl', gp3, hp1, ckD]
                refine hA _ ?_
                clear hA hB
                simp [gq3, hpv, gp3]
                refine ⟨by omega, by omega, next _ _ _ _ _ _ _ _ (ex3.trans ExtB.write) ?_⟩
                rw [updD_same, hv, List.map_set]; rfl
              | some k =>
                rw [hc] at hg hp1
                rw [if_neg (by rw [hg]; simp)] at next
                rw [← n1] at hp1
                rw [← n2] at hpv
                have cl' : (t : Int) + 1 < (cs1.length : Int) := by omega
                have nk : isNon (ckD (some k)) = false := by simp
                refine if_go fun A B hA hB => ?_
                simp [mode_lit, cl', gp3, hp1, nk]
                refine hB _ ?_
                clear hA hB
                exact next _ _ _ _ _ _ _ _ ex3 gp3
            · rw [if_neg (fun h => cl (by have := (gap_lt h.2).1; omega))] at next
              have cl' : ¬ (t : Int) + 1 < (cs1.length : Int) := by omega
              refine if_go fun A B hA hB => ?_
              simp [mode_lit, cl']
              refine hB _ ?_
              clear hA hB
              exact next _ _ _ _ _ _ _ _ ex3 gp3
        · rw [if_pos (.inr hy)] at next
          refine if_go fun A B hA hB => ?_
          simp [dIn_sc, hy]
          refine hB _ ?_
          clear hA hB
          refine if_go fun A B hA hB => ?_
          simp [wbl]
          refine hB _ ?_
          clear hA hB
          refine if_go fun A B hA hB => ?_
          simp [wde]
          refine hB _ ?_
          clear hA hB
          refine if_go fun A B hA hB => ?_
          simp [wco]
          refine hB _ ?_
          clear hA hB
          refine if_go fun A B hA hB => ?_
          simp [wsw]
          refine hB _ ?_
          clear hA hB
          exact next _ _ _ _ _ _ _ _ ex2.b gp2
      | clear t y o =>
        have win : ¬ (Str.ofString "clear" = Str.ofString "insert") := by decide
        have wse : ¬ (Str.ofString "clear" = Str.ofString "set") := by decide
        have wbl : ¬ (Str.ofString "clear" = Str.ofString "block") := by decide
        have wde : ¬ (Str.ofString "clear" = Str.ofString "delete") := by decide
        have wco : ¬ (Str.ofString "clear" = Str.ofString "copy") := by decide
        have wsw : ¬ (Str.ofString "clear" = Str.ofString "swap") := by decide
        refine seq_go fun nx hnx => ?_
        simp [spD, cN, gp]
        refine hnx _ _ ?_
        clear hnx
        refine seq_go fun nx2 hnx2 => ?_
        simp only [wAsg, wCall, wCons, wVar, wNil, wgName, List.getElem?_cons_zero, List.getElem?_cons_succ, List.set_cons_zero, List.set_cons_succ]
        refine sn _ _ fun q G2 hq ex2 gq => ?_
        have gp2 := ex2 _ _ gp
        have hpq : p ≠ q := fun e => by subst e; rw [gp] at hq; cases hq
        refine hnx2 _ _ ?_
        clear hnx2
        unfold ledC at next
        simp only at next
        refine if_go fun A B hA hB => ?_
        simp [win]
        refine hB _ ?_
        clear hA hB
        by_cases c : cs1.length ≤ t
        · rw [if_pos (.inl c)] at next
          refine if_go fun A B hA hB => ?_
          simp [c]
          refine hA _ ?_
          clear hA hB
          exact next _ _ _ _ _ _ _ _ ex2.b gp2
        refine if_go fun A B hA hB => ?_
        simp [c]
        refine hB _ ?_
        clear hA hB
        by_cases hy : y = z
        · refine if_go fun A B hA hB => ?_
          simp [dIn_sc, hy]
          refine hA _ ?_
          clear hA hB
          have hct : t < cs1.length := by omega
          have hp0 := cell_pick hct
          have hg0 : isGap cs1 t = (cs1[t]).isNone := gap_at (List.getElem?_eq_getElem hct)
          refine seq_go fun nx hnx => ?_
          simp [gp2, hp0]
          refine hnx _ _ ?_
          clear hnx
          refine seq_go fun nx hnx => ?_
          simp [gp2]
          cases hc0 : cs1[t] with
          | none =>
            rw [hc0] at hg0
            rw [if_pos (.inr (.inr hg0))] at next
            have es : (cs1.map ckD).set t .non = cs1.map ckD := by
              have : (cs1.map ckD).set t .non = (cs1.set t none).map ckD := by rw [List.map_set]; rfl
              rw [this]
              have : cs1.set t none = cs1 := by rw [← hc0]; exact List.set_getElem_self hct
              rw [this]
            refine ⟨hct, hnx _ _ ?_⟩
            clear hnx
            rw [es]
            refine if_go fun A B hA hB => ?_
            simp [updD_at]
            refine hB _ ?_
            clear hA hB
            exact next _ _ _ _ _ _ _ _ (ex2.b.trans ExtB.write) updD_same
          | some k0' =>
            rw [hc0] at hg0
            rw [if_neg (by simp [c, hy, hg0])] at next
            have ef : (cs1.map ckD).set t .non = (cs1.set t none).map ckD := by rw [List.map_set]; rfl
            refine ⟨hct, hnx _ _ ?_⟩
            clear hnx
            rw [ef]
            have gq3 : updD G2 p (.lst ((cs1.set t none).map ckD)) q = some (.lst ((seenL k0 cs1).map keyD)) := by rw [updD_ne (Ne.symm hpq)]; exact gq
            have gp3 : updD G2 p (.lst ((cs1.set t none).map ckD)) p = some (.lst ((cs1.set t none).map ckD)) := updD_same
            have ex3 : ExtB p G1 (updD G2 p (.lst ((cs1.set t none).map ckD))) := ex2.b.trans ExtB.write
            have hln : (cs1.set t none).length = cs1.length := List.length_set
            generalize cs1.set t none = f at *
            generalize updD G2 p (.lst (f.map ckD)) = G3 at *
            unfold holdC at next
            cases o with
            | false =>
              rw [if_neg (by simp)] at next
              refine if_go fun A B hA hB => ?_
              simp [mode_lit]
              refine hB _ ?_
              clear hA hB
              exact next _ _ _ _ _ _ _ _ ex3 gp3
            | true =>
              by_cases cl : t + 1 < cs1.length
              · have hg : isGap f (t + 1) = (f[t + 1]'(by omega)).isNone := gap_at (List.getElem?_eq_getElem _)
                have hp1 := cell_pick (cs := f) (i := t + 1) (by omega)
                obtain ⟨v, hv, hpv⟩ := seen_pick (cs := cs1) (i := t + 2) (by omega)
                cases hc : (f[t + 1]'(by omega)) with
                | none =>
                  rw [hc] at hg hp1
                  rw [if_pos ⟨rfl, hg⟩] at next
                  rw [← n1] at hp1
                  rw [← n2] at hpv
                  have cl' : (t : Int) + 1 < (cs1.length : Int) := by omega
                  refine if_go fun A B hA hB => ?_
                  simp [mode_lit, cl', gp3, hp1, ckD]
                  refine hA _ ?_
                  clear hA hB
                  simp [gq3, hpv, gp3]
                  refine ⟨by omega, by omega, next _ _ _ _ _ _ _ _ (ex3.trans ExtB.write) ?_⟩
                  rw [updD_same, hv, List.map_set]; rfl
                | some k =>
                  rw [hc] at hg hp1
                  rw [if_neg (by rw [hg]; simp)] at next
                  rw [← n1] at hp1
                  rw [← n2] at hpv
                  have cl' : (t : Int) + 1 < (cs1.length : Int) := by omega
                  have nk : isNon (ckD (some k)) = false := by simp
                  refine if_go fun A B hA hB => ?_
                  simp [mode_lit, cl', gp3, hp1, nk]
                  refine hB _ ?_
                  clear hA hB
                  exact next _ _ _ _ _ _ _ _ ex3 gp3
              · rw [if_neg (fun h => cl (by have := (gap_lt h.2).1; omega))] at next
                have cl' : ¬ (t : Int) + 1 < (cs1.length : Int) := by omega
                refine if_go fun A B hA hB => ?_
                simp [mode_lit, cl']
                refine hB _ ?_
                clear hA hB
                exact next _ _ _ _ _ _ _ _ ex3 gp3
        · rw [if_pos (.inr (.inl hy))] at next
          refine if_go fun A B hA hB => ?_
          simp [dIn_sc, hy]
          refine hB _ ?_
          clear hA hB
          refine if_go fun A B hA hB => ?_
          simp [wbl]
          refine hB _ ?_
          clear hA hB
          refine if_go fun A B hA hB => ?_
          simp [wde]
          refine hB _ ?_
          clear hA hB
          refine if_go fun A B hA hB => ?_
          simp [wco]
          refine hB _ ?_
          clear hA hB
          refine if_go fun A B hA hB => ?_
          simp [wsw]
          refine hB _ ?_
          clear hA hB
          exact next _ _ _ _ _ _ _ _ ex2.b gp2
      | block t =>
        have win : ¬ (Str.ofString "block" = Str.ofString "insert") := by decide
        have wse : ¬ (Str.ofString "block" = Str.ofString "set") := by decide
        have wcl : ¬ (Str.ofString "block" = Str.ofString "clear") := by decide
        have wde : ¬ (Str.ofString "block" = Str.ofString "delete") := by decide
        have wco : ¬ (Str.ofString "block" = Str.ofString "copy") := by decide
        have wsw : ¬ (Str.ofString "block" = Str.ofString "swap") := by decide
        refine seq_go fun nx hnx => ?_
        simp [spD, cN, gp]
        refine hnx _ _ ?_
        clear hnx
        refine seq_go fun nx2 hnx2 => ?_
        simp only [wAsg, wCall, wCons, wVar, wNil, wgName, List.getElem?_cons_zero, List.getElem?_cons_succ, List.set_cons_zero, List.set_cons_succ]
        refine sn _ _ fun q G2 hq ex2 gq => ?_
        have gp2 := ex2 _ _ gp
        have hpq : p ≠ q := fun e => by subst e; rw [gp] at hq; cases hq
        refine hnx2 _ _ ?_
        clear hnx2
        unfold ledC at next
        simp only at next
        refine if_go fun A B hA hB => ?_
        simp [win]
        refine hB _ ?_
        clear hA hB
        by_cases c : cs1.length ≤ t
        · rw [if_pos c] at next
          refine if_go fun A B hA hB => ?_
          simp [c]
          refine hA _ ?_
          clear hA hB
          exact next _ _ _ _ _ _ _ _ ex2.b gp2
        refine if_go fun A B hA hB => ?_
        simp [c]
        refine hB _ ?_
        clear hA hB
        rw [if_neg c] at next
        refine if_go fun A B hA hB => ?_
        simp [dIn_sc, wse, wcl]
        refine hB _ ?_
        clear hA hB
        refine if_go fun A B hA hB => ?_
        simp
        refine hA _ ?_
        clear hA hB
        obtain ⟨v, hv, hpv⟩ := seen_pick (cs := cs1) (i := t + 1) (by omega)
        simp only [← n1] at hpv
        simp [gq, hpv, gp2]
        refine ⟨by omega, next _ _ _ _ _ _ _ _ (ex2.b.trans ExtB.write) ?_⟩
        rw [updD_same, hv, List.map_set]; rfl
      | delete t k =>
        have win : ¬ (Str.ofString "delete" = Str.ofString "insert") := by decide
        have wse : ¬ (Str.ofString "delete" = Str.ofString "set") := by decide
        have wcl : ¬ (Str.ofString "delete" = Str.ofString "clear") := by decide
        have wbl : ¬ (Str.ofString "delete" = Str.ofString "block") := by decide
        have wco : ¬ (Str.ofString "delete" = Str.ofString "copy") := by decide
        have wsw : ¬ (Str.ofString "delete" = Str.ofString "swap") := by decide
        refine seq_go fun nx hnx => ?_
        simp [spD, cN, gp]
        refine hnx _ _ ?_
        clear hnx
        refine seq_go fun nx2 hnx2 => ?_
        simp only [wAsg, wCall, wCons, wVar, wNil, wgName, List.getElem?_cons_zero, List.getElem?_cons_succ, List.set_cons_zero, List.set_cons_succ]
        refine sn _ _ fun q G2 hq ex2 gq => ?_
        have gp2 := ex2 _ _ gp
        have hpq : p ≠ q := fun e => by subst e; rw [gp] at hq; cases hq
        refine hnx2 _ _ ?_
        clear hnx2
        unfold ledC at next
        simp only at next
        refine if_go fun A B hA hB => ?_
        simp [win]
        refine hB _ ?_
        clear hA hB
        by_cases c : cs1.length ≤ t
        · rw [if_pos c] at next
          refine if_go fun A B hA hB => ?_
          simp [c]
          refine hA _ ?_
          clear hA hB
          exact next _ _ _ _ _ _ _ _ ex2.b gp2
        refine if_go fun A B hA hB => ?_
        simp [c]
        refine hB _ ?_
        clear hA hB
        rw [if_neg c] at next
        refine if_go fun A B hA hB => ?_
        simp [dIn_sc, wse, wcl]
        refine hB _ ?_
        clear hA hB
        refine if_go fun A B hA hB => ?_
        simp [wbl]
        refine hB _ ?_
        clear hA hB
        refine if_go fun A B hA hB => ?_
        simp
        refine hA _ ?_
        clear hA hB
        refine seq_go fun nx hnx => ?_
        simp [gp2]
        have hct : t < cs1.length := by omega
        refine ⟨⟨p, _, rfl, gp2⟩, _, ckD cs1[t], gp2, by omega, by simp; omega, by omega, by simp [hct], hnx _ _ ?_⟩
        clear hnx
        simp only [Int.toNat_natCast, map_eraseIdx_ck]
        have gp3 : updD G2 p (.lst ((cs1.eraseIdx t).map ckD)) p = some (.lst ((cs1.eraseIdx t).map ckD)) := updD_same
        have ex3 : ExtB p G1 (updD G2 p (.lst ((cs1.eraseIdx t).map ckD))) := ex2.b.trans ExtB.write
        have hj : (cs1[t]?).join = cs1[t] := by rw [List.getElem?_eq_getElem hct]; rfl
        rw [hj] at next
        generalize cs1[t] = c0 at *
        generalize cs1.eraseIdx t = f at *
        generalize updD G2 p (.lst (f.map ckD)) = G3 at *
        cases k with
        | false =>
          rw [if_neg (by simp)] at next
          refine if_go fun A B hA hB => ?_
          simp [keep_lit]
          refine hB _ ?_
          clear hA hB
          exact next _ _ _ _ _ _ _ _ ex3 gp3
        | true =>
          by_cases cl : t < f.length
          · have hg : isGap f t = (f[t]).isNone := gap_at (List.getElem?_eq_getElem _)
            have hp1 := cell_pick (cs := f) (i := t) cl
            cases hc : f[t] with
            | none =>
              rw [hc] at hg hp1
              rw [if_pos ⟨rfl, hg⟩] at next
              refine if_go fun A B hA hB => ?_
              simp [keep_lit, cl, gp3, hp1, ckD]
              refine hA _ ?_
              clear hA hB
              simp [gp3]
              refine ⟨cl, next _ _ _ _ _ _ _ _ (ex3.trans ExtB.write) ?_⟩
              rw [updD_same, List.map_set]
            | some k =>
              rw [hc] at hg hp1
              rw [if_neg (by rw [hg]; simp)] at next
              have nk : isNon (ckD (some k)) = false := by simp
              refine if_go fun A B hA hB => ?_
              simp [keep_lit, cl, gp3, hp1, nk]
              refine hB _ ?_
              clear hA hB
              exact next _ _ _ _ _ _ _ _ ex3 gp3
          · rw [if_neg (fun h => cl (gap_lt h.2).1)] at next
            refine if_go fun A B hA hB => ?_
            simp [keep_lit, cl, gp3]
            refine hB _ ?_
            clear hA hB
            exact next _ _ _ _ _ _ _ _ ex3 gp3
      | copy t u =>
        have win : ¬ (Str.ofString "copy" = Str.ofString "insert") := by decide
        have wse : ¬ (Str.ofString "copy" = Str.ofString "set") := by decide
        have wcl : ¬ (Str.ofString "copy" = Str.ofString "clear") := by decide
        have wbl : ¬ (Str.ofString "copy" = Str.ofString "block") := by decide
        have wde : ¬ (Str.ofString "copy" = Str.ofString "delete") := by decide
        have wsw : ¬ (Str.ofString "copy" = Str.ofString "swap") := by decide
        refine seq_go fun nx hnx => ?_
        simp [spD, cN, gp]
        refine hnx _ _ ?_
        clear hnx
        refine seq_go fun nx2 hnx2 => ?_
        simp only [wAsg, wCall, wCons, wVar, wNil, wgName, List.getElem?_cons_zero, List.getElem?_cons_succ, List.set_cons_zero, List.set_cons_succ]
        refine sn _ _ fun q G2 hq ex2 gq => ?_
        have gp2 := ex2 _ _ gp
        have hpq : p ≠ q := fun e => by subst e; rw [gp] at hq; cases hq
        refine hnx2 _ _ ?_
        clear hnx2
        unfold ledC at next
        simp only at next
        refine if_go fun A B hA hB => ?_
        simp [win]
        refine hB _ ?_
        clear hA hB
        by_cases c : cs1.length ≤ t
        · rw [if_pos (.inl c)] at next
          refine if_go fun A B hA hB => ?_
          simp [c]
          refine hA _ ?_
          clear hA hB
          exact next _ _ _ _ _ _ _ _ ex2.b gp2
        refine if_go fun A B hA hB => ?_
        simp [c]
        refine hB _ ?_
        clear hA hB
        refine if_go fun A B hA hB => ?_
        simp [dIn_sc, wse, wcl]
        refine hB _ ?_
        clear hA hB
        refine if_go fun A B hA hB => ?_
        simp [wbl]
        refine hB _ ?_
        clear hA hB
        refine if_go fun A B hA hB => ?_
        simp [wde]
        refine hB _ ?_
        clear hA hB
        have hct : t < cs1.length := by omega
        by_cases c2 : cs1.length ≤ u
        · rw [if_pos (.inr c2)] at next
          have cu : ¬ (u : Int) + 1 ≤ (cs1.length : Int) := by omega
          refine if_go fun A B hA hB => ?_
          simp [cu]
          refine hB _ ?_
          clear hA hB
          refine if_go fun A B hA hB => ?_
          simp [wsw]
          refine hB _ ?_
          clear hA hB
          exact next _ _ _ _ _ _ _ _ ex2.b gp2
        · rw [if_neg (by omega)] at next
          have cu : (u : Int) + 1 ≤ (cs1.length : Int) := by omega
          have hp1 := cell_pick hct
          have hj : (cs1[t]?).join = cs1[t] := by rw [List.getElem?_eq_getElem hct]; rfl
          rw [hj] at next
          refine if_go fun A B hA hB => ?_
          simp [cu]
          refine hA _ ?_
          clear hA hB
          simp [gp2, hp1]
          refine ⟨by omega, next _ _ _ _ _ _ _ _ (ex2.b.trans ExtB.write) ?_⟩
          rw [updD_same, List.map_set]
      | swap t =>
        have win : ¬ (Str.ofString "swap" = Str.ofString "insert") := by decide
        have wse : ¬ (Str.ofString "swap" = Str.ofString "set") := by decide
        have wcl : ¬ (Str.ofString "swap" = Str.ofString "clear") := by decide
        have wbl : ¬ (Str.ofString "swap" = Str.ofString "block") := by decide
        have wde : ¬ (Str.ofString "swap" = Str.ofString "delete") := by decide
        have wco : ¬ (Str.ofString "swap" = Str.ofString "copy") := by decide
        refine seq_go fun nx hnx => ?_
        simp [spD, cN, gp]
        refine hnx _ _ ?_
        clear hnx
        refine seq_go fun nx2 hnx2 => ?_
        simp only [wAsg, wCall, wCons, wVar, wNil, wgName, List.getElem?_cons_zero, List.getElem?_cons_succ, List.set_cons_zero, List.set_cons_succ]
        refine sn _ _ fun q G2 hq ex2 gq => ?_
        have gp2 := ex2 _ _ gp
        have hpq : p ≠ q := fun e => by subst e; rw [gp] at hq; cases hq
        refine hnx2 _ _ ?_
        clear hnx2
        unfold ledC at next
        simp only at next
        refine if_go fun A B hA hB => ?_
        simp [win]
        refine hB _ ?_
        clear hA hB
        by_cases c : cs1.length ≤ t
        · rw [if_pos (show cs1.length ≤ t + 1 by omega)] at next
          refine if_go fun A B hA hB => ?_
          simp [c]
          refine hA _ ?_
          clear hA hB
          exact next _ _ _ _ _ _ _ _ ex2.b gp2
        refine if_go fun A B hA hB => ?_
        simp [c]
        refine hB _ ?_
        clear hA hB
        refine if_go fun A B hA hB => ?_
        simp [dIn_sc, wse, wcl]
        refine hB _ ?_
        clear hA hB
        refine if_go fun A B hA hB => ?_
        simp [wbl]
        refine hB _ ?_
        clear hA hB
        refine if_go fun A B hA hB => ?_
        simp [wde]
        refine hB _ ?_
        clear hA hB
        refine if_go fun A B hA hB => ?_
        simp [wco]
        refine hB _ ?_
        clear hA hB
        refine if_go fun A B hA hB => ?_
        simp
        refine hA _ ?_
        clear hA hB
        simp [gp2]
        intro r hr r2 hr2
        have hpr : p ≠ r := fun e => by subst e; rw [gp2] at hr; cases hr
        have hpr2 : p ≠ r2 := fun e => by
          subst e
          rw [updD_ne hpr, gp2] at hr2; cases hr2
        have hcut : cut (cs1.map ckD) (some (t : Int)) (some ((t : Int) + 2)) = ((cs1.map ckD).drop t).take 2 := by
          rw [n2, cut_ft]
          congr 1
          omega
        have htn : ((t : Int) + 2).toNat = t + 2 := by omega
        refine ⟨_, (by rw [updD_ne hpr2, updD_ne hpr]; exact gp2), hpr2, by omega, by rw [hcut]; simp; omega, ?_⟩
        refine next _ _ _ _ _ _ _ _ (((ex2.trans (Ext.new hr)).trans (Ext.new hr2)).b.trans ExtB.write) ?_
        rw [updD_same, hcut, htn]
        have hct : t < cs1.length := by omega
        by_cases c1 : cs1.length ≤ t + 1
        · rw [if_pos c1]
          have e1 : (cs1.map ckD).drop t = [ckD cs1[t]] := by
            rw [← List.map_drop, List.drop_eq_getElem_cons hct, List.drop_of_length_le c1]; rfl
          have e2 : (cs1.map ckD).drop (t + 2) = [] := List.drop_of_length_le (by simp; omega)
          rw [e1, e2]
          have e3 := List.take_append_drop t (cs1.map ckD)
          rw [e1] at e3
          simpa using e3
        · rw [if_neg c1]
          have hct1 : t + 1 < cs1.length := by omega
          have e1 : (cs1.map ckD).drop t = ckD cs1[t] :: ckD cs1[t + 1] :: (cs1.map ckD).drop (t + 2) := by
            rw [← List.map_drop, List.drop_eq_getElem_cons hct, List.drop_eq_getElem_cons hct1, List.map_cons, List.map_cons, List.map_drop]
          rw [e1]
          simp [List.getElem?_eq_getElem hct, List.getElem?_eq_getElem hct1, List.map_take, List.map_drop]
  · rintro ρ G1 ⟨dn, rest, o3, o4, o5, o6, o7, o8, o9, e1, e2, ex, gp, rfl⟩
    refine ⟨trivial, ?_⟩
    have : rest = [] := by simpa using e2.symm
    subst this
    simp at e1
    subst e1
    simp
    exact h p G1 hp (ex.ofNew hp) gp
end TC
set_option maxRecDepth 100000
set_option maxHeartbeats 4000000
/-! SW: _law_edited, _law_views. -/
namespace TC
open PySem PySem.Spec PyProof.Rows L2
section
variable {α β : Type}
/-- other values: the same steps -/
theorem seenL_map {f : α → β} : ∀ {l : List (Option α)} {p : α}, seenL (f p) (l.map (Option.map f)) = (seenL p l).map f
  | [], p => rfl
  | c :: l, p => by
    rw [List.map_cons, seenL, seenL, List.map_cons]
    have : (Option.map f c).getD (f p) = f (c.getD p) := by cases c <;> rfl
    rw [this, seenL_map]
theorem isGap_map {f : α → β} {l : List (Option α)} {i : Nat} : isGap (l.map (Option.map f)) i = isGap l i := by
  unfold isGap
  rw [List.getElem?_map]
  cases l[i]? with
  | none => rfl
  | some c => cases c <;> rfl
theorem map_set_opt {f : α → β} {l : List (Option α)} {i : Nat} {c : Option α} : (l.map (Option.map f)).set i (c.map f) = (l.set i c).map (Option.map f) := by rw [List.map_set]
theorem join_map {f : α → β} {l : List (Option α)} {i : Nat} : ((l.map (Option.map f))[i]?).join = ((l[i]?).join).map f := by
  rw [List.getElem?_map]
  cases l[i]? with
  | none => rfl
  | some c => rfl
theorem map_erase_opt {f : α → β} {l : List (Option α)} {t : Nat} : (l.map (Option.map f)).eraseIdx t = (l.eraseIdx t).map (Option.map f) := by simp [List.eraseIdx_eq_take_drop_succ, List.map_take, List.map_drop]
theorem holdC_map {f : α → β} {lv : Int → α} {lw : Int → β} (hf : ∀ i, lw i = f (lv i)) {cs g : List (Option α)} {t : Nat} {o : Bool} : holdC lw (cs.map (Option.map f)) (g.map (Option.map f)) t o = (holdC lv cs g t o).map (Option.map f) := by
  unfold holdC
  rw [isGap_map, hf, seenL_map, List.getElem?_map]
  by_cases c : o = true ∧ isGap g (t + 1) = true
  · rw [if_pos c, if_pos c, map_set_opt]
  · rw [if_neg c, if_neg c]
theorem ledC_map {f : α → β} {lv : Int → α} {lw : Int → β} (hf : ∀ i, lw i = f (lv i)) {s : Sp} {z : Str} {cs : List (Option α)} : ledC lw s z (cs.map (Option.map f)) = (ledC lv s z cs).map (Option.map f) := by
  cases s with
  | set t y l o =>
    unfold ledC; simp only [List.length_map]
    by_cases c : cs.length ≤ t ∨ y ≠ z
    · rw [if_pos c, if_pos c]
    · rw [if_neg c, if_neg c, ← holdC_map hf, ← map_set_opt, hf]; rfl
  | clear t y o =>
    unfold ledC; simp only [List.length_map, isGap_map]
    by_cases c : cs.length ≤ t ∨ y ≠ z ∨ isGap cs t = true
    · rw [if_pos c, if_pos c]
    · rw [if_neg c, if_neg c, ← holdC_map hf, ← map_set_opt]; rfl
  | block t =>
    unfold ledC; simp only [List.length_map, hf, seenL_map, List.getElem?_map]
    split
    · rfl
    · rw [map_set_opt]
  | insert t =>
    unfold ledC; simp only [List.length_map]
    split
    · simp [List.map_take, List.map_drop]
    · rfl
  | delete t k =>
    unfold ledC; simp only [List.length_map, join_map, map_erase_opt, isGap_map]
    split
    · rfl
    · split
      · rw [map_set_opt]
      · rfl
  | copy t u =>
    unfold ledC; simp only [List.length_map, join_map]
    split
    · rfl
    · rw [map_set_opt]
  | swap t =>
    unfold ledC; simp only [List.length_map, join_map]
    split
    · rfl
    · simp [List.map_take, List.map_drop]
theorem runC_map {f : α → β} {lv : Int → α} {lw : Int → β} (hf : ∀ i, lw i = f (lv i)) {z : Str} : ∀ {ss : List Sp} {cs : List (Option α)}, runC lw ss z (cs.map (Option.map f)) = (runC lv ss z cs).map (Option.map f)
  | [], cs => rfl
  | s :: ss, cs => by
    have := runC_map hf (z := z) (ss := ss) (cs := ledC lv s z cs)
    simp only [runC, List.foldl_cons] at this ⊢
    rw [ledC_map hf, this]
end
theorem mvs_append {cs1 cs2 : List Str} {r1 r2 : Row} (h : r1.length = cs1.length) : mvs (cs1 ++ cs2) (r1 ++ r2) = mvs cs1 r1 ++ mvs cs2 r2 := by
  induction cs1 generalizing r1 with
  | nil =>
    have : r1 = [] := List.length_eq_zero_iff.mp h
    subst this; rfl
  | cons c cs ih =>
    cases r1 with
    | nil => simp at h
    | cons x r =>
      have h' : r.length = cs.length := by simpa using h
      cases x with
      | none => simp only [List.cons_append, mvs]; exact ih h'
      | some l => simp only [List.cons_append, mvs]; rw [ih h']
/-- refs to lists, one by one -/
inductive Refs (G : DHp) : List D → List (List D) → Prop
  | nil : Refs G [] []
  | cons {p : Addr} {xs : List D} {r : List D} {l : List (List D)} : G p = some (.lst xs) → Refs G r l → Refs G (.ref p :: r) (xs :: l)
theorem Refs.ext {G G' : DHp} (e : Ext G G') {r : List D} {l : List (List D)} (h : Refs G r l) : Refs G' r l := by
  induction h with
  | nil => exact .nil
  | cons h1 _ ih => exact .cons (e _ _ h1) ih
theorem Refs.snoc {G : DHp} {p : Addr} {xs : List D} {r : List D} {l : List (List D)} (h : Refs G r l) (hp : G p = some (.lst xs)) : Refs G (r ++ [.ref p]) (l ++ [xs]) := by
  induction h with
  | nil => exact .cons hp .nil
  | cons h1 _ ih => exact .cons h1 ih
theorem Refs.length {G : DHp} {r : List D} {l : List (List D)} (h : Refs G r l) : r.length = l.length := by
  induction h with
  | nil => rfl
  | cons _ _ ih => simp [ih]
def ledK (ss : List Sp) (chs : List Str) (rs : List Row) (z : Str) : List D := (runC Sum.inl ss z ((cellsZ chs rs z).map (Option.map Sum.inl))).map ckD
theorem ledK_col {ss : List Sp} {chs : List Str} {rs : List Row} {j : Nat} {z : Str} (nd : chs.Nodup) (hw : ∀ r ∈ rs, r.length = chs.length) (hz : chs[j]? = some z) : ledK ss chs rs z = (colR j (runR chs ss rs)).map levD := by
  unfold ledK
  rw [cellsZ_col nd hw hz, runC_map (lv := id) (lw := (Sum.inl : Int → Key)) (f := (Sum.inl : Int → Key)) (fun i => rfl), ← run_col nd hw hz, List.map_map]
  exact List.map_congr_left fun c _ => ckD_lev
theorem levD_cells {l : List (Option Int)} : l.map levD = (l.map (Option.map (Sum.inl : Int → Key))).map ckD := by
  rw [List.map_map]; exact List.map_congr_left fun c _ => ckD_lev.symm
theorem isTF.walk {chd : D} {chs : List Str} (h : isTF chd chs) : ∀ G, walkD G chd = some (chs.map .str) := by
  intro G; rcases h with rfl | rfl <;> simp
theorem isTF.len {chd : D} {chs : List Str} (h : isTF chd chs) : ∀ G Q, dLen [chd] G Q = Q (.int (chs.length : Nat)) G := by
  intro G Q; rcases h with rfl | rfl <;> simp
theorem isTF.kT {chd : D} {chs : List Str} (h : isTF chd chs) {Q : List D → (DHp → Prop) → DHp → Prop} {G : DHp} : kTupI Q chd G = Q (chs.map .str) (fun _ => True) G := by
  rcases h with rfl | rfl <;> simp
abbrev sp__law_edited : DSp := sp2 fun sc sh G Q _ => ∃ (ss : List Sp) (chd : D) (chs : List Str) (rs : List Row), sc = .tup (ss.map spD) ∧ sh = .tup [chd, .tup (rs.map (cueR chs))] ∧ isTF chd chs ∧ chs ≠ [] ∧ chs.Nodup ∧ chs.length ≤ 900 ∧ (∀ r ∈ rs, r.length = chs.length) ∧ rs.length + ss.length ≤ 900 ∧
  ∀ G', Ext G G' → Q (.tup [chd, .tup ((runR chs ss rs).map (cueR chs))]) G'
def b__law_edited  (E : DXK) : WS :=
  (wSeq (wAsg (wLc [6] (wiTup (wOp dIx (wVar 1) (wC (.int 0)))) (wgName 6) wtYes (wCall sp__law_led (noX) (wCons (wVar 0) (wCons (wVar 6) (wCons (wCall sp__law_cells (noX) (wCons (wVar 1) (wCons (wVar 6) wNil))) wNil))))) (wgName 2))
  (wSeq (wAsg (wTup wNil) (wgName 3))
  (wSeq (wFor (wiRng1 (wCons (wCB dLen (wCons (wOp dIx (wVar 2) (wC (.int 0))) wNil)) wNil)) (wgName 4) (wSeq (wAsg (wTup wNil) (wgName 5))
  (wSeq (wFor (wiZip (wCons (wOp dIx (wVar 1) (wC (.int 0))) (wCons (wVar 2) wNil))) (wgTup 2 (wgCons (wgName 6) (wgCons (wgName 7) wgNil))) (wAsg (wOp dAdd (wVar 5) (wOp dMul (wTup (wCons (wTup (wCons (wVar 6) (wCons (wOp dIx (wVar 7) (wVar 4)) wNil))) wNil)) (wCB dInt1 (wCons (wOp (dIsN true) (wOp dIx (wVar 7) (wVar 4)) (wC .non)) wNil)))) (wgName 5)))
  (wAsg (wOp dAdd (wVar 3) (wTup (wCons (wVar 5) wNil))) (wgName 3)))))
  (wRet (wTup (wCons (wOp dIx (wVar 1) (wC (.int 0))) (wCons (wVar 3) wNil)))))))
abbrev N__law_edited : List Str := ["script", "show", "rows", "cues", "at", "cue", "channel", "row"]
abbrev Okb__law_edited  (sp : DSp) : Prop := ∀ ds G Q E, sp ds G Q E → b__law_edited  E { nx := fun _ G' => Q .non G', rt := Q } (startD N__law_edited ds) G
theorem ok__law_edited : Okb__law_edited sp__law_edited := by
  intro ds G Q E h0
  obtain ⟨sc, sh, rfl, ss, chd, chs, rs, rfl, rfl, htf, hne, nd, hcl, hw, hl, h⟩ := sp2_inv h0
  clear h0
  simp [b__law_edited, startD, htf.kT]
  refine lcW_rule (fun r acc G1 => ∃ (dn rest : List Str), chs = dn ++ rest ∧ r = rest.map .str ∧ Ext G G1 ∧ Refs G1 acc (dn.map (ledK ss chs rs))) ?_ ?_ ⟨[], chs, rfl, rfl, .refl, .nil⟩
  · rintro x r acc G1 K ⟨dn, rest, e1, e2, ex, rf⟩ hK
    refine ⟨trivial, ?_⟩
    cases rest with
    | nil => cases e2
    | cons z rest =>
      obtain ⟨rfl, rfl⟩ := List.cons.inj e2
      simp
      refine ⟨_, chs, rs, ⟨rfl, rfl⟩, nd, by omega, fun p G2 _ ex2 gp => ⟨ss, rfl, (cellsZ chs rs z).map (Option.map Sum.inl), by rw [gp, levD_cells], by simp [cellsZ]; omega, fun q G3 _ ex3 gq => ?_⟩⟩
      have := rf.length
      have hdl := congrArg List.length e1
      simp at this hdl
      refine ⟨by omega, hK _ _ ⟨dn ++ [z], rest, by simp [e1], rfl, ex.trans (ex2.trans ex3), ?_⟩⟩
      rw [List.map_append]
      exact (rf.ext (ex2.trans ex3)).snoc gq
  · rintro acc G1 ⟨dn, rest, e1, e2, ex, rf⟩
    refine ⟨trivial, fun pr hpr => ?_⟩
    have : rest = [] := by simpa using e2.symm
    subst this
    simp at e1
    subst e1
    have exr := ex.trans (Ext.new (o := .lst acc) hpr)
    have rfr := rf.ext (Ext.new (o := .lst acc) hpr)
    have gr : updD G1 pr (.lst acc) pr = some (.lst acc) := updD_same
    generalize updD G1 pr (.lst acc) = G2 at *
    obtain ⟨z0, hz0⟩ : ∃ z0, chs[0]? = some z0 := by
      cases chs with
      | nil => exact absurd rfl hne
      | cons c cs => exact ⟨c, rfl⟩
    have hN : ∀ j z, chs[j]? = some z → ledK ss chs rs z = (colR j (runR chs ss rs)).map levD := fun j z hz => ledK_col nd hw hz
    obtain ⟨p0, g0, a0⟩ : ∃ p0, acc[0]? = some (.ref p0) ∧ G2 p0 = some (.lst (ledK ss chs rs z0)) := by
      cases chs with
      | nil => cases hz0
      | cons c cs =>
        have : c = z0 := by simpa using hz0
        subst this
        cases rfr with
        | cons h1 _ => exact ⟨_, rfl, h1⟩
    refine ⟨_, gr, ?_⟩
    rw [pick_0, g0, must_some, dLen_ref]
    refine ⟨_, a0, ?_⟩
    rw [hN 0 z0 hz0]
    have hlenN := runR_length (chs := chs) (ss := ss) (rs := rs)
    have hwN := runR_wide (chs := chs) (ss := ss) hw
    generalize runR chs ss rs = rsN at *
    simp
    refine ⟨by omega, ?_⟩
    refine forW_rule (fun r ρ G' => ∃ (m : Nat) (o4 o5 o6 o7 : Option D), r = intsD (m : Int) (rsN.length - m) ∧ m ≤ rsN.length ∧ Ext G2 G' ∧
        ρ = [some (.tup (ss.map spD)), some (.tup [chd, .tup (rs.map (cueR chs))]), some (.ref pr), some (.tup ((rsN.take m).map (cueR chs))), o4, o5, o6, o7]) ?_ ?_ ⟨0, none, none, none, none, by simp, by omega, .refl, by simp⟩
    · rintro x r ρ G3 nx ⟨m, o4, o5, o6, o7, e2, hm, ex3, rfl⟩ hnx
      refine ⟨trivial, ?_⟩
      have hm' : m < rsN.length := by
        by_cases q : m < rsN.length
        · exact q
        · have : rsN.length - m = 0 := by omega
          rw [this] at e2; cases e2
      have hsucc : intsD (m : Int) (rsN.length - m) = .int (m : Int) :: intsD ((m + 1 : Nat) : Int) (rsN.length - (m + 1)) := by
        have : rsN.length - m = (rsN.length - (m + 1)) + 1 := by omega
        rw [this]
        unfold intsD
        rw [List.range_succ_eq_map, List.map_cons, List.map_map]
        simp only [Int.natCast_zero, Int.add_zero]
        congr 1
        refine List.map_congr_left fun i _ => ?_
        simp; omega
      rw [hsucc] at e2
      obtain ⟨rfl, rfl⟩ := List.cons.inj e2
      simp
      refine ⟨_, htf.walk _, _, walkD_ref (ex3 _ _ gr), ?_⟩
      have hrow : rsN[m]? = some rsN[m] := List.getElem?_eq_getElem hm'
      have hwrow : (rsN[m]).length = chs.length := hwN _ (List.getElem_mem hm')
      have rf3 := rfr.ext ex3
      refine forW_rule (fun r2 ρ G' => ∃ (cs1 cs2 : List Str) (r1 r2' : Row) (ac : List D) (o6 o7 : Option D), chs = cs1 ++ cs2 ∧ rsN[m] = r1 ++ r2' ∧ r1.length = cs1.length ∧ Refs G3 ac (cs2.map (ledK ss chs rs)) ∧ r2 = zipD (cs2.map .str) ac ∧ Ext G3 G' ∧
          ρ = [some (.tup (ss.map spD)), some (.tup [chd, .tup (rs.map (cueR chs))]), some (.ref pr), some (.tup ((rsN.take m).map (cueR chs))), some (.int m), some (.tup ((mvs cs1 r1).map mvD)), o6, o7]) ?_ ?_
        ⟨[], chs, [], rsN[m], acc, o6, o7, rfl, rfl, rfl, rf3, rfl, .refl, by simp [mvs, List.map_take]⟩
      · rintro y r2 ρ G4 nx2 ⟨cs1, cs2, r1, r2', ac, o6, o7, f1, f2, f3, rfa, f4, ex4, rfl⟩ hnx2
        refine ⟨⟨htf.walk _, walkD_ref (ex4 _ _ (ex3 _ _ gr))⟩, ?_⟩
        cases cs2 with
        | nil => cases f4
        | cons z cs2 =>
          cases rfa with
          | cons hq rfa =>
            rename_i q ac
            simp only [List.map_cons, zipD, List.zipWith_cons_cons] at f4
            obtain ⟨rfl, rfl⟩ := List.cons.inj f4
            have hz : chs[cs1.length]? = some z := by rw [f1]; simp
            have hq4 := ex4 _ _ hq
            rw [hN _ z hz] at hq4
            have flen : r2'.length = cs2.length + 1 := by
              have a1 := congrArg List.length f1
              have a2 := congrArg List.length f2
              simp at a1 a2; omega
            cases r2' with
            | nil => simp at flen
            | cons c r2' =>
              have hc : pick ((colR cs1.length rsN).map levD) (m : Int) = some (levD c) := by
                rw [pick_nat, List.getElem?_map, colR_at, hrow, f2, ← f3]; simp
              have hml : (mvs cs1 r1).length ≤ 900 := by
                have := mvs_len (chs := cs1) (r := r1)
                have a1 := congrArg List.length f1
                simp at a1; omega
              have fin : ∀ G5, Ext G4 G5 → nx2 [some (.tup (ss.map spD)), some (.tup [chd, .tup (rs.map (cueR chs))]), some (.ref pr), some (.tup ((rsN.take m).map (cueR chs))), some (.int m), some (.tup ((mvs (cs1 ++ [z]) (r1 ++ [c])).map mvD)), some (.str z), some (.ref q)] G5 := fun G5 ex5 =>
                hnx2 _ _ ⟨cs1 ++ [z], cs2, r1 ++ [c], r2', ac, _, _, by simp [f1], by simp [f2], by simp [f3], rfa, rfl, ex4.trans ex5, rfl⟩
              rw [mvs_append f3] at fin
              simp [hq4, hc]
              cases c with
              | none =>
                simp [levD, mvs] at fin ⊢
                exact ⟨by omega, fin G4 .refl⟩
              | some l =>
                simp [levD, mvs, mvD] at fin ⊢
                exact ⟨by omega, fin G4 .refl⟩
      · rintro ρ G4 ⟨cs1, cs2, r1, r2', ac, o6, o7, f1, f2, f3, rfa, f4, ex4, rfl⟩
        refine ⟨⟨htf.walk _, walkD_ref (ex4 _ _ (ex3 _ _ gr))⟩, ?_⟩
        cases cs2 with
        | cons z cs2 =>
          cases rfa with
          | cons hq rfa => cases f4
        | nil =>
          simp at f1
          subst f1
          have : r2' = [] := by
            have a2 := congrArg List.length f2
            simp at a2
            exact List.length_eq_zero_iff.mp (by omega)
          subst this
          simp at f2
          subst f2
          simp
          refine ⟨by omega, hnx _ _ ⟨m + 1, some (.int m), some (.tup ((mvs chs rsN[m]).map mvD)), o6, o7, rfl, by omega, ex3.trans ex4, ?_⟩⟩
          have et : (rsN.take (m + 1)).map (cueR chs) = (rsN.take m).map (cueR chs) ++ [cueR chs rsN[m]] := by rw [List.take_succ, hrow, List.map_append]; rfl
          rw [et]
          simp [cueR, List.map_take]
    · rintro ρ G3 ⟨m, o4, o5, o6, o7, e2, hm, ex3, rfl⟩
      refine ⟨trivial, ?_⟩
      have : rsN.length - m = 0 := by
        have := congrArg List.length e2
        simpa using this.symm
      have hmm : rsN.length ≤ m := by omega
      rw [List.take_of_length_le hmm]
      simp
      exact h G3 (exr.trans ex3)
end TC
set_option maxRecDepth 100000
set_option maxHeartbeats 4000000
/-! SX: _law_views. -/
namespace TC
open PySem PySem.Spec PyProof.Rows L2
def seenK (chs : List Str) (rs : List Row) (z : Str) : List D := (seenL 0 (cellsZ chs rs z)).map .int
theorem seenK_eq {chs : List Str} {rs : List Row} {z : Str} : (seenL k0 ((cellsZ chs rs z).map (Option.map Sum.inl))).map keyD = seenK chs rs z := by
  have := seenL_map (f := (Sum.inl : Int → Key)) (l := cellsZ chs rs z) (p := 0)
  rw [this, List.map_map]
  rfl
theorem intsD_succ {m n : Nat} (h : m < n) : intsD (m : Int) (n - m) = .int (m : Int) :: intsD ((m + 1 : Nat) : Int) (n - (m + 1)) := by
  have : n - m = (n - (m + 1)) + 1 := by omega
  rw [this]
  unfold intsD
  rw [List.range_succ_eq_map, List.map_cons, List.map_map]
  simp only [Int.natCast_zero, Int.add_zero]
  congr 1
  refine List.map_congr_left fun i _ => ?_
  simp; omega
theorem intsD_end {m n : Nat} {x : D} {r : List D} (h : x :: r = intsD (m : Int) (n - m)) : m < n := by
  by_cases q : m < n
  · exact q
  · have : n - m = 0 := by omega
    rw [this] at h; cases h
abbrev sp__law_views : DSp := sp1 fun sh G Q _ => ∃ (chd : D) (chs : List Str) (rs : List Row), sh = .tup [chd, .tup (rs.map (cueR chs))] ∧ isTF chd chs ∧ chs.Nodup ∧ chs.length ≤ 900 ∧ (∀ r ∈ rs, r.length = chs.length) ∧ rs.length ≤ 900 ∧
  ∀ p G', G p = none → Ext G G' → G' p = some (.lst (((looksOf chs (rs.map (mvs chs))).drop 1).map intsT)) → Q (.ref p) G'
def b__law_views  (E : DXK) : WS :=
  (wSeq (wAsg (wLc [2] (wiTup (wOp dIx (wVar 0) (wC (.int 0)))) (wgName 2) wtYes (wCall sp__law_seen (noX) (wCons (wCall sp__law_cells (noX) (wCons (wVar 0) (wCons (wVar 2) wNil))) wNil))) (wgName 1))
  (wRet (wLc [3] (wiRng1 (wCons (wCB dLen (wCons (wOp dIx (wVar 0) (wC (.int 1))) wNil)) wNil)) (wgName 3) wtYes (wCB dTuple (wCons (wLc [4] (wiLst (wVar 1)) (wgName 4) wtYes (wOp dIx (wVar 4) (wOp dAdd (wVar 3) (wC (.int 1))))) wNil)))))
abbrev N__law_views : List Str := ["show", "rows", "channel", "at", "row"]
abbrev Okb__law_views  (sp : DSp) : Prop := ∀ ds G Q E, sp ds G Q E → b__law_views  E { nx := fun _ G' => Q .non G', rt := Q } (startD N__law_views ds) G
theorem ok__law_views : Okb__law_views sp__law_views := by
  intro ds G Q E h0
  obtain ⟨sh, rfl, chd, chs, rs, rfl, htf, nd, hcl, hw, hl, h⟩ := sp1_inv h0
  clear h0
  simp [b__law_views, startD, htf.kT]
  refine lcW_rule (fun r acc G1 => ∃ (dn rest : List Str), chs = dn ++ rest ∧ r = rest.map .str ∧ Ext G G1 ∧ Refs G1 acc (dn.map (seenK chs rs))) ?_ ?_ ⟨[], chs, rfl, rfl, .refl, .nil⟩
  · rintro x r acc G1 K ⟨dn, rest, e1, e2, ex, rf⟩ hK
    refine ⟨trivial, ?_⟩
    cases rest with
    | nil => cases e2
    | cons z rest =>
      obtain ⟨rfl, rfl⟩ := List.cons.inj e2
      simp
      refine ⟨_, chs, rs, ⟨rfl, rfl⟩, nd, by omega, fun p G2 _ ex2 gp => ⟨(cellsZ chs rs z).map (Option.map Sum.inl), by rw [gp, levD_cells], by simp [cellsZ]; omega, fun q G3 _ ex3 gq => ?_⟩⟩
      have := rf.length
      have hdl := congrArg List.length e1
      simp at this hdl
      rw [seenK_eq] at gq
      refine ⟨by omega, hK _ _ ⟨dn ++ [z], rest, by simp [e1], rfl, ex.trans (ex2.trans ex3), ?_⟩⟩
      rw [List.map_append]
      exact (rf.ext (ex2.trans ex3)).snoc gq
  · rintro acc G1 ⟨dn, rest, e1, e2, ex, rf⟩
    refine ⟨trivial, fun pr hpr => ?_⟩
    have : rest = [] := by simpa using e2.symm
    subst this
    simp at e1
    subst e1
    have exr := ex.trans (Ext.new (o := .lst acc) hpr)
    have rfr := rf.ext (Ext.new (o := .lst acc) hpr)
    have gr : updD G1 pr (.lst acc) pr = some (.lst acc) := updD_same
    generalize updD G1 pr (.lst acc) = G2 at *
    refine ⟨by omega, ?_⟩
    have hlk : (looksOf chs (rs.map (mvs chs))).length = rs.length + 1 := by rw [looksOf_length]; simp
    refine lcW_rule (fun r acc' G' => ∃ m : Nat, r = intsD (m : Int) (rs.length - m) ∧ m ≤ rs.length ∧ Ext G2 G' ∧ acc' = (((looksOf chs (rs.map (mvs chs))).drop 1).take m).map intsT) ?_ ?_ ⟨0, by simp, by omega, .refl, by simp⟩
    · rintro x r acc' G3 K ⟨m, e2, hm, ex3, rfl⟩ hK
      refine ⟨trivial, ?_⟩
      have hm' : m < rs.length := intsD_end e2
      rw [intsD_succ hm'] at e2
      obtain ⟨rfl, rfl⟩ := List.cons.inj e2
      obtain ⟨lk, hlk1, hlk2⟩ := look_there (chs := chs) (rs := rs) (t := m + 1) (by omega)
      have hd1 : ((looksOf chs (rs.map (mvs chs))).drop 1)[m]? = some lk := by rw [List.getElem?_drop, Nat.add_comm]; exact hlk1
      simp
      refine ⟨_, ex3 _ _ gr, ?_⟩
      have rf3 := rfr.ext ex3
      refine lcW_rule (fun r2 ac2 G' => ∃ (cs1 cs2 : List Str) (l1 l2 : List Int), chs = cs1 ++ cs2 ∧ lk = l1 ++ l2 ∧ l1.length = cs1.length ∧ Refs G3 r2 (cs2.map (seenK chs rs)) ∧ ac2 = l1.map .int ∧ Ext G3 G') ?_ ?_
        ⟨[], chs, [], lk, rfl, rfl, rfl, rf3, rfl, .refl⟩
      · rintro y r2 ac2 G4 K2 ⟨cs1, cs2, l1, l2, f1, f2, f3, rfa, rfl, ex4⟩ hK2
        refine ⟨ex4 _ _ (ex3 _ _ gr), ?_⟩
        cases cs2 with
        | nil => cases rfa
        | cons z cs2 =>
          cases rfa with
          | cons hq rfa =>
            rename_i q
            have hz : chs[cs1.length]? = some z := by rw [f1]; simp
            have hq4 := ex4 _ _ hq
            obtain ⟨lk', lv, g1, g2, g3, g4⟩ := look_at nd hw hz (t := m + 1) (by omega)
            rw [hlk1] at g1
            cases g1
            have flen : l2.length = cs2.length + 1 := by
              have a1 := congrArg List.length f1
              have a2 := congrArg List.length f2
              simp at a1 a2; omega
            cases l2 with
            | nil => simp at flen
            | cons v l2 =>
              have hv : v = lv := by
                rw [f2, ← f3] at g3
                simpa using g3
              subst hv
              unfold seenK at hq4
              rw [cellsZ_col nd hw hz] at hq4
              have hp : pick ((seenL 0 (colR cs1.length rs)).map D.int) ((m : Int) + 1) = some (.int v) := by
                have : (m : Int) + 1 = ((m + 1 : Nat) : Int) := by omega
                rw [this, pick_nat, List.getElem?_map, g4]; rfl
              simp [hq4, hp]
              have a1 := congrArg List.length f1
              simp at a1
              refine ⟨by omega, hK2 _ _ ⟨cs1 ++ [z], cs2, l1 ++ [v], l2, by simp [f1], by simp [f2], by simp [f3], rfa, by simp, ex4⟩⟩
      · rintro ac2 G4 ⟨cs1, cs2, l1, l2, f1, f2, f3, rfa, rfl, ex4⟩
        refine ⟨ex4 _ _ (ex3 _ _ gr), fun p4 hp4 => ?_⟩
        cases cs2 with
        | cons z cs2 => cases rfa
        | nil =>
          simp at f1
          subst f1
          have : l2 = [] := by
            have a2 := congrArg List.length f2
            simp at a2
            exact List.length_eq_zero_iff.mp (by omega)
          subst this
          simp at f2
          subst f2
          rw [dTuple_ref updD_same]
          refine ⟨by omega, hK _ _ ⟨m + 1, rfl, by omega, ex3.trans (ex4.trans (Ext.new hp4)), ?_⟩⟩
          rw [List.take_succ, hd1]
          simp [intsT]
    · rintro acc' G3 ⟨m, e2, hm, ex3, rfl⟩
      refine ⟨trivial, fun p hp => ?_⟩
      have h0 : rs.length - m = 0 := by
        have := congrArg List.length e2
        simpa using this.symm
      have hall : ((looksOf chs (rs.map (mvs chs))).drop 1).take m = (looksOf chs (rs.map (mvs chs))).drop 1 := List.take_of_length_le (by rw [List.length_drop]; omega)
      rw [hall] at *
      have e03 := exr.trans ex3
      exact h p _ (e03.free hp) (e03.trans (Ext.new hp)) updD_same
end TC
set_option maxRecDepth 100000
set_option maxHeartbeats 2000000
/-! SY: drawn shows and scripts by rows; they stay shows. -/
namespace TC
open PySem PySem.Spec PyProof.Rows L2
section
variable {α : Type}
/-- all cells that are there -/
def AllC (P : α → Prop) (cs : List (Option α)) : Prop := ∀ x, some x ∈ cs → P x
theorem AllC.at_ {P : α → Prop} {cs : List (Option α)} (h : AllC P cs) {i : Nat} {x : α} (e : (cs[i]?).join = some x) : P x := by
  cases q : cs[i]? with
  | none => rw [q] at e; cases e
  | some c =>
    rw [q] at e
    have : c = some x := e
    subst this
    exact h x (List.mem_of_getElem? q)
theorem AllC.set {P : α → Prop} {cs : List (Option α)} (h : AllC P cs) {i : Nat} {c : Option α} (hc : ∀ x, c = some x → P x) : AllC P (cs.set i c) := fun x hx => by
  rcases List.mem_or_eq_of_mem_set hx with q | q
  · exact h x q
  · exact hc x q.symm
theorem AllC.seen {P : α → Prop} : ∀ {cs : List (Option α)} {p : α}, AllC P cs → P p → ∀ x ∈ seenL p cs, P x
  | [], p, _, hp, x, hx => by rw [seenL] at hx; rw [List.mem_singleton.mp hx]; exact hp
  | c :: cs, p, h, hp, x, hx => by
    rw [seenL] at hx
    rcases List.mem_cons.mp hx with rfl | hx
    · exact hp
    · refine AllC.seen (fun y hy => h y (List.mem_cons_of_mem _ hy)) ?_ x hx
      cases c with
      | none => exact hp
      | some y => exact h y (List.mem_cons_self ..)
theorem AllC.hold {P : α → Prop} {lv : Int → α} {cs f : List (Option α)} {t : Nat} {o : Bool} (h : AllC P cs) (hf : AllC P f) (h0 : P (lv 0)) : AllC P (holdC lv cs f t o) := by
  unfold holdC; split
  · exact hf.set fun x hx => h.seen h0 x (List.mem_of_getElem? hx)
  · exact hf
def SpLv (P : α → Prop) (lv : Int → α) : Sp → Prop
  | .set _ _ l _ => P (lv l)
  | _ => True
theorem AllC.led {P : α → Prop} {lv : Int → α} {cs : List (Option α)} {s : Sp} {z : Str} (h : AllC P cs) (h0 : P (lv 0)) (hs : SpLv P lv s) : AllC P (ledC lv s z cs) := by
  cases s with
  | set t y l o =>
    unfold ledC; simp only; split
    · exact h
    · exact h.hold (h.set fun x hx => by cases hx; exact hs) h0
  | clear t y o =>
    unfold ledC; simp only; split
    · exact h
    · exact h.hold (h.set fun x hx => by cases hx) h0
  | block t =>
    unfold ledC; simp only; split
    · exact h
    · exact h.set fun x hx => h.seen h0 x (List.mem_of_getElem? hx)
  | insert t =>
    unfold ledC; simp only; split
    · intro x hx
      rcases List.mem_append.mp hx with q | q
      · exact h x (List.mem_of_mem_take q)
      · rcases List.mem_cons.mp q with q | q
        · cases q
        · exact h x (List.mem_of_mem_drop q)
    · exact h
  | delete t k =>
    unfold ledC; simp only; split
    · exact h
    · have he : AllC P (cs.eraseIdx t) := fun x hx => h x (List.mem_of_mem_eraseIdx hx)
      split
      · exact he.set fun x hx => h.at_ hx
      · exact he
  | copy t u =>
    unfold ledC; simp only; split
    · exact h
    · exact h.set fun x hx => h.at_ hx
  | swap t =>
    unfold ledC; simp only; split
    · exact h
    · intro x hx
      rcases List.mem_append.mp hx with q | q
      · exact h x (List.mem_of_mem_take q)
      · rcases List.mem_cons.mp q with q | q
        · exact h.at_ q.symm
        · rcases List.mem_cons.mp q with q | q
          · exact h.at_ q.symm
          · exact h x (List.mem_of_mem_drop q)
theorem AllC.run {P : α → Prop} {lv : Int → α} {z : Str} (h0 : P (lv 0)) : ∀ {ss : List Sp} {cs : List (Option α)}, AllC P cs → (∀ s ∈ ss, SpLv P lv s) → AllC P (runC lv ss z cs)
  | [], cs, h, _ => h
  | s :: ss, cs, h, hs => AllC.run h0 (ss := ss) (h.led h0 (hs s (by simp))) fun q hq => hs q (by simp [hq])
end
/-- a level -/
def LvIn (l : Int) : Prop := 0 ≤ l ∧ l ≤ 100
structure ShowOk (chs : List Str) (rs : List Row) : Prop where
  cl : ∀ z ∈ chs, chanB (.str z) = true
  up : chs.Pairwise StrLt
  l1 : 1 ≤ chs.length
  l4 : chs.length ≤ 4
  wide : ∀ r ∈ rs, r.length = chs.length
  lv : ∀ r ∈ rs, AllC LvIn r
  few : rs.length ≤ 700
theorem strLt_irrefl (a : Str) : ¬ StrLt a a := fun h => List.lt_irrefl _ h
theorem up_nodup {chs : List Str} (h : chs.Pairwise StrLt) : chs.Nodup := h.imp fun {a b} q => fun e => by subst e; exact strLt_irrefl _ q
theorem ShowOk.nd {chs : List Str} {rs : List Row} (h : ShowOk chs rs) : chs.Nodup := up_nodup h.up
theorem ShowOk.chs {chs : List Str} {rs : List Row} (h : ShowOk chs rs) : ChsOk chs := ⟨h.up, h.nd, by have := h.l4; omega⟩
theorem ShowOk.ne {chs : List Str} {rs : List Row} (h : ShowOk chs rs) : chs ≠ [] := fun e => by have := h.l1; rw [e] at this; simp at this
theorem col_all {rs : List Row} {n : Nat} {P : Int → Prop} (hw : ∀ r ∈ rs, r.length = n) (h : ∀ j, j < n → AllC P (colR j rs)) : ∀ r ∈ rs, AllC P r := by
  intro r hr x hx
  obtain ⟨j, hj⟩ := List.getElem?_of_mem hx
  have hjl : j < n := by rw [← hw r hr]; exact (List.getElem?_eq_some_iff.mp hj).1
  refine h j hjl x ?_
  unfold colR
  exact List.mem_map.mpr ⟨r, hr, by rw [hj]; rfl⟩
theorem all_col {rs : List Row} {j : Nat} {P : Int → Prop} (h : ∀ r ∈ rs, AllC P r) : AllC P (colR j rs) := by
  intro x hx
  unfold colR at hx
  obtain ⟨r, hr, e⟩ := List.mem_map.mp hx
  refine h r hr x ?_
  cases q : r[j]? with
  | none => rw [q] at e; cases e
  | some c =>
    rw [q] at e
    have : c = some x := e
    subst this
    exact List.mem_of_getElem? q
theorem SpOk.lv {s : Sp} (h : SpOk s) : SpLv LvIn id s := by
  cases s with
  | set t z l o => exact ⟨h.2.2.1, h.2.2.2⟩
  | _ => trivial
theorem ShowOk.run {chs : List Str} {rs : List Row} {ss : List Sp} (h : ShowOk chs rs) (hs : ∀ s ∈ ss, SpOk s) (hl : rs.length + ss.length ≤ 700) : ShowOk chs (runR chs ss rs) where
  cl := h.cl
  up := h.up
  l1 := h.l1
  l4 := h.l4
  wide := runR_wide h.wide
  few := Nat.le_trans runR_length hl
  lv := by
    refine col_all (runR_wide h.wide) fun j hj => ?_
    have hz : chs[j]? = some chs[j] := List.getElem?_eq_getElem hj
    rw [run_col h.nd h.wide hz]
    exact AllC.run ⟨by show (0 : Int) ≤ 0; omega, by show (0 : Int) ≤ 100; omega⟩ (all_col h.lv) fun s q => (hs s q).lv
theorem mvs_all {P : Int → Prop} : ∀ {chs : List Str} {r : Row}, AllC P r → ∀ p ∈ mvs chs r, P p.2
  | [], r, _, p, hp => by cases r <;> simp [mvs] at hp
  | c :: cs, [], _, p, hp => by simp [mvs] at hp
  | c :: cs, none :: r, h, p, hp => by
    rw [mvs] at hp
    exact mvs_all (fun x hx => h x (List.mem_cons_of_mem _ hx)) p hp
  | c :: cs, some l :: r, h, p, hp => by
    rw [mvs] at hp
    rcases List.mem_cons.mp hp with rfl | hp
    · exact h l (List.mem_cons_self ..)
    · exact mvs_all (fun x hx => h x (List.mem_cons_of_mem _ hx)) p hp
theorem mvs_sub : ∀ {chs : List Str} {r : Row}, ((mvs chs r).map (·.1)).Sublist chs
  | [], r => by cases r <;> simp [mvs]
  | c :: cs, [] => by simp [mvs]
  | c :: cs, none :: r => by rw [mvs]; exact (mvs_sub (r := r)).cons _
  | c :: cs, some l :: r => by rw [mvs, List.map_cons]; exact (mvs_sub (r := r)).cons₂ _
theorem cueR_P {chs : List Str} {r : Row} (h : AllC LvIn r) : CueP chs (cueR chs r) := by
  refine ⟨_, rfl, ?_, ?_⟩
  · rw [List.all_eq_true]
    intro m hm
    obtain ⟨p, hp, rfl⟩ := List.mem_map.mp hm
    have h1 := mvs_fst hp
    have h2 := mvs_all h p hp
    simp only [mvD, moveB, Bool.and_eq_true, decide_eq_true_eq]
    exact ⟨h1, h2⟩
  · rw [List.map_map]
    exact mvs_sub
theorem chan_ok {z : Str} (h : chanB (.str z) = true) : PyData.strOk z = true ∧ z.length ≤ 8 := by
  simp only [chanB, Bool.and_eq_true, decide_eq_true_eq] at h
  obtain ⟨h1, h2, h3⟩ := h
  refine ⟨?_, h2⟩
  unfold PyData.strOk
  rw [Array.all_eq_true']
  intro c hc
  have hl : letB c = true := List.all_eq_true.mp h3 c (by simpa using hc)
  have hm : c ∈ (Str.ofString "abcdefghijklmnopqrstuvwxyz").cps := by simpa [letB] using hl
  have hs : PyData.strOk (Str.ofString "abcdefghijklmnopqrstuvwxyz") = true := by decide +kernel
  unfold PyData.strOk at hs
  exact (Array.all_eq_true'.mp hs) c hm
theorem ShowOk.wk {chs : List Str} {rs : List Row} (h : ShowOk chs rs) : TC.wk (showR chs rs) = .tup [.tup (chs.map .str), .tup (rs.map (cueR chs))] := by
  unfold showR
  exact show_wk fun u hu => by
    obtain ⟨r, hr, rfl⟩ := List.mem_map.mp hu
    exact cueR_P (h.lv r hr)
theorem ShowOk.showB {chs : List Str} {rs : List Row} (h : ShowOk chs rs) : showB (TC.wk (showR chs rs)) = true := by
  rw [h.wk]
  have e : (chs.map D.str).map strOf = chs := by rw [List.map_map]; simp [Function.comp_def, strOf]
  have c2 : (chs.map D.str).all chanB = true := by
    rw [List.all_eq_true]
    intro d hd
    obtain ⟨z, hz, rfl⟩ := List.mem_map.mp hd
    exact h.cl z hz
  have : (rs.map (cueR chs)).all (TC.cueB chs) = true := List.all_eq_true.mpr fun u hu => by
    obtain ⟨r, hr, rfl⟩ := List.mem_map.mp hu
    exact (cueR_P (h.lv r hr)).cueB h.up
  have l1 := h.l1
  have l4 := h.l4
  simp only [TC.showB, c2, e, climbR_of h.up, Bool.true_and, List.length_map, this]
  simp; omega
theorem ShowOk.k0 {chs : List Str} {rs : List Row} (h : ShowOk chs rs) : K0 4 (TC.wk (showR chs rs)) := by
  rw [h.wk]
  have c5 : ∀ z ∈ chs, (PyData.strOk z && decide (z.length ≤ 1000000)) = true := fun z hz => by
    have := chan_ok (h.cl z hz)
    rw [this.1, Bool.true_and, decide_eq_true_eq]; omega
  have l4 := h.l4
  have few := h.few
  refine k0_tup (by simp) fun d hd => ?_
  simp only [List.mem_cons, List.not_mem_nil, or_false] at hd
  rcases hd with rfl | rfl
  · refine k0_tup (by simp; omega) fun d hd => ?_
    obtain ⟨z, hz, rfl⟩ := List.mem_map.mp hd
    exact k0_lit (c5 z hz)
  · refine k0_tup (by simp; omega) fun d hd => ?_
    obtain ⟨r, hr, rfl⟩ := List.mem_map.mp hd
    exact (cueR_P (h.lv r hr)).k0 l4 c5

theorem mvs_lev {chs : List Str} : ∀ {ms : List (Str × Int)}, chs.Nodup → (ms.map (·.1)).Sublist chs → mvs chs (chs.map (lev ms)) = ms := by
  induction chs with
  | nil =>
    intro ms _ h
    have : ms = [] := by simpa using List.sublist_nil.mp h
    subst this; rfl
  | cons c cs ih =>
    intro ms nd h
    rw [List.nodup_cons] at nd
    have skip : (ms.map (·.1)).Sublist cs → mvs (c :: cs) ((c :: cs).map (lev ms)) = ms := fun h' => by
      have no : lev ms c = none := lev_none fun p hp e => nd.1 (e ▸ h'.subset (List.mem_map_of_mem hp))
      rw [List.map_cons, no, mvs]
      exact ih nd.2 h'
    cases ms with
    | nil => exact skip (List.nil_sublist _)
    | cons p ms =>
      by_cases e : p.1 = c
      · subst e
        rw [List.map_cons] at h
        have h' := List.cons_sublist_cons.mp h
        have e1 : cs.map (lev (p :: ms)) = cs.map (lev ms) := List.map_congr_left fun z hz => by
          rw [lev, if_neg (show ¬ p.1 = z from fun q => nd.1 (by rw [q]; exact hz))]
        rw [List.map_cons, lev, if_pos rfl, mvs, e1, ih nd.2 h']
      · refine skip ?_
        rw [List.map_cons] at h ⊢
        cases h with
        | cons _ h' => exact h'
        | cons_cons _ h' => exact absurd rfl e
theorem lev_in {P : Int → Prop} {z : Str} {x : Int} : ∀ {ps : List (Str × Int)}, (∀ p ∈ ps, P p.2) → lev ps z = some x → P x
  | [], _, e => by cases e
  | p :: ps, hp, e => by
    rw [lev] at e
    split at e
    · cases e; exact hp p (by simp)
    · exact lev_in (fun q hq => hp q (by simp [hq])) e
theorem cue_row {chs : List Str} {u : D} (nd : chs.Nodup) (h : CueP chs u) : ∃ r, u = cueR chs r ∧ r.length = chs.length ∧ AllC LvIn r := by
  obtain ⟨ms, rfl, h1, h2⟩ := h
  have : ∃ ps : List (Str × Int), ms = ps.map mvD ∧ ∀ p ∈ ps, LvIn p.2 := by
    clear h2
    induction ms with
    | nil => exact ⟨[], rfl, fun _ h => absurd h List.not_mem_nil⟩
    | cons m ms ih =>
      rw [List.all_cons, Bool.and_eq_true] at h1
      obtain ⟨z, l, rfl, hz, h0, h100⟩ := moveB_true h1.1
      obtain ⟨ps, rfl, hp⟩ := ih h1.2
      refine ⟨(z, l) :: ps, rfl, fun p hp' => ?_⟩
      rcases List.mem_cons.mp hp' with rfl | q
      · exact ⟨h0, h100⟩
      · exact hp p q
  obtain ⟨ps, rfl, hp⟩ := this
  have h3 : (ps.map (·.1)).Sublist chs := by
    rw [List.map_map] at h2
    exact h2
  refine ⟨chs.map (lev ps), by unfold cueR; rw [mvs_lev nd h3], by simp, ?_⟩
  intro x hx
  obtain ⟨z, _, e⟩ := List.mem_map.mp hx
  exact lev_in hp e
theorem ShowP.rows {j : Nat} {x : D} (h : ShowP j x) (hj : j ≤ 700) : ∃ chs rs, x = showR chs rs ∧ ShowOk chs rs ∧ chs ∈ chanLists ∧ rs.length ≤ j := by
  obtain ⟨chs, us, rfl, hc, hl, hu⟩ := h
  obtain ⟨c1, c2, c3, c4, c5⟩ := chanLists_ok chs hc
  have nd := up_nodup c1
  have : ∃ rs : List Row, us = rs.map (cueR chs) ∧ ∀ r ∈ rs, r.length = chs.length ∧ AllC LvIn r := by
    clear hl
    induction us with
    | nil => exact ⟨[], rfl, fun _ h => absurd h List.not_mem_nil⟩
    | cons u us ih =>
      obtain ⟨r, rfl, h1, h2⟩ := cue_row nd (hu u (by simp))
      obtain ⟨rs, rfl, h3⟩ := ih fun v hv => hu v (by simp [hv])
      refine ⟨r :: rs, rfl, fun q hq => ?_⟩
      rcases List.mem_cons.mp hq with rfl | hq
      · exact ⟨h1, h2⟩
      · exact h3 q hq
  obtain ⟨rs, rfl, hr⟩ := this
  rw [List.length_map] at hl
  refine ⟨chs, rs, rfl, ⟨fun z hz => ?_, c1, c3, c4, fun r h => (hr r h).1, fun r h => (hr r h).2, by omega⟩, hc, hl⟩
  rw [List.all_eq_true] at c2
  exact c2 _ (List.mem_map_of_mem hz)
theorem ScriptP.sp {j k : Nat} {x : D} (h : ScriptP j k x) (hk : k ≤ 5) : ∃ ss : List Sp, x = .tup (ss.map spD) ∧ ss.length ≤ j ∧ ∀ s ∈ ss, SpOk s := by
  obtain ⟨xs, rfl, hl, hx⟩ := h
  have : ∃ ss : List Sp, xs = ss.map spD ∧ ∀ s ∈ ss, SpOk s := by
    clear hl
    induction xs with
    | nil => exact ⟨[], rfl, fun _ h => absurd h List.not_mem_nil⟩
    | cons x xs ih =>
      obtain ⟨s, rfl, hs⟩ := stepB_sp ((hx x (by simp)).2 hk)
      obtain ⟨ss, rfl, h⟩ := ih fun y hy => hx y (by simp [hy])
      refine ⟨s :: ss, rfl, fun q hq => ?_⟩
      rcases List.mem_cons.mp hq with rfl | hq
      · exact hs
      · exact h q hq
  obtain ⟨ss, rfl, hs⟩ := this
  exact ⟨ss, rfl, by simpa using hl, hs⟩
theorem ScriptP.scriptB {j k : Nat} {x : D} (h : ScriptP j k x) (hk : k ≤ 5) (hj : j ≤ 4) : TC.scriptB x = true := by
  obtain ⟨xs, rfl, hl, hx⟩ := h
  rw [scriptB_tup, Bool.and_eq_true, decide_eq_true_eq, List.all_eq_true]
  exact ⟨by omega, fun d hd => (hx d hd).2 hk⟩
end TC
set_option maxRecDepth 100000
set_option maxHeartbeats 4000000
/-! SZ: known values; what is refused. -/
namespace TC
open PySem PySem.Spec PyProof.Rows L2
def knB : Nat → D → Bool
  | 0, d => match d with
    | .non => true
    | .bl _ => true
    | .int _ => true
    | .str x => PyData.strOk x && decide (x.length ≤ 1000000)
    | _ => false
  | n + 1, d => match d with
    | .non => true
    | .bl _ => true
    | .int _ => true
    | .str x => PyData.strOk x && decide (x.length ≤ 1000000)
    | .tup ds => decide (ds.length ≤ 1000) && ds.all (knB n)
    | _ => false
theorem knB_ok : ∀ {n : Nat} {d : D}, knB n d = true → K0 n d
  | 0, d, h => by
    cases d with
    | non => exact kn_non
    | bl _ => exact kn_bl
    | int _ => exact kn_int
    | str x => exact k0_lit h
    | _ => cases h
  | n + 1, d, h => by
    cases d with
    | non => exact kn_non
    | bl _ => exact kn_bl
    | int _ => exact kn_int
    | str x => exact k0_lit h
    | tup ds =>
      have h' : (decide (ds.length ≤ 1000) && ds.all (knB n)) = true := h
      rw [Bool.and_eq_true] at h'
      exact k0_tup (of_decide_eq_true h'.1) fun d hd => knB_ok (List.all_eq_true.mp h'.2 d hd)
    | _ => cases h
abbrev EditedPre (sc sh : D) (G : DHp) (A B : DHp → Prop) (Q : DK) : Prop := ∃ n m, n < 20 ∧ m < 20 ∧ Kn n G sc ∧ Kn m G (wk sh) ∧
  (scriptB sc = false → ∀ G', Ext G G' → A G') ∧ (scriptB sc = true → showB (wk sh) = false → ∀ G', Ext G G' → B G') ∧
  (scriptB sc = true → showB (wk sh) = true → ∃ (chs : List Str) (rs : List Row) (ss : List Sp), sc = .tup (ss.map spD) ∧ sh = showR chs rs ∧ ChsOk chs ∧ (∀ r ∈ rs, r.length = chs.length) ∧ rs.length + ss.length ≤ 800 ∧ ∀ G', Ext G G' → Q (showR chs (runR chs ss rs)) G')
abbrev sp__law_outcome_k11 : DSp := sp2 fun sc sh G Q _ => EditedPre sc sh G (fun G' => Q (.str "script!") G') (fun G' => Q (.str "show!") G') Q
def b__law_outcome_k11 (K : W.Frag) (C : ExC) (E : DXK) : WS :=
  (wTryM K [(.ref C.InvalidScript, (wRet (wC (.str "script!")))), (.ref C.InvalidShow, (wRet (wC (.str "show!"))))] (fun _ => E) (fun U1 => (wRet (wCall (sp_edited C.InvalidScript C.InvalidShow) (U1) (wCons (wVar 0) (wCons (wVar 1) wNil))))))
abbrev N__law_outcome_k11 : List Str := ["steps", "show"]
abbrev Okb__law_outcome_k11 (K : W.Frag) (C : ExC) (sp : DSp) : Prop := ∀ ds G Q E, sp ds G Q E → b__law_outcome_k11 K C E { nx := fun _ G' => Q .non G', rt := Q } (startD N__law_outcome_k11 ds) G
theorem ok__law_outcome_k11 {K : PySem.W.Frag} {C : ExC} (h1 : PySem.W.exmOne K (.ref C.InvalidScript) (.ref C.InvalidScript) = some true) (h2 : PySem.W.exmOne K (.ref C.InvalidShow) (.ref C.InvalidScript) = some false) (h3 : PySem.W.exmOne K (.ref C.InvalidShow) (.ref C.InvalidShow) = some true) : Okb__law_outcome_k11 K C sp__law_outcome_k11 := by
  intro ds G Q E h0
  obtain ⟨sc, sh, rfl, n, m, hn, hm, k1, k2, f1, f2, f3⟩ := sp2_inv h0
  clear h0
  simp [b__law_outcome_k11, startD, wTryM]
  refine ⟨n, hn, m, hm, k1, k2, fun hb G1 e1 => ⟨true, h1, fun _ => f1 hb G1 e1, fun h => by cases h⟩, fun hb hb2 G1 e1 => ⟨false, h2, (fun h => by cases h), fun _ => ⟨true, h3, fun _ => f2 hb hb2 G1 e1, fun h => by cases h⟩⟩, fun hb hb2 => ?_⟩
  exact f3 hb hb2
abbrev sp__law_no_cue : DSp := sp2 fun sh cu G Q _ => ∃ n m, n < 20 ∧ Kn n G (wk sh) ∧ Kn m G cu ∧ showB (wk sh) = true ∧ ∃ (chd : D) (chs : List Str) (mss : List (List (Str × Int))), sh = .tup [chd, .tup (mss.map cueD)] ∧ isTF chd chs ∧ chs.length ≤ 900 ∧ mss.length ≤ 900 ∧
    wholeB 0 mss.length cu = false ∧ ∀ G', Ext G G' → Q (.bl true) G'
def b__law_no_cue (K : W.Frag) (C : ExC) (E : DXK) : WS :=
  (wSeq (wTry1 K (.ref C.InvalidCue) (wRet (wC (.bl true))) (fun _ => E) (fun U1 => (wExpr (wCall (sp_look C.InvalidShow C.InvalidCue) (U1) (wCons (wVar 0) (wCons (wVar 1) wNil))))))
  (wRet (wC (.bl false))))
abbrev N__law_no_cue : List Str := ["show", "odd"]
abbrev Okb__law_no_cue (K : W.Frag) (C : ExC) (sp : DSp) : Prop := ∀ ds G Q E, sp ds G Q E → b__law_no_cue K C E { nx := fun _ G' => Q .non G', rt := Q } (startD N__law_no_cue ds) G
theorem ok__law_no_cue {K : PySem.W.Frag} {C : ExC} (h1 : PySem.W.exmOne K (.ref C.InvalidCue) (.ref C.InvalidCue) = some true) : Okb__law_no_cue K C sp__law_no_cue := by
  intro ds G Q E h0
  obtain ⟨sh, cu, rfl, n, m, hn, k1, k2, hb, chd, chs, mss, hsh, htf, l1, l2, hw, h⟩ := sp2_inv h0
  clear h0
  simp [b__law_no_cue, startD, wTry1]
  refine ⟨n, hn, k1, ⟨m, k2⟩, fun hb' => (by rw [hb] at hb'; cases hb'), fun _ => ⟨chd, chs, mss, hsh, htf, l1, l2, fun _ G1 e1 => .inr ⟨h1, h G1 e1⟩, fun i lk hc hlk => ?_⟩⟩
  subst hc
  have := (List.getElem?_eq_some_iff.mp hlk).1
  rw [looksOf_length] at this
  simp [wholeB] at hw
  omega

theorem cN_in {t : Nat} (h : t ≤ 4) : (decide ((1 : Int) ≤ (t : Int) + 1) && decide ((t : Int) + 1 ≤ 5)) = true := by simp; omega
theorem mode_B {o : Bool} : modeB ["track", "only"] (.str (modeS o)) = true := by cases o <;> decide
theorem keep_B {o : Bool} : modeB ["keep", "drop"] (.str (keepS o)) = true := by cases o <;> decide
theorem spD_stepB {s : Sp} (h : SpOk s) : stepB (spD s) = true := by
  cases s with
  | set t z l o =>
    obtain ⟨h1, h2, h3, h4⟩ := h
    simp only [spD, cN, stepB_at, cN_in h1, restB_set, h2, mode_B, wholeB, Bool.true_and, Bool.and_true]
    simp [h3, h4]
  | clear t z o =>
    obtain ⟨h1, h2⟩ := h
    simp only [spD, cN, stepB_at, cN_in h1, restB_clear, h2, mode_B, Bool.true_and]
  | block t => simp only [spD, cN, stepB_at, cN_in (show t ≤ 4 from h), restB_block, Bool.true_and]
  | insert t => simp only [spD, cN, stepB_at, cN_in (show t ≤ 4 from h), restB_insert, Bool.true_and]
  | delete t k => simp only [spD, cN, stepB_at, cN_in (show t ≤ 4 from h), restB_delete, keep_B, Bool.true_and]
  | copy t u =>
    obtain ⟨h1, h2, h3⟩ := h
    simp only [spD, cN, stepB_at, cN_in h1, restB_copy, cN_in h2, Bool.true_and]
    simp; omega
  | swap t => simp only [spD, cN, stepB_at, cN_in (show t ≤ 4 from h), restB_swap, Bool.true_and]
theorem mode_k {o : Bool} {n : Nat} : K0 n (.str (modeS o)) := by cases o <;> exact k0_lit (by decide +kernel)
theorem keep_k {o : Bool} {n : Nat} : K0 n (.str (keepS o)) := by cases o <;> exact k0_lit (by decide +kernel)
theorem chan_k {z : Str} {n : Nat} (h : chanB (.str z) = true) : K0 n (.str z) := by
  have := chan_ok h
  exact kn_str.mpr ⟨this.1, by omega⟩
theorem spD_k {s : Sp} (h : SpOk s) : K0 1 (spD s) := by
  cases s with
  | set t z l o =>
    refine k0_tup (by simp) fun d hd => ?_
    simp only [List.mem_cons, List.not_mem_nil, or_false] at hd
    rcases hd with rfl | rfl | rfl | rfl | rfl
    · exact k0_lit (by decide +kernel)
    · exact kn_int
    · exact chan_k h.2.1
    · exact kn_int
    · exact mode_k
  | clear t z o =>
    refine k0_tup (by simp) fun d hd => ?_
    simp only [List.mem_cons, List.not_mem_nil, or_false] at hd
    rcases hd with rfl | rfl | rfl | rfl
    · exact k0_lit (by decide +kernel)
    · exact kn_int
    · exact chan_k h.2
    · exact mode_k
  | delete t k =>
    refine k0_tup (by simp) fun d hd => ?_
    simp only [List.mem_cons, List.not_mem_nil, or_false] at hd
    rcases hd with rfl | rfl | rfl
    · exact k0_lit (by decide +kernel)
    · exact kn_int
    · exact keep_k
  | copy t u =>
    refine k0_tup (by simp) fun d hd => ?_
    simp only [List.mem_cons, List.not_mem_nil, or_false] at hd
    rcases hd with rfl | rfl | rfl
    · exact k0_lit (by decide +kernel)
    · exact kn_int
    · exact kn_int
  | _ =>
    refine k0_tup (by simp) fun d hd => ?_
    simp only [List.mem_cons, List.not_mem_nil, or_false] at hd
    rcases hd with rfl | rfl
    · exact k0_lit (by decide +kernel)
    · exact kn_int
theorem script_B {ss : List Sp} (h : ∀ s ∈ ss, SpOk s) (hl : ss.length ≤ 4) : scriptB (.tup (ss.map spD)) = true := by
  rw [scriptB_tup, Bool.and_eq_true, decide_eq_true_eq, List.all_eq_true]
  refine ⟨by simpa using hl, fun d hd => ?_⟩
  obtain ⟨s, hs, rfl⟩ := List.mem_map.mp hd
  exact spD_stepB (h s hs)
theorem script_k {ss : List Sp} (h : ∀ s ∈ ss, SpOk s) (hl : ss.length ≤ 1000) : K0 2 (.tup (ss.map spD)) := by
  refine k0_tup (by simpa using hl) fun d hd => ?_
  obtain ⟨s, hs, rfl⟩ := List.mem_map.mp hd
  exact spD_k (h s hs)
section
variable {chs : List Str} {rs : List Row} {ss : List Sp} {G : DHp} {Q : DK} {E : DXK} {A B : DHp → Prop} {C1 C2 : Addr}
theorem edited_pre (hs : ∀ s ∈ ss, SpOk s) (h4 : ss.length ≤ 4) (ok : ShowOk chs rs) (hl : rs.length ≤ 600) (w : ∀ G', Ext G G' → Q (showR chs (runR chs ss rs)) G') : EditedPre (.tup (ss.map spD)) (showR chs rs) G A B Q :=
  ⟨2, 4, by omega, by omega, (script_k hs (by omega)).kn, ok.k0.kn, fun h => (by rw [script_B hs h4] at h; cases h), fun _ h => (by rw [ok.showB] at h; cases h),
    fun _ _ => ⟨chs, rs, ss, rfl, rfl, ok.chs, ok.wide, by omega, w⟩⟩
theorem edited_good (hs : ∀ s ∈ ss, SpOk s) (h4 : ss.length ≤ 4) (ok : ShowOk chs rs) (hl : rs.length ≤ 600) (w : ∀ G', Ext G G' → Q (showR chs (runR chs ss rs)) G') : sp_edited C1 C2 [.tup (ss.map spD), showR chs rs] G Q E :=
  edited_pre (A := fun G' => E ⟨C1, none⟩ G') (B := fun G' => E ⟨C2, none⟩ G') hs h4 ok hl w
theorem showR_mss : showR chs rs = .tup [.ft (chs.map .str), .tup ((rs.map (mvs chs)).map cueD)] := by
  unfold showR; rw [List.map_map]; rfl
theorem looks_good (ok : ShowOk chs rs) (w : ∀ p G', G p = none → Ext G G' → G' p = some (.lst (((looksOf chs (rs.map (mvs chs))).drop 1).map intsT)) → Q (.ref p) G') : sp_looks C1 [showR chs rs] G Q E :=
  ⟨4, by omega, ok.k0.kn, fun h => (by rw [ok.showB] at h; cases h), fun _ => ⟨.ft (chs.map .str), chs, rs.map (mvs chs), showR_mss, .inr rfl, by have := ok.l4; omega, by have := ok.few; simp; omega, w⟩⟩
theorem look_good {i : Nat} {lk : List Int} (ok : ShowOk chs rs) (hk : (looksOf chs (rs.map (mvs chs)))[i]? = some lk) (w : ∀ G', Ext G G' → Q (intsT lk) G') : sp_look C1 C2 [showR chs rs, .int i] G Q E :=
  ⟨4, 0, by omega, ok.k0.kn, kn_int, fun h => (by rw [ok.showB] at h; cases h), fun _ => ⟨.ft (chs.map .str), chs, rs.map (mvs chs), showR_mss, .inr rfl, by have := ok.l4; omega, by have := ok.few; simp; omega,
    fun h => (by
      have := (List.getElem?_eq_some_iff.mp hk).1
      rw [looksOf_length] at this
      simp [wholeB] at h this ⊢
      omega), fun j lk' e h' G' e' => (by
      have : i = j := by have := D.int.inj e; omega
      subst this
      rw [hk] at h'; cases h'
      exact w G' e')⟩⟩
theorem no_cue_good {cu : D} {m : Nat} (ok : ShowOk chs rs) (kc : Kn m G cu) (hw : wholeB 0 rs.length cu = false) (w : ∀ G', Ext G G' → Q (.bl true) G') : sp__law_no_cue [showR chs rs, cu] G Q E :=
  ⟨4, m, by omega, ok.k0.kn, kc, ok.showB, .ft (chs.map .str), chs, rs.map (mvs chs), showR_mss, .inr rfl, by have := ok.l4; omega, by have := ok.few; simp; omega, by simpa using hw, w⟩
end
end TC
set_option maxRecDepth 100000
set_option maxHeartbeats 1000000
/-! TC, part y: texts: join, split, str of a whole number. -/
namespace TC
open PySem PySem.Spec PyProof.Rows L2
def dJoin (x y : D) (G : DHp) (Q : DK) : Prop := ∃ (a : Str) (ys : List Str), x = .str a ∧ itemsD G y = some (ys.map .str) ∧ (ys.map (·.length)).sum + ys.length * a.length ≤ 16777216 ∧ Q (.str (Txt.join a ys)) G
def dSplit (x y : D) (G : DHp) (Q : DK) : Prop := ∃ a b : Str, x = .str a ∧ y = .str b ∧ (b.length == 0) = false ∧ a.length + 2 ≤ 1000000 ∧ ∀ p, G p = none → Q (.ref p) (updD G p (.lst ((Txt.split a b).map .str)))
def wStrM (d : D → D → DHp → DK → Prop) (wo we : WE) : WE := fun ρ G Q => wo ρ G fun x G1 => (∃ z, x = .str z) ∧ we ρ G1 fun y G2 => d x y G2 Q
@[simp] theorem wStrM_eq {d : D → D → DHp → DK → Prop} {wo we : WE} {ρ : Ro} {G : DHp} {Q : DK} : wStrM d wo we ρ G Q = wo ρ G fun x G1 => (∃ z, x = .str z) ∧ we ρ G1 fun y G2 => d x y G2 Q := rfl
section
variable {X : Cx} {G0 : DHp} {H0 : Hp} {apos pos : Pos} {o e : Expr} {wo we : WE}
theorem de_join (ho : DE X G0 H0 o wo) (he : DE X G0 H0 e we) (hs : starEach [e] X.env = [(false, eval e X.env)] := by rfl) (hbase : attributeBase o "join" X.env (eval o X.env) = eval o X.env := by rfl) (hline : (apos.endLine == pos.line) = true := by rfl) :
    DE X G0 H0 (.Call (.Attribute o "join" apos) [e] [] pos) (wStrM dJoin wo we) :=
  PE.to (pe_join ho he hs hbase hline) fun σ H Q ⟨ρ, G, QD, pt, w, k⟩ => ⟨ρ, G, _, pt, w, fun x G1 v H1 h1 r1 s1 ⟨⟨z, ez⟩, w1⟩ => by
    subst ez
    cases r1
    refine ⟨⟨z, rfl⟩, ρ, G1, _, pt.go h1 s1, w1, fun y G2 u H2 h2 r2 s2 w2 => ?_⟩
    obtain ⟨a, ys, e1, e2, hz, w2⟩ := w2
    cases e1
    obtain ⟨p, vs, rfl, h, rs⟩ := items_sq h2 r2 e2
    rw [rs.strs] at h
    exact ⟨z, p, ys, rfl, rfl, h, hz, k (.str _) G2 _ H2 h2 rfl (s1.trans s2) w2⟩⟩
theorem de_split (ho : DE X G0 H0 o wo) (he : DE X G0 H0 e we) (hs : starEach [e] X.env = [(false, eval e X.env)] := by rfl) (hbase : attributeBase o "split" X.env (eval o X.env) = eval o X.env := by rfl) (hline : (apos.endLine == pos.line) = true := by rfl) :
    DE X G0 H0 (.Call (.Attribute o "split" apos) [e] [] pos) (wStrM dSplit wo we) :=
  PE.to (pe_split ho he hs hbase hline) fun σ H Q ⟨ρ, G, QD, pt, w, k⟩ => ⟨ρ, G, _, pt, w, fun x G1 v H1 h1 r1 s1 ⟨⟨z, ez⟩, w1⟩ => by
    subst ez
    cases r1
    refine ⟨⟨z, rfl⟩, ρ, G1, _, pt.go h1 s1, w1, fun y G2 u H2 h2 r2 s2 w2 => ?_⟩
    obtain ⟨a, b, e1, rfl, hb, hz, w2⟩ := w2
    cases e1
    cases r2
    refine ⟨z, b, rfl, rfl, hb, Nat.le_trans hz (by decide +kernel), fun p hp => ?_⟩
    exact k (.ref p) _ _ _ (h2.new hp (o := .lst ((Txt.split z b).map .str)) ⟨_, upd_same, Reps.ofStrs⟩) rfl ((s1.trans s2).trans (.new h2 hp)) (w2 p (h2.free hp))⟩
end
def numS (i : Int) : Str := Str.ofString (toString i)
/-- str(i) of a whole number -/
def dStr1 : WRA := fun ds G Q => match ds with
  | [.int i] => i.natAbs < 2 ^ 1000 ∧ Q (.str (numS i)) G
  | _ => False
@[simp] theorem dStr1_int {i : Int} {G : DHp} {Q : DK} : dStr1 [.int i] G Q = (i.natAbs < 2 ^ 1000 ∧ Q (.str (numS i)) G) := rfl
theorem cd_str1 {K : PySem.W.Frag} : CaD K (fun xs H Q => ∃ i, xs = [.int i] ∧ i.natAbs.log2 < 1920 ∧ Q (.str (toString i)) H) dStr1 := by
  intro xs vs G H Q QD hr rs w k
  unfold dStr1 at w
  split at w
  · rename_i i
    obtain ⟨v, rfl, r⟩ := rs.one_inv
    cases r
    refine ⟨i, rfl, ?_, k (.str _) G _ H hr rfl .refl w.2⟩
    have h1 := w.1
    have h2 : i.natAbs.log2 < 1000 := by
      by_cases h0 : i.natAbs = 0
      · rw [h0]; simp
      · exact (Nat.log2_lt h0).mpr h1
    omega
  · exact w.elim
end TC
set_option maxRecDepth 100000
set_option maxHeartbeats 2000000
/-! WA: shows as texts. -/
namespace TC
open PySem PySem.Spec PyProof.Rows L2
def wordS (p : Str × Int) : Str := p.1 ++ "=" ++ numS p.2
def cueS (ms : List (Str × Int)) : Str := Txt.join " " (("cue" : Str) :: ms.map wordS)
def linesS (chs : List Str) (mss : List (List (Str × Int))) : Str := Txt.join "\n" (Txt.join " " (("channels" : Str) :: chs) :: mss.map cueS)
/-- what is written -/
structure MsOk (ms : List (Str × Int)) : Prop where
  few : ms.length ≤ 4
  each : ∀ p ∈ ms, p.1.length ≤ 8 ∧ 0 ≤ p.2 ∧ p.2 ≤ 100
structure TxtOk (chs : List Str) (mss : List (List (Str × Int))) : Prop where
  few : chs.length ≤ 4
  ne : chs ≠ []
  each : ∀ z ∈ chs, z.length ≤ 8
  cues : mss.length ≤ 12
  ms : ∀ ms ∈ mss, MsOk ms
theorem ext_wn' {G G' : DHp} {p : Addr} {o : DO} (x : Ext G G') (h : G p = none) : Ext G (updD G' p o) := fun a u e => by
  have : a ≠ p := fun z => by subst z; rw [h] at e; cases e
  rw [updD_ne this]; exact x a u e
theorem join_len {sep : Str} {parts : List Str} : (Txt.join sep parts).length ≤ (parts.map (·.length)).sum + parts.length * sep.length := by
  show (Builtin.Str.glued sep parts).length ≤ _
  rw [StrLaws.glued_eq_join]
  exact StrLaws.join_length_le sep parts
theorem sum_le {α : Type} {f : α → Nat} {n : Nat} : ∀ {l : List α}, (∀ x ∈ l, f x ≤ n) → (l.map f).sum ≤ l.length * n
  | [], _ => by simp
  | x :: l, h => by
    have := sum_le (f := f) (l := l) fun y hy => h y (by simp [hy])
    have := h x (by simp)
    simp [Nat.succ_mul]; omega
theorem numS_len {i : Int} (h0 : 0 ≤ i) (h1 : i ≤ 100) : (numS i).length ≤ 3 := by
  obtain ⟨n, rfl⟩ : ∃ n : Nat, i = (n : Int) := ⟨i.toNat, by omega⟩
  unfold numS
  rw [TL.len_tl, TL.tl_num]
  exact TL.numL_len (k := 3) (by omega) (by omega)
theorem wordS_len {p : Str × Int} (h : p.1.length ≤ 8 ∧ 0 ≤ p.2 ∧ p.2 ≤ 100) : (wordS p).length ≤ 12 := by
  have := numS_len h.2.1 h.2.2
  unfold wordS
  rw [Str.length_append, Str.length_append]
  have : ("=" : Str).length = 1 := by decide
  omega
theorem cueS_len {ms : List (Str × Int)} (h : MsOk ms) : ((("cue" : Str) :: ms.map wordS).map (·.length)).sum ≤ 60 ∧ (cueS ms).length ≤ 70 := by
  have h1 : ((ms.map wordS).map (·.length)).sum ≤ (ms.map wordS).length * 12 := sum_le fun x hx => by
    obtain ⟨p, hp, rfl⟩ := List.mem_map.mp hx
    exact wordS_len (h.each p hp)
  have h2 := h.few
  have e1 : ("cue" : Str).length = 3 := by decide
  have e2 : (" " : Str).length = 1 := by decide
  have h3 := join_len (sep := " ") (parts := ("cue" : Str) :: ms.map wordS)
  rw [List.length_map] at h1
  have h4 : ((("cue" : Str) :: ms.map wordS).map (·.length)).sum ≤ 60 := by
    rw [List.map_cons, List.sum_cons, e1]; omega
  refine ⟨h4, ?_⟩
  unfold cueS
  rw [e2, List.length_cons, List.length_map] at h3
  omega
theorem head_len {chs : List Str} (h1 : chs.length ≤ 4) (h2 : ∀ z ∈ chs, z.length ≤ 8) : ((("channels" : Str) :: chs).map (·.length)).sum ≤ 60 ∧ (Txt.join " " (("channels" : Str) :: chs)).length ≤ 70 := by
  have h3 : (chs.map (·.length)).sum ≤ chs.length * 8 := sum_le h2
  have e1 : ("channels" : Str).length = 8 := by decide
  have e2 : (" " : Str).length = 1 := by decide
  have h4 : ((("channels" : Str) :: chs).map (·.length)).sum ≤ 60 := by
    rw [List.map_cons, List.sum_cons, e1]; omega
  have h5 := join_len (sep := " ") (parts := ("channels" : Str) :: chs)
  rw [e2, List.length_cons] at h5
  exact ⟨h4, by omega⟩
theorem lines_len {chs : List Str} {mss : List (List (Str × Int))} (h : TxtOk chs mss) : ((Txt.join " " (("channels" : Str) :: chs) :: mss.map cueS).map (·.length)).sum ≤ 910 ∧ (linesS chs mss).length ≤ 930 := by
  have h1 := (head_len h.few h.each).2
  have h2 : ((mss.map cueS).map (·.length)).sum ≤ (mss.map cueS).length * 70 := sum_le fun x hx => by
    obtain ⟨ms, hm, rfl⟩ := List.mem_map.mp hx
    exact (cueS_len (h.ms ms hm)).2
  have h3 := h.cues
  rw [List.length_map] at h2
  have e2 : ("\n" : Str).length = 1 := by decide
  have h4 : ((Txt.join " " (("channels" : Str) :: chs) :: mss.map cueS).map (·.length)).sum ≤ 910 := by
    rw [List.map_cons, List.sum_cons]; omega
  have h5 := join_len (sep := "\n") (parts := Txt.join " " (("channels" : Str) :: chs) :: mss.map cueS)
  rw [e2, List.length_cons, List.length_map] at h5
  exact ⟨h4, by unfold linesS; omega⟩
abbrev sp_word_of : DSp := sp1 fun m G Q _ => ∃ p : Str × Int, m = mvD p ∧ p.1.length ≤ 8 ∧ 0 ≤ p.2 ∧ p.2 ≤ 100 ∧ ∀ G', Ext G G' → Q (.str (wordS p)) G'
def b_word_of  (E : DXK) : WS :=
  (wRet (wOp dAdd (wOp dAdd (wOp dIx (wVar 0) (wC (.int 0))) (wC (.str "="))) (wCB dStr1 (wCons (wOp dIx (wVar 0) (wC (.int 1))) wNil))))
abbrev N_word_of : List Str := ["move"]
abbrev Okb_word_of  (sp : DSp) : Prop := ∀ ds G Q E, sp ds G Q E → b_word_of  E { nx := fun _ G' => Q .non G', rt := Q } (startD N_word_of ds) G
theorem ok_word_of : Okb_word_of sp_word_of := by
  intro ds G Q E h0
  obtain ⟨m, rfl, p, rfl, h1, h2, h3, h⟩ := sp1_inv h0
  clear h0
  have e1 : ("=" : Str).length = 1 := by decide
  have hn := numS_len h2 h3
  have hb : p.2.natAbs < 2 ^ 1000 := Nat.lt_of_lt_of_le (show p.2.natAbs < 2 ^ 8 by omega) (Nat.pow_le_pow_right (by omega) (by omega))
  simp [b_word_of, startD, mvD]
  refine ⟨by omega, hb, ?_, h _ .refl⟩
  rw [Str.length_append]
  omega
def wordD : D → D
  | .tup [.str z, .int i] => .str (wordS (z, i))
  | _ => .non
theorem words_map {ms : List (Str × Int)} : (ms.map mvD).map wordD = (ms.map wordS).map .str := by
  rw [List.map_map, List.map_map]; rfl
abbrev sp_show_lines : DSp := sp1 fun sh G Q _ => ∃ (chs : List Str) (mss : List (List (Str × Int))), sh = .tup [.tup (chs.map .str), .tup (mss.map cueD)] ∧ TxtOk chs mss ∧ ∀ G', Ext G G' → Q (.str (linesS chs mss)) G'
def b_show_lines  (E : DXK) : WS :=
  (wSeq (wAsg (wLst (wCons (wStrM dJoin (wC (.str " ")) (wOp dAdd (wTup (wCons (wC (.str "channels")) wNil)) (wOp dIx (wVar 0) (wC (.int 0))))) wNil)) (wgName 1))
  (wSeq (wFor (wiTup (wOp dIx (wVar 0) (wC (.int 1)))) (wgName 2) (wExpr (wMt dAppend (wVar 1) (wCons (wStrM dJoin (wC (.str " ")) (wOp dAdd (wLst (wCons (wC (.str "cue")) wNil)) (wLc [3] (wiTup (wVar 2)) (wgName 3) wtYes (wCall sp_word_of (noX) (wCons (wVar 3) wNil))))) wNil))))
  (wRet (wStrM dJoin (wC (.str "\n")) (wVar 1)))))
abbrev N_show_lines : List Str := ["show", "lines", "cue", "move"]
abbrev Okb_show_lines  (sp : DSp) : Prop := ∀ ds G Q E, sp ds G Q E → b_show_lines  E { nx := fun _ G' => Q .non G', rt := Q } (startD N_show_lines ds) G
theorem ok_show_lines : Okb_show_lines sp_show_lines := by
  intro ds G Q E h0
  obtain ⟨sh, rfl, chs, mss, rfl, ok, h⟩ := sp1_inv h0
  clear h0
  have hh := head_len ok.few ok.each
  have e2 : (" " : Str).length = 1 := by decide
  have e3 : ("\n" : Str).length = 1 := by decide
  simp only [b_show_lines, startD, List.replicate]
  refine seq_go fun nx hnx => ?_
  simp
  have hf := ok.few
  refine ⟨by omega, " ", ("channels" : Str) :: chs, rfl, rfl, by rw [e2]; have := hh.1; simp only [List.length_cons]; omega, fun p1 hp1 => ?_⟩
  refine hnx _ _ ?_
  clear hnx
  refine seq_go fun nx hnx => ?_
  simp
  refine forW_rule (fun r ρ' G' => ∃ (dn rest : List (List (Str × Int))) (o2 o3 : Option D), mss = dn ++ rest ∧ r = rest.map cueD ∧ Ext G G' ∧ G' p1 = some (.lst ((Txt.join " " (("channels" : Str) :: chs) :: dn.map cueS).map .str)) ∧ ρ' = [some (.tup [.tup (chs.map .str), .tup (mss.map cueD)]), some (.ref p1), o2, o3]) ?_ ?_
    ⟨[], mss, none, none, rfl, rfl, Ext.new hp1, updD_same, rfl⟩
  · rintro x r ρ' G2 nx2 ⟨dn, rest, o2, o3, f1, f2, ex2, g1, rfl⟩ hnx2
    refine ⟨trivial, ?_⟩
    cases rest with
    | nil => cases f2
    | cons ms rest =>
      obtain ⟨rfl, rfl⟩ := List.cons.inj f2
      have hok := ok.ms ms (by rw [f1]; simp)
      simp [cueD]
      refine ⟨⟨p1, _, rfl, g1⟩, fun p hp => ?_⟩
      have hf4 := hok.few
      refine lc_map wordD (by simp; omega) (fun _ _ => trivial) (fun x hx G3 K e3 hK => ?_) fun G3 q e3 hq => ?_
      · obtain ⟨pr, hpr, rfl⟩ := List.mem_map.mp hx
        have h3 := hok.each pr hpr
        simp only [wgName, wCall, wVar, wCons, wNil, List.getElem?_cons_zero, List.getElem?_cons_succ, List.set_cons_zero, List.set_cons_succ]
        exact ⟨pr, rfl, h3.1, h3.2.1, h3.2.2, fun G4 e4 => hK _ e4⟩
      · rw [words_map]
        have gp := e3 _ _ updD_same
        have pq : p ≠ q := fun e => by subst e; rw [gp] at hq; cases hq
        rw [dAdd_ref]
        refine ⟨_, _, by rw [updD_ne pq]; exact gp, updD_same, by simp; omega, fun r hr => ?_⟩
        have e5 : Ext G2 (updD (updD G3 q (.lst ((ms.map wordS).map .str))) r (.lst ([.str "cue"] ++ (ms.map wordS).map .str))) := ((Ext.new hp).trans e3).trans ((Ext.new hq).trans (Ext.new hr))
        have hs := (cueS_len hok).1
        refine ⟨" ", ("cue" : Str) :: ms.map wordS, rfl, by simp [itemsD, updD_same], by rw [e2]; simp only [List.length_cons, List.length_map]; omega, ?_⟩
        have hd : dn.length ≤ 12 := by have := ok.cues; rw [f1] at this; simp at this; omega
        refine ⟨_, e5 _ _ g1, by simp; omega, ?_⟩
        have hp1G : p1 ≠ p1 → False := fun h => h rfl
        refine hnx2 _ _ ⟨dn ++ [ms], rest, _, _, by simp [f1], rfl, ext_wn' (ex2.trans e5) hp1, ?_, rfl⟩
        rw [updD_same]
        simp [cueS]
  · rintro ρ' G2 ⟨dn, rest, o2, o3, f1, f2, ex2, g1, rfl⟩
    refine ⟨trivial, ?_⟩
    have : rest = [] := by simpa using f2.symm
    subst this
    rw [List.append_nil] at f1
    subst f1
    refine hnx _ _ ?_
    simp
    refine ⟨"\n", Txt.join " " (("channels" : Str) :: chs) :: mss.map cueS, rfl, ?_, ?_, h _ ex2⟩
    · simp [itemsD, g1]
    · have := (lines_len ok).1
      have h12 := ok.cues
      rw [e3]
      simp only [List.length_cons, List.length_map]
      omega
end TC
set_option maxRecDepth 100000
set_option maxHeartbeats 2000000
/-! WB: texts read. -/
namespace TC
open PySem PySem.Spec PyProof.Rows L2
/-- the signs of a text -/
def okS (z : Str) : Prop := PyData.strOk z = true ∧ z.length ≤ 5000
theorem strOk_iff {z : Str} : PyData.strOk z = true ↔ ∀ c ∈ TL.tl z, c < 0x110000 := by
  unfold PyData.strOk TL.tl
  rw [Array.all_eq_true']
  simp
theorem spl_parts {S : List Nat} : ∀ {L : List Nat} {k : Nat} {acc : List Nat}, ∀ p ∈ TL.spl S k acc L, (∀ c ∈ p, c ∈ acc ∨ c ∈ L) ∧ p.length ≤ acc.length + L.length
  | [], k, acc, p, hp => by
    rw [TL.spl_nil] at hp
    rw [List.mem_singleton.mp hp]
    exact ⟨fun c hc => .inl hc, by simp⟩
  | c :: r, 0, acc, p, hp => by
    rw [TL.spl] at hp
    split at hp
    · rcases List.mem_cons.mp hp with rfl | hp
      · exact ⟨fun c hc => .inl hc, by simp⟩
      · obtain ⟨h1, h2⟩ := spl_parts p hp
        refine ⟨fun d hd => ?_, by simp at h2 ⊢; omega⟩
        rcases h1 d hd with h | h
        · cases h
        · exact .inr (by simp [h])
    · obtain ⟨h1, h2⟩ := spl_parts p hp
      refine ⟨fun d hd => ?_, by simp at h2 ⊢; omega⟩
      rcases h1 d hd with h | h
      · rcases List.mem_append.mp h with h | h
        · exact .inl h
        · exact .inr (by rw [List.mem_singleton.mp h]; simp)
      · exact .inr (by simp [h])
  | c :: r, k + 1, acc, p, hp => by
    rw [TL.spl] at hp
    obtain ⟨h1, h2⟩ := spl_parts p hp
    refine ⟨fun d hd => ?_, by simp at h2 ⊢; omega⟩
    rcases h1 d hd with h | h
    · exact .inl h
    · exact .inr (by simp [h])
theorem spl_ne {S : List Nat} : ∀ {L : List Nat} {k : Nat} {acc : List Nat}, TL.spl S k acc L ≠ []
  | [], k, acc => by rw [TL.spl_nil]; simp
  | c :: r, 0, acc => by
    rw [TL.spl]; split
    · simp
    · exact spl_ne
  | c :: r, k + 1, acc => by rw [TL.spl]; exact spl_ne
/-- a separator of one plain sign -/
structure Sep (y : Str) (s : Nat) : Prop where
  tl : TL.tl y = [s]
  plain : y.cps.all (· < 256) = true
theorem sepSp : Sep " " 32 := ⟨by decide, by decide +kernel⟩
theorem sepNl : Sep "\n" 10 := ⟨by decide, by decide +kernel⟩
theorem sepEq : Sep "=" 61 := ⟨by decide, by decide +kernel⟩
section
variable {y : Str} {s : Nat}
theorem Sep.len (h : Sep y s) : (y.length == 0) = false := by
  have := TL.len_tl y
  rw [h.tl] at this
  simp [this]
theorem Sep.spl (h : Sep y s) (x : Str) : (Txt.split x y).map TL.tl = TL.spl [s] 0 [] (TL.tl x) := by
  have := TL.split_spl x y (by rw [h.tl]; simp) (TL.kind_ok h.plain)
  rwa [h.tl] at this
theorem Sep.ne (h : Sep y s) {x : Str} : Txt.split x y ≠ [] := fun e => by
  have := h.spl x
  rw [e] at this
  exact spl_ne this.symm
theorem Sep.part (h : Sep y s) {x p : Str} (hx : okS x) (hp : p ∈ Txt.split x y) : okS p := by
  have hm : TL.tl p ∈ TL.spl [s] 0 [] (TL.tl x) := by rw [← h.spl x]; exact List.mem_map_of_mem hp
  obtain ⟨h1, h2⟩ := spl_parts _ hm
  refine ⟨strOk_iff.mpr fun c hc => ?_, ?_⟩
  · rcases h1 c hc with q | q
    · cases q
    · exact strOk_iff.mp hx.1 c q
  · rw [TL.len_tl]
    have := hx.2
    rw [TL.len_tl] at this
    simp only [List.length_nil, Nat.zero_add] at h2
    omega
theorem Sep.many (h : Sep y s) {x : Str} : (Txt.split x y).length ≤ x.length + 2 := PyProof.Rows.split_le x y
theorem Sep.back (h : Sep y s) {parts : List Str} (hne : parts ≠ []) (hp : ∀ p ∈ parts, s ∉ TL.tl p) : Txt.split (Txt.join y parts) y = parts := TL.split_join h.tl h.plain hne hp
end
def numIn (z : Str) : Option Int := ((List.range 101).find? fun n => decide (z = numS (n : Nat))).map Int.ofNat
abbrev sp_number_in : DSp := sp1 fun w G Q _ => ∃ z : Str, w = .str z ∧ ∀ G', Ext G G' → Q (levD (numIn z)) G'
def b_number_in  (E : DXK) : WS :=
  (wSeq (wFor (wiRng1 (wCons (wOp dAdd (wC (.int 100)) (wC (.int 1))) wNil)) (wgName 1) (wIf (wTest (wOp dEq (wVar 0) (wCB dStr1 (wCons (wVar 1) wNil)))) (wRet (wVar 1)) wNext))
  (wRet (wC .non)))
abbrev N_number_in : List Str := ["word", "number"]
abbrev Okb_number_in  (sp : DSp) : Prop := ∀ ds G Q E, sp ds G Q E → b_number_in  E { nx := fun _ G' => Q .non G', rt := Q } (startD N_number_in ds) G
theorem ok_number_in : Okb_number_in sp_number_in := by
  intro ds G Q E h0
  obtain ⟨w, rfl, z, rfl, h⟩ := sp1_inv h0
  clear h0
  simp only [b_number_in, startD, List.replicate]
  refine seq_go fun nx hnx => ?_
  simp
  refine forW_rule (fun r ρ' G' => ∃ (m : Nat) (o1 : Option D), m ≤ 101 ∧ r = intsD (m : Int) (101 - m) ∧ (∀ k, k < m → z ≠ numS (k : Nat)) ∧ Ext G G' ∧ ρ' = [some (.str z), o1]) ?_ ?_ ⟨0, none, by omega, rfl, fun k hk => by omega, .refl, rfl⟩
  · rintro x r ρ' G2 nx2 ⟨m, o1, hm, e1, hn, ex, rfl⟩ hnx2
    refine ⟨trivial, ?_⟩
    have hm' : m < 101 := by
      by_cases q : m < 101
      · exact q
      · have : 101 - m = 0 := by omega
        rw [this] at e1; cases e1
    have es : intsD (m : Int) (101 - m) = .int (m : Int) :: intsD ((m + 1 : Nat) : Int) (101 - (m + 1)) := intsD_succ hm'
    rw [es] at e1
    obtain ⟨rfl, rfl⟩ := List.cons.inj e1
    have hb : ((m : Int)).natAbs < 2 ^ 1000 := Nat.lt_of_lt_of_le (show ((m : Int)).natAbs < 2 ^ 8 by omega) (Nat.pow_le_pow_right (by omega) (by omega))
    simp [-Nat.reducePow]
    refine ⟨hb, ?_⟩
    by_cases hz : z = numS (m : Nat)
    · rw [if_pos hz]
      have : numIn z = some (m : Int) := by
        unfold numIn
        have hf : (List.range 101).find? (fun n => decide (z = numS (n : Nat))) = some m := by
          rw [List.find?_eq_some_iff_getElem]
          refine ⟨decide_eq_true hz, m, by simpa using hm', by simp, fun j hj => ?_⟩
          simp [hn j (by simpa using hj)]
        rw [hf]; rfl
      have := (congrArg levD this) ▸ h _ ex
      simpa [levD] using this
    · rw [if_neg hz]
      refine hnx2 _ _ ⟨m + 1, _, by omega, rfl, fun k hk => ?_, ex, rfl⟩
      by_cases q : k = m
      · subst q; exact hz
      · exact hn k (by omega)
  · rintro ρ' G2 ⟨m, o1, hm, e1, hn, ex, rfl⟩
    refine ⟨trivial, ?_⟩
    have hm' : m = 101 := by
      by_cases q : m < 101
      · rw [intsD_succ q] at e1; cases e1
      · omega
    subst hm'
    refine hnx _ _ ?_
    simp
    have : numIn z = none := by
      unfold numIn
      rw [Option.map_eq_none_iff, List.find?_eq_none]
      intro n hn'
      simpa using hn n (List.mem_range.mp hn')
    have := (congrArg levD this) ▸ h _ ex
    simpa [levD] using this
/-- the pair that a word writes -/
def moveR (z : Str) : D := .tup [.str ((Txt.split z "=").headD z), if (Txt.split z "=").length = 2 then levD (numIn (((Txt.split z "=")[1]?).getD z)) else .non]
abbrev sp_move_in : DSp := sp1 fun w G Q _ => ∃ z : Str, w = .str z ∧ z.length ≤ 100000 ∧ ∀ G', Ext G G' → Q (moveR z) G'
def b_move_in  (E : DXK) : WS :=
  (wSeq (wAsg (wStrM dSplit (wVar 0) (wC (.str "="))) (wgName 1))
  (wRet (wTup (wCons (wOp dIx (wVar 1) (wC (.int 0))) (wCons (wIfE (wTest (wOp dEq (wCB dLen (wCons (wVar 1) wNil)) (wC (.int 2)))) (wCall sp_number_in (fun _ => E) (wCons (wOp dIx (wVar 1) (wC (.int 1))) wNil)) (wC .non)) wNil)))))
abbrev N_move_in : List Str := ["word", "parts"]
abbrev Okb_move_in  (sp : DSp) : Prop := ∀ ds G Q E, sp ds G Q E → b_move_in  E { nx := fun _ G' => Q .non G', rt := Q } (startD N_move_in ds) G
theorem ok_move_in : Okb_move_in sp_move_in := by
  intro ds G Q E h0
  obtain ⟨w, rfl, z, rfl, hl, h⟩ := sp1_inv h0
  clear h0
  simp only [b_move_in, startD, List.replicate]
  refine seq_go fun nx hnx => ?_
  simp
  refine ⟨z, "=", rfl, rfl, sepEq.len, by omega, fun p hp => ?_⟩
  refine hnx _ _ ?_
  clear hnx
  have gp := updD_same (G := G) (a := p) (o := .lst ((Txt.split z "=").map .str))
  have ex : Ext G (updD G p (.lst ((Txt.split z "=").map .str))) := Ext.new hp
  generalize updD G p (.lst ((Txt.split z "=").map .str)) = G1 at gp ex ⊢
  have hne := sepEq.ne (x := z)
  have h0 : (Txt.split z "=")[0]? = some ((Txt.split z "=").headD z) := by
    cases e : Txt.split z "=" with
    | nil => exact absurd e hne
    | cons a b => rfl
  have hf := h _ ex
  by_cases h2 : (Txt.split z "=").length = 2
  · obtain ⟨a, b, e⟩ : ∃ a b, Txt.split z "=" = [a, b] := by
      match hq : Txt.split z "=", h2 with
      | [a, b], _ => exact ⟨a, b, rfl⟩
    unfold moveR at hf
    rw [e] at hf gp
    simp [gp, -sp1_at] at hf ⊢
    refine ⟨b, rfl, fun G2 e2 => ?_⟩
    have hf2 := h _ (ex.trans e2)
    unfold moveR at hf2
    rw [e] at hf2
    simpa using hf2
  · unfold moveR at hf
    rw [if_neg h2] at hf
    have h2' : ¬ ((Txt.split z "=").length : Int) = 2 := by omega
    simp [gp, h0, h2'] at hf ⊢
    exact hf
end TC
set_option maxRecDepth 100000
set_option maxHeartbeats 4000000
/-! WC: read_show. -/
namespace TC
open PySem PySem.Spec PyProof.Rows L2
def rowsR (z : Str) : List (List Str) := (Txt.split z "\n").map fun l => Txt.split l " "
def strsD (l : List Str) : List D := l.map .str
def chsR (z : Str) : List Str := ((rowsR z).head?.getD []).drop 1
def cueR' (r : List Str) : D := .tup ((r.drop 1).map moveR)
def cuesR (z : Str) : List D := ((rowsR z).drop 1).map cueR'
def readD (z : Str) : D := .tup [.tup ((chsR z).map .str), .tup (cuesR z)]
def showT (chs : List Str) (mss : List (List (Str × Int))) : D := .tup [.tup (chs.map .str), .tup (mss.map cueD)]
def goodS (z : Str) : Prop := ∃ chs mss, readD z = showT chs mss ∧ showB (readD z) = true ∧ mss.length ≤ 12 ∧ linesS chs mss = z
def chsOf : D → List Str
  | .tup [.tup cs, _] => cs.map strOf
  | _ => []
def mvOf : D → Str × Int
  | .tup [.str z, .int i] => (z, i)
  | _ => (⟨#[]⟩, 0)
def msOf : D → List (Str × Int)
  | .tup ms => ms.map mvOf
  | _ => []
def mssOf : D → List (List (Str × Int))
  | .tup [_, .tup us] => us.map msOf
  | _ => []
theorem chsOf_show {chs : List Str} {mss : List (List (Str × Int))} : chsOf (showT chs mss) = chs := by
  show (chs.map D.str).map strOf = chs
  rw [List.map_map]
  exact (List.map_congr_left fun z _ => rfl).trans (List.map_id _)
theorem msOf_cue {ms : List (Str × Int)} : msOf (cueD ms) = ms := by
  show (ms.map mvD).map mvOf = ms
  rw [List.map_map]
  exact (List.map_congr_left fun z _ => rfl).trans (List.map_id _)
theorem mssOf_show {chs : List Str} {mss : List (List (Str × Int))} : mssOf (showT chs mss) = mss := by
  show (mss.map cueD).map msOf = mss
  rw [List.map_map]
  exact (List.map_congr_left fun z _ => msOf_cue).trans (List.map_id _)
theorem showT_inj {chs chs' : List Str} {mss mss' : List (List (Str × Int))} (h : showT chs mss = showT chs' mss') : chs = chs' ∧ mss = mss' :=
  ⟨by rw [← chsOf_show (chs := chs) (mss := mss), h, chsOf_show], by rw [← mssOf_show (chs := chs) (mss := mss), h, mssOf_show]⟩
theorem chanB_len {d : D} (h : chanB d = true) : (strOf d).length ≤ 8 := by
  cases d with
  | str z => simp only [chanB, Bool.and_eq_true, decide_eq_true_eq] at h; exact h.2.1
  | _ => cases h
theorem moveB_mv {chs : List Str} {d : D} (h : moveB chs d = true) : d = mvD (mvOf d) ∧ (mvOf d).1 ∈ chs ∧ 0 ≤ (mvOf d).2 ∧ (mvOf d).2 ≤ 100 := by
  unfold moveB at h
  split at h
  · simp only [Bool.and_eq_true, decide_eq_true_eq] at h
    exact ⟨rfl, h.1, h.2.1, h.2.2⟩
  · cases h
theorem climb_adj {zs : List Str} (h : climbR zs = true) : zs.Pairwise StrLt := by
  unfold climbR at h
  rw [List.all_eq_true] at h
  have adj : ∀ i, i + 1 < zs.length → ∀ a b, zs[i]? = some a → zs[i + 1]? = some b → StrLt a b := fun i hi a b ha hb => by
    have := h i (List.mem_range.mpr (by omega))
    unfold ltAt at this
    rw [ha, hb] at this
    simpa using this
  clear h
  induction zs with
  | nil => exact .nil
  | cons x zs ih =>
    have ih := ih fun i hi a b ha hb => adj (i + 1) (by simp; omega) a b (by simpa using ha) (by simpa using hb)
    refine List.pairwise_cons.mpr ⟨?_, ih⟩
    cases zs with
    | nil => exact fun y hy => absurd hy (by simp)
    | cons y zs =>
      have hxy := adj 0 (by simp) x y rfl rfl
      intro w hw
      rcases List.mem_cons.mp hw with rfl | hw
      · exact hxy
      · exact List.lt_trans hxy ((List.pairwise_cons.mp ih).1 w hw)
theorem nodup_len {α : Type} [DecidableEq α] : ∀ {l m : List α}, l.Nodup → (∀ x ∈ l, x ∈ m) → l.length ≤ m.length
  | [], _, _, _ => Nat.zero_le _
  | x :: l, m, nd, h => by
    rw [List.nodup_cons] at nd
    have hx := h x (by simp)
    have := nodup_len (l := l) (m := m.erase x) nd.2 fun y hy => (List.mem_erase_of_ne (fun e => by subst e; exact nd.1 hy)).mpr (h y (by simp [hy]))
    rw [List.length_erase_of_mem hx] at this
    have := List.length_pos_of_mem hx
    simp; omega
/-- a show with all that is needed to write it -/
theorem showB_txt {d : D} (h : showB d = true) : ∃ chs mss, d = showT chs mss ∧ (mss.length ≤ 12 → TxtOk chs mss) := by
  obtain ⟨cs, us, rfl, h1, h4, hc, hup, hu⟩ := showB_wide h
  have ecs := chan_strs hc
  have hcl : ∀ z ∈ cs.map strOf, z.length ≤ 8 := fun z hz => by
    obtain ⟨d, hd, rfl⟩ := List.mem_map.mp hz
    exact chanB_len (List.all_eq_true.mp hc d hd)
  have hcue : ∀ u ∈ us, ∃ ms, u = cueD ms ∧ MsOk ms := fun u hu' => by
    have hb := List.all_eq_true.mp hu u hu'
    cases u with
    | tup xs =>
      simp only [cueB, Bool.and_eq_true] at hb
      obtain ⟨b1, b2⟩ := hb
      rw [List.all_eq_true] at b1
      have e1 : xs = (xs.map mvOf).map mvD := by
        rw [List.map_map]
        conv => lhs; rw [← List.map_id xs]
        exact List.map_congr_left fun x hx => (moveB_mv (b1 x hx)).1
      have en : xs.map nameOf = xs.map fun x => (mvOf x).1 := List.map_congr_left fun x hx => by
        have := (moveB_mv (b1 x hx)).1
        conv => lhs; rw [this]
        rfl
      have nd : (xs.map fun x => (mvOf x).1).Nodup := by rw [← en]; exact up_nodup (climb_adj b2)
      have hle := nodup_len nd fun z hz => by
        obtain ⟨x, hx, rfl⟩ := List.mem_map.mp hz
        exact (moveB_mv (b1 x hx)).2.1
      refine ⟨xs.map mvOf, congrArg D.tup e1, by simp at hle ⊢; omega, fun p hp => ?_⟩
      obtain ⟨x, hx, rfl⟩ := List.mem_map.mp hp
      obtain ⟨_, m1, m2, m3⟩ := moveB_mv (b1 x hx)
      exact ⟨hcl _ m1, m2, m3⟩
    | _ => cases hb
  have hus : ∃ mss : List (List (Str × Int)), us = mss.map cueD ∧ ∀ ms ∈ mss, MsOk ms := by
    clear hu h hup
    induction us with
    | nil => exact ⟨[], rfl, fun _ h => absurd h (by simp)⟩
    | cons u us ih =>
      obtain ⟨mss, e, hm⟩ := ih fun u hu => hcue u (by simp [hu])
      obtain ⟨ms, rfl, hms⟩ := hcue u (by simp)
      exact ⟨ms :: mss, by simp [e], fun m hm' => by
        rcases List.mem_cons.mp hm' with rfl | hm'
        · exact hms
        · exact hm m hm'⟩
  obtain ⟨mss, rfl, hms⟩ := hus
  refine ⟨cs.map strOf, mss, ?_, fun h12 => ⟨by simpa using h4, fun e => by have := congrArg List.length e; simp at this; subst this; simp at h1, hcl, h12, hms⟩⟩
  unfold showT
  rw [← ecs]
theorem kn_move {z : Str} (hz : okS z) {G : DHp} : Kn 6 G (moveR z) := by
  have hh : okS ((Txt.split z "=").headD z) := by
    cases e : Txt.split z "=" with
    | nil => exact absurd e sepEq.ne
    | cons a b => exact sepEq.part hz (by rw [e]; simp)
  refine ⟨by simp, fun d hd => ?_⟩
  simp only [List.mem_cons, List.not_mem_nil, or_false] at hd
  rcases hd with rfl | rfl
  · exact kn_str.mpr ⟨hh.1, by have := hh.2; omega⟩
  · split
    · cases numIn (((Txt.split z "=")[1]?).getD z) with
      | none => exact kn_non
      | some i => exact kn_int
    · exact kn_non
theorem rows_ok {z : Str} (hz : okS z) : ∀ r ∈ rowsR z, r.length ≤ 5002 ∧ ∀ w ∈ r, okS w := fun r hr => by
  obtain ⟨l, hl, rfl⟩ := List.mem_map.mp hr
  have hl := sepNl.part hz hl
  refine ⟨by have := sepSp.many (x := l); have := hl.2; omega, fun w hw => sepSp.part hl hw⟩
theorem rows_len {z : Str} (hz : okS z) : (rowsR z).length ≤ 5002 := by
  unfold rowsR
  rw [List.length_map]
  have := sepNl.many (x := z); have := hz.2; omega
theorem kn_read {z : Str} (hz : okS z) {G : DHp} : Kn 9 G (readD z) := by
  have h1 := rows_ok hz
  have h2 := rows_len hz
  refine ⟨by simp, fun d hd => ?_⟩
  simp only [List.mem_cons, List.not_mem_nil, or_false] at hd
  rcases hd with rfl | rfl
  · have hc : ∀ w ∈ (rowsR z).head?.getD [], okS w := by
      cases e : rowsR z with
      | nil => exact fun w hw => absurd hw (by simp)
      | cons r t => exact fun w hw => (h1 r (by rw [e]; simp)).2 w hw
    have hl : ((rowsR z).head?.getD []).length ≤ 5002 := by
      cases e : rowsR z with
      | nil => simp
      | cons r t => exact (h1 r (by rw [e]; simp)).1
    refine ⟨by simp [chsR]; omega, fun d hd => ?_⟩
    obtain ⟨w, hw, rfl⟩ := List.mem_map.mp hd
    have := hc w (List.mem_of_mem_drop hw)
    exact kn_str.mpr ⟨this.1, by have := this.2; omega⟩
  · refine ⟨by simp [cuesR]; omega, fun d hd => ?_⟩
    obtain ⟨r, hr, rfl⟩ := List.mem_map.mp hd
    have hr := h1 r (List.mem_of_mem_drop hr)
    refine ⟨by simp; omega, fun e he => ?_⟩
    obtain ⟨w, hw, rfl⟩ := List.mem_map.mp he
    exact (kn_move (hr.2 w (List.mem_of_mem_drop hw)))
def wordR : D → D
  | .str w => moveR w
  | _ => .non
theorem Refs.drop {G : DHp} {r : List D} {l : List (List D)} (h : Refs G r l) : Refs G (r.drop 1) (l.drop 1) := by
  cases h with
  | nil => exact .nil
  | cons _ h => exact h
abbrev sp_read_show (C : Addr) : DSp := sp1 fun v G Q E => (∃ z : Str, v = .str z ∧ okS z ∧ (goodS z → ∀ G', Ext G G' → Q (readD z) G') ∧ (¬ goodS z → ∀ G', Ext G G' → E ⟨C, none⟩ G')) ∨ (isK .str G v = some false ∧ ∀ G', Ext G G' → E ⟨C, none⟩ G')
def b_read_show (C : ExC) (E : DXK) : WS :=
  (wSeq (wIf (wtNot (wTest (wIsi .str (wVar 0)))) (wRaise (fun _ => E) C.WrongText) wNext)
  (wSeq (wAsg (wLc [4] (wiLst (wStrM dSplit (wVar 0) (wC (.str "\n")))) (wgName 4) wtYes (wStrM dSplit (wVar 4) (wC (.str " ")))) (wgName 1))
  (wSeq (wAsg (wCB dTuple (wCons (wLc [5] (wiLst (wSl (wVar 1) (woSome (wC (.int 1))) woNone)) (wgName 5) wtYes (wCB dTuple (wCons (wLc [6] (wiLst (wSl (wVar 5) (woSome (wC (.int 1))) woNone)) (wgName 6) wtYes (wCall sp_move_in (noX) (wCons (wVar 6) wNil))) wNil))) wNil)) (wgName 2))
  (wSeq (wAsg (wTup (wCons (wCB dTuple (wCons (wSl (wOp dIx (wVar 1) (wC (.int 0))) (woSome (wC (.int 1))) woNone) wNil)) (wCons (wVar 2) wNil))) (wgName 3))
  (wSeq (wIf (wtOr (wtNot (wTest (wCall sp_is_right_show (fun _ => E) (wCons (wVar 3) wNil)))) (wtOr (wTest (wOp dGt (wCB dLen (wCons (wVar 2) wNil)) (wC (.int 12)))) (wTest (wOp dNe (wCall sp_show_lines (fun _ => E) (wCons (wVar 3) wNil)) (wVar 0))))) (wRaise (fun _ => E) C.WrongText) wNext)
  (wRet (wVar 3)))))))
abbrev N_read_show : List Str := ["value", "rows", "cues", "show", "line", "row", "word"]
abbrev Okb_read_show (C : ExC) (sp : DSp) : Prop := ∀ ds G Q E, sp ds G Q E → b_read_show C E { nx := fun _ G' => Q .non G', rt := Q } (startD N_read_show ds) G
theorem ok_read_show {C : ExC} : Okb_read_show C (sp_read_show C.WrongText) := by
  intro ds G Q E h0
  obtain ⟨v, rfl, h⟩ := sp1_inv h0
  clear h0
  simp only [b_read_show, startD, List.replicate]
  rcases h with ⟨z, rfl, hz, hg, hb⟩ | ⟨hk, hb⟩
  · refine seq_go fun nx hnx => ?_
    refine if_go fun A B hA hB => ?_
    simp
    refine hB _ (hnx _ _ ?_)
    clear hnx hA hB
    refine seq_go fun nx hnx => ?_
    simp
    have hzl := hz.2
    refine ⟨z, "\n", rfl, rfl, sepNl.len, by omega, fun p hp => ?_⟩
    rw [kLstI_ref]
    refine ⟨_, updD_same, ?_⟩
    have gp := updD_same (G := G) (a := p) (o := .lst ((Txt.split z "\n").map .str))
    have e1 : Ext G (updD G p (.lst ((Txt.split z "\n").map .str))) := Ext.new hp
    generalize updD G p (.lst ((Txt.split z "\n").map .str)) = G1 at gp e1 ⊢
    have hmany := sepNl.many (x := z)
    refine lcW_rule (fun r acc G' => ∃ dn rest : List Str, Txt.split z "\n" = dn ++ rest ∧ r = rest.map .str ∧ Ext G1 G' ∧ Refs G' acc ((dn.map fun l => Txt.split l " ").map strsD)) ?_ ?_ ⟨[], _, rfl, rfl, .refl, .nil⟩
    · rintro x r acc G2 K ⟨dn, rest, f1, f2, ex, rf⟩ hK
      refine ⟨ex _ _ gp, ?_⟩
      cases rest with
      | nil => cases f2
      | cons l rest =>
        obtain ⟨rfl, rfl⟩ := List.cons.inj f2
        have hl : okS l := sepNl.part hz (by rw [f1]; simp)
        simp
        refine ⟨l, " ", rfl, rfl, sepSp.len, by have := hl.2; omega, fun q hq => ?_⟩
        have h1 := rf.length
        have h2 := congrArg List.length f1
        simp at h1 h2
        refine ⟨by omega, hK _ _ ⟨dn ++ [l], rest, by simp [f1], rfl, ex.trans (Ext.new hq), ?_⟩⟩
        rw [List.map_append, List.map_append]
        exact (rf.ext (Ext.new hq)).snoc updD_same
    · rintro acc G2 ⟨dn, rest, f1, f2, ex, rf⟩
      refine ⟨ex _ _ gp, fun p1 hp1 => ?_⟩
      have : rest = [] := by simpa using f2.symm
      subst this
      rw [List.append_nil] at f1
      rw [← f1] at rf
      refine hnx _ _ ?_
      clear hnx
      have rf : Refs (updD G2 p1 (.lst acc)) acc ((rowsR z).map strsD) := rf.ext (Ext.new hp1)
      have g1 := updD_same (G := G2) (a := p1) (o := .lst acc)
      have e3 : Ext G (updD G2 p1 (.lst acc)) := e1.trans (ex.trans (Ext.new hp1))
      generalize updD G2 p1 (.lst acc) = G3 at rf g1 e3 ⊢
      clear ex f1 hp1 gp e1
      have hrl := rows_len hz
      have hro := rows_ok hz
      refine seq_go fun nx hnx => ?_
      simp
      refine ⟨_, g1, fun p2 hp2 => ?_⟩
      have e4 := Ext.new (o := .lst (cut acc (some 1) none)) hp2
      have ec : cut acc (some 1) none = acc.drop 1 := cut_from (n := 1)
      have g2 := updD_same (G := G3) (a := p2) (o := .lst (cut acc (some 1) none))
      rw [ec] at e4 g2 ⊢
      have rf4 := rf.ext e4
      have g14 := e4 _ _ g1
      have e40 := e3.trans e4
      generalize updD G3 p2 (.lst (acc.drop 1)) = G4 at e4 g2 rf4 g14 e40 ⊢
      have rfd : Refs G4 (acc.drop 1) (((rowsR z).drop 1).map strsD) := by
        rw [List.map_drop]
        exact rf4.drop
      refine lcW_rule (fun r acc' G' => ∃ dn rest : List (List Str), (rowsR z).drop 1 = dn ++ rest ∧ Refs G4 r (rest.map strsD) ∧ Ext G4 G' ∧ acc' = dn.map cueR') ?_ ?_ ⟨[], _, rfl, rfd, .refl, rfl⟩
      · rintro x r acc' G5 K ⟨dn, rest, f1, f2, ex, rfl⟩ hK
        refine ⟨ex _ _ g2, ?_⟩
        cases rest with
        | nil => cases f2
        | cons row rest =>
          cases f2 with
          | cons hpr hrest =>
            rename_i pr r
            have hrow := hro row (List.mem_of_mem_drop (by rw [f1]; simp))
            have hdl := congrArg List.length f1
            simp at hdl
            simp [-sp1_at]
            refine ⟨_, ex _ _ hpr, fun p5 hp5 => ?_⟩
            have er : cut (strsD row) (some 1) none = (row.drop 1).map .str := by
              have := cut_from (xs := strsD row) (n := 1)
              rw [show ((1 : Nat) : Int) = 1 from rfl] at this
              rw [this, strsD, List.map_drop]
            rw [er]
            refine lc_map wordR (by simp; omega) (fun G' e => e _ _ updD_same) (fun x hx G6 K e6 hK => ?_) fun G6 q e6 hq => ?_
            · obtain ⟨w, hw, rfl⟩ := List.mem_map.mp hx
              have := hrow.2 w (List.mem_of_mem_drop hw)
              simp [-sp1_at]
              exact ⟨w, rfl, by have := this.2; omega, fun G7 e7 => hK _ e7⟩
            · rw [dTuple_ref updD_same]
              refine ⟨by omega, hK _ _ ⟨dn ++ [row], rest, by simp [f1], hrest, ex.trans ((Ext.new hp5).trans (e6.trans (Ext.new hq))), ?_⟩⟩
              simp [cueR', wordR]
              rfl
      · rintro acc' G5 ⟨dn, rest, f1, f2, ex, rfl⟩
        refine ⟨ex _ _ g2, fun q hq => ?_⟩
        have : rest = [] := by cases rest with | nil => rfl | cons _ _ => cases f2
        subst this
        rw [List.append_nil] at f1
        rw [dTuple_ref updD_same]
        refine hnx _ _ ?_
        clear hnx
        rw [← f1]
        have ecu : ((rowsR z).drop 1).map cueR' = cuesR z := rfl
        rw [ecu]
        have g15 := (ex.trans (Ext.new (o := .lst (cuesR z)) hq)) _ _ g14
        have rf5 := rf4.ext (ex.trans (Ext.new (o := .lst (cuesR z)) hq))
        have e50 := e40.trans (ex.trans (Ext.new (o := .lst (cuesR z)) hq))
        generalize updD G5 q (.lst (cuesR z)) = G6 at g15 rf5 e50 ⊢
        obtain ⟨row0, rows, hrows⟩ : ∃ a b, rowsR z = a :: b := by
          cases e : rowsR z with
          | nil =>
            have : Txt.split z "\n" = [] := by unfold rowsR at e; simpa using e
            exact absurd this sepNl.ne
          | cons a b => exact ⟨a, b, rfl⟩
        rw [hrows] at rf5
        have hrow0 := hro row0 (by rw [hrows]; simp)
        obtain ⟨pr0, racc, rfl, hpr0⟩ : ∃ pr racc, acc = .ref pr :: racc ∧ G6 pr = some (.lst (strsD row0)) := by
          cases rf5 with
          | cons h1 h2 => exact ⟨_, _, rfl, h1⟩
        refine seq_go fun nx hnx => ?_
        simp
        refine ⟨_, g15, ?_⟩
        rw [List.getElem?_cons_zero, must_some, dSl_ref]
        refine ⟨_, hpr0, fun p6 hp6 => ?_⟩
        have er : cut (strsD row0) (some 1) none = (row0.drop 1).map .str := by
          have := cut_from (xs := strsD row0) (n := 1)
          rw [show ((1 : Nat) : Int) = 1 from rfl] at this
          rw [this, strsD, List.map_drop]
        rw [er, dTuple_ref updD_same]
        refine hnx _ _ ?_
        clear hnx
        have e60 : Ext G (updD G6 p6 (.lst ((row0.drop 1).map .str))) := e50.trans (Ext.new hp6)
        generalize updD G6 p6 (.lst ((row0.drop 1).map .str)) = G7 at e60 ⊢
        have erd : D.tup [.tup ((row0.drop 1).map .str), .tup (cuesR z)] = readD z := by
          unfold readD chsR; rw [hrows]; rfl
        rw [erd]
        refine seq_go fun nx hnx => ?_
        refine if_go fun A B hA hB => ?_
        simp [-sp1_at]
        refine ⟨9, by omega, kn_read hz, fun G8 e8 => ?_⟩
        have bad : ¬ goodS z → ∀ G9, Ext G7 G9 → A G9 := fun hng G9 e9 => hA _ (by simp; exact hb hng _ (e60.trans e9))
        rw [kB_bl]
        cases hsb : showB (readD z) with
        | false =>
          rw [if_neg (by simp)]
          exact bad (fun ⟨_, _, _, h, _⟩ => by rw [hsb] at h; cases h) _ e8
        | true =>
          rw [if_pos rfl]
          obtain ⟨chs, mss, ed, hok⟩ := showB_txt hsb
          have ecl : (cuesR z).length = mss.length := by
            have := mssOf_show (chs := chs) (mss := mss)
            rw [← ed] at this
            have e2 : mssOf (readD z) = (cuesR z).map msOf := rfl
            rw [e2] at this
            rw [← this, List.length_map]
          have same : ∀ chs' mss', readD z = showT chs' mss' → chs' = chs ∧ mss' = mss := fun chs' mss' e => showT_inj (e.symm.trans ed)
          by_cases h12 : 12 < ((cuesR z).length : Int)
          · rw [if_pos h12]
            refine bad (fun ⟨chs', mss', e', _, h', _⟩ => ?_) _ e8
            obtain ⟨rfl, rfl⟩ := same _ _ e'
            omega
          · rw [if_neg h12]
            have hlen : mss.length ≤ 12 := by omega
            refine ⟨chs, mss, ed, hok hlen, fun G9 e9 => ?_⟩
            show dNe (.str (linesS chs mss)) (.str z) G9 _
            rw [dNe_str, kB_bl]
            by_cases hz2 : linesS chs mss = z
            · have hgood : goodS z := ⟨chs, mss, ed, hsb, hlen, hz2⟩
              simp [hz2]
              refine hB _ (hnx _ _ ?_)
              simp
              exact hg hgood _ (e60.trans (e8.trans e9))
            · simp [hz2]
              refine bad (fun ⟨chs', mss', e', _, _, h'⟩ => ?_) _ (e8.trans e9)
              obtain ⟨rfl, rfl⟩ := same _ _ e'
              exact hz2 h'
  · refine seq_go fun nx hnx => ?_
    refine if_go fun A B hA hB => ?_
    simp [hk]
    refine hA _ ?_
    simp
    exact hb _ .refl
end TC
set_option maxRecDepth 100000
set_option maxHeartbeats 4000000
/-! WD: a text read back; the law's helpers. -/
namespace TC
open PySem PySem.Spec PyProof.Rows L2
theorem mem_joinL {S : List Nat} {c : Nat} : ∀ {l : List (List Nat)}, c ∈ TL.joinL S l → c ∈ S ∨ ∃ p ∈ l, c ∈ p
  | [], h => by cases h
  | [p], h => .inr ⟨p, by simp, h⟩
  | p :: q :: r, h => by
    have h : c ∈ p ++ (S ++ TL.joinL S (q :: r)) := h
    rcases List.mem_append.mp h with h | h
    · exact .inr ⟨p, by simp, h⟩
    · rcases List.mem_append.mp h with h | h
      · exact .inl h
      · rcases mem_joinL h with h | ⟨x, hx, h⟩
        · exact .inl h
        · exact .inr ⟨x, by simp [hx], h⟩
theorem mem_join {y : Str} {c : Nat} {parts : List Str} (h : c ∈ TL.tl (Txt.join y parts)) : c ∈ TL.tl y ∨ ∃ p ∈ parts, c ∈ TL.tl p := by
  rw [TL.join_eq, TL.tl_join] at h
  rcases mem_joinL h with h | ⟨p, hp, h⟩
  · exact .inl h
  · obtain ⟨q, hq, rfl⟩ := List.mem_map.mp hp
    exact .inr ⟨q, hq, h⟩
/-- none of the three separators -/
def NoSep (z : Str) : Prop := 32 ∉ TL.tl z ∧ 10 ∉ TL.tl z ∧ 61 ∉ TL.tl z
theorem let_no : letB 32 = false ∧ letB 10 = false ∧ letB 61 = false := by decide +kernel
theorem chan_nosep {z : Str} (h : chanB (.str z) = true) : NoSep z := by
  simp only [chanB, Bool.and_eq_true, decide_eq_true_eq] at h
  have hl := h.2.2
  rw [List.all_eq_true] at hl
  refine ⟨fun q => ?_, fun q => ?_, fun q => ?_⟩
  · have := hl _ q; rw [let_no.1] at this; cases this
  · have := hl _ q; rw [let_no.2.1] at this; cases this
  · have := hl _ q; rw [let_no.2.2] at this; cases this
theorem numS_tl (n : Nat) : TL.tl (numS (n : Int)) = TL.numL n := TL.tl_num n
theorem num_nosep {i : Int} (h : 0 ≤ i) : NoSep (numS i) := by
  obtain ⟨n, rfl⟩ : ∃ n : Nat, i = (n : Int) := ⟨i.toNat, by omega⟩
  unfold NoSep
  rw [numS_tl]
  exact ⟨TL.numL_free (by omega), TL.numL_free (by omega), TL.numL_free (by omega)⟩
theorem numIn_num {i : Int} (h0 : 0 ≤ i) (h1 : i ≤ 100) : numIn (numS i) = some i := by
  obtain ⟨n, rfl⟩ : ∃ n : Nat, i = (n : Int) := ⟨i.toNat, by omega⟩
  unfold numIn
  have hf : (List.range 101).find? (fun m => decide (numS (n : Int) = numS (m : Nat))) = some n := by
    rw [List.find?_eq_some_iff_getElem]
    refine ⟨decide_eq_true rfl, n, by simp; omega, by simp, fun j hj => ?_⟩
    have : numS (n : Int) ≠ numS ((j : Nat) : Int) := fun e => by
      have e2 := congrArg TL.tl e
      rw [numS_tl, numS_tl] at e2
      have := TL.numL_inj e2
      omega
    simpa using this
  rw [hf]; rfl
structure MvTxt (p : Str × Int) : Prop where
  nm : NoSep p.1
  lo : 0 ≤ p.2
  hi : p.2 ≤ 100
theorem word_join {p : Str × Int} : wordS p = Txt.join "=" [p.1, numS p.2] := by
  rw [TL.join_eq]; rfl
theorem move_back {p : Str × Int} (h : MvTxt p) : moveR (wordS p) = mvD p := by
  have e : Txt.split (wordS p) "=" = [p.1, numS p.2] := by
    rw [word_join]
    refine sepEq.back (by simp) fun q hq => ?_
    simp only [List.mem_cons, List.not_mem_nil, or_false] at hq
    rcases hq with rfl | rfl
    · exact h.nm.2.2
    · exact (num_nosep h.lo).2.2
  unfold moveR
  rw [e]
  simp [numIn_num h.lo h.hi, mvD, levD]
theorem word_free {p : Str × Int} (h : MvTxt p) : 32 ∉ TL.tl (wordS p) ∧ 10 ∉ TL.tl (wordS p) := by
  have hn := num_nosep h.lo
  rw [word_join]
  have t : TL.tl "=" = [61] := sepEq.tl
  constructor
  · intro hc
    rcases mem_join hc with hc | ⟨q, hq, hc⟩
    · rw [t] at hc; simp at hc
    · simp only [List.mem_cons, List.not_mem_nil, or_false] at hq
      rcases hq with rfl | rfl
      · exact h.nm.1 hc
      · exact hn.1 hc
  · intro hc
    rcases mem_join hc with hc | ⟨q, hq, hc⟩
    · rw [t] at hc; simp at hc
    · simp only [List.mem_cons, List.not_mem_nil, or_false] at hq
      rcases hq with rfl | rfl
      · exact h.nm.2.1 hc
      · exact hn.2.1 hc
theorem lit_free : (32 ∉ TL.tl "cue" ∧ 10 ∉ TL.tl "cue") ∧ 32 ∉ TL.tl "channels" ∧ 10 ∉ TL.tl "channels" := by decide +kernel
/-- a written show, read -/
theorem read_back {chs : List Str} {mss : List (List (Str × Int))} (hc : ∀ z ∈ chs, NoSep z) (hm : ∀ ms ∈ mss, ∀ p ∈ ms, MvTxt p) : readD (linesS chs mss) = showT chs mss := by
  have free : ∀ parts : List Str, (∀ p ∈ parts, 10 ∉ TL.tl p) → 10 ∉ TL.tl (Txt.join " " parts) := fun parts hp hcc => by
    rcases mem_join hcc with h | ⟨p, h1, h2⟩
    · rw [sepSp.tl] at h; simp at h
    · exact hp p h1 h2
  have rows : rowsR (linesS chs mss) = (("channels" : Str) :: chs) :: mss.map fun ms => ("cue" : Str) :: ms.map wordS := by
    unfold rowsR linesS
    rw [sepNl.back (by simp) fun p hp => ?_]
    · rw [List.map_cons, sepSp.back (by simp) fun p hp => ?_]
      · congr 1
        rw [List.map_map]
        refine List.map_congr_left fun ms hms => ?_
        show Txt.split (cueS ms) " " = _
        unfold cueS
        refine sepSp.back (by simp) fun p hp => ?_
        rcases List.mem_cons.mp hp with rfl | hp
        · exact lit_free.1.1
        · obtain ⟨q, hq, rfl⟩ := List.mem_map.mp hp
          exact (word_free (hm ms hms q hq)).1
      · rcases List.mem_cons.mp hp with rfl | hp
        · exact lit_free.2.1
        · exact (hc p hp).1
    · rcases List.mem_cons.mp hp with rfl | hp
      · refine free _ fun q hq => ?_
        rcases List.mem_cons.mp hq with rfl | hq
        · exact lit_free.2.2
        · exact (hc q hq).2.1
      · obtain ⟨ms, hms, rfl⟩ := List.mem_map.mp hp
        refine free _ fun q hq => ?_
        rcases List.mem_cons.mp hq with rfl | hq
        · exact lit_free.1.2
        · obtain ⟨w, hw, rfl⟩ := List.mem_map.mp hq
          exact (word_free (hm ms hms w hw)).2
  unfold readD chsR cuesR showT
  rw [rows]
  simp only [List.head?_cons, Option.getD_some, List.drop_succ_cons, List.drop_zero, List.map_map]
  congr 3
  congr 1
  refine List.map_congr_left fun ms hms => ?_
  show cueR' _ = cueD ms
  unfold cueR' cueD
  simp only [List.drop_succ_cons, List.drop_zero, List.map_map]
  congr 1
  exact List.map_congr_left fun p hp => move_back (hm ms hms p hp)
/-- a text is good: computed -/
def goodB (z : Str) : Bool := showB (readD z) && (decide ((mssOf (readD z)).length ≤ 12) && decide (linesS (chsOf (readD z)) (mssOf (readD z)) = z))
theorem goodB_of {z : Str} (h : goodS z) : goodB z = true := by
  obtain ⟨chs, mss, e, h1, h2, h3⟩ := h
  unfold goodB
  rw [h1, e, chsOf_show, mssOf_show, decide_eq_true h2, decide_eq_true h3]; rfl
theorem not_good {z : Str} (h : goodB z = false) : ¬ goodS z := fun g => by rw [goodB_of g] at h; cases h
/-! ### the law's text -/
theorem head_text {chs : List Str} (h : chs ≠ []) : ("channels " : Str) ++ Txt.join " " chs = Txt.join " " (("channels" : Str) :: chs) := by
  rw [TL.join_eq, TL.join_eq]
  cases chs with
  | nil => exact absurd rfl h
  | cons c r => rfl
abbrev sp__law_show_text : DSp := sp1 fun sh G Q _ => ∃ (chd : D) (chs : List Str) (mss : List (List (Str × Int))), sh = .tup [chd, .tup (mss.map cueD)] ∧ isTF chd chs ∧ TxtOk chs mss ∧ ∀ G', Ext G G' → Q (.str (linesS chs mss)) G'
def b__law_show_text  (E : DXK) : WS :=
  (wSeq (wAsg (wLst (wCons (wOp dAdd (wC (.str "channels ")) (wStrM dJoin (wC (.str " ")) (wOp dIx (wVar 0) (wC (.int 0))))) wNil)) (wgName 1))
  (wSeq (wFor (wiTup (wOp dIx (wVar 0) (wC (.int 1)))) (wgName 2) (wExpr (wMt dAppend (wVar 1) (wCons (wStrM dJoin (wC (.str " ")) (wOp dAdd (wLst (wCons (wC (.str "cue")) wNil)) (wLc [3] (wiTup (wVar 2)) (wgName 3) wtYes (wOp dAdd (wOp dAdd (wOp dIx (wVar 3) (wC (.int 0))) (wC (.str "="))) (wCB dStr1 (wCons (wOp dIx (wVar 3) (wC (.int 1))) wNil)))))) wNil))))
  (wRet (wStrM dJoin (wC (.str "\n")) (wVar 1)))))
abbrev N__law_show_text : List Str := ["show", "lines", "cue", "move"]
abbrev Okb__law_show_text  (sp : DSp) : Prop := ∀ ds G Q E, sp ds G Q E → b__law_show_text  E { nx := fun _ G' => Q .non G', rt := Q } (startD N__law_show_text ds) G
theorem isTF.items {chd : D} {chs : List Str} (h : isTF chd chs) {G : DHp} : itemsD G chd = some (chs.map .str) := by rcases h with rfl | rfl <;> rfl
theorem ok__law_show_text : Okb__law_show_text sp__law_show_text := by
  intro ds G Q E h0
  obtain ⟨sh, rfl, chd, chs, mss, rfl, htf, ok, h⟩ := sp1_inv h0
  clear h0
  have hh := head_len ok.few ok.each
  have e2 : (" " : Str).length = 1 := by decide
  have e3 : ("\n" : Str).length = 1 := by decide
  have e4 : ("channels " : Str).length = 9 := by decide
  have hj := join_len (sep := " ") (parts := chs)
  have hs : (chs.map (·.length)).sum ≤ chs.length * 8 := sum_le ok.each
  rw [e2] at hj
  simp only [b__law_show_text, startD, List.replicate]
  refine seq_go fun nx hnx => ?_
  simp
  have hf := ok.few
  refine ⟨" ", chs, rfl, htf.items, by rw [e2]; omega, by omega, fun p1 hp1 => ?_⟩
  rw [head_text ok.ne]
  refine hnx _ _ ?_
  clear hnx
  refine seq_go fun nx hnx => ?_
  simp
  refine forW_rule (fun r ρ' G' => ∃ (dn rest : List (List (Str × Int))) (o2 o3 : Option D), mss = dn ++ rest ∧ r = rest.map cueD ∧ Ext G G' ∧ G' p1 = some (.lst ((Txt.join " " (("channels" : Str) :: chs) :: dn.map cueS).map .str)) ∧ ρ' = [some (.tup [chd, .tup (mss.map cueD)]), some (.ref p1), o2, o3]) ?_ ?_
    ⟨[], mss, none, none, rfl, rfl, Ext.new hp1, updD_same, rfl⟩
  · rintro x r ρ' G2 nx2 ⟨dn, rest, o2, o3, f1, f2, ex2, g1, rfl⟩ hnx2
    refine ⟨trivial, ?_⟩
    cases rest with
    | nil => cases f2
    | cons ms rest =>
      obtain ⟨rfl, rfl⟩ := List.cons.inj f2
      have hok := ok.ms ms (by rw [f1]; simp)
      simp [cueD]
      refine ⟨⟨p1, _, rfl, g1⟩, fun p hp => ?_⟩
      have hf4 := hok.few
      refine lc_map wordD (by simp; omega) (fun _ _ => trivial) (fun x hx G3 K e3 hK => ?_) fun G3 q e3 hq => ?_
      · obtain ⟨pr, hpr, rfl⟩ := List.mem_map.mp hx
        have h3 := hok.each pr hpr
        have e1 : ("=" : Str).length = 1 := by decide
        have hn := numS_len h3.2.1 h3.2.2
        have hb : pr.2.natAbs < 2 ^ 1000 := Nat.lt_of_lt_of_le (show pr.2.natAbs < 2 ^ 8 by omega) (Nat.pow_le_pow_right (by omega) (by omega))
        simp [mvD, -Nat.reducePow]
        refine ⟨by omega, hb, ?_, ?_⟩
        · rw [Str.length_append]; omega
        · exact hK _ .refl
      · rw [words_map]
        have gp := e3 _ _ updD_same
        have pq : p ≠ q := fun e => by subst e; rw [gp] at hq; cases hq
        rw [dAdd_ref]
        refine ⟨_, _, by rw [updD_ne pq]; exact gp, updD_same, by simp; omega, fun r hr => ?_⟩
        have e5 : Ext G2 (updD (updD G3 q (.lst ((ms.map wordS).map .str))) r (.lst ([.str "cue"] ++ (ms.map wordS).map .str))) := ((Ext.new hp).trans e3).trans ((Ext.new hq).trans (Ext.new hr))
        have hs := (cueS_len hok).1
        refine ⟨" ", ("cue" : Str) :: ms.map wordS, rfl, by simp [itemsD, updD_same], by rw [e2]; simp only [List.length_cons, List.length_map]; omega, ?_⟩
        have hd : dn.length ≤ 12 := by have := ok.cues; rw [f1] at this; simp at this; omega
        refine ⟨_, e5 _ _ g1, by simp; omega, ?_⟩
        refine hnx2 _ _ ⟨dn ++ [ms], rest, _, _, by simp [f1], rfl, ext_wn' (ex2.trans e5) hp1, ?_, rfl⟩
        rw [updD_same]
        simp [cueS]
  · rintro ρ' G2 ⟨dn, rest, o2, o3, f1, f2, ex2, g1, rfl⟩
    refine ⟨trivial, ?_⟩
    have : rest = [] := by simpa using f2.symm
    subst this
    rw [List.append_nil] at f1
    subst f1
    refine hnx _ _ ?_
    simp
    refine ⟨"\n", Txt.join " " (("channels" : Str) :: chs) :: mss.map cueS, rfl, ?_, ?_, h _ ex2⟩
    · simp [itemsD, g1]
    · have := (lines_len ok).1
      have h12 := ok.cues
      rw [e3]
      simp only [List.length_cons, List.length_map]
      omega
abbrev sp_show_text (C : Addr) : DSp := sp1 fun sh G Q E => ∃ n, n < 20 ∧ Kn n G (wk sh) ∧ ∃ (chs : List Str) (mss : List (List (Str × Int))), wk sh = .tup [.tup (chs.map .str), .tup (mss.map cueD)] ∧ showB (wk sh) = true ∧ TxtOk chs mss ∧ ∀ G', Ext G G' → Q (.str (linesS chs mss)) G'
def b_show_text (C : ExC) (E : DXK) : WS :=
  (wSeq (wExpr (wCall (sp_need_show C.InvalidShow) (fun _ => E) (wWk (wCons (wVar 0) wNil))))
  (wRet (wCall sp_show_lines (fun _ => E) (wWk (wCons (wVar 0) wNil)))))
abbrev N_show_text : List Str := ["show"]
abbrev Okb_show_text (C : ExC) (sp : DSp) : Prop := ∀ ds G Q E, sp ds G Q E → b_show_text C E { nx := fun _ G' => Q .non G', rt := Q } (startD N_show_text ds) G
theorem ok_show_text {C : ExC} : Okb_show_text C (sp_show_text C.InvalidShow) := by
  intro ds G Q E h0
  obtain ⟨sh, rfl, n, hn, kn, chs, mss, e, hb, ok, h⟩ := sp1_inv h0
  clear h0
  simp only [b_show_text, startD, List.replicate]
  refine seq_go fun nx hnx => ?_
  simp
  refine ⟨n, hn, kn, fun G1 e1 => ?_⟩
  rw [hb, if_pos rfl]
  refine hnx _ _ ?_
  clear hnx
  simp
  exact ⟨chs, mss, e, ok, fun G2 e2 => h _ (e1.trans e2)⟩
abbrev sp__law_told_k72 : DSp := sp1 fun v G Q _ => (∃ z : Str, v = .str z ∧ okS z ∧ (goodS z → ∀ G', Ext G G' → Q (readD z) G') ∧ (¬ goodS z → ∀ G', Ext G G' → Q (.str "wrong!") G')) ∨ (isK .str G v = some false ∧ ∀ G', Ext G G' → Q (.str "wrong!") G')
def b__law_told_k72 (K : W.Frag) (C : ExC) (E : DXK) : WS :=
  (wTry1 K (.ref C.WrongText) (wRet (wC (.str "wrong!"))) (fun _ => E) (fun U1 => (wRet (wCall (sp_read_show C.WrongText) (U1) (wCons (wVar 0) wNil)))))
abbrev N__law_told_k72 : List Str := ["value"]
abbrev Okb__law_told_k72 (K : W.Frag) (C : ExC) (sp : DSp) : Prop := ∀ ds G Q E, sp ds G Q E → b__law_told_k72 K C E { nx := fun _ G' => Q .non G', rt := Q } (startD N__law_told_k72 ds) G
theorem ok__law_told_k72 {K : PySem.W.Frag} {C : ExC} (h1 : PySem.W.exmOne K (.ref C.WrongText) (.ref C.WrongText) = some true) : Okb__law_told_k72 K C sp__law_told_k72 := by
  intro ds G Q E h0
  obtain ⟨v, rfl, h⟩ := sp1_inv h0
  clear h0
  simp [b__law_told_k72, startD, wTry1]
  rcases h with ⟨z, rfl, hz, hg, hb⟩ | ⟨hk, hb⟩
  · exact .inl ⟨z, rfl, hz, hg, fun hng G1 e1 => (by first | exact ⟨true, h1, fun _ => hb hng _ e1, fun h => by cases h⟩ | exact .inr ⟨h1, hb hng _ e1⟩)⟩
  · exact .inr ⟨hk, fun G1 e1 => (by first | exact ⟨true, h1, fun _ => hb _ e1, fun h => by cases h⟩ | exact .inr ⟨h1, hb _ e1⟩)⟩
end TC
set_option maxRecDepth 100000
set_option maxHeartbeats 4000000
/-! WE: bent texts. -/
namespace TC
open PySem PySem.Spec PyProof.Rows L2
theorem cutS_tl {z : Str} {lo hi : Option Int} : ∃ a b, TL.tl (cutS z lo hi) = ((TL.tl z).drop a).take b := ⟨_, _, rfl⟩
theorem cut_ok {z : Str} {lo hi : Option Int} (h : PyData.strOk z = true) : PyData.strOk (cutS z lo hi) = true ∧ (cutS z lo hi).length ≤ z.length := by
  obtain ⟨a, b, e⟩ := cutS_tl (z := z) (lo := lo) (hi := hi)
  refine ⟨strOk_iff.mpr fun c hc => ?_, ?_⟩
  · rw [e] at hc
    exact strOk_iff.mp h c (List.mem_of_mem_drop (List.mem_of_mem_take hc))
  · rw [TL.len_tl, TL.len_tl z, e, List.length_take, List.length_drop]; omega
theorem app_ok {a b : Str} (h1 : PyData.strOk a = true) (h2 : PyData.strOk b = true) : PyData.strOk (a ++ b) = true := strOk_iff.mpr fun c hc => by
  rw [TL.tl_append] at hc
  rcases List.mem_append.mp hc with hc | hc
  · exact strOk_iff.mp h1 c hc
  · exact strOk_iff.mp h2 c hc
def signsZ : Str := " =ab0\n"
theorem sign_ok {r : Nat} (h : r < 6) : ∃ c, signsZ.cps.toList[r]? = some c ∧ PyData.strOk ⟨#[c]⟩ = true := by
  have : ∀ r, r < 6 → ((signsZ.cps.toList[r]?).any fun c => PyData.strOk ⟨#[c]⟩) = true := by decide +kernel
  have := this r h
  cases e : signsZ.cps.toList[r]? with
  | none => rw [e] at this; cases this
  | some c => rw [e] at this; exact ⟨c, rfl, this⟩
def bitsZ : List Str :=
  ["\ncue",
   " a=1", "=",
   "0", "cue ",
   " b",
   "\nchannels a",
   "="]
theorem bits_ok : ∀ z ∈ bitsZ, PyData.strOk z = true ∧ z.length ≤ 11 := by decide +kernel
abbrev sp__law_bent_k72 : DSp := sp2 fun s t G Q _ => ∃ (a : Addr) (z : Str), s = .ref a ∧ t = .str z ∧ PyData.strOk z = true ∧ z.length ≤ 100000 ∧ Src G a ∧ ∀ G' y, Drew a G G' → PyData.strOk y = true → y.length ≤ 2 * z.length + 12 → Q (.str y) G'
def b__law_bent_k72  (E : DXK) : WS :=
  (wSeq (wPar 3 4 (wCons (wCall sp__law_pick (fun _ => E) (wCons (wVar 0) (wCons (wOp dAdd (wCB dLen (wCons (wVar 1) wNil)) (wC (.int 1))) wNil))) (wCons (wC (.str " =ab0\n")) wNil)))
  (wSeq (wAsg (wCall sp__law_pick (fun _ => E) (wCons (wVar 0) (wCons (wC (.int 4)) wNil))) (wgName 2))
  (wSeq (wIf (wTest (wOp dLt (wVar 2) (wC (.int 2)))) (wRet (wOp dAdd (wOp dAdd (wSl (wVar 1) woNone (woSome (wVar 3))) (wOp dIx (wVar 4) (wCall sp__law_pick (fun _ => E) (wCons (wVar 0) (wCons (wCB dLen (wCons (wVar 4) wNil)) wNil))))) (wSl (wVar 1) (woSome (wOp dAdd (wVar 3) (wVar 2))) woNone))) wNext)
  (wSeq (wIf (wTest (wOp dEq (wVar 2) (wC (.int 2)))) (wRet (wOp dAdd (wSl (wVar 1) woNone (woSome (wVar 3))) (wSl (wVar 1) (woSome (wOp dAdd (wVar 3) (wC (.int 1)))) woNone))) wNext)
  (wRet (wOp dAdd (wOp dAdd (wSl (wVar 1) woNone (woSome (wVar 3))) (wCall sp__law_chosen (fun _ => E) (wCons (wVar 0) (wCons (wLst (wCons (wC (.str "\ncue")) (wCons (wC (.str " a=1")) (wCons (wC (.str "=")) (wCons (wC (.str "0")) (wCons (wC (.str "cue ")) (wCons (wC (.str " b")) (wCons (wC (.str "\nchannels a")) (wCons (wC (.str "=")) wNil))))))))) wNil)))) (wSl (wVar 1) (woSome (wVar 3)) woNone)))))))
abbrev N__law_bent_k72 : List Str := ["source", "text", "kind", "at", "signs"]
abbrev Okb__law_bent_k72  (sp : DSp) : Prop := ∀ ds G Q E, sp ds G Q E → b__law_bent_k72  E { nx := fun _ G' => Q .non G', rt := Q } (startD N__law_bent_k72 ds) G
theorem ok__law_bent_k72 : Okb__law_bent_k72 sp__law_bent_k72 := by
  intro ds G Q E h0
  obtain ⟨s, t, rfl, a, z, rfl, rfl, hz, hl, hs, h⟩ := sp2_inv h0
  clear h0
  simp only [b__law_bent_k72, startD, List.replicate]
  refine seq_go fun nx hnx => ?_
  simp [-sp2_at]
  refine ⟨by omega, a, z.length + 1, rfl, by simp, by omega, by omega, hs, fun G1 at_ d1 h1 => ?_⟩
  refine hnx _ _ ?_
  clear hnx
  refine seq_go fun nx hnx => ?_
  simp [-sp2_at]
  refine ⟨a, 4, rfl, rfl, by omega, by omega, d1.2, fun G2 kd d2 h2 => ?_⟩
  refine hnx _ _ ?_
  clear hnx
  have d12 := d1.trans d2
  have c1 := cut_ok (lo := none) (hi := some (at_ : Int)) hz
  refine seq_go fun nx hnx => ?_
  refine if_go fun A B hA hB => ?_
  simp [-sp2_at]
  by_cases hk : (kd : Int) < 2
  · have hk' : kd < 2 := by omega
    rw [if_pos (by omega)]
    refine hA _ ?_
    have e6 : (" =ab0\n" : Str).length = 6 := by decide +kernel
    simp [-sp2_at]
    refine ⟨by omega, by rw [e6]; omega, a, 6, rfl, by rw [e6], by omega, by omega, d12.2, fun G3 r d3 hr => ?_⟩
    obtain ⟨c, hc, hok⟩ := sign_ok hr
    have c2 := cut_ok (lo := some ((at_ : Int) + (kd : Int))) (hi := none) hz
    have e1 : (⟨#[c]⟩ : Str).length = 1 := rfl
    refine ⟨by rw [e6]; omega, ?_⟩
    have hc' : (" =ab0\n" : Str).cps.toList[r]? = some c := hc
    rw [pick_nat, hc']
    simp
    refine ⟨by omega, by omega, ?_, h _ _ (d12.trans d3) (app_ok (app_ok c1.1 hok) c2.1) ?_⟩
    · rw [Str.length_append]; omega
    · rw [Str.length_append, Str.length_append]; omega
  · have hk' : ¬ kd < 2 := by omega
    rw [if_neg (by omega)]
    refine hB _ (hnx _ _ ?_)
    clear hA hB hnx
    refine seq_go fun nx hnx => ?_
    refine if_go fun A B hA hB => ?_
    simp [-sp2_at]
    by_cases hk2 : kd = 2
    · subst hk2
      rw [if_pos (by first | rfl | omega)]
      refine hA _ ?_
      have c2 := cut_ok (lo := some ((at_ : Int) + 1)) (hi := none) hz
      simp
      exact ⟨by omega, by omega, h _ _ d12 (app_ok c1.1 c2.1) (by rw [Str.length_append]; omega)⟩
    · have : ¬ ((kd : Int) = 2) := by omega
      rw [if_neg (by omega)]
      refine hB _ (hnx _ _ ?_)
      clear hA hB hnx
      have c2 := cut_ok (lo := some (at_ : Int)) (hi := none) hz
      simp [-sp2_at]
      refine ⟨by omega, fun p hp => ?_⟩
      have hpa : p ≠ a := Ne.symm (d12.2.ne hp)
      have e2 := Ext.new (o := .lst (bitsZ.map .str)) hp
      refine ⟨a, bitsZ.map .str, rfl, itemsD_ref (by rw [hid_ne hpa]; exact updD_same), by decide, by decide, d12.2.ext e2, fun G3 y d3 hy => ?_⟩
      obtain ⟨w, hw, rfl⟩ := List.mem_map.mp hy
      have hb := bits_ok w hw
      simp
      refine ⟨by omega, by omega, ?_, h _ _ ((d12.ext e2).trans d3) (app_ok (app_ok c1.1 hb.1) c2.1) ?_⟩
      · rw [Str.length_append]; omega
      · rw [Str.length_append, Str.length_append]; omega
end TC
set_option maxRecDepth 100000
set_option maxHeartbeats 2000000
/-! TA: what is seen, place by place; what single steps do to it. -/
namespace TC
open PySem PySem.Spec PyProof.Rows L2
section
variable {α : Type}
/-- what is seen at a place -/
def sv (p : α) (cs : List (Option α)) : Nat → α
  | 0 => p
  | i + 1 => ((cs[i]?).join).getD (sv p cs i)
theorem sv_cons {p : α} {c : Option α} {cs : List (Option α)} : ∀ {i : Nat}, sv p (c :: cs) (i + 1) = sv (c.getD p) cs i
  | 0 => by simp [sv]
  | i + 1 => by
    rw [sv, sv_cons (i := i), List.getElem?_cons_succ]
    rfl
theorem seen_sv {p : α} : ∀ {cs : List (Option α)} {i : Nat}, i ≤ cs.length → (seenL p cs)[i]? = some (sv p cs i)
  | [], i, h => by
    have : i = 0 := by simpa using h
    subst this; rfl
  | c :: cs, 0, _ => by simp [seenL, sv]
  | c :: cs, i + 1, h => by
    rw [seenL, List.getElem?_cons_succ, seen_sv (by simpa using h), sv_cons]
theorem sv_congr {p : α} {cs ds : List (Option α)} {n : Nat} (h : ∀ i, i < n → (cs[i]?).join = (ds[i]?).join) : ∀ i, i ≤ n → sv p cs i = sv p ds i
  | 0, _ => rfl
  | i + 1, hi => by rw [sv, sv, h i (by omega), sv_congr h i (by omega)]
/-- from a place on -/
theorem sv_from {p : α} {cs ds : List (Option α)} {a b : Nat} (h0 : sv p cs a = sv p ds b) : ∀ {n : Nat}, (∀ i, i < n → (cs[a + i]?).join = (ds[b + i]?).join) → sv p cs (a + n) = sv p ds (b + n)
  | 0, _ => h0
  | n + 1, h => by
    have ih := sv_from h0 (n := n) fun i hi => h i (by omega)
    rw [← Nat.add_assoc, ← Nat.add_assoc, sv, sv, h n (by omega), ih]
variable {lv : Int → α} {z : Str} {cs : List (Option α)} {t : Nat}
theorem join_set {i j : Nat} {c : Option α} (hj : j < cs.length) : ((cs.set j c)[i]?).join = if i = j then c else (cs[i]?).join := by
  by_cases e : i = j
  · subst e; rw [if_pos rfl, List.getElem?_set_self hj]; rfl
  · rw [if_neg e, List.getElem?_set_ne (Ne.symm e)]
theorem block_sv (ht : t < cs.length) (i : Nat) : sv (lv 0) (ledC lv (.block t) z cs) i = sv (lv 0) cs i := by
  unfold ledC
  simp only [if_neg (show ¬ cs.length ≤ t by omega), seen_sv (show t + 1 ≤ cs.length by omega)]
  induction i with
  | zero => rfl
  | succ i ih =>
    rw [sv, join_set ht, ih]
    by_cases e : i = t
    · subst e; rw [if_pos rfl]; simp [sv]
    · rw [if_neg e]; rfl
theorem insert_sv (ht : t ≤ cs.length) (i : Nat) : sv (lv 0) (ledC lv (.insert t) z cs) i = if i ≤ t then sv (lv 0) cs i else sv (lv 0) cs (i - 1) := by
  unfold ledC
  simp only [if_pos ht]
  have hl : (cs.take t).length = t := by simp; omega
  induction i with
  | zero => simp [sv]
  | succ i ih =>
    rw [sv, ih]
    by_cases c1 : i < t
    · rw [if_pos (by omega), if_pos (by omega), List.getElem?_append_left (by omega), List.getElem?_take_of_lt c1, sv]
    · rw [List.getElem?_append_right (by omega), hl]
      by_cases c2 : i = t
      · subst c2
        rw [Nat.sub_self, if_pos (Nat.le_refl _), if_neg (by omega)]; rfl
      · obtain ⟨k, rfl⟩ : ∃ k, i = t + 1 + k := ⟨i - t - 1, by omega⟩
        rw [if_neg (by omega), if_neg (by omega), show t + 1 + k - t = k + 1 by omega, List.getElem?_cons_succ, List.getElem?_drop, show t + 1 + k + 1 - 1 = (t + k) + 1 by omega, show t + 1 + k - 1 = t + k by omega, sv]
theorem join_erase {i : Nat} : ((cs.eraseIdx t)[i]?).join = if i < t then (cs[i]?).join else (cs[i + 1]?).join := by
  rw [List.getElem?_eraseIdx]; split <;> rfl
theorem delete_sv (ht : t < cs.length) : ∀ i, i < cs.length → sv (lv 0) (ledC lv (.delete t true) z cs) i = if i ≤ t then sv (lv 0) cs i else sv (lv 0) cs (i + 1) := by
  unfold ledC
  simp only [if_neg (show ¬ cs.length ≤ t by omega)]
  have hel : (cs.eraseIdx t).length = cs.length - 1 := by rw [List.length_eraseIdx, if_pos ht]
  have key : ∀ i, i < cs.length → sv (lv 0) (if true = true ∧ isGap (cs.eraseIdx t) t = true then (cs.eraseIdx t).set t (cs[t]?).join else cs.eraseIdx t) i = if i ≤ t then sv (lv 0) cs i else sv (lv 0) cs (i + 1) := by
    intro i
    induction i with
    | zero => intro _; simp [sv]
    | succ i ih =>
      intro hi
      rw [sv, ih (by omega)]
      have hcell : ((if true = true ∧ isGap (cs.eraseIdx t) t = true then (cs.eraseIdx t).set t (cs[t]?).join else cs.eraseIdx t)[i]?).join = if i < t then (cs[i]?).join else if i = t then (((cs[t + 1]?).join).orElse fun _ => (cs[t]?).join) else (cs[i + 1]?).join := by
        by_cases g : isGap (cs.eraseIdx t) t = true
        · rw [if_pos ⟨rfl, g⟩]
          have gl := gap_lt g
          rw [join_set gl.1, join_erase]
          have hn : (cs[t + 1]?).join = none := by
            have := gl.2
            have h2 := join_erase (cs := cs) (t := t) (i := t)
            rw [this, if_neg (by omega)] at h2
            exact h2.symm
          by_cases e : i = t
          · subst e
            rw [if_pos rfl, if_neg (by omega), if_pos rfl, hn]; rfl
          · rw [if_neg e]
            by_cases c : i < t
            · rw [if_pos c, if_pos c]
            · rw [if_neg c, if_neg c, if_neg e]
        · rw [if_neg (fun h => g h.2), join_erase]
          by_cases c : i < t
          · rw [if_pos c, if_pos c]
          · rw [if_neg c, if_neg c]
            by_cases e : i = t
            · subst e
              rw [if_pos rfl]
              have hl2 : i + 1 < cs.length := hi
              cases hc : cs[i + 1] with
              | none =>
                exfalso
                refine g ?_
                have : (cs.eraseIdx i)[i]? = some none := by rw [List.getElem?_eraseIdx, if_neg (by omega), List.getElem?_eq_getElem hl2, hc]
                unfold isGap; rw [this]
              | some x => rw [List.getElem?_eq_getElem hl2, hc]; rfl
            · rw [if_neg e]
      rw [hcell]
      by_cases c : i < t
      · rw [if_pos c, if_pos (by omega), if_pos (by omega), sv]
      · rw [if_neg c]
        by_cases e : i = t
        · subst e
          rw [if_pos rfl, if_pos (Nat.le_refl _), if_neg (by omega)]
          show _ = ((cs[i + 1]?).join).getD (((cs[i]?).join).getD (sv (lv 0) cs i))
          cases (cs[i + 1]?).join <;> rfl
        · rw [if_neg e, if_neg (by omega), if_neg (by omega)]; rfl
  intro i hi
  have := key i hi
  simpa using this
theorem hold_sv {X : Option α} (ht : t < cs.length) : ∀ i, i ≤ cs.length → sv (lv 0) (holdC lv cs (cs.set t X) t true) i = if i = t + 1 then X.getD (sv (lv 0) cs t) else sv (lv 0) cs i := by
  have hcell : ∀ i, i < cs.length → ((holdC lv cs (cs.set t X) t true)[i]?).join = if i = t then X else if i = t + 1 then (((cs[t + 1]?).join).orElse fun _ => some (sv (lv 0) cs (t + 2))) else (cs[i]?).join := by
    intro i hi
    unfold holdC
    have hln : (cs.set t X).length = cs.length := List.length_set
    have hne : t ≠ t + 1 := by omega
    have hat : (cs.set t X)[t + 1]? = cs[t + 1]? := List.getElem?_set_ne hne
    by_cases g : isGap (cs.set t X) (t + 1) = true
    · have gl := gap_lt g
      rw [hln] at gl
      rw [if_pos ⟨rfl, g⟩, join_set (by omega), seen_sv (by omega), join_set ht]
      rw [hat] at gl
      by_cases e : i = t
      · subst e; rw [if_neg (by omega), if_pos rfl, if_pos rfl]
      · rw [if_neg e, if_neg e]
        by_cases e1 : i = t + 1
        · rw [if_pos e1, if_pos e1, gl.2]; rfl
        · rw [if_neg e1, if_neg e1]
    · rw [if_neg (fun h => g h.2), join_set ht]
      by_cases e : i = t
      · rw [if_pos e, if_pos e]
      · rw [if_neg e, if_neg e]
        by_cases e1 : i = t + 1
        · subst e1
          rw [if_pos rfl]
          cases hc : cs[t + 1] with
          | none =>
            exfalso
            refine g ?_
            unfold isGap; rw [hat, List.getElem?_eq_getElem hi, hc]
          | some x => rw [List.getElem?_eq_getElem hi, hc]; rfl
        · rw [if_neg e1]
  intro i
  induction i with
  | zero => intro _; rfl
  | succ i ih =>
    intro hi
    rw [sv, hcell i (by omega), ih (by omega)]
    by_cases e : i = t
    · subst e
      have h1 : ¬ i = i + 1 := by omega
      simp [h1]
    · by_cases e1 : i = t + 1
      · subst e1
        have h1 : ¬ t + 1 = t := by omega
        have h2 : ¬ t + 1 + 1 = t + 1 := by omega
        rw [if_neg h1, if_pos rfl, if_pos rfl, if_neg h2]
        show _ = ((cs[t + 1]?).join).getD (sv (lv 0) cs (t + 1))
        cases hc : (cs[t + 1]?).join with
        | none =>
          show sv (lv 0) cs (t + 2) = _
          show ((cs[t + 1]?).join).getD (sv (lv 0) cs (t + 1)) = _
          rw [hc]
        | some x => rfl
      · have h1 : ¬ i + 1 = t + 1 := by omega
        rw [if_neg e, if_neg e1, if_neg e1, if_neg h1]; rfl
end
end TC
set_option maxRecDepth 100000
set_option maxHeartbeats 2000000
/-! TB: lists of looks behind single steps; a show with one channel alone. -/
namespace TC
open PySem PySem.Spec PyProof.Rows L2
abbrev LO (chs : List Str) (rs : List Row) : List (List Int) := looksOf chs (rs.map (mvs chs))
section
variable {chs : List Str} {rs rA rB : List Row} {t : Nat}
theorem LO_length : (LO chs rs).length = rs.length + 1 := by rw [looksOf_length]; simp
theorem look_sv {i j : Nat} {z : Str} (nd : chs.Nodup) (hw : ∀ r ∈ rs, r.length = chs.length) (hz : chs[j]? = some z) (hi : i ≤ rs.length) :
    ∃ lk, (LO chs rs)[i]? = some lk ∧ lk.length = chs.length ∧ lk[j]? = some (sv 0 (colR j rs) i) := by
  obtain ⟨lk, l, h1, h2, h3, h4⟩ := look_at nd hw hz hi
  rw [seen_sv (by simpa using hi)] at h4
  cases h4
  exact ⟨lk, h1, h2, h3⟩
theorem look_eq {a b : Nat} (nd : chs.Nodup) (hA : ∀ r ∈ rA, r.length = chs.length) (hB : ∀ r ∈ rB, r.length = chs.length) (ha : a ≤ rA.length) (hb : b ≤ rB.length)
    (h : ∀ j z, chs[j]? = some z → sv 0 (colR j rA) a = sv 0 (colR j rB) b) : (LO chs rA)[a]? = (LO chs rB)[b]? := by
  obtain ⟨lA, e1, w1⟩ := look_there (chs := chs) ha
  obtain ⟨lB, e2, w2⟩ := look_there (chs := chs) hb
  show (looksOf chs (rA.map (mvs chs)))[a]? = (looksOf chs (rB.map (mvs chs)))[b]?
  rw [e1, e2]
  congr 1
  apply List.ext_getElem?
  intro j
  by_cases hj : j < chs.length
  · have hz : chs[j]? = some chs[j] := List.getElem?_eq_getElem hj
    obtain ⟨_, f1, _, f2⟩ := look_sv nd hA hz ha
    obtain ⟨_, g1, _, g2⟩ := look_sv nd hB hz hb
    have e1' : (LO chs rA)[a]? = some lA := e1
    have e2' : (LO chs rB)[b]? = some lB := e2
    rw [e1'] at f1; cases f1
    rw [e2'] at g1; cases g1
    rw [f2, g2, h j _ hz]
  · rw [List.getElem?_eq_none (by omega), List.getElem?_eq_none (by omega)]
theorem block_LO (nd : chs.Nodup) (hw : ∀ r ∈ rs, r.length = chs.length) (ht : t < rs.length) : LO chs (stepR chs (.block t) rs) = LO chs rs := by
  have hl : (stepR chs (.block t) rs).length = rs.length := by unfold stepR; simp [show ¬ rs.length ≤ t by omega]
  apply List.ext_getElem?
  intro i
  by_cases hi : i ≤ rs.length
  · refine look_eq nd (stepR_wide hw) hw (by omega) hi fun j z hz => ?_
    rw [step_col nd hw hz]
    exact block_sv (lv := id) (z := z) (cs := colR j rs) (by simpa using ht) i
  · rw [List.getElem?_eq_none (by rw [LO_length]; omega), List.getElem?_eq_none (by rw [LO_length]; omega)]
theorem insert_LO (nd : chs.Nodup) (hw : ∀ r ∈ rs, r.length = chs.length) (ht : t ≤ rs.length) : LO chs (stepR chs (.insert t) rs) = (LO chs rs).take (t + 1) ++ (LO chs rs).drop t := by
  have hl : (stepR chs (.insert t) rs).length = rs.length + 1 := by unfold stepR; simp [ht]; omega
  have htk : ((LO chs rs).take (t + 1)).length = t + 1 := by rw [List.length_take, LO_length]; omega
  apply List.ext_getElem?
  intro i
  have hcol : ∀ j z, chs[j]? = some z → sv 0 (colR j (stepR chs (.insert t) rs)) i = if i ≤ t then sv 0 (colR j rs) i else sv 0 (colR j rs) (i - 1) := fun j z hz => by
    rw [step_col nd hw hz]
    exact insert_sv (lv := id) (z := z) (cs := colR j rs) (by simpa using ht) i
  by_cases c : i ≤ t
  · rw [List.getElem?_append_left (by omega), List.getElem?_take_of_lt (by omega)]
    refine look_eq nd (stepR_wide hw) hw (by omega) (by omega) fun j z hz => ?_
    rw [hcol j z hz, if_pos c]
  · rw [List.getElem?_append_right (by omega), htk, List.getElem?_drop, show t + (i - (t + 1)) = i - 1 by omega]
    by_cases hi : i ≤ rs.length + 1
    · refine look_eq nd (stepR_wide hw) hw (by omega) (by omega) fun j z hz => ?_
      rw [hcol j z hz, if_neg c]
    · rw [List.getElem?_eq_none (by rw [LO_length]; omega), List.getElem?_eq_none (by rw [LO_length]; omega)]
theorem delete_LO (nd : chs.Nodup) (hw : ∀ r ∈ rs, r.length = chs.length) (ht : t < rs.length) : LO chs (stepR chs (.delete t true) rs) = (LO chs rs).take (t + 1) ++ (LO chs rs).drop (t + 2) := by
  have hl : (stepR chs (.delete t true) rs).length = rs.length - 1 := by
    unfold stepR; simp only [if_neg (show ¬ rs.length ≤ t by omega)]; exact delR_length ht
  have htk : ((LO chs rs).take (t + 1)).length = t + 1 := by rw [List.length_take, LO_length]; omega
  apply List.ext_getElem?
  intro i
  have hcol : i < rs.length → ∀ j z, chs[j]? = some z → sv 0 (colR j (stepR chs (.delete t true) rs)) i = if i ≤ t then sv 0 (colR j rs) i else sv 0 (colR j rs) (i + 1) := fun hi j z hz => by
    rw [step_col nd hw hz]
    exact delete_sv (lv := id) (z := z) (cs := colR j rs) (by simpa using ht) i (by simpa using hi)
  by_cases c : i ≤ t
  · rw [List.getElem?_append_left (by omega), List.getElem?_take_of_lt (by omega)]
    refine look_eq nd (stepR_wide hw) hw (by omega) (by omega) fun j z hz => ?_
    rw [hcol (by omega) j z hz, if_pos c]
  · rw [List.getElem?_append_right (by omega), htk, List.getElem?_drop, show t + 2 + (i - (t + 1)) = i + 1 by omega]
    by_cases hi : i < rs.length
    · refine look_eq nd (stepR_wide hw) hw (by omega) (by omega) fun j z hz => ?_
      rw [hcol hi j z hz, if_neg c]
    · rw [List.getElem?_eq_none (by rw [LO_length]; omega), List.getElem?_eq_none (by rw [LO_length]; omega)]
/-- a step with "only" changes one look in one channel -/
theorem only_sv {z : Str} {s : Sp} {l : Int} (nd : chs.Nodup) (hw : ∀ r ∈ rs, r.length = chs.length) (ht : t < rs.length) (hs : s = .set t z l true ∨ s = .clear t z true) :
    (stepR chs s rs).length = rs.length ∧ ∃ v, (s = .set t z l true → v = l) ∧ ∀ j y, chs[j]? = some y → ∀ i, i ≤ rs.length → sv 0 (colR j (stepR chs s rs)) i = if y = z ∧ i = t + 1 then v else sv 0 (colR j rs) i := by
  rcases hs with rfl | rfl
  · refine ⟨?_, l, fun _ => rfl, fun j y hy i hi => ?_⟩
    · unfold stepR; simp only [if_neg (show ¬ rs.length ≤ t by omega)]
      split
      · exact setR_length
      · rfl
    · rw [step_col nd hw hy]
      unfold ledC
      simp only [colR_length]
      by_cases e : z = y
      · rw [if_neg (by simp [e]; omega)]
        have := hold_sv (lv := id) (cs := colR j rs) (t := t) (X := some (id l)) (by simpa using ht) i (by simpa using hi)
        rw [show (0 : Int) = id 0 from rfl, this]
        by_cases q : i = t + 1
        · rw [if_pos q, if_pos ⟨e.symm, q⟩]; rfl
        · rw [if_neg q, if_neg (fun h => q h.2)]
      · rw [if_pos (.inr e), if_neg (fun h => e h.1.symm)]
  · by_cases hz : z ∈ chs
    · have hj0 := idx_at hz
      by_cases g : isGap (colR (chs.idxOf z) rs) t = true
      · have hun : stepR chs (.clear t z true) rs = rs := by
          unfold stepR
          simp only [if_neg (show ¬ rs.length ≤ t by omega), if_pos hz, if_pos (gap_col.mp g).2]
        rw [hun]
        refine ⟨rfl, sv 0 (colR (chs.idxOf z) rs) (t + 1), (fun h => by cases h), fun j y hy i hi => ?_⟩
        by_cases q : y = z ∧ i = t + 1
        · obtain ⟨rfl, rfl⟩ := q
          rw [if_pos ⟨rfl, rfl⟩, idx_nd nd hy]
        · rw [if_neg q]
      · refine ⟨?_, sv 0 (colR (chs.idxOf z) rs) t, (fun h => by cases h), fun j y hy i hi => ?_⟩
        · unfold stepR
          simp only [if_neg (show ¬ rs.length ≤ t by omega), if_pos hz]
          split
          · rfl
          · exact setR_length
        · rw [step_col nd hw hy]
          unfold ledC
          simp only [colR_length]
          by_cases e : z = y
          · subst e
            have hj := idx_nd nd hy
            rw [hj] at g
            rw [if_neg (by simp [g]; omega)]
            have := hold_sv (lv := id) (cs := colR j rs) (t := t) (X := none) (by simpa using ht) i (by simpa using hi)
            rw [show (0 : Int) = id 0 from rfl, this]
            by_cases q : i = t + 1
            · rw [if_pos q, if_pos ⟨rfl, q⟩, hj]; rfl
            · rw [if_neg q, if_neg (fun h => q h.2)]
          · rw [if_pos (.inr (.inl e)), if_neg (fun h => e h.1.symm)]
    · have hun : stepR chs (.clear t z true) rs = rs := by
        unfold stepR
        simp only [if_neg (show ¬ rs.length ≤ t by omega), if_neg hz]
      rw [hun]
      refine ⟨rfl, 0, (fun h => by cases h), fun j y hy i hi => ?_⟩
      rw [if_neg (fun h : y = z ∧ i = t + 1 => hz (by have := List.mem_of_getElem? hy; rw [h.1] at this; exact this))]
theorem insert_delete (ht : t ≤ rs.length) : runR chs [.insert t, .delete t false] rs = rs := by
  have hl : (rs.take t).length = t := by simp; omega
  have e1 : stepR chs (.insert t) rs = rs.take t ++ List.replicate chs.length none :: rs.drop t := by unfold stepR; simp [ht]
  have e2 : stepR chs (.delete t false) (rs.take t ++ List.replicate chs.length none :: rs.drop t) = rs := by
    unfold stepR
    simp only [if_neg (show ¬ (rs.take t ++ List.replicate chs.length none :: rs.drop t).length ≤ t by simp; omega)]
    unfold delR
    rw [if_neg (by simp), List.eraseIdx_append_of_length_le (by omega), hl, Nat.sub_self]
    simp
  simp [runR, e1, e2]
theorem swap_swap : runR chs [.swap t, .swap t] rs = rs := by
  by_cases c : rs.length ≤ t + 1
  · have e1 : stepR chs (.swap t) rs = rs := by unfold stepR; simp [c]
    simp [runR, e1]
  · have ht : t < rs.length := by omega
    have ht1 : t + 1 < rs.length := by omega
    have hl : (rs.take t).length = t := by simp; omega
    have e1 : stepR chs (.swap t) rs = rs.take t ++ rs[t + 1] :: rs[t] :: rs.drop (t + 2) := by
      unfold stepR
      simp only [if_neg c, List.getElem?_eq_getElem ht, List.getElem?_eq_getElem ht1, Option.getD_some]
    have e2 : stepR chs (.swap t) (rs.take t ++ rs[t + 1] :: rs[t] :: rs.drop (t + 2)) = rs := by
      unfold stepR
      simp only [if_neg (show ¬ (rs.take t ++ rs[t + 1] :: rs[t] :: rs.drop (t + 2)).length ≤ t + 1 by simp; omega)]
      have g0 : (rs.take t ++ rs[t + 1] :: rs[t] :: rs.drop (t + 2))[t]? = some rs[t + 1] := by rw [List.getElem?_append_right (by omega), hl, Nat.sub_self]; rfl
      have g1 : (rs.take t ++ rs[t + 1] :: rs[t] :: rs.drop (t + 2))[t + 1]? = some rs[t] := by rw [List.getElem?_append_right (by omega), hl, show t + 1 - t = 1 by omega]; rfl
      rw [g0, g1]
      have h1 : (rs.take t ++ rs[t + 1] :: rs[t] :: rs.drop (t + 2)).take t = rs.take t := List.take_left' hl
      have h2 : (rs.take t ++ rs[t + 1] :: rs[t] :: rs.drop (t + 2)).drop (t + 2) = rs.drop (t + 2) := by
        rw [List.drop_append, hl, show t + 2 - t = 2 by omega, List.drop_of_length_le (by omega)]; rfl
      rw [h1, h2]
      simp only [Option.getD_some]
      have := List.take_append_drop t rs
      rw [List.drop_eq_getElem_cons ht, List.drop_eq_getElem_cons ht1] at this
      exact this
    simp [runR, e1, e2]
/-! ### one channel alone -/
def aloneR (j : Nat) (rs : List Row) : List Row := rs.map fun r => [(r[j]?).getD none]
theorem alone_col {j : Nat} : colR 0 (aloneR j rs) = colR j rs := by simp [colR, aloneR]
theorem alone_of_col (h : ∀ r ∈ rs, r.length = 1) : rs = (colR 0 rs).map fun c => [c] := by
  unfold colR
  rw [List.map_map]
  refine (List.map_id _).symm.trans (List.map_congr_left fun r hr => ?_)
  have := h r hr
  cases r with
  | nil => cases this
  | cons c r =>
    have : r = [] := by simpa using this
    subst this; rfl
theorem alone_wide {j : Nat} : ∀ r ∈ aloneR j rs, r.length = 1 := by
  intro r hr
  obtain ⟨r0, _, rfl⟩ := List.mem_map.mp hr
  rfl
theorem run_alone {j : Nat} {z : Str} {ss : List Sp} (nd : chs.Nodup) (hw : ∀ r ∈ rs, r.length = chs.length) (hz : chs[j]? = some z) : runR [z] ss (aloneR j rs) = aloneR j (runR chs ss rs) := by
  have w1 : ∀ r ∈ runR [z] ss (aloneR j rs), r.length = 1 := runR_wide (chs := [z]) alone_wide
  have c1 : colR 0 (runR [z] ss (aloneR j rs)) = runC id ss z (colR 0 (aloneR j rs)) := run_col (chs := [z]) (by simp) alone_wide rfl
  rw [alone_of_col w1, c1, alone_col, ← run_col nd hw hz]
  unfold aloneR colR
  rw [List.map_map]; rfl
theorem mvs_one {z : Str} {c : Option Int} : mvs [z] [c] = match c with
  | some l => [(z, l)]
  | none => [] := by cases c <;> rfl
theorem filter_cell {j : Nat} {z : Str} {r : Row} (nd : chs.Nodup) (hl : r.length = chs.length) (hz : chs[j]? = some z) : (mvs chs r).filter (fun p => p.1 == z) = mvs [z] [(r[j]?).getD none] := by
  induction chs generalizing r j with
  | nil => simp at hz
  | cons c0 cs ih =>
    rw [List.nodup_cons] at nd
    cases r with
    | nil => simp at hl
    | cons x r =>
      have hl' : r.length = cs.length := by simpa using hl
      cases j with
      | zero =>
        have : c0 = z := by simpa using hz
        subst this
        have none_ : (mvs cs r).filter (fun p => p.1 == c0) = [] := by
          rw [List.filter_eq_nil_iff]
          intro p hp
          have : p.1 ≠ c0 := fun e => nd.1 (e ▸ mvs_fst hp)
          simpa using this
        cases x with
        | none => simp only [mvs, none_]; rfl
        | some l => simp only [mvs, List.filter_cons, beq_self_eq_true, if_true, none_]; rfl
      | succ j =>
        have hz' : cs[j]? = some z := by simpa using hz
        have hne : ¬ (c0 == z) = true := by
          simp only [beq_iff_eq]
          intro e
          exact nd.1 (e ▸ List.mem_of_getElem? hz')
        cases x with
        | none => simp only [mvs, List.getElem?_cons_succ]; exact ih nd.2 hl' hz'
        | some l => simp only [mvs, List.filter_cons, if_neg hne, List.getElem?_cons_succ]; exact ih nd.2 hl' hz'
end
end TC
set_option maxRecDepth 100000
set_option maxHeartbeats 2000000
/-! TD: comparisons of data; _law_alone. -/
namespace TC
open PySem PySem.Spec PyProof.Rows L2
mutual
theorem rdW_wk {f : Addr → Option PyData} : ∀ d : D, rdW f (wk d) = rdW f d
  | .tup ds => by rw [wk, rdW, rdW, rdWs_wk]
  | .ft ds => by rw [wk, rdW, rdW, rdWs_wk]
  | .kt ds => by rw [wk, rdW, rdW, rdWs_wk]
  | .rl ds => by rw [wk, rdW, rdW, rdWs_wk]
  | .non => rfl
  | .bl _ => rfl
  | .int _ => rfl
  | .str _ => rfl
  | .ref _ => rfl
  | .ty _ => rfl
theorem rdWs_wk {f : Addr → Option PyData} : ∀ ds : List D, rdWs f (wks ds) = rdWs f ds
  | [] => rfl
  | d :: ds => by rw [wks, rdWs, rdWs, rdW_wk, rdWs_wk]
end
theorem rd_of_wk {G : DHp} {n : Nat} {d : D} (hn : n ≤ 20) (h : Kn n G (wk d)) : ∃ p, rd G d = some p ∧ SeqAt.shaped p = true := by
  obtain ⟨p, e, s⟩ := rd_kn hn h
  exact ⟨p, by rw [← e]; exact (rdW_wk d).symm, s⟩
/-- the same data at both sides -/
theorem dNe_self {G : DHp} {Q : DK} {ds : List D} {n : Nat} (hn : n ≤ 20) (h : Kn n G (wk (.tup ds))) (w : Q (.bl false) G) : dNe (.tup ds) (.tup ds) G Q := by
  obtain ⟨p, e, s⟩ := rd_of_wk hn h
  exact dEqD_same e e s w
theorem dEq_self {G : DHp} {Q : DK} {ds : List D} {n : Nat} (hn : n ≤ 20) (h : Kn n G (wk (.tup ds))) (w : Q (.bl true) G) : dEq (.tup ds) (.tup ds) G Q := by
  obtain ⟨p, e, s⟩ := rd_of_wk hn h
  exact dEqD_same e e s w
theorem rd_refs {G : DHp} {p q : Addr} {xs : List D} (hp : G p = some (.lst xs)) (hq : G q = some (.lst xs)) : rd G (.ref p) = rd G (.ref q) := by
  unfold rd rdW rfN
  rw [hp, hq]
theorem dNe_refs {G : DHp} {Q : DK} {p q : Addr} {xs : List D} {n : Nat} (hp : G p = some (.lst xs)) (hq : G q = some (.lst xs)) (hn : n < 20) (hl : xs.length ≤ 1000 * (n + 1)) (h : ∀ d ∈ xs, Kn n G d) (w : Q (.bl false) G) : dNe (.ref p) (.ref q) G Q := by
  obtain ⟨pd, e, sh⟩ := rd_kn (n := n + 1) (d := .ref p) (G := G) (by omega) ⟨xs, hp, hl, h⟩
  exact dEqD_same e ((rd_refs hp hq).symm.trans e) sh w
theorem kn_ints {l : List Int} {G : DHp} (h : l.length ≤ 1000) : Kn 1 G (intsT l) := by
  refine ⟨by simpa using h, fun d hd => ?_⟩
  obtain ⟨i, _, rfl⟩ := List.mem_map.mp hd
  exact kn_int
theorem kn_looks {chs : List Str} {mss : List (List (Str × Int))} (h : chs.length ≤ 900) {G : DHp} : ∀ d ∈ ((looksOf chs mss).drop 1).map intsT, Kn 1 G d := by
  intro d hd
  obtain ⟨lk, hlk, rfl⟩ := List.mem_map.mp hd
  have := looksL_wide (n := chs.length) (chs := chs) (mss := mss) (prev := List.replicate chs.length 0) rfl (by simp) lk (List.mem_of_mem_drop hlk)
  exact kn_ints (by omega)
theorem rds_ints {f : Addr → Option PyData} : ∀ {l : List Int}, rdWs f (l.map D.int) = some (l.map PyData.int)
  | [] => rfl
  | i :: l => by rw [List.map_cons, rdWs, rds_ints]; rfl
theorem eqv_ints : ∀ {a b : List Int}, PyData.eqvAll (a.map PyData.int) (b.map PyData.int) = decide (a = b)
  | [], [] => by simp [PyData.eqvAll]
  | [], _ :: _ => by simp [PyData.eqvAll]
  | _ :: _, [] => by simp [PyData.eqvAll]
  | x :: a, y :: b => by
    rw [List.map_cons, List.map_cons, PyData.eqvAll, eqv_ints]
    have : PyData.eqv (.int x) (.int y) = decide (x = y) := by
      unfold PyData.eqv
      by_cases h : x = y <;> simp [h]
    rw [this]
    by_cases h : x = y <;> simp [h]
theorem dNe_ints {a b : List Int} {G : DHp} {Q : DK} (ha : a.length ≤ 1000) (hb : b.length ≤ 1000) (w : Q (.bl (!decide (a = b))) G) : dNe (intsT a) (intsT b) G Q := by
  obtain ⟨p, e1, s1⟩ := rd_kn (n := 1) (d := intsT a) (G := G) (by omega) (kn_ints ha)
  obtain ⟨q, e2, s2⟩ := rd_kn (n := 1) (d := intsT b) (G := G) (by omega) (kn_ints hb)
  have f1 : rd G (intsT a) = some (.tuple (a.map PyData.int)) := by
    unfold intsT rd rdW; rw [rds_ints]; rfl
  have f2 : rd G (intsT b) = some (.tuple (b.map PyData.int)) := by
    unfold intsT rd rdW; rw [rds_ints]; rfl
  rw [f1] at e1; cases e1
  rw [f2] at e2; cases e2
  refine ⟨_, _, f1, f2, s1, s2, ?_⟩
  have : PyData.eqv (.tuple (a.map PyData.int)) (.tuple (b.map PyData.int)) = decide (a = b) := by
    unfold PyData.eqv; exact eqv_ints
  rw [this]
  by_cases h : a = b
  · simpa [h] using w
  · simpa [h] using w
@[simp] theorem showR_0 {chs : List Str} {rs : List Row} {G : DHp} {Q : DK} : dIx (showR chs rs) (.int 0) G Q = Q (.ft (chs.map .str)) G := rfl
@[simp] theorem showR_1 {chs : List Str} {rs : List Row} {G : DHp} {Q : DK} : dIx (showR chs rs) (.int 1) G Q = Q (.tup (rs.map (cueR chs))) G := rfl
theorem looksL_zero {chs : List Str} {prev : List Int} {mss : List (List (Str × Int))} : (looksL chs prev mss)[0]? = some prev := by cases mss <;> rfl
theorem Src.write {G : DHp} {s p : Addr} {o : DO} (h : Src G s) (hp : p ≠ s) : Src (updD G p o) s := by
  obtain ⟨x, y, q1, q2⟩ := h.at_
  exact ⟨x, y, by rw [updD_ne (Ne.symm hp)]; exact q1, q2⟩
theorem Src.apart {G : DHp} {s p : Addr} (h : Src G s) (e : G p = none) : p ≠ s := Ne.symm (h.ne e)
/-! ### one channel alone -/
def isD (z : Str) : D → Bool
  | .tup (.str x :: _) => x == z
  | _ => false
abbrev sp__law_alone : DSp := sp2 fun s c G Q _ => ∃ (chs : List Str) (rs : List Row) (j : Nat) (z : Str), s = showR chs rs ∧ c = .str z ∧ chs[j]? = some z ∧ chs.Nodup ∧ chs.length ≤ 900 ∧ (∀ r ∈ rs, r.length = chs.length) ∧ rs.length ≤ 900 ∧
  ∀ G', Ext G G' → Q (showR [z] (aloneR j rs)) G'
def b__law_alone  (E : DXK) : WS :=
  (wSeq (wAsg (wTup wNil) (wgName 2))
  (wSeq (wFor (wiTup (wOp dIx (wVar 0) (wC (.int 1)))) (wgName 3) (wAsg (wOp dAdd (wVar 2) (wTup (wCons (wCB dTuple (wCons (wLc [4] (wiTup (wVar 3)) (wgName 4) (wTest (wOp dEq (wOp dIx (wVar 4) (wC (.int 0))) (wVar 1))) (wVar 4)) wNil)) wNil))) (wgName 2)))
  (wRet (wTup (wCons (wTupF (wCons (wVar 1) wNil)) (wCons (wVar 2) wNil))))))
abbrev N__law_alone : List Str := ["show", "channel", "cues", "cue", "move"]
abbrev Okb__law_alone  (sp : DSp) : Prop := ∀ ds G Q E, sp ds G Q E → b__law_alone  E { nx := fun _ G' => Q .non G', rt := Q } (startD N__law_alone ds) G
theorem ok__law_alone : Okb__law_alone sp__law_alone := by
  intro ds G Q E h0
  obtain ⟨s, c, rfl, chs, rs, j, z, rfl, rfl, hz, nd, hcl, hw, hl, h⟩ := sp2_inv h0
  clear h0
  simp [b__law_alone, startD]
  refine forW_rule (fun r ρ G' => ∃ (dn rest : List Row) (o3 o4 : Option D), rs = dn ++ rest ∧ r = rest.map (cueR chs) ∧ Ext G G' ∧ ρ = [some (showR chs rs), some (.str z), some (.tup ((aloneR j dn).map (cueR [z]))), o3, o4]) ?_ ?_
    ⟨[], rs, none, none, rfl, rfl, .refl, rfl⟩
  · rintro x r ρ G1 nx ⟨dn, rest, o3, o4, e1, e2, ex, rfl⟩ hnx
    refine ⟨trivial, ?_⟩
    cases rest with
    | nil => cases e2
    | cons u rest =>
      obtain ⟨rfl, rfl⟩ := List.cons.inj e2
      have hwu := hw u (by rw [e1]; simp)
      have hml := mvs_len (chs := chs) (r := u)
      have hdn : dn.length + rest.length + 1 ≤ 900 := by have := congrArg List.length e1; simp at this; omega
      simp [cueR]
      refine lc_keep (isD z) (by simp; omega) (fun _ _ => trivial) (fun y hy G2 acc K e hacc hK => ?_) fun G2 p e hp => ?_
      · obtain ⟨q, hq, rfl⟩ := List.mem_map.mp hy
        simp [mvD]
        have := hK G2 .refl
        by_cases hqz : q.1 = z
        · simp [hqz, isD, mvD] at this ⊢
          exact ⟨hacc, this⟩
        · simp [hqz, isD, mvD] at this ⊢
          exact this
      · have ef : ((mvs chs u).map mvD).filter (isD z) = (mvs [z] [(u[j]?).getD none]).map mvD := by
          rw [List.filter_map, ← filter_cell nd hwu hz]; rfl
        rw [ef, dTuple_ref updD_same]
        refine ⟨by simp [aloneR]; omega, ?_⟩
        refine hnx _ _ ⟨dn ++ [u], rest, some (cueR chs u), o4, by simp [e1], rfl, ex.trans (e.trans (Ext.new hp)), ?_⟩
        simp [aloneR, cueR]
  · rintro ρ G1 ⟨dn, rest, o3, o4, e1, e2, ex, rfl⟩
    refine ⟨trivial, ?_⟩
    have : rest = [] := by simpa using e2.symm
    subst this
    simp at e1
    subst e1
    simp
    exact h G1 ex
end TC
set_option maxRecDepth 100000
set_option maxHeartbeats 8000000
/-! LA72: the law k72. -/
namespace TC
open PySem PySem.Spec PyProof.Rows L2
abbrev sp_law_k72 : DSp := sp1 fun sc G Q _ => ∃ ns : List Int, sc = .rl (ns.map .int) ∧ ∀ G', Q (.bl true) G'
def b_law_k72 (C : ExC) (E : DXK) : WS :=
  (wSeq (wFor (wiRng1 (wCons (wCB dMax2 (wCons (wC (.int 6)) (wCons (wCB dMin2 (wCons (wC (.int 24)) (wCons (wCB dLen (wCons (wVar 0) wNil)) wNil))) wNil))) wNil)) (wgName 1) (wSeq (wAsg (wCall sp__law_source (fun _ => E) (wCons (wVar 0) (wCons (wVar 1) wNil))) (wgName 2))
  (wSeq (wAsg (wCall sp__law_show (fun _ => E) (wCons (wVar 2) (wCons (wOp dIx (wLst (wCons (wC (.int 3)) (wCons (wC (.int 12)) wNil))) (wCall sp__law_pick (fun _ => E) (wCons (wVar 2) (wCons (wC (.int 2)) wNil)))) wNil))) (wgName 3))
  (wSeq (wAsg (wCall sp__law_show_text (fun _ => E) (wCons (wVar 3) wNil)) (wgName 4))
  (wSeq (wIf (wtOr (wTest (wOp dNe (wCall (sp_show_text C.InvalidShow) (fun _ => E) (wCons (wVar 3) wNil)) (wVar 4))) (wTest (wOp dNe (wCall sp__law_told_k72 (fun _ => E) (wCons (wVar 4) wNil)) (wVar 3)))) (wRet (wC (.bl false))) wNext)
  (wSeq (wAsg (wLst (wCons (wC (.str "")) (wCons (wC (.str "channels")) (wCons (wC (.str "channels a\n")) (wCons (wC (.str "channels b a")) (wCons (wC (.str "channels a\ncue b=1")) (wCons (wC (.str "channels a\ncue a=101")) wNil))))))) (wgName 5))
  (wSeq (wAsg (wOp dAdd (wVar 5) (wLst (wCons (wC (.str "channels a\ncue a=05")) (wCons (wC (.str "channels a\ncue a")) (wCons (wC (.str "Channels a")) (wCons (wC (.str "channels a\nqueue")) (wCons (wC (.str "channels a ")) wNil))))))) (wgName 5))
  (wSeq (wExpr (wMt dAppend (wVar 5) (wCons (wStrM dJoin (wC (.str "\n")) (wOp dAdd (wLst (wCons (wC (.str "channels a")) wNil)) (wOp dMul (wLst (wCons (wC (.str "cue")) wNil)) (wC (.int 13))))) wNil)))
  (wSeq (wAsg (wOp dAdd (wVar 5) (wLst wNil)) (wgName 6))
  (wSeq (wFor (wiRng1 (wCons (wC (.int 14)) wNil)) (wgName 7) (wSeq (wAsg (wCall sp__law_bent_k72 (fun _ => E) (wCons (wVar 2) (wCons (wVar 4) wNil))) (wgName 9))
  (wAsg (wOp dAdd (wVar 6) (wLst (wCons (wVar 9) (wCons (wCall sp__law_bent_k72 (fun _ => E) (wCons (wVar 2) (wCons (wVar 9) wNil))) wNil)))) (wgName 6))))
  (wSeq (wFor (wiLst (wVar 6)) (wgName 8) (wSeq (wAsg (wCall sp__law_told_k72 (fun _ => E) (wCons (wVar 8) wNil)) (wgName 10))
  (wSeq (wIf (wTest (wOp dEq (wVar 10) (wC (.str "wrong!")))) wCnt wNext)
  (wIf (wtOr (wtNot (wTest (wCall sp__law_good_show (fun _ => E) (wCons (wVar 10) wNil)))) (wtOr (wTest (wOp dNe (wCall sp__law_show_text (fun _ => E) (wCons (wVar 10) wNil)) (wVar 8))) (wTest (wOp dGt (wCB dLen (wCons (wOp dIx (wVar 10) (wC (.int 1))) wNil)) (wC (.int 12)))))) (wRet (wC (.bl false))) wNext))))
  (wFor (wiLst (wOp dAdd (wLst (wCons (wC .non) (wCons (wC (.int 5)) (wCons (wTup (wCons (wVar 4) wNil)) (wCons (wVar 3) wNil))))) (wVar 5))) (wgName 8) (wIf (wTest (wOp dNe (wCall sp__law_told_k72 (fun _ => E) (wCons (wVar 8) wNil)) (wC (.str "wrong!")))) (wRet (wC (.bl false))) wNext)))))))))))))
  (wRet (wOp dEq (wCall sp__law_told_k72 (fun _ => E) (wCons (wC (.str "channels a cue\ncue\ncue a=0 cue=100")) wNil)) (wTup (wCons (wTup (wCons (wC (.str "a")) (wCons (wC (.str "cue")) wNil))) (wCons (wTup (wCons (wTup wNil) (wCons (wTup (wCons (wTup (wCons (wC (.str "a")) (wCons (wC (.int 0)) wNil))) (wCons (wTup (wCons (wC (.str "cue")) (wCons (wC (.int 100)) wNil))) wNil))) wNil))) wNil))))))
abbrev N_law_k72 : List Str := ["script", "k", "source", "show", "text", "wrong", "odds", "turn", "odd", "bent", "found"]
abbrev Okb_law_k72 (C : ExC) (sp : DSp) : Prop := ∀ ds G Q E, sp ds G Q E → b_law_k72 C E { nx := fun _ G' => Q .non G', rt := Q } (startD N_law_k72 ds) G
def wrongZ : List Str :=
  ["",
   "channels",
   "channels a\n",
   "channels b a",
   "channels a\ncue b=1",
   "channels a\ncue a=101",
   "channels a\ncue a=05",
   "channels a\ncue a",
   "Channels a",
   "channels a\nqueue",
   "channels a ",
   "channels a\ncue\ncue\ncue\ncue\ncue\ncue\ncue\ncue\ncue\ncue\ncue\ncue\ncue"]
theorem wrong_ok : ∀ z ∈ wrongZ, okS z := by unfold okS; decide +kernel
theorem wrong_bad : ∀ z ∈ wrongZ, goodB z = false := by decide +kernel
theorem last_join : Txt.join "\n" (("channels a" : Str) :: List.replicate 13 ("cue" : Str)) = "channels a\ncue\ncue\ncue\ncue\ncue\ncue\ncue\ncue\ncue\ncue\ncue\ncue\ncue" := by decide +kernel
theorem join_strOk {sep : Str} {parts : List Str} (h1 : PyData.strOk sep = true) (h2 : ∀ p ∈ parts, PyData.strOk p = true) : PyData.strOk (Txt.join sep parts) = true := strOk_iff.mpr fun c hc => by
  rcases mem_join hc with h | ⟨p, hp, h⟩
  · exact strOk_iff.mp h1 c h
  · exact strOk_iff.mp (h2 p hp) c h
theorem num_strOk {i : Int} (h : 0 ≤ i) : PyData.strOk (numS i) = true := by
  obtain ⟨n, rfl⟩ : ∃ n : Nat, i = (n : Int) := ⟨i.toNat, by omega⟩
  refine strOk_iff.mpr fun c hc => ?_
  rw [numS_tl] at hc
  have := TL.numL_digits n c hc
  omega
theorem lits_strOk : PyData.strOk " " = true ∧ PyData.strOk "
" = true ∧ PyData.strOk "=" = true ∧ PyData.strOk "cue" = true ∧ PyData.strOk "channels" = true ∧ PyData.strOk "wrong!" = true := by decide +kernel
theorem lines_ok {chs : List Str} {mss : List (List (Str × Int))} (ok : TxtOk chs mss) (hc : ∀ z ∈ chs, PyData.strOk z = true) (hm : ∀ ms ∈ mss, ∀ p ∈ ms, PyData.strOk p.1 = true ∧ 0 ≤ p.2) : okS (linesS chs mss) := by
  refine ⟨?_, by have := (lines_len ok).2; omega⟩
  refine join_strOk lits_strOk.2.1 fun p hp => ?_
  rcases List.mem_cons.mp hp with rfl | hp
  · refine join_strOk lits_strOk.1 fun q hq => ?_
    rcases List.mem_cons.mp hq with rfl | hq
    · exact lits_strOk.2.2.2.2.1
    · exact hc q hq
  · obtain ⟨ms, hms, rfl⟩ := List.mem_map.mp hp
    refine join_strOk lits_strOk.1 fun q hq => ?_
    rcases List.mem_cons.mp hq with rfl | hq
    · exact lits_strOk.2.2.2.1
    · obtain ⟨w, hw, rfl⟩ := List.mem_map.mp hq
      have := hm ms hms w hw
      rw [word_join]
      refine join_strOk lits_strOk.2.2.1 fun r hr => ?_
      simp only [List.mem_cons, List.not_mem_nil, or_false] at hr
      rcases hr with rfl | rfl
      · exact this.1
      · exact num_strOk this.2
/-- what is drawn can be written and read -/
structure Drawn (chs : List Str) (rs : List Row) : Prop where
  wk : TC.wk (showR chs rs) = showT chs (rs.map (mvs chs))
  txt : TxtOk chs (rs.map (mvs chs))
  good : goodS (linesS chs (rs.map (mvs chs)))
  back : readD (linesS chs (rs.map (mvs chs))) = showT chs (rs.map (mvs chs))
  fine : okS (linesS chs (rs.map (mvs chs)))
theorem cuesD {chs : List Str} {rs : List Row} : rs.map (cueR chs) = (rs.map (mvs chs)).map cueD := by rw [List.map_map]; rfl
theorem drawn_ok {chs : List Str} {rs : List Row} (ok : ShowOk chs rs) (h12 : rs.length ≤ 12) : Drawn chs rs := by
  have hwk : TC.wk (showR chs rs) = showT chs (rs.map (mvs chs)) := by rw [ok.wk, cuesD]; rfl
  have hok : TxtOk chs (rs.map (mvs chs)) := by
    obtain ⟨c', m', e, f⟩ := showB_txt ok.showB
    rw [hwk] at e
    obtain ⟨e1, e2⟩ := showT_inj e
    have := f (by rw [← e2]; simp; omega)
    rw [← e1, ← e2] at this
    exact this
  have hsep : ∀ z ∈ chs, NoSep z := fun z hz => chan_nosep (ok.cl z hz)
  have hfst : ∀ ms ∈ rs.map (mvs chs), ∀ p ∈ ms, p.1 ∈ chs := fun ms hms p hp => by
    obtain ⟨r, _, rfl⟩ := List.mem_map.mp hms
    exact mvs_fst hp
  have hback := read_back (mss := rs.map (mvs chs)) hsep fun ms hms p hp => ⟨hsep _ (hfst ms hms p hp), ((hok.ms ms hms).each p hp).2.1, ((hok.ms ms hms).each p hp).2.2⟩
  exact ⟨hwk, hok, ⟨_, _, hback, by rw [hback, ← hwk]; exact ok.showB, by simpa using h12, rfl⟩, hback, lines_ok hok (fun z hz => (chan_ok (ok.cl z hz)).1) fun ms hms p hp => ⟨(chan_ok (ok.cl _ (hfst ms hms p hp))).1, ((hok.ms ms hms).each p hp).2.1⟩⟩
theorem dEq_tup_str {neg : Bool} {G : DHp} {Q : DK} {ds : List D} {w : Str} {n : Nat} (hn : n ≤ 20) (h : Kn n G (.tup ds)) (hw : PyData.strOk w = true) (q : Q (.bl neg) G) : dEqD neg (.tup ds) (.str w) G Q := by
  obtain ⟨p, e, s⟩ := rd_kn hn h
  have e' := e
  unfold rd rdW at e'
  obtain ⟨ps, _, rfl⟩ := Option.map_eq_some_iff.mp e'
  refine ⟨_, .str w, e, rfl, s, ?_, ?_⟩
  · unfold SeqAt.shaped
    rw [Bool.and_eq_true]
    exact ⟨by simpa [PyData.canLay0] using hw, by simp [PyData.depth]⟩
  · simp only [PyData.eqv]
    simpa using q
theorem strs_ne_src {G : DHp} {a p : Addr} {os : List Str} (h : Src G a) (g : G p = some (.lst (os.map .str))) : p ≠ a := fun e => by
  obtain ⟨x, y, ga, _⟩ := h.at_
  rw [← e, g] at ga
  cases os with
  | nil => simp at ga
  | cons _ _ => simp at ga
def endZ : Str := "channels a cue\ncue\ncue a=0 cue=100"
theorem end_ok : okS endZ := by unfold okS; decide +kernel
theorem end_lines : linesS ["a", "cue"] [[], [("a", 0), ("cue", 100)]] = endZ := by decide +kernel
theorem ac_free : NoSep "a" ∧ NoSep "cue" := by unfold NoSep; decide +kernel
theorem end_read : readD endZ = showT ["a", "cue"] [[], [("a", 0), ("cue", 100)]] := by
  rw [← end_lines]
  refine read_back (chs := ["a", "cue"]) (mss := [[], [("a", 0), ("cue", 100)]]) (fun z hz => ?_) fun ms hms p hp => ?_
  · simp only [List.mem_cons, List.not_mem_nil, or_false] at hz
    rcases hz with rfl | rfl
    · exact ac_free.1
    · exact ac_free.2
  · simp only [List.mem_cons, List.not_mem_nil, or_false] at hms
    rcases hms with rfl | rfl
    · cases hp
    · simp only [List.mem_cons, List.not_mem_nil, or_false] at hp
      rcases hp with rfl | rfl
      · exact ⟨ac_free.1, by decide, by decide⟩
      · exact ⟨ac_free.2, by decide, by decide⟩
theorem end_good : goodS endZ := ⟨_, _, end_read, by rw [end_read]; decide +kernel, by decide, end_lines⟩
/-- what is told to be wrong -/
def Bad72 (x : D) : Prop := (∃ z, x = .str z ∧ okS z ∧ ¬ goodS z) ∨ ∀ G, isK .str G x = some false
theorem ok_law_k72 {C : ExC} : Okb_law_k72 C sp_law_k72 := by
  intro ds G Q E h00
  obtain ⟨sc, rfl, ns, rfl, h⟩ := sp1_inv h00
  clear h00
  unfold b_law_k72
  rw [show startD N_law_k72 [.rl (ns.map .int)] = [some (.rl (ns.map .int)), none, none, none, none, none, none, none, none, none, none] from rfl]
  refine seq_cut (fun ρ _ => ∃ o1 o2 o3 o4 o5 o6 o7 o8 o9 o10, ρ = [some (.rl (ns.map .int)), o1, o2, o3, o4, o5, o6, o7, o8, o9, o10]) (fun nx0 hnx0 => ?_) ?_
  rotate_left
  · rintro ρ G1 ⟨o1, o2, o3, o4, o5, o6, o7, o8, o9, o10, rfl⟩
    simp only [wRet, wOp, wCall, wC, wTup, wCons, wNil]
    refine .inl ⟨endZ, rfl, end_ok, fun _ G2 e2 => ?_, fun hng => absurd end_good hng⟩
    refine ⟨by simp, by simp, by simp, by simp, by simp, by simp, by simp, ?_⟩
    have kn := kn_read end_ok (G := G2)
    rw [end_read] at kn ⊢
    obtain ⟨p, e, s⟩ := rd_kn (by omega) kn
    exact dEqD_same (neg := false) e e s (h _)
  simp only [wFor, wiRng1, wCons, wCB, wC, wVar, wNil, List.getElem?_cons_zero, dLen_rl, dMin2_int, dMax2_int, kRng1_int]
  refine ⟨by split <;> split <;> omega, by split <;> split <;> omega, ?_⟩
  generalize hN : (if (if ((ns.map D.int).length : Int) < 24 then ((ns.map D.int).length : Int) else 24) > 6 then (if ((ns.map D.int).length : Int) < 24 then ((ns.map D.int).length : Int) else 24) else 6).toNat = N
  have hN20 : N ≤ 24 := by rw [← hN]; split <;> split <;> omega
  refine forW_rule (fun r ρ G3 => (∀ x ∈ r, ∃ i : Nat, i ≤ 24 ∧ x = .int i) ∧ ∃ o1 o2 o3 o4 o5 o6 o7 o8 o9 o10, ρ = [some (.rl (ns.map .int)), o1, o2, o3, o4, o5, o6, o7, o8, o9, o10]) ?_ ?_
    ⟨fun x hx => ?_, none, none, none, none, none, none, none, none, none, none, rfl⟩
  · rintro x r ρ G3 nx ⟨hr, o1, o2, o3, o4, o5, o6, o7, o8, o9, o10, rfl⟩ hnx
    refine ⟨trivial, ?_⟩
    obtain ⟨i, hi, rfl⟩ := hr x (by simp)
    have hnx' : ∀ o1 o2 o3 o4 o5 o6 o7 o8 o9 o10 G', nx [some (.rl (ns.map .int)), o1, o2, o3, o4, o5, o6, o7, o8, o9, o10] G' := fun o1 o2 o3 o4 o5 o6 o7 o8 o9 o10 G' => hnx _ _ ⟨fun y hy => hr y (by simp [hy]), _, _, _, _, _, _, _, _, _, _, rfl⟩
    clear hnx hr
    simp only [wgName, List.set_cons_zero, List.set_cons_succ]
    refine seq_go fun nx hnx => ?_
    simp [-sp2_at]
    refine ⟨ns, i, rfl, rfl, by omega, fun a G4 ha e4 hs => ?_⟩
    refine hnx _ _ ?_
    clear hnx
    refine seq_go fun nx hnx => ?_
    simp [-sp2_at]
    intro p1 hp1
    have hp1a : p1 ≠ a := Ne.symm (hs.ne hp1)
    refine ⟨a, 2, rfl, rfl, by omega, by omega, hs.ext (Ext.new hp1), fun G5 j d5 hj => ?_⟩
    have gp1 := d5.1 p1 _ hp1a (updD_same (G := G4) (a := p1) (o := .lst [.int 3, .int 12]))
    refine ⟨_, gp1, ?_⟩
    obtain ⟨most, hmost, hpk⟩ : ∃ m : Nat, m ≤ 12 ∧ ([D.int 3, D.int 12])[j]? = some (.int (m : Int)) := by
      have : j = 0 ∨ j = 1 := by omega
      rcases this with rfl | rfl
      · exact ⟨3, by omega, rfl⟩
      · exact ⟨12, by omega, rfl⟩
    rw [pick_nat, hpk]
    simp only [must_some]
    refine ⟨a, most, rfl, rfl, by omega, d5.2, fun G6 sh d6 hsh => ?_⟩
    refine hnx _ _ ?_
    clear hnx
    obtain ⟨chs, rs, rfl, ok, hch, hrl⟩ := hsh.rows (by omega)
    have hs6 := d6.2
    clear d5 d6 gp1 hp1 hp1a hs hsh hpk
    have dr := drawn_ok ok (by omega)
    have hsh : showR chs rs = .tup [.ft (chs.map .str), .tup ((rs.map (mvs chs)).map cueD)] := by unfold showR; rw [cuesD]
    refine seq_go fun nx hnx => ?_
    simp only [wAsg, wCall, wVar, wCons, wNil, wgName, List.getElem?_cons_zero, List.getElem?_cons_succ, List.set_cons_zero, List.set_cons_succ]
    refine ⟨.ft (chs.map .str), chs, rs.map (mvs chs), hsh, .inr rfl, dr.txt, fun G7 e7 => ?_⟩
    refine hnx _ _ ?_
    clear hnx
    refine seq_go fun nx hnx => ?_
    refine if_go fun A B hA hB => ?_
    simp only [wtOr, wTest, wOp, wCall, wVar, wCons, wNil, List.getElem?_cons_zero, List.getElem?_cons_succ]
    refine ⟨4, by omega, ok.k0.kn, chs, rs.map (mvs chs), dr.wk, ok.showB, dr.txt, fun G8 e8 => ?_⟩
    have dg := dr.good
    have db := dr.back
    have df := dr.fine
    have dl := (lines_len dr.txt).2
    generalize hT : linesS chs (rs.map (mvs chs)) = T at *
    simp
    refine ⟨df, fun _ G9 e9 => ?_, fun hng => absurd dg hng⟩
    rw [db]
    obtain ⟨pd, f1, f2⟩ := rd_kn (n := 4) (by omega) (ok.k0.kn (G := G9))
    have f3 : rd G9 (showR chs rs) = some pd := by rw [← f1]; exact (rdW_wk _).symm
    rw [dr.wk] at f1
    refine dEqD_same (neg := true) f1 f3 f2 ?_
    rw [kB_bl]
    simp
    have hs9 := ((hs6.ext e7).ext e8).ext e9
    refine hB _ (hnx _ _ ?_)
    clear hnx hA hB e7 e8 e9 f1 f2 f3 hs6
    refine seq_go fun nx hnx => ?_
    simp
    intro p1 hp1
    refine hnx _ _ ?_
    clear hnx
    have q1 := updD_same (G := G9) (a := p1) (o := .lst ((wrongZ.take 6).map .str))
    have x1 := Ext.new (o := .lst ((wrongZ.take 6).map .str)) hp1
    have t1 := hs9.ext x1
    show wSeq _ _ _ _ (updD G9 p1 (.lst ((wrongZ.take 6).map .str)))
    generalize updD G9 p1 (.lst ((wrongZ.take 6).map .str)) = G10 at q1 t1 ⊢
    clear x1 hp1 hs9
    refine seq_go fun nx hnx => ?_
    simp only [wAsg, wOp, wVar, wLst, wC, wCons, wNil, wgName, List.getElem?_cons_zero, List.getElem?_cons_succ, List.set_cons_zero, List.set_cons_succ]
    refine ⟨by simp, fun p2 hp2 => ?_⟩
    have x2 := Ext.new (o := .lst (((wrongZ.drop 6).take 5).map .str)) hp2
    rw [dAdd_ref]
    refine ⟨_, ((wrongZ.drop 6).take 5).map .str, x2 _ _ q1, updD_same, by simp [wrongZ], fun p3 hp3 => ?_⟩
    refine hnx _ _ ?_
    clear hnx
    have t3 := (t1.ext x2).ext (Ext.new (o := .lst ((wrongZ.take 6).map .str ++ ((wrongZ.drop 6).take 5).map .str)) hp3)
    have q3 := updD_same (G := updD G10 p2 (.lst (((wrongZ.drop 6).take 5).map .str))) (a := p3) (o := .lst ((wrongZ.take 6).map .str ++ ((wrongZ.drop 6).take 5).map .str))
    show wSeq _ _ _ _ (updD (updD G10 p2 (.lst (((wrongZ.drop 6).take 5).map .str))) p3 (.lst ((wrongZ.take 6).map .str ++ ((wrongZ.drop 6).take 5).map .str)))
    generalize updD (updD G10 p2 (.lst (((wrongZ.drop 6).take 5).map .str))) p3 (.lst ((wrongZ.take 6).map .str ++ ((wrongZ.drop 6).take 5).map .str)) = G11 at q3 t3 ⊢
    clear x2 t1 q1 hp2 hp3
    refine seq_go fun nx hnx => ?_
    simp only [wExpr, wMt, wStrM, wOp, wVar, wLst, wC, wCons, wNil, List.getElem?_cons_zero, List.getElem?_cons_succ]
    refine ⟨⟨p3, _, rfl, q3⟩, ⟨_, rfl⟩, by simp, fun p4 hp4 => ⟨by simp, fun p5 hp5 => ?_⟩⟩
    have x4 := Ext.new (o := .lst [.str "channels a"]) hp4
    have x5 := x4.trans (Ext.new (o := .lst [.str "cue"]) hp5)
    rw [dMul_ref]
    refine ⟨_, updD_same, by simp, fun p6 hp6 => ?_⟩
    have e13 : (List.replicate (13 : Int).toNat [D.str "cue"]).flatten = (List.replicate 13 ("cue" : Str)).map .str := rfl
    rw [e13]
    have x6 := x5.trans (Ext.new (o := .lst ((List.replicate 13 ("cue" : Str)).map .str)) hp6)
    have g4 := (Ext.new (o := .lst ((List.replicate 13 ("cue" : Str)).map .str)) hp6) _ _ ((Ext.new (o := .lst [.str "cue"]) hp5) _ _ (updD_same (G := G11) (a := p4) (o := .lst [.str "channels a"])))
    rw [dAdd_ref]
    refine ⟨_, _, g4, updD_same, by simp, fun p7 hp7 => ?_⟩
    have x7 := x6.trans (Ext.new (o := .lst ([.str "channels a"] ++ (List.replicate 13 ("cue" : Str)).map .str)) hp7)
    refine ⟨"
", ("channels a" : Str) :: List.replicate 13 ("cue" : Str), rfl, itemsD_ref updD_same, by decide +kernel, ?_⟩
    rw [last_join]
    have q37 := x7 _ _ q3
    have n3a : p3 ≠ a := fun e => by
      obtain ⟨_, _, ga, _⟩ := t3.at_
      rw [← e, q3] at ga
      simp [wrongZ] at ga
    have t7 := t3.ext x7
    refine ⟨_, q37, by simp [wrongZ], ?_⟩
    refine hnx _ _ ?_
    clear hnx
    have q8 := updD_same (G := updD (updD (updD (updD G11 p4 (.lst [.str "channels a"])) p5 (.lst [.str "cue"])) p6 (.lst ((List.replicate 13 ("cue" : Str)).map .str))) p7 (.lst ([.str "channels a"] ++ (List.replicate 13 ("cue" : Str)).map .str))) (a := p3) (o := .lst (wrongZ.map .str))
    have t8 : Src (updD (updD (updD (updD (updD G11 p4 (.lst [.str "channels a"])) p5 (.lst [.str "cue"])) p6 (.lst ((List.replicate 13 ("cue" : Str)).map .str))) p7 (.lst ([.str "channels a"] ++ (List.replicate 13 ("cue" : Str)).map .str))) p3 (.lst (wrongZ.map .str))) a := t7.write n3a
    show wSeq _ _ _ _ (updD (updD (updD (updD (updD G11 p4 (.lst [.str "channels a"])) p5 (.lst [.str "cue"])) p6 (.lst ((List.replicate 13 ("cue" : Str)).map .str))) p7 (.lst ([.str "channels a"] ++ (List.replicate 13 ("cue" : Str)).map .str))) p3 (.lst (wrongZ.map .str)))
    generalize updD (updD (updD (updD (updD G11 p4 (.lst [.str "channels a"])) p5 (.lst [.str "cue"])) p6 (.lst ((List.replicate 13 ("cue" : Str)).map .str))) p7 (.lst ([.str "channels a"] ++ (List.replicate 13 ("cue" : Str)).map .str))) p3 (.lst (wrongZ.map .str)) = G12 at q8 t8 ⊢
    clear x4 x5 x6 x7 g4 t7 q37 hp4 hp5 hp6 hp7 q3 t3
    refine seq_go fun nx hnx => ?_
    simp only [wAsg, wOp, wVar, wLst, wC, wCons, wNil, wgName, List.getElem?_cons_zero, List.getElem?_cons_succ, List.set_cons_zero, List.set_cons_succ]
    refine ⟨by simp, fun p2 hp2 => ?_⟩
    have x2 := Ext.new (o := .lst []) hp2
    rw [dAdd_ref]
    refine ⟨_, [], x2 _ _ q8, updD_same, by simp [wrongZ], fun po hpo => ?_⟩
    refine hnx _ _ ?_
    clear hnx
    rw [List.append_nil]
    have q9 := (x2.trans (Ext.new (o := .lst (wrongZ.map .str)) hpo)) _ _ q8
    have t9 := (t8.ext x2).ext (Ext.new (o := .lst (wrongZ.map .str)) hpo)
    have go9 := updD_same (G := updD G12 p2 (.lst [])) (a := po) (o := .lst (wrongZ.map .str))
    generalize updD (updD G12 p2 (.lst [])) po (.lst (wrongZ.map .str)) = G13 at q9 t9 go9 ⊢
    clear x2 q8 t8 hp2 hpo
    refine seq_cut (fun ρ' G' => ∃ (po : Addr) (o7 o9 : Option D) (os : List Str), ρ' = [some (.rl (ns.map .int)), some (.int i), some (.ref a), some (showR chs rs), some (.str T), some (.ref p3), some (.ref po), o7, o8, o9, o10] ∧ Src G' a ∧ G' p3 = some (.lst (wrongZ.map .str)) ∧ G' po = some (.lst (os.map .str)) ∧ ∀ z ∈ os, okS z) (fun nx3 hnx3 => ?_) ?_
    · simp only [wFor, wiRng1, wCons, wC, wNil, kRng1_int]
      refine ⟨by omega, by omega, ?_⟩
      refine forW_rule (fun r ρ' G' => (∀ x ∈ r, ∃ t : Int, x = .int t) ∧ ∃ (po : Addr) (o7 o9 : Option D) (os : List Str), ρ' = [some (.rl (ns.map .int)), some (.int i), some (.ref a), some (showR chs rs), some (.str T), some (.ref p3), some (.ref po), o7, o8, o9, o10] ∧ Src G' a ∧ G' p3 = some (.lst (wrongZ.map .str)) ∧ G' po = some (.lst (os.map .str)) ∧ (∀ z ∈ os, okS z) ∧ os.length + 2 * r.length ≤ 100) ?_ ?_
        ⟨fun x hx => ?_, po, o7, o9, wrongZ, rfl, t9, q9, go9, wrong_ok, by simp [wrongZ]⟩
      · rintro x r ρ' G14 nx4 ⟨hr, po, o7, o9, os, rfl, t14, q14, go14, hos, hlen⟩ hnx4
        refine ⟨trivial, ?_⟩
        obtain ⟨t, rfl⟩ := hr x (by simp)
        simp only [wgName, List.set_cons_zero, List.set_cons_succ]
        refine seq_go fun nx5 hnx5 => ?_
        simp only [wAsg, wCall, wVar, wCons, wNil, wgName, List.getElem?_cons_zero, List.getElem?_cons_succ, List.set_cons_zero, List.set_cons_succ]
        refine ⟨a, T, rfl, rfl, df.1, by omega, t14, fun G15 y d15 hy hyl => ?_⟩
        refine hnx5 _ _ ?_
        clear hnx5
        simp only [wAsg, wOp, wLst, wCall, wVar, wCons, wNil, wgName, List.getElem?_cons_zero, List.getElem?_cons_succ, List.set_cons_zero, List.set_cons_succ]
        refine ⟨a, y, rfl, rfl, hy, by omega, d15.2, fun G16 y2 d16 hy2 hyl2 => ⟨by simp, fun p hp => ?_⟩⟩
        have d := d15.trans d16
        have g16 := d.1 po _ (strs_ne_src t14 go14) go14
        have q16 := d.1 p3 _ (strs_ne_src t14 q14) q14
        have x1 := Ext.new (o := .lst [D.str y, .str y2]) hp
        rw [dAdd_ref]
        simp only [List.length_cons] at hlen
        refine ⟨_, [y, y2].map .str, x1 _ _ g16, updD_same, by simp; omega, fun po2 hpo2 => ?_⟩
        have x2 := x1.trans (Ext.new (o := .lst (os.map .str ++ [y, y2].map .str)) hpo2)
        refine hnx4 _ _ ⟨fun z hz => hr z (by simp [hz]), po2, _, _, os ++ [y, y2], rfl, d.2.ext x2, x2 _ _ q16, by rw [updD_same]; simp, fun z hz => ?_, by simp; omega⟩
        rcases List.mem_append.mp hz with hz | hz
        · exact hos z hz
        · simp only [List.mem_cons, List.not_mem_nil, or_false] at hz
          rcases hz with rfl | rfl
          · exact ⟨hy, by omega⟩
          · exact ⟨hy2, by omega⟩
      · rintro ρ' G14 ⟨_, po, o7, o9, os, rfl, t14, q14, go14, hos, _⟩
        exact ⟨trivial, hnx3 _ _ ⟨po, o7, o9, os, rfl, t14, q14, go14, hos⟩⟩
      · obtain ⟨j, hj, rfl⟩ := intsD_mem hx
        exact ⟨_, rfl⟩
    rintro ρ' G14 ⟨po, o7, o9, os, rfl, t14, q14, go14, hos⟩
    clear t9 q9 go9
    refine seq_cut (fun ρ' G' => ∃ (o8 o10 : Option D), ρ' = [some (.rl (ns.map .int)), some (.int i), some (.ref a), some (showR chs rs), some (.str T), some (.ref p3), some (.ref po), o7, o8, o9, o10] ∧ Ext G14 G') (fun nx3 hnx3 => ?_) ?_
    · simp only [wFor, wiLst, wVar, List.getElem?_cons_zero, List.getElem?_cons_succ]
      rw [kLstI_ref]
      refine ⟨_, go14, ?_⟩
      refine forW_rule (fun r ρ' G' => ∃ (rest : List Str) (o8 o10 : Option D), r = rest.map .str ∧ (∀ z ∈ rest, okS z) ∧ ρ' = [some (.rl (ns.map .int)), some (.int i), some (.ref a), some (showR chs rs), some (.str T), some (.ref p3), some (.ref po), o7, o8, o9, o10] ∧ Ext G14 G') ?_ ?_ ⟨os, _, _, rfl, hos, rfl, .refl⟩
      · rintro x r ρ' G15 nx4 ⟨rest, o8, o10, e1, hrest, rfl, e15⟩ hnx4
        refine ⟨e15 _ _ go14, ?_⟩
        cases rest with
        | nil => cases e1
        | cons z rest =>
          obtain ⟨rfl, rfl⟩ := List.cons.inj e1
          have hz := hrest z (by simp)
          have fin : ∀ (o10 : Option D) (G' : DHp), Ext G14 G' → nx4 [some (.rl (ns.map .int)), some (.int i), some (.ref a), some (showR chs rs), some (.str T), some (.ref p3), some (.ref po), o7, some (.str z), o9, o10] G' := fun o10 G' e => hnx4 _ _ ⟨rest, _, _, rfl, fun y hy => hrest y (by simp [hy]), rfl, e⟩
          simp only [wgName, List.set_cons_zero, List.set_cons_succ]
          refine seq_go fun nx5 hnx5 => ?_
          simp only [wAsg, wCall, wVar, wCons, wNil, wgName, List.getElem?_cons_zero, List.getElem?_cons_succ, List.set_cons_zero, List.set_cons_succ]
          refine .inl ⟨z, rfl, hz, fun hg G16 e16 => ?_, fun hng G16 e16 => ?_⟩
          · obtain ⟨c', m', ec, hsb, h12, hl⟩ := hg
            have htx : TxtOk c' m' := by
              obtain ⟨c2, m2, e2, f2⟩ := showB_txt hsb
              rw [ec] at e2
              obtain ⟨r1, r2⟩ := showT_inj e2
              rw [r1, r2]
              exact f2 (by rw [← r2]; exact h12)
            have kn : ∀ G, Kn 9 G (readD z) := fun G => kn_read hz (G := G)
            rw [ec] at kn hsb ⊢
            refine hnx5 _ _ ?_
            clear hnx5
            refine seq_go fun nx5 hnx5 => ?_
            refine if_go fun A B hA hB => ?_
            simp only [wTest, wOp, wVar, wC, List.getElem?_cons_zero, List.getElem?_cons_succ]
            refine dEq_tup_str (neg := false) (n := 9) (by omega) (kn _) lits_strOk.2.2.2.2.2 ?_
            rw [kB_bl]
            simp
            refine hB _ (hnx5 _ _ ?_)
            clear hnx5 hA hB
            refine if_go fun A B hA hB => ?_
            simp only [wtOr, wtNot, wTest, wOp, wCall, wCB, wVar, wC, wCons, wNil, List.getElem?_cons_zero, List.getElem?_cons_succ]
            refine ⟨9, by omega, kn _, fun G17 e17 => ?_⟩
            rw [hsb, kB_bl]
            simp [-sp1_at]
            refine ⟨.tup (c'.map .str), c', m', rfl, .inl rfl, htx, fun G18 e18 => ?_⟩
            rw [hl]
            have hfin := hB _ (fin (some (showT c' m')) _ (e15.trans (e16.trans (e17.trans e18))))
            have h12' : ¬ ((12 : Int) < (m'.length : Int)) := by omega
            simp [showT, h12']
            exact hfin
          · refine hnx5 _ _ ?_
            clear hnx5
            refine seq_go fun nx5 hnx5 => ?_
            refine if_go fun A B hA hB => ?_
            simp
            refine hA _ ?_
            exact fin _ _ (e15.trans e16)
      · rintro ρ' G15 ⟨rest, o8, o10, e1, _, rfl, e15⟩
        exact ⟨e15 _ _ go14, hnx3 _ _ ⟨_, _, rfl, e15⟩⟩
    rintro ρ' G15 ⟨o8, o10, rfl, e15⟩
    have q15 := e15 _ _ q14
    simp only [wFor, wiLst, wOp, wLst, wC, wTup, wVar, wCons, wNil, List.getElem?_cons_zero, List.getElem?_cons_succ]
    refine ⟨by simp, by simp, fun p1 hp1 => ?_⟩
    have x1 := Ext.new (o := .lst [D.non, .int 5, .tup [.str T], showR chs rs]) hp1
    rw [dAdd_ref]
    refine ⟨_, _, updD_same, x1 _ _ q15, by simp [wrongZ], fun p2 hp2 => ?_⟩
    rw [kLstI_ref]
    refine ⟨_, updD_same, ?_⟩
    have g2 := updD_same (G := updD G15 p1 (.lst [D.non, .int 5, .tup [.str T], showR chs rs])) (a := p2) (o := .lst ([D.non, .int 5, .tup [.str T], showR chs rs] ++ wrongZ.map .str))
    generalize updD (updD G15 p1 (.lst [D.non, .int 5, .tup [.str T], showR chs rs])) p2 (.lst ([D.non, .int 5, .tup [.str T], showR chs rs] ++ wrongZ.map .str)) = G16 at g2 ⊢
    have items : ∀ x ∈ [D.non, .int 5, .tup [.str T], showR chs rs] ++ wrongZ.map .str, Bad72 x := by
      intro x hx
      rcases List.mem_append.mp hx with hx | hx
      · simp only [List.mem_cons, List.not_mem_nil, or_false] at hx
        rcases hx with rfl | rfl | rfl | rfl
        · exact .inr fun _ => rfl
        · exact .inr fun _ => rfl
        · exact .inr fun _ => rfl
        · exact .inr fun _ => rfl
      · obtain ⟨z, hz, rfl⟩ := List.mem_map.mp hx
        exact .inl ⟨z, rfl, wrong_ok z hz, not_good (wrong_bad z hz)⟩
    refine forW_rule (fun r ρ' G' => (∀ x ∈ r, Bad72 x) ∧ Ext G16 G' ∧ ∃ o8, ρ' = [some (.rl (ns.map .int)), some (.int i), some (.ref a), some (showR chs rs), some (.str T), some (.ref p3), some (.ref po), o7, o8, o9, o10]) ?_ ?_ ⟨items, .refl, _, rfl⟩
    · rintro x r ρ' G17 nx4 ⟨hr, e17, o8, rfl⟩ hnx4
      refine ⟨e17 _ _ g2, ?_⟩
      simp only [wgName, List.set_cons_zero, List.set_cons_succ]
      refine if_go fun A B hA hB => ?_
      simp only [wTest, wOp, wCall, wC, wVar, wCons, wNil, List.getElem?_cons_zero, List.getElem?_cons_succ]
      have fin : ∀ G', Ext G17 G' → dNe (.str "wrong!") (.str "wrong!") G' (kB fun c G1 => if c = true then A G1 else B G1) := fun G' e => by
        rw [dNe_str, kB_bl]
        simp
        exact hB _ (hnx4 _ _ ⟨fun y hy => hr y (by simp [hy]), e17.trans e, _, rfl⟩)
      rcases hr x (by simp) with ⟨z, rfl, hz, hng⟩ | hk
      · exact .inl ⟨z, rfl, hz, fun hg => absurd hg hng, fun _ G' e => fin G' e⟩
      · exact .inr ⟨hk _, fun G' e => fin G' e⟩
    · rintro ρ' G17 ⟨_, e17, o8, rfl⟩
      exact ⟨e17 _ _ g2, hnx' _ _ _ _ _ _ _ _ _ _ _⟩
  · rintro ρ G3 ⟨_, o1, o2, o3, o4, o5, o6, o7, o8, o9, o10, rfl⟩
    exact ⟨trivial, hnx0 _ _ ⟨_, _, _, _, _, _, _, _, _, _, rfl⟩⟩
  · obtain ⟨j, hj, rfl⟩ := intsD_mem hx
    exact ⟨j, by omega, by simp⟩
end TC
set_option maxRecDepth 100000
namespace TC
open PySem PySem.Spec PyProof.Rows L2
namespace L_k72
def top (i : Nat) : Stmt := PySem.Challenge.pw_trackedcues_k72_shows_written_and_read.main.body.getD i (.Pass ⟨0, 0, 0, 0⟩)
abbrev s_is_whole : Stmt := top 10
def d_is_whole : He.DefD := ⟨("is_whole", none), "is_whole", "is_whole", defArgs s_is_whole, defBody s_is_whole, defScope s_is_whole, [], []⟩
abbrev s_is_wide : Stmt := top 11
def d_is_wide : He.DefD := ⟨("is_wide", none), "is_wide", "is_wide", defArgs s_is_wide, defBody s_is_wide, defScope s_is_wide, [], []⟩
abbrev s_is_channel : Stmt := top 12
def d_is_channel : He.DefD := ⟨("is_channel", none), "is_channel", "is_channel", defArgs s_is_channel, defBody s_is_channel, defScope s_is_channel, [], []⟩
abbrev s_climbs : Stmt := top 13
def d_climbs : He.DefD := ⟨("climbs", none), "climbs", "climbs", defArgs s_climbs, defBody s_climbs, defScope s_climbs, [], []⟩
abbrev s_is_cue : Stmt := top 14
def d_is_cue : He.DefD := ⟨("is_cue", none), "is_cue", "is_cue", defArgs s_is_cue, defBody s_is_cue, defScope s_is_cue, [], []⟩
abbrev s_is_right_show : Stmt := top 15
def d_is_right_show : He.DefD := ⟨("is_right_show", none), "is_right_show", "is_right_show", defArgs s_is_right_show, defBody s_is_right_show, defScope s_is_right_show, [], []⟩
abbrev s_need_show : Stmt := top 16
def d_need_show : He.DefD := ⟨("need_show", none), "need_show", "need_show", defArgs s_need_show, defBody s_need_show, defScope s_need_show, [], []⟩
abbrev s_word_of : Stmt := top 18
def d_word_of : He.DefD := ⟨("word_of", none), "word_of", "word_of", defArgs s_word_of, defBody s_word_of, defScope s_word_of, [], []⟩
abbrev s_show_lines : Stmt := top 19
def d_show_lines : He.DefD := ⟨("show_lines", none), "show_lines", "show_lines", defArgs s_show_lines, defBody s_show_lines, defScope s_show_lines, [], []⟩
abbrev s_number_in : Stmt := top 20
def d_number_in : He.DefD := ⟨("number_in", none), "number_in", "number_in", defArgs s_number_in, defBody s_number_in, defScope s_number_in, [], []⟩
abbrev s_move_in : Stmt := top 21
def d_move_in : He.DefD := ⟨("move_in", none), "move_in", "move_in", defArgs s_move_in, defBody s_move_in, defScope s_move_in, [], []⟩
abbrev s_show_text : Stmt := top 22
def d_show_text : He.DefD := ⟨("show_text", none), "show_text", "show_text", defArgs s_show_text, defBody s_show_text, defScope s_show_text, [], []⟩
abbrev s_read_show : Stmt := top 23
def d_read_show : He.DefD := ⟨("read_show", none), "read_show", "read_show", defArgs s_read_show, defBody s_read_show, defScope s_read_show, [], []⟩
abbrev s__law_source : Stmt := top 25
def d__law_source : He.DefD := ⟨("_law_source", none), "_law_source", "_law_source", defArgs s__law_source, defBody s__law_source, defScope s__law_source, [], []⟩
abbrev s__law_pick : Stmt := top 26
def d__law_pick : He.DefD := ⟨("_law_pick", none), "_law_pick", "_law_pick", defArgs s__law_pick, defBody s__law_pick, defScope s__law_pick, [], []⟩
abbrev s__law_chosen : Stmt := top 27
def d__law_chosen : He.DefD := ⟨("_law_chosen", none), "_law_chosen", "_law_chosen", defArgs s__law_chosen, defBody s__law_chosen, defScope s__law_chosen, [], []⟩
abbrev s__law_wide : Stmt := top 28
def d__law_wide : He.DefD := ⟨("_law_wide", none), "_law_wide", "_law_wide", defArgs s__law_wide, defBody s__law_wide, defScope s__law_wide, [], []⟩
abbrev s__law_whole : Stmt := top 29
def d__law_whole : He.DefD := ⟨("_law_whole", none), "_law_whole", "_law_whole", defArgs s__law_whole, defBody s__law_whole, defScope s__law_whole, [], []⟩
abbrev s__law_is_channel : Stmt := top 30
def d__law_is_channel : He.DefD := ⟨("_law_is_channel", none), "_law_is_channel", "_law_is_channel", defArgs s__law_is_channel, defBody s__law_is_channel, defScope s__law_is_channel, [], []⟩
abbrev s__law_climbs : Stmt := top 31
def d__law_climbs : He.DefD := ⟨("_law_climbs", none), "_law_climbs", "_law_climbs", defArgs s__law_climbs, defBody s__law_climbs, defScope s__law_climbs, [], []⟩
abbrev s__law_good_cue : Stmt := top 32
def d__law_good_cue : He.DefD := ⟨("_law_good_cue", none), "_law_good_cue", "_law_good_cue", defArgs s__law_good_cue, defBody s__law_good_cue, defScope s__law_good_cue, [], []⟩
abbrev s__law_good_show : Stmt := top 33
def d__law_good_show : He.DefD := ⟨("_law_good_show", none), "_law_good_show", "_law_good_show", defArgs s__law_good_show, defBody s__law_good_show, defScope s__law_good_show, [], []⟩
abbrev s__law_show : Stmt := top 34
def d__law_show : He.DefD := ⟨("_law_show", none), "_law_show", "_law_show", defArgs s__law_show, defBody s__law_show, defScope s__law_show, [], []⟩
abbrev s__law_show_text : Stmt := top 35
def d__law_show_text : He.DefD := ⟨("_law_show_text", none), "_law_show_text", "_law_show_text", defArgs s__law_show_text, defBody s__law_show_text, defScope s__law_show_text, [], []⟩
abbrev N__law_told : List Str := N__law_told_k72
abbrev s__law_told : Stmt := top 36
def d__law_told : He.DefD := ⟨("_law_told", none), "_law_told", "_law_told", defArgs s__law_told, defBody s__law_told, defScope s__law_told, [], []⟩
abbrev N__law_bent : List Str := N__law_bent_k72
abbrev s__law_bent : Stmt := top 37
def d__law_bent : He.DefD := ⟨("_law_bent", none), "_law_bent", "_law_bent", defArgs s__law_bent, defBody s__law_bent, defScope s__law_bent, [], []⟩
abbrev N_law : List Str := N_law_k72
abbrev s_law : Stmt := top 38
def d_law : He.DefD := ⟨("law", none), "law", "law", defArgs s_law, defBody s_law, defScope s_law, [], []⟩
def fnL : List He.DefD := [d_is_whole, d_is_wide, d_is_channel, d_climbs, d_is_cue, d_is_right_show, d_need_show, d_word_of, d_show_lines, d_number_in, d_move_in, d_show_text, d_read_show, d__law_source, d__law_pick, d__law_chosen, d__law_wide, d__law_whole, d__law_is_channel, d__law_climbs, d__law_good_cue, d__law_good_show, d__law_show, d__law_show_text, d__law_told, d__law_bent, d_law]
def faL : List He.Fa := [.free "isinstance", .free "int", .free "bool", .free "tuple", .free "len", .free "str", .int "MOST_SIGNS" 8, .str "LETTERS" "abcdefghijklmnopqrstuvwxyz", .free "all", .free "range", .glo "is_wide", .int "MOST_LEVEL" 100, .glo "is_whole", .glo "climbs", .int "MOST_CHANNELS" 4, .glo "is_channel", .glo "is_cue", .glo "is_right_show", .exc "InvalidShow", .glo "InvalidShow", .glo "word_of", .glo "number_in", .glo "need_show", .glo "show_lines", .exc "WrongText", .glo "WrongText", .glo "move_in", .int "MOST_CUES" 12, .glo "_law_pick", .glo "_law_wide", .glo "_law_whole", .glo "_law_climbs", .glo "_law_is_channel", .glo "_law_good_cue", .glo "_law_chosen", .glo "read_show", .free "min", .free "max", .glo "_law_source", .glo "_law_show", .glo "_law_show_text", .glo "show_text", .glo "_law_told", .glo "_law_bent", .glo "_law_good_show", .exm "WrongText" "WrongText" true, .glo "law"]
structure Txt (K : PySem.W.Frag) (mg : Str → Option Value) : Prop where
  src : ∃ h : Heap, K.In h ∧ h.Ns mainGlobals mg
  says : He.SaysD faL fnL K
abbrev gaK (K : PySem.W.Frag) (x : Str) : Addr := He.ga K x
section
variable {K : PySem.W.Frag} {mg : Str → Option Value}
theorem Txt.glo (T : Txt K mg) {i : Nat} {x : Str} (h : faL[i]? = some (.glo x)) : mg x = some (.ref (He.ga K x)) := let ⟨_, a, b⟩ := T.src; He.glo_ok a b (T.says.fact i h)
theorem Txt.free (T : Txt K mg) {i : Nat} {x : Str} (h : faL[i]? = some (.free x)) : mg x = none := let ⟨_, a, b⟩ := T.src; He.free_ok a b (T.says.fact i h)
def tokOf (o : Option Value) : Tok := match o with
  | some (.int _ t) => t
  | some (.str _ t) => t
  | _ => 0
theorem Txt.int (T : Txt K mg) {i : Nat} {x : Str} {n : Int} (h : faL[i]? = some (.int x n)) : mg x = some (.int n (tokOf (mg x))) := by
  obtain ⟨_, a, b⟩ := T.src
  obtain ⟨t, e⟩ := He.int_ok a b (T.says.fact i h)
  rw [e] <;> rfl
theorem Txt.str (T : Txt K mg) {i : Nat} {x z : Str} (h : faL[i]? = some (.str x z)) : mg x = some (.str z (tokOf (mg x))) := by
  obtain ⟨_, a, b⟩ := T.src
  obtain ⟨t, e⟩ := He.str_ok a b (T.says.fact i h)
  rw [e] <;> rfl
theorem Txt.exc (T : Txt K mg) {i : Nat} {x : Str} (h : faL[i]? = some (.exc x)) : PySem.W.excIn K (He.ga K x) He.veBase "ValueError.__new__" = true ∧ PySem.W.keepIn K (.ref (He.ga K x)) = true ∧ PySem.W.subIn K (.ref (He.ga K x)) (.type "BaseException") = some true ∧ PySem.W.typeIn K (.ref (He.ga K x)) = some (.type "type") := He.exc_ok (T.says.fact i h)
theorem Txt.exm (T : Txt K mg) {i : Nat} {x y : Str} {b : Bool} (h : faL[i]? = some (.exm x y b)) : PySem.W.exmOne K (.ref (He.ga K x)) (.ref (He.ga K y)) = some b := He.exm_ok (T.says.fact i h)
def fdK (K : PySem.W.Frag) (x : Str) : FuncData := match K.lookup (He.ga K x) with
  | some ⟨_, _, .func fd, _⟩ => fd
  | _ => default
theorem fd_of {x q : Str} {a : Arguments} {b : List Stmt} {s : Scope} {dv : List V} {kw : List (Str × V)} {fd : FuncData} (F : FunD K x q a b s dv kw (He.ga K x) fd) : FunD K x q a b s dv kw (He.ga K x) (fdK K x) := by
  obtain ⟨oc, od, dV, kV, doc, pm, an, cdv, ct, osl, e, lk, _⟩ := id F.ex
  have : fdK K x = fd := by unfold fdK; rw [lk]
  rw [this]; exact F
end
section
variable {P : Program} {w : World} {K : PySem.W.Frag} {mg : Str → Option Value} {base : Heap}
theorem S_is_whole : FnScope N_is_whole ["value", "low", "high"] (defScope s_is_whole) := ⟨rfl, rfl, rfl, by decide +kernel, rfl, by decide +kernel, by decide +kernel⟩
theorem fd_is_whole (T : Txt K mg) : FunD K "is_whole" "is_whole" (defArgs s_is_whole) (defBody s_is_whole) (defScope s_is_whole) [] [] (He.ga K "is_whole") (fdK K "is_whole") := let ⟨_, h⟩ := T.says.def_ 0 (d := d_is_whole) rfl; fd_of h
theorem bn_is_whole (T : Txt K mg) : Binds K (fdK K "is_whole") ["value", "low", "high"] [] := (fd_is_whole T).bindsN fun _ _ _ _ _ _ us hl => match us, hl with | [_, _, _], _ => rfl
theorem fn_is_whole (T : Txt K mg) : DFn P w K mg base 1 (He.ga K "is_whole") (fdK K "is_whole") ["value", "low", "high"] sp_is_whole :=
  def_ok (k := 0) (wb := b_is_whole) (fd_is_whole T) S_is_whole (fun _ _ _ _ h => ArOk.len (n := 3) _ _ _ _ h) (fun cdv A outer s H E G0 ED hr tk po => (
    (dss_one (ds_ret (de_and (de_isi .int (by rfl) (T.free (i := 0) rfl) (dv 0) (by rfl) (T.free (i := 1) rfl) (by decide +kernel)) (de_and (de_not (de_isi .bool (by rfl) (T.free (i := 0) rfl) (dv 0) (by rfl) (T.free (i := 2) rfl) (by decide +kernel))) (de_one (de_chain or_le od_ord or_le od_ord (dv 1) (dv 0) (dv 2)))))))))
    (fun ds G Q E h => ok_is_whole ds G Q E h)
theorem S_is_wide : FnScope N_is_wide ["value", "low", "high"] (defScope s_is_wide) := ⟨rfl, rfl, rfl, by decide +kernel, rfl, by decide +kernel, by decide +kernel⟩
theorem fd_is_wide (T : Txt K mg) : FunD K "is_wide" "is_wide" (defArgs s_is_wide) (defBody s_is_wide) (defScope s_is_wide) [] [] (He.ga K "is_wide") (fdK K "is_wide") := let ⟨_, h⟩ := T.says.def_ 1 (d := d_is_wide) rfl; fd_of h
theorem bn_is_wide (T : Txt K mg) : Binds K (fdK K "is_wide") ["value", "low", "high"] [] := (fd_is_wide T).bindsN fun _ _ _ _ _ _ us hl => match us, hl with | [_, _, _], _ => rfl
theorem fn_is_wide (T : Txt K mg) : DFn P w K mg base 1 (He.ga K "is_wide") (fdK K "is_wide") ["value", "low", "high"] sp_is_wide :=
  def_ok (k := 0) (wb := b_is_wide) (fd_is_wide T) S_is_wide (fun _ _ _ _ h => ArOk.len (n := 3) _ _ _ _ h) (fun cdv A outer s H E G0 ED hr tk po => (
    (dss_one (ds_ret (de_and (de_isi .tup (by rfl) (T.free (i := 0) rfl) (dv 0) (by rfl) (T.free (i := 3) rfl) (by decide +kernel)) (de_one (de_chain or_le od_ord or_le od_ord (dv 1) (de_callB (call_len) cd_len (by rfl) (T.free (i := 4) rfl) (by decide +kernel) (da_cons (dv 0) da_nil)) (dv 2))))))))
    (fun ds G Q E h => ok_is_wide ds G Q E h)
theorem S_is_channel : FnScope N_is_channel ["value"] (defScope s_is_channel) := ⟨rfl, rfl, rfl, by decide +kernel, rfl, by decide +kernel, by decide +kernel⟩
theorem fd_is_channel (T : Txt K mg) : FunD K "is_channel" "is_channel" (defArgs s_is_channel) (defBody s_is_channel) (defScope s_is_channel) [] [] (He.ga K "is_channel") (fdK K "is_channel") := let ⟨_, h⟩ := T.says.def_ 2 (d := d_is_channel) rfl; fd_of h
theorem bn_is_channel (T : Txt K mg) : Binds K (fdK K "is_channel") ["value"] [] := (fd_is_channel T).bindsN fun _ _ _ _ _ _ us hl => match us, hl with | [_], _ => rfl
theorem fn_is_channel (T : Txt K mg) : DFn P w K mg base 1 (He.ga K "is_channel") (fdK K "is_channel") ["value"] sp_is_channel :=
  def_ok (k := 0) (wb := b_is_channel) (fd_is_channel T) S_is_channel (fun _ _ _ _ h => ArOk.len (n := 1) _ _ _ _ h) (fun cdv A outer s H E G0 ED hr tk po => (
    (dss_cons (ds_if (dw_dt (dw_or (dt_not (dt_val (de_isi .str (by rfl) (T.free (i := 0) rfl) (dv 0) (by rfl) (T.free (i := 5) rfl) (by decide +kernel)))) (dw_or1 (dt_not (dt_chain or_le od_ord or_le od_ord de_int (de_callB (call_len) cd_len (by rfl) (T.free (i := 4) rfl) (by decide +kernel) (da_cons (dv 0) da_nil)) (de_gint (by rfl) (T.int (i := 6) rfl))))))) (dss_one (ds_ret de_bl)) dss_nil)
    (dss_one (ds_ret (de_callB (cr_all rfl) cd_all (by rfl) (T.free (i := 8) rfl) (by decide +kernel) (da_cons (de_lc (own := [("sign", 1)]) rfl S_is_channel.nd (di_str (dv 0)) (blkOk_by (N := N_is_channel) (sc := defScope s_is_channel) (by decide +kernel)) (own_name (by decide)) (fun _ _ _ _ _ => pgn 1 S_is_channel.nd) (fun _ _ _ _ _ => dts_nil) (fun _ _ _ _ _ => (de_cmp (or_in hr.units) od_inA (dv 1) (de_gstr (by rfl) (T.str (i := 7) rfl)) (by rfl)))) da_nil)))))))
    (fun ds G Q E h => ok_is_channel ds G Q E h)
theorem S_climbs : FnScope N_climbs ["row"] (defScope s_climbs) := ⟨rfl, rfl, rfl, by decide +kernel, rfl, by decide +kernel, by decide +kernel⟩
theorem fd_climbs (T : Txt K mg) : FunD K "climbs" "climbs" (defArgs s_climbs) (defBody s_climbs) (defScope s_climbs) [] [] (He.ga K "climbs") (fdK K "climbs") := let ⟨_, h⟩ := T.says.def_ 3 (d := d_climbs) rfl; fd_of h
theorem bn_climbs (T : Txt K mg) : Binds K (fdK K "climbs") ["row"] [] := (fd_climbs T).bindsN fun _ _ _ _ _ _ us hl => match us, hl with | [_], _ => rfl
theorem fn_climbs (T : Txt K mg) : DFn P w K mg base 1 (He.ga K "climbs") (fdK K "climbs") ["row"] sp_climbs :=
  def_ok (k := 0) (wb := b_climbs) (fd_climbs T) S_climbs (fun _ _ _ _ h => ArOk.len (n := 1) _ _ _ _ h) (fun cdv A outer s H E G0 ED hr tk po => (
    (dss_one (ds_ret (de_callB (cr_all rfl) cd_all (by rfl) (T.free (i := 8) rfl) (by decide +kernel) (da_cons (de_lc (own := [("at", 1)]) rfl S_climbs.nd (di_rng1 (by rfl) (T.free (i := 9) rfl) (da_cons (de_op op_sub od_sub (de_callB (call_len) cd_len (by rfl) (T.free (i := 4) rfl) (by decide +kernel) (da_cons (dv 0) da_nil)) de_int) da_nil)) (blkOk_by (N := N_climbs) (sc := defScope s_climbs) (by decide +kernel)) (own_name (by decide)) (fun _ _ _ _ _ => pgn 1 S_climbs.nd) (fun _ _ _ _ _ => dts_nil) (fun _ _ _ _ _ => (de_cmp (or_ltA hr.units) od_ltA (de_ix ix_seq od_ix (dv 0) (dv 1) (fun _ _ => rfl)) (de_ix ix_seq od_ix (dv 0) (de_op or_add od_add (dv 1) de_int) (fun _ _ => rfl)) (nomark _)))) da_nil))))))
    (fun ds G Q E h => ok_climbs ds G Q E h)
theorem S_is_cue : FnScope N_is_cue ["channels", "value"] (defScope s_is_cue) := ⟨rfl, rfl, rfl, by decide +kernel, rfl, by decide +kernel, by decide +kernel⟩
theorem fd_is_cue (T : Txt K mg) : FunD K "is_cue" "is_cue" (defArgs s_is_cue) (defBody s_is_cue) (defScope s_is_cue) [] [] (He.ga K "is_cue") (fdK K "is_cue") := let ⟨_, h⟩ := T.says.def_ 4 (d := d_is_cue) rfl; fd_of h
theorem bn_is_cue (T : Txt K mg) : Binds K (fdK K "is_cue") ["channels", "value"] [] := (fd_is_cue T).bindsN fun _ _ _ _ _ _ us hl => match us, hl with | [_, _], _ => rfl
theorem fn_is_cue (T : Txt K mg) : DFn P w K mg base 2 (He.ga K "is_cue") (fdK K "is_cue") ["channels", "value"] sp_is_cue :=
  def_ok (k := 1) (wb := b_is_cue) (fd_is_cue T) S_is_cue (fun _ _ _ _ h => ArOk.len (n := 2) _ _ _ _ h) (fun cdv A outer s H E G0 ED hr tk po => (
    (dss_cons (ds_if (dt_not (dt_val (de_isi .tup (by rfl) (T.free (i := 0) rfl) (dv 1) (by rfl) (T.free (i := 3) rfl) (by decide +kernel)))) (dss_one (ds_ret de_bl)) dss_nil)
    (dss_cons (ds_for po rfl (di_tup (dv 1)) (dgn 2 S_is_cue.nd) (dss_cons (ds_if (dw_dt (dw_or (dt_not (dt_val (de_call (fn_is_wide T) (hr.mono (by decide)) (by rfl) (T.glo (i := 10) rfl) (fd_is_wide T).kp (bn_is_wide T) tk (da_cons (dv 2) (da_cons de_int (da_cons de_int da_nil)))))) (dw_or (dt_not (dt_val (de_isi .str (by rfl) (T.free (i := 0) rfl) (de_ix ix_seq od_ix (dv 2) de_int (fun _ _ => rfl)) (by rfl) (T.free (i := 5) rfl) (by decide +kernel)))) (dw_or1 (dt_cmp (or_nin hr.units) od_inA (de_ix ix_seq od_ix (dv 2) de_int (fun _ _ => rfl)) (dv 0) (by rfl)))))) (dss_one (ds_ret de_bl)) dss_nil)
    (dss_one (ds_if (dt_not (dt_val (de_call (fn_is_whole T) (hr.mono (by decide)) (by rfl) (T.glo (i := 12) rfl) (fd_is_whole T).kp (bn_is_whole T) tk (da_cons (de_ix ix_seq od_ix (dv 2) de_int (fun _ _ => rfl)) (da_cons de_int (da_cons (de_gint (by rfl) (T.int (i := 11) rfl)) da_nil)))))) (dss_one (ds_ret de_bl)) dss_nil))))
    (dss_one (ds_ret (de_call (fn_climbs T) (hr.mono (by decide)) (by rfl) (T.glo (i := 13) rfl) (fd_climbs T).kp (bn_climbs T) tk (da_cons (de_lc (own := [("move", 2)]) rfl S_is_cue.nd (di_tup (dv 1)) (blkOk_by (N := N_is_cue) (sc := defScope s_is_cue) (by decide +kernel)) (own_name (by decide)) (fun _ _ _ _ _ => pgn 2 S_is_cue.nd) (fun _ _ _ _ _ => dts_nil) (fun _ _ _ _ _ => (de_ix ix_seq od_ix (dv 2) de_int (fun _ _ => rfl)))) da_nil))))))))
    (fun ds G Q E h => ok_is_cue ds G Q E h)
theorem S_is_right_show : FnScope N_is_right_show ["value"] (defScope s_is_right_show) := ⟨rfl, rfl, rfl, by decide +kernel, rfl, by decide +kernel, by decide +kernel⟩
theorem fd_is_right_show (T : Txt K mg) : FunD K "is_right_show" "is_right_show" (defArgs s_is_right_show) (defBody s_is_right_show) (defScope s_is_right_show) [] [] (He.ga K "is_right_show") (fdK K "is_right_show") := let ⟨_, h⟩ := T.says.def_ 5 (d := d_is_right_show) rfl; fd_of h
theorem bn_is_right_show (T : Txt K mg) : Binds K (fdK K "is_right_show") ["value"] [] := (fd_is_right_show T).bindsN fun _ _ _ _ _ _ us hl => match us, hl with | [_], _ => rfl
theorem fn_is_right_show (T : Txt K mg) : DFn P w K mg base 3 (He.ga K "is_right_show") (fdK K "is_right_show") ["value"] sp_is_right_show :=
  def_ok (k := 2) (wb := b_is_right_show) (fd_is_right_show T) S_is_right_show (fun _ _ _ _ h => ArOk.len (n := 1) _ _ _ _ h) (fun cdv A outer s H E G0 ED hr tk po => (
    (dss_cons (ds_if (dw_dt (dw_or (dt_not (dt_val (de_call (fn_is_wide T) (hr.mono (by decide)) (by rfl) (T.glo (i := 10) rfl) (fd_is_wide T).kp (bn_is_wide T) tk (da_cons (dv 0) (da_cons de_int (da_cons de_int da_nil)))))) (dw_or1 (dt_not (dt_val (de_call (fn_is_wide T) (hr.mono (by decide)) (by rfl) (T.glo (i := 10) rfl) (fd_is_wide T).kp (bn_is_wide T) tk (da_cons (de_ix ix_seq od_ix (dv 0) de_int (fun _ _ => rfl)) (da_cons de_int (da_cons (de_gint (by rfl) (T.int (i := 14) rfl)) da_nil))))))))) (dss_one (ds_ret de_bl)) dss_nil)
    (dss_cons (ds_if (dw_dt (dw_or (dt_not (dt_val (de_callB (cr_all rfl) cd_all (by rfl) (T.free (i := 8) rfl) (by decide +kernel) (da_cons (de_lc (own := [("channel", 2)]) rfl S_is_right_show.nd (di_tup (de_ix ix_seq od_ix (dv 0) de_int (fun _ _ => rfl))) (blkOk_by (N := N_is_right_show) (sc := defScope s_is_right_show) (by decide +kernel)) (own_name (by decide)) (fun _ _ _ _ _ => pgn 2 S_is_right_show.nd) (fun _ _ _ _ _ => dts_nil) (fun _ _ _ _ _ => (de_call (fn_is_channel T) (hr.mono (by decide)) (by rfl) (T.glo (i := 15) rfl) (fd_is_channel T).kp (bn_is_channel T) tk_no (da_cons (dv 2) da_nil)))) da_nil)))) (dw_or1 (dt_not (dt_val (de_call (fn_climbs T) (hr.mono (by decide)) (by rfl) (T.glo (i := 13) rfl) (fd_climbs T).kp (bn_climbs T) tk (da_cons (de_ix ix_seq od_ix (dv 0) de_int (fun _ _ => rfl)) da_nil))))))) (dss_one (ds_ret de_bl)) dss_nil)
    (dss_one (ds_ret (de_and (de_isi .tup (by rfl) (T.free (i := 0) rfl) (de_ix ix_seq od_ix (dv 0) de_int (fun _ _ => rfl)) (by rfl) (T.free (i := 3) rfl) (by decide +kernel)) (de_one (de_callB (cr_all rfl) cd_all (by rfl) (T.free (i := 8) rfl) (by decide +kernel) (da_cons (de_lc (own := [("cue", 1)]) rfl S_is_right_show.nd (di_tup (de_ix ix_seq od_ix (dv 0) de_int (fun _ _ => rfl))) (blkOk_by (N := N_is_right_show) (sc := defScope s_is_right_show) (by decide +kernel)) (own_name (by decide)) (fun _ _ _ _ _ => pgn 1 S_is_right_show.nd) (fun _ _ _ _ _ => dts_nil) (fun _ _ _ _ _ => (de_call (fn_is_cue T) (hr.mono (by decide)) (by rfl) (T.glo (i := 16) rfl) (fd_is_cue T).kp (bn_is_cue T) tk_no (da_cons (de_ix ix_seq od_ix (dv 0) de_int (fun _ _ => rfl)) (da_cons (dv 1) da_nil))))) da_nil))))))))))
    (fun ds G Q E h => ok_is_right_show ds G Q E h)
theorem S_need_show : FnScope N_need_show ["value"] (defScope s_need_show) := ⟨rfl, rfl, rfl, by decide +kernel, rfl, by decide +kernel, by decide +kernel⟩
theorem fd_need_show (T : Txt K mg) : FunD K "need_show" "need_show" (defArgs s_need_show) (defBody s_need_show) (defScope s_need_show) [] [] (He.ga K "need_show") (fdK K "need_show") := let ⟨_, h⟩ := T.says.def_ 6 (d := d_need_show) rfl; fd_of h
theorem bn_need_show (T : Txt K mg) : Binds K (fdK K "need_show") ["value"] [] := (fd_need_show T).bindsN fun _ _ _ _ _ _ us hl => match us, hl with | [_], _ => rfl
theorem fn_need_show (T : Txt K mg) : DFn P w K mg base 4 (He.ga K "need_show") (fdK K "need_show") ["value"] (sp_need_show (exC K).InvalidShow) :=
  def_ok (k := 3) (wb := b_need_show (exC K)) (fd_need_show T) S_need_show (fun _ _ _ _ h => ArOk.len (n := 1) _ _ _ _ h) (fun cdv A outer s H E G0 ED hr tk po => (
    (dss_one (ds_if (dt_not (dt_val (de_call (fn_is_right_show T) (hr.mono (by decide)) (by rfl) (T.glo (i := 17) rfl) (fd_is_right_show T).kp (bn_is_right_show T) tk (da_cons (dv 0) da_nil)))) (dss_one (ds_raise rfl tk PySem.F.excBase_ValueError (T.exc (i := 18) rfl).1 (T.glo (i := 19) rfl) (T.exc (i := 18) rfl).2.1 (raises_own (T.exc (i := 18) rfl).2.2.1 (T.exc (i := 18) rfl).2.2.2) (by rfl))) dss_nil))))
    (fun ds G Q E h => ok_need_show ds G Q E h)
theorem S_word_of : FnScope N_word_of ["move"] (defScope s_word_of) := ⟨rfl, rfl, rfl, by decide +kernel, rfl, by decide +kernel, by decide +kernel⟩
theorem fd_word_of (T : Txt K mg) : FunD K "word_of" "word_of" (defArgs s_word_of) (defBody s_word_of) (defScope s_word_of) [] [] (He.ga K "word_of") (fdK K "word_of") := let ⟨_, h⟩ := T.says.def_ 7 (d := d_word_of) rfl; fd_of h
theorem bn_word_of (T : Txt K mg) : Binds K (fdK K "word_of") ["move"] [] := (fd_word_of T).bindsN fun _ _ _ _ _ _ us hl => match us, hl with | [_], _ => rfl
theorem fn_word_of (T : Txt K mg) : DFn P w K mg base 1 (He.ga K "word_of") (fdK K "word_of") ["move"] sp_word_of :=
  def_ok (k := 0) (wb := b_word_of) (fd_word_of T) S_word_of (fun _ _ _ _ h => ArOk.len (n := 1) _ _ _ _ h) (fun cdv A outer s H E G0 ED hr tk po => (
    (dss_one (ds_ret (de_op or_add od_add (de_op or_add od_add (de_ix ix_seq od_ix (dv 0) de_int (fun _ _ => rfl)) de_str) (de_callTy (call_str_int) cd_str1 (by rfl) (T.free (i := 5) rfl) (by decide +kernel) (da_cons (de_ix ix_seq od_ix (dv 0) de_int (fun _ _ => rfl)) da_nil)))))))
    (fun ds G Q E h => ok_word_of ds G Q E h)
theorem S_show_lines : FnScope N_show_lines ["show"] (defScope s_show_lines) := ⟨rfl, rfl, rfl, by decide +kernel, rfl, by decide +kernel, by decide +kernel⟩
theorem fd_show_lines (T : Txt K mg) : FunD K "show_lines" "show_lines" (defArgs s_show_lines) (defBody s_show_lines) (defScope s_show_lines) [] [] (He.ga K "show_lines") (fdK K "show_lines") := let ⟨_, h⟩ := T.says.def_ 8 (d := d_show_lines) rfl; fd_of h
theorem bn_show_lines (T : Txt K mg) : Binds K (fdK K "show_lines") ["show"] [] := (fd_show_lines T).bindsN fun _ _ _ _ _ _ us hl => match us, hl with | [_], _ => rfl
theorem fn_show_lines (T : Txt K mg) : DFn P w K mg base 2 (He.ga K "show_lines") (fdK K "show_lines") ["show"] sp_show_lines :=
  def_ok (k := 1) (wb := b_show_lines) (fd_show_lines T) S_show_lines (fun _ _ _ _ h => ArOk.len (n := 1) _ _ _ _ h) (fun cdv A outer s H E G0 ED hr tk po => (
    (dss_cons (dsn 1 S_show_lines.nd (de_lst (da_cons (de_join de_str (de_op or_add od_add (de_tup (da_cons de_str da_nil)) (de_ix ix_seq od_ix (dv 0) de_int (fun _ _ => rfl)))) da_nil)))
    (dss_cons (ds_for po rfl (di_tup (de_ix ix_seq od_ix (dv 0) de_int (fun _ _ => rfl))) (dgn 2 S_show_lines.nd) (dss_one (ds_expr (de_bm PySem.F.plainAttrs_list PySem.F.slot_list_append PySem.F.type_list_append mt_append md_append (dv 1) (da_cons (de_join de_str (de_op or_add od_add (de_lst (da_cons de_str da_nil)) (de_lc (own := [("move", 3)]) rfl S_show_lines.nd (di_tup (dv 2)) (blkOk_by (N := N_show_lines) (sc := defScope s_show_lines) (by decide +kernel)) (own_name (by decide)) (fun _ _ _ _ _ => pgn 3 S_show_lines.nd) (fun _ _ _ _ _ => dts_nil) (fun _ _ _ _ _ => (de_call (fn_word_of T) (hr.mono (by decide)) (by rfl) (T.glo (i := 20) rfl) (fd_word_of T).kp (bn_word_of T) tk_no (da_cons (dv 3) da_nil)))))) da_nil)))))
    (dss_one (ds_ret (de_join de_str (dv 1))))))))
    (fun ds G Q E h => ok_show_lines ds G Q E h)
theorem S_number_in : FnScope N_number_in ["word"] (defScope s_number_in) := ⟨rfl, rfl, rfl, by decide +kernel, rfl, by decide +kernel, by decide +kernel⟩
theorem fd_number_in (T : Txt K mg) : FunD K "number_in" "number_in" (defArgs s_number_in) (defBody s_number_in) (defScope s_number_in) [] [] (He.ga K "number_in") (fdK K "number_in") := let ⟨_, h⟩ := T.says.def_ 9 (d := d_number_in) rfl; fd_of h
theorem bn_number_in (T : Txt K mg) : Binds K (fdK K "number_in") ["word"] [] := (fd_number_in T).bindsN fun _ _ _ _ _ _ us hl => match us, hl with | [_], _ => rfl
theorem fn_number_in (T : Txt K mg) : DFn P w K mg base 1 (He.ga K "number_in") (fdK K "number_in") ["word"] sp_number_in :=
  def_ok (k := 0) (wb := b_number_in) (fd_number_in T) S_number_in (fun _ _ _ _ h => ArOk.len (n := 1) _ _ _ _ h) (fun cdv A outer s H E G0 ED hr tk po => (
    (dss_cons (ds_for po rfl (di_rng1 (by rfl) (T.free (i := 9) rfl) (da_cons (de_op or_add od_add (de_gint (by rfl) (T.int (i := 11) rfl)) de_int) da_nil)) (dgn 1 S_number_in.nd) (dss_one (ds_if (dt_cmp (or_eq hr.units) od_eq (dv 0) (de_callTy (call_str_int) cd_str1 (by rfl) (T.free (i := 5) rfl) (by decide +kernel) (da_cons (dv 1) da_nil)) (nomark _)) (dss_one (ds_ret (dv 1))) dss_nil)))
    (dss_one (ds_ret de_non)))))
    (fun ds G Q E h => ok_number_in ds G Q E h)
theorem S_move_in : FnScope N_move_in ["word"] (defScope s_move_in) := ⟨rfl, rfl, rfl, by decide +kernel, rfl, by decide +kernel, by decide +kernel⟩
theorem fd_move_in (T : Txt K mg) : FunD K "move_in" "move_in" (defArgs s_move_in) (defBody s_move_in) (defScope s_move_in) [] [] (He.ga K "move_in") (fdK K "move_in") := let ⟨_, h⟩ := T.says.def_ 10 (d := d_move_in) rfl; fd_of h
theorem bn_move_in (T : Txt K mg) : Binds K (fdK K "move_in") ["word"] [] := (fd_move_in T).bindsN fun _ _ _ _ _ _ us hl => match us, hl with | [_], _ => rfl
theorem fn_move_in (T : Txt K mg) : DFn P w K mg base 2 (He.ga K "move_in") (fdK K "move_in") ["word"] sp_move_in :=
  def_ok (k := 1) (wb := b_move_in) (fd_move_in T) S_move_in (fun _ _ _ _ h => ArOk.len (n := 1) _ _ _ _ h) (fun cdv A outer s H E G0 ED hr tk po => (
    (dss_cons (dsn 1 S_move_in.nd (de_split (dv 0) de_str))
    (dss_one (ds_ret (de_tup (da_cons (de_ix ix_seq od_ix (dv 1) de_int (fun _ _ => rfl)) (da_cons (de_ifE (dt_cmp (or_eq hr.units) od_eq (de_callB (call_len) cd_len (by rfl) (T.free (i := 4) rfl) (by decide +kernel) (da_cons (dv 1) da_nil)) de_int (nomark _)) (de_call (fn_number_in T) (hr.mono (by decide)) (by rfl) (T.glo (i := 21) rfl) (fd_number_in T).kp (bn_number_in T) tk (da_cons (de_ix ix_seq od_ix (dv 1) de_int (fun _ _ => rfl)) da_nil)) de_non) da_nil))))))))
    (fun ds G Q E h => ok_move_in ds G Q E h)
theorem S_show_text : FnScope N_show_text ["show"] (defScope s_show_text) := ⟨rfl, rfl, rfl, by decide +kernel, rfl, by decide +kernel, by decide +kernel⟩
theorem fd_show_text (T : Txt K mg) : FunD K "show_text" "show_text" (defArgs s_show_text) (defBody s_show_text) (defScope s_show_text) [] [] (He.ga K "show_text") (fdK K "show_text") := let ⟨_, h⟩ := T.says.def_ 11 (d := d_show_text) rfl; fd_of h
theorem bn_show_text (T : Txt K mg) : Binds K (fdK K "show_text") ["show"] [] := (fd_show_text T).bindsN fun _ _ _ _ _ _ us hl => match us, hl with | [_], _ => rfl
theorem fn_show_text (T : Txt K mg) : DFn P w K mg base 5 (He.ga K "show_text") (fdK K "show_text") ["show"] (sp_show_text (exC K).InvalidShow) :=
  def_ok (k := 4) (wb := b_show_text (exC K)) (fd_show_text T) S_show_text (fun _ _ _ _ h => ArOk.len (n := 1) _ _ _ _ h) (fun cdv A outer s H E G0 ED hr tk po => (
    (dss_cons (ds_expr (de_call (fn_need_show T) (hr.mono (by decide)) (by rfl) (T.glo (i := 22) rfl) (fd_need_show T).kp (bn_need_show T) tk (da_wk (da_cons (dv 0) da_nil))))
    (dss_one (ds_ret (de_call (fn_show_lines T) (hr.mono (by decide)) (by rfl) (T.glo (i := 23) rfl) (fd_show_lines T).kp (bn_show_lines T) tk (da_wk (da_cons (dv 0) da_nil))))))))
    (fun ds G Q E h => ok_show_text ds G Q E h)
theorem S_read_show : FnScope N_read_show ["value"] (defScope s_read_show) := ⟨rfl, rfl, rfl, by decide +kernel, rfl, by decide +kernel, by decide +kernel⟩
theorem fd_read_show (T : Txt K mg) : FunD K "read_show" "read_show" (defArgs s_read_show) (defBody s_read_show) (defScope s_read_show) [] [] (He.ga K "read_show") (fdK K "read_show") := let ⟨_, h⟩ := T.says.def_ 12 (d := d_read_show) rfl; fd_of h
theorem bn_read_show (T : Txt K mg) : Binds K (fdK K "read_show") ["value"] [] := (fd_read_show T).bindsN fun _ _ _ _ _ _ us hl => match us, hl with | [_], _ => rfl
theorem fn_read_show (T : Txt K mg) : DFn P w K mg base 4 (He.ga K "read_show") (fdK K "read_show") ["value"] (sp_read_show (exC K).WrongText) :=
  def_ok (k := 3) (wb := b_read_show (exC K)) (fd_read_show T) S_read_show (fun _ _ _ _ h => ArOk.len (n := 1) _ _ _ _ h) (fun cdv A outer s H E G0 ED hr tk po => (
    (dss_cons (ds_if (dt_not (dt_val (de_isi .str (by rfl) (T.free (i := 0) rfl) (dv 0) (by rfl) (T.free (i := 5) rfl) (by decide +kernel)))) (dss_one (ds_raise rfl tk PySem.F.excBase_ValueError (T.exc (i := 24) rfl).1 (T.glo (i := 25) rfl) (T.exc (i := 24) rfl).2.1 (raises_own (T.exc (i := 24) rfl).2.2.1 (T.exc (i := 24) rfl).2.2.2) (by rfl))) dss_nil)
    (dss_cons (ds_setLc (i := 1) (own := [("line", 4)]) rfl S_read_show.nd rfl rfl (sw_true rfl rfl rfl (by decide +kernel)) (di_lst (de_split (dv 0) de_str)) (blkOk_by (N := N_read_show) (sc := defScope s_read_show) (by decide +kernel)) (own_name (by decide)) (fun _ _ _ _ _ => pgn 4 S_read_show.nd) (fun _ _ _ _ _ => dts_nil) (fun _ _ _ _ _ => (de_split (dv 4) de_str)))
    (dss_cons (dsn 2 S_read_show.nd (de_callTy (call_tuple_of) cd_tuple (by rfl) (T.free (i := 3) rfl) (by decide +kernel) (da_cons (de_lc (own := [("row", 5)]) rfl S_read_show.nd (di_lst (de_slice (dv 1) (dp_some de_int) dp_none)) (blkOk_by (N := N_read_show) (sc := defScope s_read_show) (by decide +kernel)) (own_name (by decide)) (fun _ _ _ _ _ => pgn 5 S_read_show.nd) (fun _ _ _ _ _ => dts_nil) (fun _ _ _ _ _ => (de_callTy (call_tuple_of) cd_tuple (by rfl) (T.free (i := 3) rfl) (by decide +kernel) (da_cons (de_lc (own := [("word", 6)]) rfl S_read_show.nd (di_lst (de_slice (dv 5) (dp_some de_int) dp_none)) (blkOk_nest (N := N_read_show) (sc := defScope s_read_show) rfl (by decide +kernel)) (own_name (by decide)) (fun _ _ _ _ _ => pgn 6 S_read_show.nd) (fun _ _ _ _ _ => dts_nil) (fun _ _ _ _ _ => (de_call (fn_move_in T) (hr.mono (by decide)) (by rfl) (T.glo (i := 26) rfl) (fd_move_in T).kp (bn_move_in T) tk_no (da_cons (dv 6) da_nil)))) da_nil)))) da_nil)))
    (dss_cons (dsn 3 S_read_show.nd (de_tup (da_cons (de_callTy (call_tuple_of) cd_tuple (by rfl) (T.free (i := 3) rfl) (by decide +kernel) (da_cons (de_slice (de_ix ix_seq od_ix (dv 1) de_int (fun _ _ => rfl)) (dp_some de_int) dp_none) da_nil)) (da_cons (dv 2) da_nil))))
    (dss_cons (ds_if (dw_dt (dw_or (dt_not (dt_val (de_call (fn_is_right_show T) (hr.mono (by decide)) (by rfl) (T.glo (i := 17) rfl) (fd_is_right_show T).kp (bn_is_right_show T) tk (da_cons (dv 3) da_nil)))) (dw_or (dt_cmp or_gt od_ord (de_callB (call_len) cd_len (by rfl) (T.free (i := 4) rfl) (by decide +kernel) (da_cons (dv 2) da_nil)) (de_gint (by rfl) (T.int (i := 27) rfl)) (nomark _)) (dw_or1 (dt_cmp (or_ne hr.units) od_ne (de_call (fn_show_lines T) (hr.mono (by decide)) (by rfl) (T.glo (i := 23) rfl) (fd_show_lines T).kp (bn_show_lines T) tk (da_cons (dv 3) da_nil)) (dv 0) (nomark _)))))) (dss_one (ds_raise rfl tk PySem.F.excBase_ValueError (T.exc (i := 24) rfl).1 (T.glo (i := 25) rfl) (T.exc (i := 24) rfl).2.1 (raises_own (T.exc (i := 24) rfl).2.2.1 (T.exc (i := 24) rfl).2.2.2) (by rfl))) dss_nil)
    (dss_one (ds_ret (dv 3))))))))))
    (fun ds G Q E h => ok_read_show ds G Q E h)
theorem S__law_source : FnScope N__law_source ["script", "k"] (defScope s__law_source) := ⟨rfl, rfl, rfl, by decide +kernel, rfl, by decide +kernel, by decide +kernel⟩
theorem fd__law_source (T : Txt K mg) : FunD K "_law_source" "_law_source" (defArgs s__law_source) (defBody s__law_source) (defScope s__law_source) [] [] (He.ga K "_law_source") (fdK K "_law_source") := let ⟨_, h⟩ := T.says.def_ 13 (d := d__law_source) rfl; fd_of h
theorem bn__law_source (T : Txt K mg) : Binds K (fdK K "_law_source") ["script", "k"] [] := (fd__law_source T).bindsN fun _ _ _ _ _ _ us hl => match us, hl with | [_, _], _ => rfl
theorem fn__law_source (T : Txt K mg) : DFn P w K mg base 1 (He.ga K "_law_source") (fdK K "_law_source") ["script", "k"] sp__law_source :=
  def_ok (k := 0) (wb := b__law_source) (fd__law_source T) S__law_source (fun _ _ _ _ h => ArOk.len (n := 2) _ _ _ _ h) (fun cdv A outer s H E G0 ED hr tk po => (
    (dss_cons (dsn 2 S__law_source.nd de_int)
    (dss_cons (ds_if (dt_cmp or_gt od_ord (de_callB (call_len) cd_len (by rfl) (T.free (i := 4) rfl) (by decide +kernel) (da_cons (dv 0) da_nil)) (dv 1) (nomark _)) (dss_one (dsn 2 S__law_source.nd (de_callTy (call_int1) cd_int1 (by rfl) (T.free (i := 1) rfl) (by decide +kernel) (da_cons (de_ix ix_seq od_ix (dv 0) (dv 1) (fun _ _ => rfl)) da_nil)))) dss_nil)
    (dss_cons (dsn 3 S__law_source.nd (de_op op_mod od_mod (de_op or_add od_add (de_op or_add od_add (de_op or_mul od_mul (dv 2) de_int) (de_op or_mul od_mul de_int (dv 1))) de_int) de_int))
    (dss_cons (dsn 3 S__law_source.nd (de_op or_add od_add (de_op or_add od_add (de_op op_mod od_mod (de_op or_mul od_mul (dv 3) (dv 3)) de_int) (de_op or_mul od_mul de_int (dv 1))) de_int))
    (dss_one (ds_ret (de_lst (da_cons (de_ifE (dt_cmp or_ge od_ord (dv 2) (de_op op_pow od_pow de_int de_int) (nomark _)) (dv 2) de_int) (da_cons (dv 3) da_nil)))))))))))
    (fun ds G Q E h => ok__law_source ds G Q E h)
theorem S__law_pick : FnScope N__law_pick ["source", "many"] (defScope s__law_pick) := ⟨rfl, rfl, rfl, by decide +kernel, rfl, by decide +kernel, by decide +kernel⟩
theorem fd__law_pick (T : Txt K mg) : FunD K "_law_pick" "_law_pick" (defArgs s__law_pick) (defBody s__law_pick) (defScope s__law_pick) [] [] (He.ga K "_law_pick") (fdK K "_law_pick") := let ⟨_, h⟩ := T.says.def_ 14 (d := d__law_pick) rfl; fd_of h
theorem bn__law_pick (T : Txt K mg) : Binds K (fdK K "_law_pick") ["source", "many"] [] := (fd__law_pick T).bindsN fun _ _ _ _ _ _ us hl => match us, hl with | [_, _], _ => rfl
theorem fn__law_pick (T : Txt K mg) : DFn P w K mg base 1 (He.ga K "_law_pick") (fdK K "_law_pick") ["source", "many"] sp__law_pick :=
  def_ok (k := 0) (wb := b__law_pick) (fd__law_pick T) S__law_pick (fun _ _ _ _ h => ArOk.len (n := 2) _ _ _ _ h) (fun cdv A outer s H E G0 ED hr tk po => (
    (dss_cons (ds_if (dt_cmp or_gt od_ord (de_ix ix_seq od_ix (dv 0) de_int (fun _ _ => rfl)) de_int (nomark _)) (dss_cons (dsn 2 S__law_pick.nd (de_op op_mod od_mod (de_callTy (call_int1) cd_int1 (by rfl) (T.free (i := 1) rfl) (by decide +kernel) (da_cons (de_ix ix_seq od_ix (dv 0) de_int (fun _ _ => rfl)) da_nil)) (dv 1)))
    (dss_cons (ds_asg (de_op op_fdiv od_fdiv (de_callTy (call_int1) cd_int1 (by rfl) (T.free (i := 1) rfl) (by decide +kernel) (da_cons (de_ix ix_seq od_ix (dv 0) de_int (fun _ _ => rfl)) da_nil)) (dv 1)) (dg_sub (dv 0) de_int))
    (dss_one (ds_ret (dv 2))))) dss_nil)
    (dss_cons (ds_asg (de_op op_mod od_mod (de_callTy (call_int1) cd_int1 (by rfl) (T.free (i := 1) rfl) (by decide +kernel) (da_cons (de_op or_add od_add (de_op or_mul od_mul (de_ix ix_seq od_ix (dv 0) de_int (fun _ _ => rfl)) de_int) de_int) da_nil)) de_int) (dg_sub (dv 0) de_int))
    (dss_one (ds_ret (de_op op_mod od_mod (de_op op_fdiv od_fdiv (de_op op_mod od_mod (de_callTy (call_int1) cd_int1 (by rfl) (T.free (i := 1) rfl) (by decide +kernel) (da_cons (de_op or_mul od_mul (de_ix ix_seq od_ix (dv 0) de_int (fun _ _ => rfl)) (de_ix ix_seq od_ix (dv 0) de_int (fun _ _ => rfl))) da_nil)) de_int) de_int) (dv 1))))))))
    (fun ds G Q E h => ok__law_pick ds G Q E h)
theorem S__law_chosen : FnScope N__law_chosen ["source", "things"] (defScope s__law_chosen) := ⟨rfl, rfl, rfl, by decide +kernel, rfl, by decide +kernel, by decide +kernel⟩
theorem fd__law_chosen (T : Txt K mg) : FunD K "_law_chosen" "_law_chosen" (defArgs s__law_chosen) (defBody s__law_chosen) (defScope s__law_chosen) [] [] (He.ga K "_law_chosen") (fdK K "_law_chosen") := let ⟨_, h⟩ := T.says.def_ 15 (d := d__law_chosen) rfl; fd_of h
theorem bn__law_chosen (T : Txt K mg) : Binds K (fdK K "_law_chosen") ["source", "things"] [] := (fd__law_chosen T).bindsN fun _ _ _ _ _ _ us hl => match us, hl with | [_, _], _ => rfl
theorem fn__law_chosen (T : Txt K mg) : DFn P w K mg base 2 (He.ga K "_law_chosen") (fdK K "_law_chosen") ["source", "things"] sp__law_chosen :=
  def_ok (k := 1) (wb := b__law_chosen) (fd__law_chosen T) S__law_chosen (fun _ _ _ _ h => ArOk.len (n := 2) _ _ _ _ h) (fun cdv A outer s H E G0 ED hr tk po => (
    (dss_one (ds_ret (de_ix ix_seq od_ix (dv 1) (de_call (fn__law_pick T) (hr.mono (by decide)) (by rfl) (T.glo (i := 28) rfl) (fd__law_pick T).kp (bn__law_pick T) tk (da_cons (dv 0) (da_cons (de_callB (call_len) cd_len (by rfl) (T.free (i := 4) rfl) (by decide +kernel) (da_cons (dv 1) da_nil)) da_nil))) (fun _ _ => rfl))))))
    (fun ds G Q E h => ok__law_chosen ds G Q E h)
theorem S__law_wide : FnScope N__law_wide ["value", "low", "high"] (defScope s__law_wide) := ⟨rfl, rfl, rfl, by decide +kernel, rfl, by decide +kernel, by decide +kernel⟩
theorem fd__law_wide (T : Txt K mg) : FunD K "_law_wide" "_law_wide" (defArgs s__law_wide) (defBody s__law_wide) (defScope s__law_wide) [] [] (He.ga K "_law_wide") (fdK K "_law_wide") := let ⟨_, h⟩ := T.says.def_ 16 (d := d__law_wide) rfl; fd_of h
theorem bn__law_wide (T : Txt K mg) : Binds K (fdK K "_law_wide") ["value", "low", "high"] [] := (fd__law_wide T).bindsN fun _ _ _ _ _ _ us hl => match us, hl with | [_, _, _], _ => rfl
theorem fn__law_wide (T : Txt K mg) : DFn P w K mg base 1 (He.ga K "_law_wide") (fdK K "_law_wide") ["value", "low", "high"] sp__law_wide :=
  def_ok (k := 0) (wb := b__law_wide) (fd__law_wide T) S__law_wide (fun _ _ _ _ h => ArOk.len (n := 3) _ _ _ _ h) (fun cdv A outer s H E G0 ED hr tk po => (
    (dss_one (ds_ret (de_and (de_isi .tup (by rfl) (T.free (i := 0) rfl) (dv 0) (by rfl) (T.free (i := 3) rfl) (by decide +kernel)) (de_one (de_chain or_le od_ord or_le od_ord (dv 1) (de_callB (call_len) cd_len (by rfl) (T.free (i := 4) rfl) (by decide +kernel) (da_cons (dv 0) da_nil)) (dv 2))))))))
    (fun ds G Q E h => ok__law_wide ds G Q E h)
theorem S__law_whole : FnScope N__law_whole ["value", "low", "high"] (defScope s__law_whole) := ⟨rfl, rfl, rfl, by decide +kernel, rfl, by decide +kernel, by decide +kernel⟩
theorem fd__law_whole (T : Txt K mg) : FunD K "_law_whole" "_law_whole" (defArgs s__law_whole) (defBody s__law_whole) (defScope s__law_whole) [] [] (He.ga K "_law_whole") (fdK K "_law_whole") := let ⟨_, h⟩ := T.says.def_ 17 (d := d__law_whole) rfl; fd_of h
theorem bn__law_whole (T : Txt K mg) : Binds K (fdK K "_law_whole") ["value", "low", "high"] [] := (fd__law_whole T).bindsN fun _ _ _ _ _ _ us hl => match us, hl with | [_, _, _], _ => rfl
theorem fn__law_whole (T : Txt K mg) : DFn P w K mg base 1 (He.ga K "_law_whole") (fdK K "_law_whole") ["value", "low", "high"] sp__law_whole :=
  def_ok (k := 0) (wb := b__law_whole) (fd__law_whole T) S__law_whole (fun _ _ _ _ h => ArOk.len (n := 3) _ _ _ _ h) (fun cdv A outer s H E G0 ED hr tk po => (
    (dss_one (ds_ret (de_and (de_isi .int (by rfl) (T.free (i := 0) rfl) (dv 0) (by rfl) (T.free (i := 1) rfl) (by decide +kernel)) (de_and (de_not (de_isi .bool (by rfl) (T.free (i := 0) rfl) (dv 0) (by rfl) (T.free (i := 2) rfl) (by decide +kernel))) (de_one (de_chain or_le od_ord or_le od_ord (dv 1) (dv 0) (dv 2)))))))))
    (fun ds G Q E h => ok__law_whole ds G Q E h)
theorem S__law_is_channel : FnScope N__law_is_channel ["value"] (defScope s__law_is_channel) := ⟨rfl, rfl, rfl, by decide +kernel, rfl, by decide +kernel, by decide +kernel⟩
theorem fd__law_is_channel (T : Txt K mg) : FunD K "_law_is_channel" "_law_is_channel" (defArgs s__law_is_channel) (defBody s__law_is_channel) (defScope s__law_is_channel) [] [] (He.ga K "_law_is_channel") (fdK K "_law_is_channel") := let ⟨_, h⟩ := T.says.def_ 18 (d := d__law_is_channel) rfl; fd_of h
theorem bn__law_is_channel (T : Txt K mg) : Binds K (fdK K "_law_is_channel") ["value"] [] := (fd__law_is_channel T).bindsN fun _ _ _ _ _ _ us hl => match us, hl with | [_], _ => rfl
theorem fn__law_is_channel (T : Txt K mg) : DFn P w K mg base 1 (He.ga K "_law_is_channel") (fdK K "_law_is_channel") ["value"] sp__law_is_channel :=
  def_ok (k := 0) (wb := b__law_is_channel) (fd__law_is_channel T) S__law_is_channel (fun _ _ _ _ h => ArOk.len (n := 1) _ _ _ _ h) (fun cdv A outer s H E G0 ED hr tk po => (
    (dss_cons (ds_if (dw_dt (dw_or (dt_not (dt_val (de_isi .str (by rfl) (T.free (i := 0) rfl) (dv 0) (by rfl) (T.free (i := 5) rfl) (by decide +kernel)))) (dw_or1 (dt_not (dt_chain or_le od_ord or_le od_ord de_int (de_callB (call_len) cd_len (by rfl) (T.free (i := 4) rfl) (by decide +kernel) (da_cons (dv 0) da_nil)) de_int))))) (dss_one (ds_ret de_bl)) dss_nil)
    (dss_one (ds_ret (de_cmp (or_eq hr.units) od_eq (de_lc (own := [("sign", 1)]) rfl S__law_is_channel.nd (di_str (dv 0)) (blkOk_by (N := N__law_is_channel) (sc := defScope s__law_is_channel) (by decide +kernel)) (own_name (by decide)) (fun _ _ _ _ _ => pgn 1 S__law_is_channel.nd) (fun _ _ _ _ _ => (dts_one (dt_cmp (or_nin hr.units) od_inA (dv 1) de_str (by rfl)))) (fun _ _ _ _ _ => (dv 1))) (de_lst da_nil) (nomark _)))))))
    (fun ds G Q E h => ok__law_is_channel ds G Q E h)
theorem S__law_climbs : FnScope N__law_climbs ["row"] (defScope s__law_climbs) := ⟨rfl, rfl, rfl, by decide +kernel, rfl, by decide +kernel, by decide +kernel⟩
theorem fd__law_climbs (T : Txt K mg) : FunD K "_law_climbs" "_law_climbs" (defArgs s__law_climbs) (defBody s__law_climbs) (defScope s__law_climbs) [] [] (He.ga K "_law_climbs") (fdK K "_law_climbs") := let ⟨_, h⟩ := T.says.def_ 19 (d := d__law_climbs) rfl; fd_of h
theorem bn__law_climbs (T : Txt K mg) : Binds K (fdK K "_law_climbs") ["row"] [] := (fd__law_climbs T).bindsN fun _ _ _ _ _ _ us hl => match us, hl with | [_], _ => rfl
theorem fn__law_climbs (T : Txt K mg) : DFn P w K mg base 1 (He.ga K "_law_climbs") (fdK K "_law_climbs") ["row"] sp__law_climbs :=
  def_ok (k := 0) (wb := b__law_climbs) (fd__law_climbs T) S__law_climbs (fun _ _ _ _ h => ArOk.len (n := 1) _ _ _ _ h) (fun cdv A outer s H E G0 ED hr tk po => (
    (dss_one (ds_ret (de_cmp (or_eq hr.units) od_eq (de_lc (own := [("at", 1)]) rfl S__law_climbs.nd (di_rng1 (by rfl) (T.free (i := 9) rfl) (da_cons (de_op op_sub od_sub (de_callB (call_len) cd_len (by rfl) (T.free (i := 4) rfl) (by decide +kernel) (da_cons (dv 0) da_nil)) de_int) da_nil)) (blkOk_by (N := N__law_climbs) (sc := defScope s__law_climbs) (by decide +kernel)) (own_name (by decide)) (fun _ _ _ _ _ => pgn 1 S__law_climbs.nd) (fun _ _ _ _ _ => (dts_one (dt_cmp (or_geA hr.units) od_geA (de_ix ix_seq od_ix (dv 0) (dv 1) (fun _ _ => rfl)) (de_ix ix_seq od_ix (dv 0) (de_op or_add od_add (dv 1) de_int) (fun _ _ => rfl)) (nomark _)))) (fun _ _ _ _ _ => (dv 1))) (de_lst da_nil) (nomark _))))))
    (fun ds G Q E h => ok__law_climbs ds G Q E h)
theorem S__law_good_cue : FnScope N__law_good_cue ["channels", "value"] (defScope s__law_good_cue) := ⟨rfl, rfl, rfl, by decide +kernel, rfl, by decide +kernel, by decide +kernel⟩
theorem fd__law_good_cue (T : Txt K mg) : FunD K "_law_good_cue" "_law_good_cue" (defArgs s__law_good_cue) (defBody s__law_good_cue) (defScope s__law_good_cue) [] [] (He.ga K "_law_good_cue") (fdK K "_law_good_cue") := let ⟨_, h⟩ := T.says.def_ 20 (d := d__law_good_cue) rfl; fd_of h
theorem bn__law_good_cue (T : Txt K mg) : Binds K (fdK K "_law_good_cue") ["channels", "value"] [] := (fd__law_good_cue T).bindsN fun _ _ _ _ _ _ us hl => match us, hl with | [_, _], _ => rfl
theorem fn__law_good_cue (T : Txt K mg) : DFn P w K mg base 2 (He.ga K "_law_good_cue") (fdK K "_law_good_cue") ["channels", "value"] sp__law_good_cue :=
  def_ok (k := 1) (wb := b__law_good_cue) (fd__law_good_cue T) S__law_good_cue (fun _ _ _ _ h => ArOk.len (n := 2) _ _ _ _ h) (fun cdv A outer s H E G0 ED hr tk po => (
    (dss_cons (ds_if (dt_not (dt_val (de_isi .tup (by rfl) (T.free (i := 0) rfl) (dv 1) (by rfl) (T.free (i := 3) rfl) (by decide +kernel)))) (dss_one (ds_ret de_bl)) dss_nil)
    (dss_cons (ds_for po rfl (di_tup (dv 1)) (dgn 2 S__law_good_cue.nd) (dss_cons (ds_if (dw_dt (dw_or (dt_not (dt_val (de_call (fn__law_wide T) (hr.mono (by decide)) (by rfl) (T.glo (i := 29) rfl) (fd__law_wide T).kp (bn__law_wide T) tk (da_cons (dv 2) (da_cons de_int (da_cons de_int da_nil)))))) (dw_or (dt_not (dt_val (de_isi .str (by rfl) (T.free (i := 0) rfl) (de_ix ix_seq od_ix (dv 2) de_int (fun _ _ => rfl)) (by rfl) (T.free (i := 5) rfl) (by decide +kernel)))) (dw_or1 (dt_cmp (or_nin hr.units) od_inA (de_ix ix_seq od_ix (dv 2) de_int (fun _ _ => rfl)) (dv 0) (by rfl)))))) (dss_one (ds_ret de_bl)) dss_nil)
    (dss_one (ds_if (dt_not (dt_val (de_call (fn__law_whole T) (hr.mono (by decide)) (by rfl) (T.glo (i := 30) rfl) (fd__law_whole T).kp (bn__law_whole T) tk (da_cons (de_ix ix_seq od_ix (dv 2) de_int (fun _ _ => rfl)) (da_cons de_int (da_cons de_int da_nil)))))) (dss_one (ds_ret de_bl)) dss_nil))))
    (dss_one (ds_ret (de_call (fn__law_climbs T) (hr.mono (by decide)) (by rfl) (T.glo (i := 31) rfl) (fd__law_climbs T).kp (bn__law_climbs T) tk (da_cons (de_lc (own := [("move", 2)]) rfl S__law_good_cue.nd (di_tup (dv 1)) (blkOk_by (N := N__law_good_cue) (sc := defScope s__law_good_cue) (by decide +kernel)) (own_name (by decide)) (fun _ _ _ _ _ => pgn 2 S__law_good_cue.nd) (fun _ _ _ _ _ => dts_nil) (fun _ _ _ _ _ => (de_ix ix_seq od_ix (dv 2) de_int (fun _ _ => rfl)))) da_nil))))))))
    (fun ds G Q E h => ok__law_good_cue ds G Q E h)
theorem S__law_good_show : FnScope N__law_good_show ["value"] (defScope s__law_good_show) := ⟨rfl, rfl, rfl, by decide +kernel, rfl, by decide +kernel, by decide +kernel⟩
theorem fd__law_good_show (T : Txt K mg) : FunD K "_law_good_show" "_law_good_show" (defArgs s__law_good_show) (defBody s__law_good_show) (defScope s__law_good_show) [] [] (He.ga K "_law_good_show") (fdK K "_law_good_show") := let ⟨_, h⟩ := T.says.def_ 21 (d := d__law_good_show) rfl; fd_of h
theorem bn__law_good_show (T : Txt K mg) : Binds K (fdK K "_law_good_show") ["value"] [] := (fd__law_good_show T).bindsN fun _ _ _ _ _ _ us hl => match us, hl with | [_], _ => rfl
theorem fn__law_good_show (T : Txt K mg) : DFn P w K mg base 3 (He.ga K "_law_good_show") (fdK K "_law_good_show") ["value"] sp__law_good_show :=
  def_ok (k := 2) (wb := b__law_good_show) (fd__law_good_show T) S__law_good_show (fun _ _ _ _ h => ArOk.len (n := 1) _ _ _ _ h) (fun cdv A outer s H E G0 ED hr tk po => (
    (dss_cons (ds_if (dw_dt (dw_or (dt_not (dt_val (de_call (fn__law_wide T) (hr.mono (by decide)) (by rfl) (T.glo (i := 29) rfl) (fd__law_wide T).kp (bn__law_wide T) tk (da_cons (dv 0) (da_cons de_int (da_cons de_int da_nil)))))) (dw_or (dt_not (dt_val (de_call (fn__law_wide T) (hr.mono (by decide)) (by rfl) (T.glo (i := 29) rfl) (fd__law_wide T).kp (bn__law_wide T) tk (da_cons (de_ix ix_seq od_ix (dv 0) de_int (fun _ _ => rfl)) (da_cons de_int (da_cons de_int da_nil)))))) (dw_or1 (dt_not (dt_val (de_isi .tup (by rfl) (T.free (i := 0) rfl) (de_ix ix_seq od_ix (dv 0) de_int (fun _ _ => rfl)) (by rfl) (T.free (i := 3) rfl) (by decide +kernel)))))))) (dss_one (ds_ret de_bl)) dss_nil)
    (dss_cons (ds_if (dw_dt (dw_or (dt_cmp (or_ne hr.units) od_ne (de_lc (own := [("one", 2)]) rfl S__law_good_show.nd (di_tup (de_ix ix_seq od_ix (dv 0) de_int (fun _ _ => rfl))) (blkOk_by (N := N__law_good_show) (sc := defScope s__law_good_show) (by decide +kernel)) (own_name (by decide)) (fun _ _ _ _ _ => pgn 2 S__law_good_show.nd) (fun _ _ _ _ _ => (dts_one (dt_not (dt_val (de_call (fn__law_is_channel T) (hr.mono (by decide)) (by rfl) (T.glo (i := 32) rfl) (fd__law_is_channel T).kp (bn__law_is_channel T) tk_no (da_cons (dv 2) da_nil)))))) (fun _ _ _ _ _ => (dv 2))) (de_lst da_nil) (nomark _)) (dw_or1 (dt_not (dt_val (de_call (fn__law_climbs T) (hr.mono (by decide)) (by rfl) (T.glo (i := 31) rfl) (fd__law_climbs T).kp (bn__law_climbs T) tk (da_cons (de_ix ix_seq od_ix (dv 0) de_int (fun _ _ => rfl)) da_nil))))))) (dss_one (ds_ret de_bl)) dss_nil)
    (dss_one (ds_ret (de_cmp (or_eq hr.units) od_eq (de_lc (own := [("cue", 1)]) rfl S__law_good_show.nd (di_tup (de_ix ix_seq od_ix (dv 0) de_int (fun _ _ => rfl))) (blkOk_by (N := N__law_good_show) (sc := defScope s__law_good_show) (by decide +kernel)) (own_name (by decide)) (fun _ _ _ _ _ => pgn 1 S__law_good_show.nd) (fun _ _ _ _ _ => (dts_one (dt_not (dt_val (de_call (fn__law_good_cue T) (hr.mono (by decide)) (by rfl) (T.glo (i := 33) rfl) (fd__law_good_cue T).kp (bn__law_good_cue T) tk_no (da_cons (de_ix ix_seq od_ix (dv 0) de_int (fun _ _ => rfl)) (da_cons (dv 1) da_nil))))))) (fun _ _ _ _ _ => (dv 1))) (de_lst da_nil) (nomark _))))))))
    (fun ds G Q E h => ok__law_good_show ds G Q E h)
theorem S__law_show : FnScope N__law_show ["source", "most"] (defScope s__law_show) := ⟨rfl, rfl, rfl, by decide +kernel, rfl, by decide +kernel, by decide +kernel⟩
theorem fd__law_show (T : Txt K mg) : FunD K "_law_show" "_law_show" (defArgs s__law_show) (defBody s__law_show) (defScope s__law_show) [] [] (He.ga K "_law_show") (fdK K "_law_show") := let ⟨_, h⟩ := T.says.def_ 22 (d := d__law_show) rfl; fd_of h
theorem bn__law_show (T : Txt K mg) : Binds K (fdK K "_law_show") ["source", "most"] [] := (fd__law_show T).bindsN fun _ _ _ _ _ _ us hl => match us, hl with | [_, _], _ => rfl
theorem fn__law_show (T : Txt K mg) : DFn P w K mg base 3 (He.ga K "_law_show") (fdK K "_law_show") ["source", "most"] sp__law_show :=
  def_ok (k := 2) (wb := b__law_show) (fd__law_show T) S__law_show (fun _ _ _ _ h => ArOk.len (n := 2) _ _ _ _ h) (fun cdv A outer s H E G0 ED hr tk po => (
    (dss_cons (dsn 2 S__law_show.nd (de_call (fn__law_chosen T) (hr.mono (by decide)) (by rfl) (T.glo (i := 34) rfl) (fd__law_chosen T).kp (bn__law_chosen T) tk (da_cons (dv 0) (da_cons (de_lst (da_cons (de_tupF (da_cons de_str da_nil)) (da_cons (de_tupF (da_cons de_str (da_cons de_str da_nil))) (da_cons (de_tupF (da_cons de_str (da_cons de_str da_nil))) (da_cons (de_tupF (da_cons de_str (da_cons de_str da_nil))) (da_cons (de_tupF (da_cons de_str (da_cons de_str (da_cons de_str (da_cons de_str da_nil))))) da_nil)))))) da_nil))))
    (dss_cons (dsn 3 S__law_show.nd (de_tup da_nil))
    (dss_cons (ds_for po rfl (di_rng1 (by rfl) (T.free (i := 9) rfl) (da_cons (de_call (fn__law_pick T) (hr.mono (by decide)) (by rfl) (T.glo (i := 28) rfl) (fd__law_pick T).kp (bn__law_pick T) tk (da_cons (dv 0) (da_cons (de_op or_add od_add (dv 1) de_int) da_nil))) da_nil)) (dgn 4 S__law_show.nd) (dss_cons (dsn 5 S__law_show.nd (de_tup da_nil))
    (dss_cons (ds_for po rfl (di_tup (dv 2)) (dgn 6 S__law_show.nd) (dss_cons (dsn 7 S__law_show.nd (de_call (fn__law_chosen T) (hr.mono (by decide)) (by rfl) (T.glo (i := 34) rfl) (fd__law_chosen T).kp (bn__law_chosen T) tk (da_cons (dv 0) (da_cons (de_lst (da_cons de_int (da_cons de_int (da_cons de_int (da_cons de_int (da_cons (de_call (fn__law_pick T) (hr.mono (by decide)) (by rfl) (T.glo (i := 28) rfl) (fd__law_pick T).kp (bn__law_pick T) tk (da_cons (dv 0) (da_cons de_int da_nil))) da_nil)))))) da_nil))))
    (dss_one (ds_if (dt_cmp or_lt od_ord (de_call (fn__law_pick T) (hr.mono (by decide)) (by rfl) (T.glo (i := 28) rfl) (fd__law_pick T).kp (bn__law_pick T) tk (da_cons (dv 0) (da_cons de_int da_nil))) de_int (nomark _)) (dss_one (dsn 5 S__law_show.nd (de_op or_add od_add (dv 5) (de_tup (da_cons (de_tup (da_cons (dv 6) (da_cons (dv 7) da_nil))) da_nil))))) dss_nil))))
    (dss_one (dsn 3 S__law_show.nd (de_op or_add od_add (dv 3) (de_tup (da_cons (dv 5) da_nil))))))))
    (dss_one (ds_ret (de_tup (da_cons (dv 2) (da_cons (dv 3) da_nil))))))))))
    (fun ds G Q E h => ok__law_show ds G Q E h)
theorem S__law_show_text : FnScope N__law_show_text ["show"] (defScope s__law_show_text) := ⟨rfl, rfl, rfl, by decide +kernel, rfl, by decide +kernel, by decide +kernel⟩
theorem fd__law_show_text (T : Txt K mg) : FunD K "_law_show_text" "_law_show_text" (defArgs s__law_show_text) (defBody s__law_show_text) (defScope s__law_show_text) [] [] (He.ga K "_law_show_text") (fdK K "_law_show_text") := let ⟨_, h⟩ := T.says.def_ 23 (d := d__law_show_text) rfl; fd_of h
theorem bn__law_show_text (T : Txt K mg) : Binds K (fdK K "_law_show_text") ["show"] [] := (fd__law_show_text T).bindsN fun _ _ _ _ _ _ us hl => match us, hl with | [_], _ => rfl
theorem fn__law_show_text (T : Txt K mg) : DFn P w K mg base 1 (He.ga K "_law_show_text") (fdK K "_law_show_text") ["show"] sp__law_show_text :=
  def_ok (k := 0) (wb := b__law_show_text) (fd__law_show_text T) S__law_show_text (fun _ _ _ _ h => ArOk.len (n := 1) _ _ _ _ h) (fun cdv A outer s H E G0 ED hr tk po => (
    (dss_cons (dsn 1 S__law_show_text.nd (de_lst (da_cons (de_op or_add od_add de_str (de_join de_str (de_ix ix_seq od_ix (dv 0) de_int (fun _ _ => rfl)))) da_nil)))
    (dss_cons (ds_for po rfl (di_tup (de_ix ix_seq od_ix (dv 0) de_int (fun _ _ => rfl))) (dgn 2 S__law_show_text.nd) (dss_one (ds_expr (de_bm PySem.F.plainAttrs_list PySem.F.slot_list_append PySem.F.type_list_append mt_append md_append (dv 1) (da_cons (de_join de_str (de_op or_add od_add (de_lst (da_cons de_str da_nil)) (de_lc (own := [("move", 3)]) rfl S__law_show_text.nd (di_tup (dv 2)) (blkOk_by (N := N__law_show_text) (sc := defScope s__law_show_text) (by decide +kernel)) (own_name (by decide)) (fun _ _ _ _ _ => pgn 3 S__law_show_text.nd) (fun _ _ _ _ _ => dts_nil) (fun _ _ _ _ _ => (de_op or_add od_add (de_op or_add od_add (de_ix ix_seq od_ix (dv 3) de_int (fun _ _ => rfl)) de_str) (de_callTy (call_str_int) cd_str1 (by rfl) (T.free (i := 5) rfl) (by decide +kernel) (da_cons (de_ix ix_seq od_ix (dv 3) de_int (fun _ _ => rfl)) da_nil))))))) da_nil)))))
    (dss_one (ds_ret (de_join de_str (dv 1))))))))
    (fun ds G Q E h => ok__law_show_text ds G Q E h)
theorem S__law_told : FnScope N__law_told ["value"] (defScope s__law_told) := ⟨rfl, rfl, rfl, by decide +kernel, rfl, by decide +kernel, by decide +kernel⟩
theorem fd__law_told (T : Txt K mg) : FunD K "_law_told" "_law_told" (defArgs s__law_told) (defBody s__law_told) (defScope s__law_told) [] [] (He.ga K "_law_told") (fdK K "_law_told") := let ⟨_, h⟩ := T.says.def_ 24 (d := d__law_told) rfl; fd_of h
theorem bn__law_told (T : Txt K mg) : Binds K (fdK K "_law_told") ["value"] [] := (fd__law_told T).bindsN fun _ _ _ _ _ _ us hl => match us, hl with | [_], _ => rfl
theorem fn__law_told (T : Txt K mg) : DFn P w K mg base 5 (He.ga K "_law_told") (fdK K "_law_told") ["value"] sp__law_told_k72 :=
  def_ok (k := 4) (wb := b__law_told_k72 K (exC K)) (fd__law_told T) S__law_told (fun _ _ _ _ h => ArOk.len (n := 1) _ _ _ _ h) (fun cdv A outer s H E G0 ED hr tk po => (
    (dss_one (ds_try1 rfl rfl ⟨rfl, by decide, .inl (T.glo (i := 25) rfl)⟩ tk (fun _ _ U1 pn xe tk1 po => (dss_one (ds_ret (de_call (fn_read_show T) (hr.mono (by decide)) (by rfl) (T.glo (i := 35) rfl) (fd_read_show T).kp (bn_read_show T) tk1 (da_cons (dv 0) da_nil))))) (fun a pn => (dss_one (ds_ret de_str)))))))
    (fun ds G Q E h => ok__law_told_k72 (T.exm (i := 45) rfl) ds G Q E h)
theorem S__law_bent : FnScope N__law_bent ["source", "text"] (defScope s__law_bent) := ⟨rfl, rfl, rfl, by decide +kernel, rfl, by decide +kernel, by decide +kernel⟩
theorem fd__law_bent (T : Txt K mg) : FunD K "_law_bent" "_law_bent" (defArgs s__law_bent) (defBody s__law_bent) (defScope s__law_bent) [] [] (He.ga K "_law_bent") (fdK K "_law_bent") := let ⟨_, h⟩ := T.says.def_ 25 (d := d__law_bent) rfl; fd_of h
theorem bn__law_bent (T : Txt K mg) : Binds K (fdK K "_law_bent") ["source", "text"] [] := (fd__law_bent T).bindsN fun _ _ _ _ _ _ us hl => match us, hl with | [_, _], _ => rfl
theorem fn__law_bent (T : Txt K mg) : DFn P w K mg base 3 (He.ga K "_law_bent") (fdK K "_law_bent") ["source", "text"] sp__law_bent_k72 :=
  def_ok (k := 2) (wb := b__law_bent_k72) (fd__law_bent T) S__law_bent (fun _ _ _ _ h => ArOk.len (n := 2) _ _ _ _ h) (fun cdv A outer s H E G0 ED hr tk po => (
    (dss_cons (ds_par (i := 3) (j := 4) rfl S__law_bent.nd rfl rfl (by decide) rfl rfl (da_cons (de_call (fn__law_pick T) (hr.mono (by decide)) (by rfl) (T.glo (i := 28) rfl) (fd__law_pick T).kp (bn__law_pick T) tk (da_cons (dv 0) (da_cons (de_op or_add od_add (de_callB (call_len) cd_len (by rfl) (T.free (i := 4) rfl) (by decide +kernel) (da_cons (dv 1) da_nil)) de_int) da_nil))) (da_cons de_str da_nil)) (by rfl))
    (dss_cons (dsn 2 S__law_bent.nd (de_call (fn__law_pick T) (hr.mono (by decide)) (by rfl) (T.glo (i := 28) rfl) (fd__law_pick T).kp (bn__law_pick T) tk (da_cons (dv 0) (da_cons de_int da_nil))))
    (dss_cons (ds_if (dt_cmp or_lt od_ord (dv 2) de_int (nomark _)) (dss_one (ds_ret (de_op or_add od_add (de_op or_add od_add (de_slice (dv 1) dp_none (dp_some (dv 3))) (de_ix ix_seq od_ix (dv 4) (de_call (fn__law_pick T) (hr.mono (by decide)) (by rfl) (T.glo (i := 28) rfl) (fd__law_pick T).kp (bn__law_pick T) tk (da_cons (dv 0) (da_cons (de_callB (call_len) cd_len (by rfl) (T.free (i := 4) rfl) (by decide +kernel) (da_cons (dv 4) da_nil)) da_nil))) (fun _ _ => rfl))) (de_slice (dv 1) (dp_some (de_op or_add od_add (dv 3) (dv 2))) dp_none)))) dss_nil)
    (dss_cons (ds_if (dt_cmp (or_eq hr.units) od_eq (dv 2) de_int (nomark _)) (dss_one (ds_ret (de_op or_add od_add (de_slice (dv 1) dp_none (dp_some (dv 3))) (de_slice (dv 1) (dp_some (de_op or_add od_add (dv 3) de_int)) dp_none)))) dss_nil)
    (dss_one (ds_ret (de_op or_add od_add (de_op or_add od_add (de_slice (dv 1) dp_none (dp_some (dv 3))) (de_call (fn__law_chosen T) (hr.mono (by decide)) (by rfl) (T.glo (i := 34) rfl) (fd__law_chosen T).kp (bn__law_chosen T) tk (da_cons (dv 0) (da_cons (de_lst (da_cons de_str (da_cons de_str (da_cons de_str (da_cons de_str (da_cons de_str (da_cons de_str (da_cons de_str (da_cons de_str da_nil))))))))) da_nil)))) (de_slice (dv 1) (dp_some (dv 3)) dp_none))))))))))
    (fun ds G Q E h => ok__law_bent_k72 ds G Q E h)
theorem S_law : FnScope N_law ["script"] (defScope s_law) := ⟨rfl, rfl, rfl, by decide +kernel, rfl, by decide +kernel, by decide +kernel⟩
theorem fd_law (T : Txt K mg) : FunD K "law" "law" (defArgs s_law) (defBody s_law) (defScope s_law) [] [] (He.ga K "law") (fdK K "law") := let ⟨_, h⟩ := T.says.def_ 26 (d := d_law) rfl; fd_of h
theorem bn_law (T : Txt K mg) : Binds K (fdK K "law") ["script"] [] := (fd_law T).bindsN fun _ _ _ _ _ _ us hl => match us, hl with | [_], _ => rfl
theorem fn_law (T : Txt K mg) : DFn P w K mg base 6 (He.ga K "law") (fdK K "law") ["script"] sp_law_k72 :=
  def_ok (k := 5) (wb := b_law_k72 (exC K)) (fd_law T) S_law (fun _ _ _ _ h => ArOk.len (n := 1) _ _ _ _ h) (fun cdv A outer s H E G0 ED hr tk po => (
    (dss_cons (ds_for po rfl (di_rng1 (by rfl) (T.free (i := 9) rfl) (da_cons (de_callB (call_max2 rfl) cd_max2 (by rfl) (T.free (i := 37) rfl) (by decide +kernel) (da_cons de_int (da_cons (de_callB (call_min2 rfl) cd_min2 (by rfl) (T.free (i := 36) rfl) (by decide +kernel) (da_cons de_int (da_cons (de_callB (call_len) cd_len (by rfl) (T.free (i := 4) rfl) (by decide +kernel) (da_cons (dv 0) da_nil)) da_nil))) da_nil))) da_nil)) (dgn 1 S_law.nd) (dss_cons (dsn 2 S_law.nd (de_call (fn__law_source T) (hr.mono (by decide)) (by rfl) (T.glo (i := 38) rfl) (fd__law_source T).kp (bn__law_source T) tk (da_cons (dv 0) (da_cons (dv 1) da_nil))))
    (dss_cons (dsn 3 S_law.nd (de_call (fn__law_show T) (hr.mono (by decide)) (by rfl) (T.glo (i := 39) rfl) (fd__law_show T).kp (bn__law_show T) tk (da_cons (dv 2) (da_cons (de_ix ix_seq od_ix (de_lst (da_cons de_int (da_cons de_int da_nil))) (de_call (fn__law_pick T) (hr.mono (by decide)) (by rfl) (T.glo (i := 28) rfl) (fd__law_pick T).kp (bn__law_pick T) tk (da_cons (dv 2) (da_cons de_int da_nil))) (fun _ _ => rfl)) da_nil))))
    (dss_cons (dsn 4 S_law.nd (de_call (fn__law_show_text T) (hr.mono (by decide)) (by rfl) (T.glo (i := 40) rfl) (fd__law_show_text T).kp (bn__law_show_text T) tk (da_cons (dv 3) da_nil)))
    (dss_cons (ds_if (dw_dt (dw_or (dt_cmp (or_ne hr.units) od_ne (de_call (fn_show_text T) (hr.mono (by decide)) (by rfl) (T.glo (i := 41) rfl) (fd_show_text T).kp (bn_show_text T) tk (da_cons (dv 3) da_nil)) (dv 4) (nomark _)) (dw_or1 (dt_cmp (or_ne hr.units) od_ne (de_call (fn__law_told T) (hr.mono (by decide)) (by rfl) (T.glo (i := 42) rfl) (fd__law_told T).kp (bn__law_told T) tk (da_cons (dv 4) da_nil)) (dv 3) (nomark _))))) (dss_one (ds_ret de_bl)) dss_nil)
    (dss_cons (dsn 5 S_law.nd (de_lst (da_cons de_str (da_cons de_str (da_cons de_str (da_cons de_str (da_cons de_str (da_cons de_str da_nil))))))))
    (dss_cons (dsn 5 S_law.nd (de_op or_add od_add (dv 5) (de_lst (da_cons de_str (da_cons de_str (da_cons de_str (da_cons de_str (da_cons de_str da_nil))))))))
    (dss_cons (ds_expr (de_bm PySem.F.plainAttrs_list PySem.F.slot_list_append PySem.F.type_list_append mt_append md_append (dv 5) (da_cons (de_join de_str (de_op or_add od_add (de_lst (da_cons de_str da_nil)) (de_op or_mul od_mul (de_lst (da_cons de_str da_nil)) de_int))) da_nil)))
    (dss_cons (dsn 6 S_law.nd (de_op or_add od_add (dv 5) (de_lst da_nil)))
    (dss_cons (ds_for po rfl (di_rng1 (by rfl) (T.free (i := 9) rfl) (da_cons de_int da_nil)) (dgn 7 S_law.nd) (dss_cons (dsn 9 S_law.nd (de_call (fn__law_bent T) (hr.mono (by decide)) (by rfl) (T.glo (i := 43) rfl) (fd__law_bent T).kp (bn__law_bent T) tk (da_cons (dv 2) (da_cons (dv 4) da_nil))))
    (dss_one (dsn 6 S_law.nd (de_op or_add od_add (dv 6) (de_lst (da_cons (dv 9) (da_cons (de_call (fn__law_bent T) (hr.mono (by decide)) (by rfl) (T.glo (i := 43) rfl) (fd__law_bent T).kp (bn__law_bent T) tk (da_cons (dv 2) (da_cons (dv 9) da_nil))) da_nil))))))))
    (dss_cons (ds_for po rfl (di_lst (dv 6)) (dgn 8 S_law.nd) (dss_cons (dsn 10 S_law.nd (de_call (fn__law_told T) (hr.mono (by decide)) (by rfl) (T.glo (i := 42) rfl) (fd__law_told T).kp (bn__law_told T) tk (da_cons (dv 8) da_nil)))
    (dss_cons (ds_if (dt_cmp (or_eq hr.units) od_eq (dv 10) de_str (nomark _)) (dss_one ds_continue) dss_nil)
    (dss_one (ds_if (dw_dt (dw_or (dt_not (dt_val (de_call (fn__law_good_show T) (hr.mono (by decide)) (by rfl) (T.glo (i := 44) rfl) (fd__law_good_show T).kp (bn__law_good_show T) tk (da_cons (dv 10) da_nil)))) (dw_or (dt_cmp (or_ne hr.units) od_ne (de_call (fn__law_show_text T) (hr.mono (by decide)) (by rfl) (T.glo (i := 40) rfl) (fd__law_show_text T).kp (bn__law_show_text T) tk (da_cons (dv 10) da_nil)) (dv 8) (nomark _)) (dw_or1 (dt_cmp or_gt od_ord (de_callB (call_len) cd_len (by rfl) (T.free (i := 4) rfl) (by decide +kernel) (da_cons (de_ix ix_seq od_ix (dv 10) de_int (fun _ _ => rfl)) da_nil)) de_int (nomark _)))))) (dss_one (ds_ret de_bl)) dss_nil)))))
    (dss_one (ds_for po rfl (di_lst (de_op or_add od_add (de_lst (da_cons de_non (da_cons de_int (da_cons (de_tup (da_cons (dv 4) da_nil)) (da_cons (dv 3) da_nil))))) (dv 5))) (dgn 8 S_law.nd) (dss_one (ds_if (dt_cmp (or_ne hr.units) od_ne (de_call (fn__law_told T) (hr.mono (by decide)) (by rfl) (T.glo (i := 42) rfl) (fd__law_told T).kp (bn__law_told T) tk (da_cons (dv 8) da_nil)) de_str (nomark _)) (dss_one (ds_ret de_bl)) dss_nil)))))))))))))))
    (dss_one (ds_ret (de_cmp (or_eq hr.units) od_eq (de_call (fn__law_told T) (hr.mono (by decide)) (by rfl) (T.glo (i := 42) rfl) (fd__law_told T).kp (bn__law_told T) tk (da_cons de_str da_nil)) (de_tup (da_cons (de_tup (da_cons de_str (da_cons de_str da_nil))) (da_cons (de_tup (da_cons (de_tup da_nil) (da_cons (de_tup (da_cons (de_tup (da_cons de_str (da_cons de_int da_nil))) (da_cons (de_tup (da_cons de_str (da_cons de_int da_nil))) da_nil))) da_nil))) da_nil))) (nomark _)))))))
    (fun ds G Q E h => ok_law_k72 ds G Q E h)
end
def loose0 : List Str := ["LETTERS", "MOST_SIGNS", "MOST_LEVEL", "MOST_CHANNELS", "MOST_CUES", "CueError", "InvalidShow", "WrongText", "is_whole", "is_wide", "is_channel", "climbs", "is_cue", "is_right_show", "need_show", "word_of", "show_lines", "number_in", "move_in", "show_text", "read_show", "_law_source", "_law_pick", "_law_chosen", "_law_wide", "_law_whole", "_law_is_channel", "_law_climbs", "_law_good_cue", "_law_good_show"]
def loose1 : List Str := ["_law_show", "_law_show_text", "_law_told", "_law_bent"]
def loose : List Str := loose0 ++ loose1
abbrev RR : PySem.W.OpenRow := PySem.W.OpenLaw.row PySem.Challenge.rw_trackedcues_k72_shows_written_and_read
abbrev hook : PySem.W.Hook := He.hookD 6 faL fnL
def obs (s : PySem.W.SharedT) : He.AlD := He.obsDG 6 faL fnL (HandSHeadRun.getT s)
theorem obs_eq (s : PySem.W.SharedT) : obs s = hook.obs s.abs := He.obsDG_eq (HandSHeadRun.getT_eq s)
theorem topRun (w : World) : HandSHeadRun.RunEq RR (PySem.W.view RR.prog [38]) hook obs 6000 loose w := fun os => by kernel_rfl
theorem law_bind {K : PySem.W.Frag} {mg : Str → Option Value} (T : Txt K mg) (s : Shared) (u : Value) : BindsTo s (fdK K "law") ⟨[u], []⟩ [("script", u)] :=
  FunD.bindsA (ps := ["script"]) (fd_law T) (fun _ _ _ _ _ _ us hl => match us, hl with | [_], _ => rfl) s [u] rfl
end L_k72
end TC
open PySem PySem.W PySem.Calls PyProof.Rows in
theorem PySem.Challenge.cw_trackedcues_k72_shows_written_and_read_holds : PySem.Challenge.rw_trackedcues_k72_shows_written_and_read.Holds := by
  w_on; o_law
  refine HandSHeadRun.head_any (r := TC.L_k72.RR) (q := view TC.L_k72.RR.prog [38]) (H := TC.L_k72.hook) (ob := TC.L_k72.obs) (M := 6000) (loose := TC.L_k72.loose) (d := HandSHeadRun.topDef TC.L_k72.RR.prog 38) (kwd := []) TC.L_k72.obs_eq
    (by kernel_rfl) (fun s => by kernel_rfl) TC.L_k72.topRun (by kernel_rfl) (by kernel_rfl) (by kernel_rfl) (by rfl) (by first | assumption | decide +kernel) (by decide +kernel) ⟨rfl, rfl, rfl, rfl, rfl, by decide +kernel⟩ ?hw ?hc
  case hw => w_witness2
  case hc =>
    refine TC.law_end (l := PySem.Challenge.rw_trackedcues_k72_shows_written_and_read) (n := 63) (k := 6) (x := "script") rfl (by decide) (by kernel_rfl) ⟨rfl, by decide, by decide⟩ ?F
    intro w mg fa h Y G hmg0
    obtain ⟨K, KX, c⟩ := Y
    have hmg : mg ("law" : PySem.Str) = some (.ref fa) := by
      have e : (HandSHeadRun.topDef TC.L_k72.RR.prog 38).name = ("law" : PySem.Str) := by kernel_rfl
      rw [← e]; exact hmg0
    have T : TC.L_k72.Txt K mg := ⟨⟨h, KX, G⟩, c⟩
    have ef := hmg.symm.trans (T.glo (i := 46) rfl)
    cases ef
    exact ⟨K, _, _, KX, TC.L_k72.law_bind T, fun ns hl => ⟨ns, rfl, fun _ => rfl⟩, fun base _ _ => TC.L_k72.fn_law T⟩

