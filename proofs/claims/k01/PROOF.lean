import PyProof.Rows.All
import Wide.All
import OpenK.AllK
import Wide.FinOn
import HandS.ForMost
import HandS.ForExc
import HandS.TupAny
import HandS.TupMul
import HandS.IsInst
import HandS.Style
import HandS.Defaults
import HandS.Zip
import HandS.Walk
import HandS.TryMany
import KE.GoesMore
import KE.GoesZip
import KE.GoesEnum
import HandS.HeadHook1
import HandS.Head0
import HandS.Head1
import HandS.Head2
import HandS.HeadEnd
import HandS.HeadHook2
import KE.KStateDown
import Lean
import PySem.Challenge.RW_trackedcues_k01_shows_and_scripts_recogn
set_option Elab.async false
set_option linter.all false
set_option maxRecDepth 100000
/-! TC, part a: data by value, the data heap, the lifted judgements, first rules. -/
namespace TC
open PySem PySem.Spec L2

/-- a value by content: tuples by what they hold, all else that lives in the heap by its address -/
inductive D where
  | non | bl (b : Bool) | int (i : Int) | str (x : Str) | tup (xs : List D) | ref (a : Addr) | ty (n : String)
  /-- a list that nobody writes (the script) -/
  | rl (xs : List D)

/-- a list that stands still: locked, or of the written part -/
def SqF (K : W.Frag) (H : Hp) (a : Addr) (xs : List V) : Prop :=
  (∃ o, H a = some (.frz o (.lst xs))) ∨
    ∃ (o : Obj) (its : Array Value) (n : Nat), K.lookup a = some o ∧ o.cls = .type "list" ∧ o.dict = none ∧ o.data = .seq its n ∧ its.size ≤ sizeLine ∧ Vals xs its.toList
theorem SqF.sq {K : W.Frag} {H : Hp} {a : Addr} {xs : List V} (h : SqF K H a xs) : SqL K H a xs := by
  rcases h with ⟨o, h⟩ | h
  · exact .inl (.inr ⟨o, h⟩)
  · exact .inr h

mutual
def Rep (K : W.Frag) (H : Hp) : D → V → Prop
  | .non, v => v = .non
  | .bl b, v => v = .bl b
  | .int i, v => v = .int i
  | .str x, v => v = .str x
  | .tup ds, v => ∃ a vs, v = .ref a ∧ H a = some (.tup vs) ∧ Reps K H ds vs
  | .ref a, v => v = .ref a
  | .ty n, v => v = .ty n
  | .rl ds, v => ∃ a vs, v = .ref a ∧ SqF K H a vs ∧ Reps K H ds vs
def Reps (K : W.Frag) (H : Hp) : List D → List V → Prop
  | [], vs => vs = []
  | d :: ds, vs => ∃ v r, vs = v :: r ∧ Rep K H d v ∧ Reps K H ds r
end

/-- what a data address holds -/
inductive DO where
  /-- a list that may be written -/
  | lst (xs : List D)
  /-- dicts: keys ints and texts; keys tuples of such -/
  | dK (kvs : List (Key × D)) | dT (kvs : List (List Key × D))
  /-- the same, read alone (while they are walked) -/
  | rdK (kvs : List (Key × D)) | rdT (kvs : List (List Key × D))
  /-- an instance -/
  | ins (C : Addr) (fs : List (Str × D))
  /-- any other thing as it lies -/
  | raw (o : HO)

abbrev DHp := Addr → Option DO
def updD (G : DHp) (a : Addr) (o : DO) : DHp := fun b => if b = a then some o else G b
theorem updD_same {G : DHp} {a : Addr} {o : DO} : updD G a o a = some o := by unfold updD; rw [if_pos rfl]
theorem updD_ne {G : DHp} {a b : Addr} {o : DO} (h : b ≠ a) : updD G a o b = G b := by unfold updD; rw [if_neg h]
theorem updD_updD {G : DHp} {a : Addr} {o u : DO} : updD (updD G a o) a u = updD G a u := by
  funext b; unfold updD; split <;> rfl

/-- pairs with data at the right, against pairs with values -/
def RepKV {κ : Type} (K : W.Frag) (H : Hp) : List (κ × D) → List (κ × V) → Prop
  | [], vs => vs = []
  | (k, d) :: ds, vs => ∃ v r, vs = (k, v) :: r ∧ Rep K H d v ∧ RepKV K H ds r

def plainO : HO → Prop
  | .tup _ => False
  | .frz _ (.tup _) => False
  | .frz _ (.lst _) => False
  | _ => True

def RepO (K : W.Frag) (H : Hp) (a : Addr) : DO → Prop
  | .lst ds => ∃ vs, H a = some (.lst vs) ∧ Reps K H ds vs
  | .dK kvs => ∃ vs, H a = some (.dK vs) ∧ RepKV K H kvs vs
  | .dT kvs => ∃ vs, H a = some (.dT vs) ∧ RepKV K H kvs vs
  | .rdK kvs => ∃ o vs, H a = some (.frz o (.dK vs)) ∧ RepKV K H kvs vs
  | .rdT kvs => ∃ o vs, H a = some (.frz o (.dT vs)) ∧ RepKV K H kvs vs
  | .ins C fs => ∃ dx vs, H a = some (.ins C dx vs) ∧ RepKV K H fs vs
  | .raw o => H a = some o ∧ plainO o

def HR (K : W.Frag) (G : DHp) (H : Hp) : Prop := ∀ a o, G a = some o → RepO K H a o

/-- a step: what is not told stays untold and as it is -/
structure Stp (G : DHp) (H : Hp) (G' : DHp) (H' : Hp) : Prop where
  keep : ∀ a o, G a = none → H a = some o → H' a = some o
  hid : ∀ a o, G a = none → H a = some o → G' a = none

theorem Stp.refl {G : DHp} {H : Hp} : Stp G H G H := ⟨fun _ _ _ h => h, fun _ _ h _ => h⟩
theorem Stp.trans {G G1 G2 : DHp} {H H1 H2 : Hp} (a : Stp G H G1 H1) (b : Stp G1 H1 G2 H2) : Stp G H G2 H2 :=
  ⟨fun x o g h => b.keep x o (a.hid x o g h) (a.keep x o g h), fun x o g h => b.hid x o (a.hid x o g h) (a.keep x o g h)⟩

section
variable {K : W.Frag} {G G' G1 G2 : DHp} {H H' H1 H2 : Hp} {a p : Addr} {o : DO}

theorem HR.notTup (r : HR K G H) {xs : List V} (h : H a = some (.tup xs)) : G a = none := by
  cases e : G a with
  | none => rfl
  | some o =>
    exfalso
    have q := r a o e
    cases o with
    | lst ds => obtain ⟨vs, h1, _⟩ := q; rw [h] at h1; cases h1
    | dK _ => obtain ⟨vs, h1, _⟩ := q; rw [h] at h1; cases h1
    | dT _ => obtain ⟨vs, h1, _⟩ := q; rw [h] at h1; cases h1
    | rdK _ => obtain ⟨_, vs, h1, _⟩ := q; rw [h] at h1; cases h1
    | rdT _ => obtain ⟨_, vs, h1, _⟩ := q; rw [h] at h1; cases h1
    | ins _ _ => obtain ⟨_, vs, h1, _⟩ := q; rw [h] at h1; cases h1
    | raw u => obtain ⟨h1, h2⟩ := q; rw [h] at h1; cases h1; exact h2
theorem HR.notFrz (r : HR K G H) {ob : Obj} {u : HO} (h : H a = some (.frz ob u)) (hu : (∃ xs, u = .tup xs) ∨ ∃ xs, u = .lst xs) : G a = none := by
  cases e : G a with
  | none => rfl
  | some o =>
    exfalso
    have q := r a o e
    cases o with
    | lst ds => obtain ⟨vs, h1, _⟩ := q; rw [h] at h1; cases h1
    | dK _ => obtain ⟨vs, h1, _⟩ := q; rw [h] at h1; cases h1
    | dT _ => obtain ⟨vs, h1, _⟩ := q; rw [h] at h1; cases h1
    | rdK _ => obtain ⟨_, vs, h1, _⟩ := q; rw [h] at h1; cases h1; rcases hu with ⟨_, e⟩ | ⟨_, e⟩ <;> cases e
    | rdT _ => obtain ⟨_, vs, h1, _⟩ := q; rw [h] at h1; cases h1; rcases hu with ⟨_, e⟩ | ⟨_, e⟩ <;> cases e
    | ins _ _ => obtain ⟨_, vs, h1, _⟩ := q; rw [h] at h1; cases h1
    | raw u => obtain ⟨h1, h2⟩ := q; rw [h] at h1; cases h1; rcases hu with ⟨_, rfl⟩ | ⟨_, rfl⟩ <;> exact h2
/-- tuples stay -/
theorem Stp.tup (s : Stp G H G' H') (r : HR K G H) {xs : List V} (h : H a = some (.tup xs)) : H' a = some (.tup xs) := s.keep a _ (r.notTup h) h
theorem Stp.fl (s : Stp G H G' H') (r : HR K G H) {xs : List V} (h : SqF K H a xs) : SqF K H' a xs := by
  rcases h with ⟨ob, h⟩ | h
  · exact .inl ⟨ob, s.keep a _ (r.notFrz h (.inr ⟨_, rfl⟩)) h⟩
  · exact .inr h
/-- what content leans on stays -/
structure Mn (K : W.Frag) (H H' : Hp) : Prop where
  tup : ∀ a xs, H a = some (.tup xs) → H' a = some (.tup xs)
  fl : ∀ a xs, SqF K H a xs → SqF K H' a xs
theorem Mn.refl : Mn K H H := ⟨fun _ _ h => h, fun _ _ h => h⟩
theorem Mn.trans {H1 H2 : Hp} (a : Mn K H H1) (b : Mn K H1 H2) : Mn K H H2 := ⟨fun x xs h => b.tup x xs (a.tup x xs h), fun x xs h => b.fl x xs (a.fl x xs h)⟩
theorem Stp.mn (s : Stp G H G' H') (r : HR K G H) : Mn K H H' := ⟨fun _ _ h => s.tup r h, fun _ _ h => s.fl r h⟩

mutual
theorem Rep.mono (m : Mn K H H') : ∀ {d : D} {v : V}, Rep K H d v → Rep K H' d v
  | .non, _, h => h
  | .bl _, _, h => h
  | .int _, _, h => h
  | .str _, _, h => h
  | .ref _, _, h => h
  | .ty _, _, h => h
  | .tup ds, v, h => by
    obtain ⟨a, vs, e, s, r⟩ := h
    exact ⟨a, vs, e, m.tup a vs s, Reps.mono m r⟩
  | .rl ds, v, h => by
    obtain ⟨a, vs, e, s, r⟩ := h
    exact ⟨a, vs, e, m.fl a vs s, Reps.mono m r⟩
theorem Reps.mono (m : Mn K H H') : ∀ {ds : List D} {vs : List V}, Reps K H ds vs → Reps K H' ds vs
  | [], _, h => h
  | d :: ds, vs, h => by
    obtain ⟨v, r, e, h1, h2⟩ := h
    exact ⟨v, r, e, Rep.mono m h1, Reps.mono m h2⟩
end
theorem RepKV.mono {κ : Type} (m : Mn K H H') : ∀ {ds : List (κ × D)} {vs : List (κ × V)}, RepKV K H ds vs → RepKV K H' ds vs
  | [], _, h => h
  | (k, d) :: ds, vs, h => by
    obtain ⟨v, r, e, h1, h2⟩ := h
    exact ⟨v, r, e, Rep.mono m h1, RepKV.mono m h2⟩
theorem Reps.length : ∀ {ds : List D} {vs : List V}, Reps K H ds vs → ds.length = vs.length
  | [], _, h => by cases h; rfl
  | d :: ds, vs, h => by
    obtain ⟨v, r, e, _, h2⟩ := h
    subst e
    simp [Reps.length h2]
theorem Reps.append : ∀ {ds es : List D} {vs ws : List V}, Reps K H ds vs → Reps K H es ws → Reps K H (ds ++ es) (vs ++ ws)
  | [], _, _, _, h, h' => by cases h; exact h'
  | d :: ds, es, vs, ws, h, h' => by
    obtain ⟨v, r, e, h1, h2⟩ := h
    subst e
    exact ⟨v, r ++ ws, rfl, h1, Reps.append h2 h'⟩
theorem Reps.get : ∀ {ds : List D} {vs : List V} {i : Nat} {d : D}, Reps K H ds vs → ds[i]? = some d → ∃ v, vs[i]? = some v ∧ Rep K H d v
  | [], _, _, _, _, e => by simp at e
  | d :: ds, vs, 0, x, h, e => by
    obtain ⟨v, r, e1, h1, _⟩ := h
    subst e1
    simp at e; subst e
    exact ⟨v, rfl, h1⟩
  | d :: ds, vs, i + 1, x, h, e => by
    obtain ⟨v, r, e1, _, h2⟩ := h
    subst e1
    obtain ⟨u, q1, q2⟩ := Reps.get (i := i) (d := x) h2 (by simpa using e)
    exact ⟨u, by simpa using q1, q2⟩
theorem Reps.getV : ∀ {ds : List D} {vs : List V} {i : Nat} {v : V}, Reps K H ds vs → vs[i]? = some v → ∃ d, ds[i]? = some d ∧ Rep K H d v := fun {ds vs i v} h e => by
  have hl := h.length
  have hi : i < ds.length := by rw [hl]; exact (List.getElem?_eq_some_iff.mp e).1
  have e2 : ds[i]? = some ds[i] := List.getElem?_eq_getElem hi
  obtain ⟨u, q1, q2⟩ := h.get e2
  rw [e] at q1; cases q1
  exact ⟨_, e2, q2⟩
theorem Reps.take : ∀ {ds : List D} {vs : List V} (n : Nat), Reps K H ds vs → Reps K H (ds.take n) (vs.take n)
  | _, _, 0, _ => by simp [Reps]
  | [], _, _ + 1, h => by cases h; simp [Reps]
  | d :: ds, vs, n + 1, h => by
    obtain ⟨v, r, e, h1, h2⟩ := h
    subst e
    exact ⟨v, r.take n, by simp, h1, Reps.take n h2⟩
theorem Reps.drop : ∀ {ds : List D} {vs : List V} (n : Nat), Reps K H ds vs → Reps K H (ds.drop n) (vs.drop n)
  | _, _, 0, h => by simpa using h
  | [], _, _ + 1, h => by cases h; simp [Reps]
  | d :: ds, vs, n + 1, h => by
    obtain ⟨v, r, e, h1, h2⟩ := h
    subst e
    simpa using Reps.drop n h2
theorem Reps.one {d : D} {v : V} (h : Rep K H d v) : Reps K H [d] [v] := ⟨v, [], rfl, h, rfl⟩
theorem Reps.set {d : D} {v : V} (h : Rep K H d v) : ∀ {ds : List D} {vs : List V} (i : Nat), Reps K H ds vs → Reps K H (ds.set i d) (vs.set i v)
  | [], _, _, q => by cases q; simp [Reps]
  | _ :: ds, vs, 0, q => by
    obtain ⟨_, r, e, _, h2⟩ := q
    subst e
    exact ⟨v, r, rfl, h, h2⟩
  | _ :: ds, vs, i + 1, q => by
    obtain ⟨u, r, e, h1, h2⟩ := q
    subst e
    exact ⟨u, r.set i v, rfl, h1, Reps.set h i h2⟩
theorem Reps.ints : ∀ {ns : List Int} {vs : List V}, Reps K H (ns.map D.int) vs → vs = ns.map V.int
  | [], _, h => h
  | n :: ns, vs, h => by
    obtain ⟨v, r, e, h1, h2⟩ := h
    cases h1
    rw [e, Reps.ints h2]; rfl
theorem Reps.ofInts : ∀ {ns : List Int}, Reps K H (ns.map D.int) (ns.map V.int)
  | [] => rfl
  | n :: ns => ⟨_, _, rfl, rfl, Reps.ofInts⟩
theorem Reps.strs : ∀ {ns : List Str} {vs : List V}, Reps K H (ns.map D.str) vs → vs = ns.map V.str
  | [], _, h => h
  | n :: ns, vs, h => by
    obtain ⟨v, r, e, h1, h2⟩ := h
    cases h1
    rw [e, Reps.strs h2]; rfl
theorem Reps.ofStrs : ∀ {ns : List Str}, Reps K H (ns.map D.str) (ns.map V.str)
  | [] => rfl
  | n :: ns => ⟨_, _, rfl, rfl, Reps.ofStrs⟩
theorem Reps.bls : ∀ {ns : List Bool} {vs : List V}, Reps K H (ns.map D.bl) vs → vs = ns.map V.bl
  | [], _, h => h
  | n :: ns, vs, h => by
    obtain ⟨v, r, e, h1, h2⟩ := h
    cases h1
    rw [e, Reps.bls h2]; rfl
theorem Reps.ofBls : ∀ {ns : List Bool}, Reps K H (ns.map D.bl) (ns.map V.bl)
  | [] => rfl
  | n :: ns => ⟨_, _, rfl, rfl, Reps.ofBls⟩

/-- what is told goes over to a heap in which its object is the same and tuples stay -/
theorem RepO.mono (m : Mn K H H') (e : H' a = H a) : ∀ {o : DO}, RepO K H a o → RepO K H' a o
  | .lst _, ⟨vs, h1, h2⟩ => ⟨vs, by rw [e]; exact h1, h2.mono m⟩
  | .dK _, ⟨vs, h1, h2⟩ => ⟨vs, by rw [e]; exact h1, h2.mono m⟩
  | .dT _, ⟨vs, h1, h2⟩ => ⟨vs, by rw [e]; exact h1, h2.mono m⟩
  | .rdK _, ⟨o, vs, h1, h2⟩ => ⟨o, vs, by rw [e]; exact h1, h2.mono m⟩
  | .rdT _, ⟨o, vs, h1, h2⟩ => ⟨o, vs, by rw [e]; exact h1, h2.mono m⟩
  | .ins _ _, ⟨dx, vs, h1, h2⟩ => ⟨dx, vs, by rw [e]; exact h1, h2.mono m⟩
  | .raw _, ⟨h1, h2⟩ => ⟨by rw [e]; exact h1, h2⟩

theorem mn_upd {x : HO} (hn : H p = none) : Mn K H (upd H p x) := ⟨fun a xs h => by rw [upd_ne (ne_of_none h hn)]; exact h, fun a xs h => by
  rcases h with ⟨ob, h⟩ | h
  · exact .inl ⟨ob, by rw [upd_ne (ne_of_none h hn)]; exact h⟩
  · exact .inr h⟩
theorem RepO.there {o : DO} (q : RepO K H p o) : ∃ u, H p = some u := by
  cases o with
  | lst ds => obtain ⟨vs, h1, _⟩ := q; exact ⟨_, h1⟩
  | dK _ => obtain ⟨vs, h1, _⟩ := q; exact ⟨_, h1⟩
  | dT _ => obtain ⟨vs, h1, _⟩ := q; exact ⟨_, h1⟩
  | rdK _ => obtain ⟨_, vs, h1, _⟩ := q; exact ⟨_, h1⟩
  | rdT _ => obtain ⟨_, vs, h1, _⟩ := q; exact ⟨_, h1⟩
  | ins _ _ => obtain ⟨_, vs, h1, _⟩ := q; exact ⟨_, h1⟩
  | raw u => obtain ⟨h1, _⟩ := q; exact ⟨_, h1⟩
/-- G at a free place -/
theorem HR.free (r : HR K G H) (hn : H p = none) : G p = none := by
  cases e : G p with
  | none => rfl
  | some o =>
    obtain ⟨u, h⟩ := (r p o e).there
    rw [hn] at h; cases h
theorem HR.ne (r : HR K G H) (hn : H p = none) (e : G a = some o) : a ≠ p := by
  rintro rfl
  rw [r.free hn] at e; cases e
/-- a new tracked thing that is told -/
theorem HR.new (r : HR K G H) (hn : H p = none) {x : HO} (q : RepO K (upd H p x) p o) : HR K (updD G p o) (upd H p x) := fun a u e => by
  by_cases h : a = p
  · subst h; rw [updD_same] at e; cases e; exact q
  · rw [updD_ne h] at e
    exact (r a u e).mono (mn_upd hn) (upd_ne h)
theorem Stp.new (r : HR K G H) (hn : H p = none) {x : HO} : Stp G H (updD G p o) (upd H p x) :=
  ⟨fun a u g h => by rw [upd_ne (ne_of_none h hn)]; exact h, fun a u g h => by rw [updD_ne (ne_of_none h hn)]; exact g⟩
/-- a new thing that isn't told -/
theorem HR.newU (r : HR K G H) (hn : H p = none) {x : HO} : HR K G (upd H p x) := fun a u e => (r a u e).mono (mn_upd hn) (upd_ne (r.ne hn e))
theorem Stp.newU (hn : H p = none) {x : HO} : Stp G H G (upd H p x) := ⟨fun a u g h => by rw [upd_ne (ne_of_none h hn)]; exact h, fun a u g h => g⟩
/-- a told thing is written -/
theorem mn_write {x : HO} (r : HR K G H) (e : G p = some o) : Mn K H (upd H p x) := by
  have ne : ∀ a, G a = none → a ≠ p := fun a g z => by subst z; rw [g] at e; cases e
  refine ⟨fun a xs h => ?_, fun a xs h => ?_⟩
  · rw [upd_ne (ne a (r.notTup h))]; exact h
  · rcases h with ⟨ob, h⟩ | h
    · exact .inl ⟨ob, by rw [upd_ne (ne a (r.notFrz h (.inr ⟨_, rfl⟩)))]; exact h⟩
    · exact .inr h
theorem HR.write {x : HO} {u : DO} (r : HR K G H) (e : G p = some o) (q : RepO K (upd H p x) p u) : HR K (updD G p u) (upd H p x) := fun a v ea => by
  by_cases h : a = p
  · subst h; rw [updD_same] at ea; cases ea; exact q
  · rw [updD_ne h] at ea
    exact (r a v ea).mono (mn_write r e) (upd_ne h)
theorem Stp.write {x : HO} {u : DO} (e : G p = some o) : Stp G H (updD G p u) (upd H p x) := by
  have ne : ∀ a, G a = none → a ≠ p := fun a g z => by subst z; rw [g] at e; cases e
  exact ⟨fun a v g h => by rw [upd_ne (ne a g)]; exact h, fun a v g h => by rw [updD_ne (ne a g)]; exact g⟩
end

/-! ### the lifted judgements -/
abbrev Ro := List (Option D)
/-- slots -/
structure SlD (K : W.Frag) (H : Hp) (ρ : Ro) (σ : St) : Prop where
  len : ρ.length = σ.length
  at_ : ∀ (i : Nat) (d : D), ρ[i]? = some (some d) → ∃ v, σ[i]? = some (some v) ∧ Rep K H d v
theorem SlD.mono {K : W.Frag} {H H' : Hp} {ρ : Ro} {σ : St} (m : Mn K H H') (s : SlD K H ρ σ) : SlD K H' ρ σ := ⟨s.len, fun i d e => let ⟨v, h, r⟩ := s.at_ i d e; ⟨v, h, r.mono m⟩⟩
theorem SlD.set {K : W.Frag} {H : Hp} {ρ : Ro} {σ : St} (s : SlD K H ρ σ) (i : Nat) {d : D} {v : V} (r : Rep K H d v) : SlD K H (ρ.set i (some d)) (σ.set i (some v)) := ⟨by simp [s.len], fun j e h => by
  by_cases q : i = j
  · subst q
    by_cases hi : i < ρ.length
    · rw [List.getElem?_set_self hi] at h
      cases h
      exact ⟨v, by rw [List.getElem?_set_self (by rw [← s.len]; exact hi)], r⟩
    · rw [List.getElem?_eq_none (by simp; omega)] at h; cases h
  · rw [List.getElem?_set_ne q] at h
    rw [List.getElem?_set_ne q]
    exact s.at_ j e h⟩

/-- where one stands: slots, heap, what has happened since the def's entry -/
structure Pt (K : W.Frag) (G0 : DHp) (H0 : Hp) (ρ : Ro) (G : DHp) (σ : St) (H : Hp) : Prop where
  sl : SlD K H ρ σ
  hr : HR K G H
  st : Stp G0 H0 G H
theorem Pt.go {K : W.Frag} {G0 G G' : DHp} {H0 H H' : Hp} {ρ : Ro} {σ : St} (p : Pt K G0 H0 ρ G σ H) (r : HR K G' H') (s : Stp G H G' H') : Pt K G0 H0 ρ G' σ H' := ⟨p.sl.mono (s.mn p.hr), r, p.st.trans s⟩
theorem Pt.mn {K : W.Frag} {G0 G G' : DHp} {H0 H H' : Hp} {ρ : Ro} {σ : St} (p : Pt K G0 H0 ρ G σ H) (s : Stp G H G' H') : Mn K H H' := s.mn p.hr
theorem Pt.set {K : W.Frag} {G0 G : DHp} {H0 H : Hp} {ρ : Ro} {σ : St} (p : Pt K G0 H0 ρ G σ H) (i : Nat) {d : D} {v : V} (r : Rep K H d v) : Pt K G0 H0 (ρ.set i (some d)) G (σ.set i (some v)) H := ⟨p.sl.set i r, p.hr, p.st⟩

abbrev DK := D → DHp → Prop
abbrev WE := Ro → DHp → DK → Prop
abbrev WT := Ro → DHp → (Bool → DHp → Prop) → Prop
abbrev WA := Ro → DHp → (List D → DHp → Prop) → Prop
structure DEnds where
  nx : Ro → DHp → Prop
  rt : DK
  bk : Ro → DHp → Prop := fun _ _ => False
  ct : Ro → DHp → Prop := fun _ _ => False
abbrev WS := DEnds → Ro → DHp → Prop
abbrev WG := D → Ro → DHp → (Ro → DHp → Prop) → Prop
abbrev WGs := List D → Ro → DHp → (Ro → DHp → Prop) → Prop

def LfE (K : W.Frag) (G0 : DHp) (H0 : Hp) (w : WE) : TE := fun σ H Q => ∃ ρ G QD, Pt K G0 H0 ρ G σ H ∧ w ρ G QD ∧ ∀ d G' v H', HR K G' H' → Rep K H' d v → Stp G H G' H' → QD d G' → Q v H'
def LfT (K : W.Frag) (G0 : DHp) (H0 : Hp) (w : WT) : TT := fun σ H Q => ∃ ρ G QD, Pt K G0 H0 ρ G σ H ∧ w ρ G QD ∧ ∀ b G' H', HR K G' H' → Stp G H G' H' → QD b G' → Q b H'
def LfA (K : W.Frag) (G0 : DHp) (H0 : Hp) (w : WA) : TA := fun σ H Q => ∃ ρ G QD, Pt K G0 H0 ρ G σ H ∧ w ρ G QD ∧ ∀ ds G' vs H', HR K G' H' → Reps K H' ds vs → Stp G H G' H' → QD ds G' → Q vs H'
structure LEnds (K : W.Frag) (G0 : DHp) (H0 : Hp) (G : DHp) (H : Hp) (F : DEnds) (E : Ends) : Prop where
  nx : ∀ ρ' G' σ' H', Pt K G0 H0 ρ' G' σ' H' → Stp G H G' H' → F.nx ρ' G' → E.nx σ' H'
  rt : ∀ d G' v H', HR K G' H' → Rep K H' d v → Stp G H G' H' → F.rt d G' → E.rt v H'
  bk : ∀ ρ' G' σ' H', Pt K G0 H0 ρ' G' σ' H' → Stp G H G' H' → F.bk ρ' G' → E.bk σ' H'
  ct : ∀ ρ' G' σ' H', Pt K G0 H0 ρ' G' σ' H' → Stp G H G' H' → F.ct ρ' G' → E.ct σ' H'
def LfS (K : W.Frag) (G0 : DHp) (H0 : Hp) (w : WS) : TS := fun E σ H => ∃ ρ G F, Pt K G0 H0 ρ G σ H ∧ w F ρ G ∧ LEnds K G0 H0 G H F E
def LfG (K : W.Frag) (G0 : DHp) (H0 : Hp) (w : WG) : TG := fun v σ H Q => ∃ d ρ G QD, Pt K G0 H0 ρ G σ H ∧ Rep K H d v ∧ w d ρ G QD ∧ ∀ ρ' G' σ' H', Pt K G0 H0 ρ' G' σ' H' → Stp G H G' H' → QD ρ' G' → Q σ' H'
def LfGs (K : W.Frag) (G0 : DHp) (H0 : Hp) (w : WGs) : TGs := fun vs σ H Q => ∃ ds ρ G QD, Pt K G0 H0 ρ G σ H ∧ Reps K H ds vs ∧ w ds ρ G QD ∧ ∀ ρ' G' σ' H', Pt K G0 H0 ρ' G' σ' H' → Stp G H G' H' → QD ρ' G' → Q σ' H'
theorem LEnds.go {K : W.Frag} {G0 G G' : DHp} {H0 H H' : Hp} {F : DEnds} {E : Ends} (l : LEnds K G0 H0 G H F E) (s : Stp G H G' H') : LEnds K G0 H0 G' H' F E :=
  ⟨fun a b c d p s' => l.nx a b c d p (s.trans s'), fun a b c d p q s' => l.rt a b c d p q (s.trans s'), fun a b c d p s' => l.bk a b c d p (s.trans s'), fun a b c d p s' => l.ct a b c d p (s.trans s')⟩

abbrev DE (X : Cx) (G0 : DHp) (H0 : Hp) (e : Expr) (w : WE) : Prop := PE X e (LfE X.K G0 H0 w)
abbrev DT (X : Cx) (G0 : DHp) (H0 : Hp) (e : Expr) (w : WT) : Prop := PT X e (LfT X.K G0 H0 w)
abbrev DW (X : Cx) (G0 : DHp) (H0 : Hp) (e : Expr) (w : WT) : Prop := PW X e (LfT X.K G0 H0 w)
abbrev DA (X : Cx) (G0 : DHp) (H0 : Hp) (es : List Expr) (w : WA) : Prop := PA X es (LfA X.K G0 H0 w)
abbrev DS (X : Cx) (G0 : DHp) (H0 : Hp) (st : Stmt) (w : WS) : Prop := PS X st (LfS X.K G0 H0 w)
abbrev DSs (X : Cx) (G0 : DHp) (H0 : Hp) (st : List Stmt) (w : WS) : Prop := PSs X st (LfS X.K G0 H0 w)
abbrev DG (X : Cx) (G0 : DHp) (H0 : Hp) (e : Expr) (w : WG) : Prop := PG X e (LfG X.K G0 H0 w)
abbrev DGs (X : Cx) (G0 : DHp) (H0 : Hp) (es : List Expr) (w : WGs) : Prop := PGs X es (LfGs X.K G0 H0 w)

section
variable {X : Cx}
theorem PE.to {e : Expr} {t t' : TE} (h : PE X e t) (i : ∀ σ H Q, t' σ H Q → t σ H Q) : PE X e t' := ⟨fun pins s σ H Q I q => h.run pins s σ H Q I (i _ _ _ q)⟩
theorem PT.to {e : Expr} {t t' : TT} (h : PT X e t) (i : ∀ σ H Q, t' σ H Q → t σ H Q) : PT X e t' := ⟨fun pins s σ H Q I q => h.run pins s σ H Q I (i _ _ _ q)⟩
theorem PW.to {e : Expr} {t t' : TT} (h : PW X e t) (i : ∀ σ H Q, t' σ H Q → t σ H Q) : PW X e t' := ⟨fun w pins s σ H Q I q => h.run w pins s σ H Q I (i _ _ _ q)⟩
theorem PA.to {es : List Expr} {t t' : TA} (h : PA X es t) (i : ∀ σ H Q, t' σ H Q → t σ H Q) : PA X es t' := ⟨fun p pins s σ H Q I q => h.run p pins s σ H Q I (i _ _ _ q)⟩
theorem PS.to {st : Stmt} {t t' : TS} (h : PS X st t) (i : ∀ D σ H, t' D σ H → t D σ H) : PS X st t' := ⟨fun pins s σ H D I q => h.run pins s σ H D I (i _ _ _ q)⟩
theorem PSs.to {st : List Stmt} {t t' : TS} (h : PSs X st t) (i : ∀ D σ H, t' D σ H → t D σ H) : PSs X st t' := ⟨fun pins s σ H D I q => h.run pins s σ H D I (i _ _ _ q)⟩
theorem PG.to {e : Expr} {t t' : TG} (h : PG X e t) (i : ∀ v σ H Q, t' v σ H Q → t v σ H Q) : PG X e t' := ⟨fun pins s σ H v u Q I r q => h.run pins s σ H v u Q I r (i _ _ _ _ q)⟩
theorem PGs.to {es : List Expr} {t t' : TGs} (h : PGs X es t) (i : ∀ v σ H Q, t' v σ H Q → t v σ H Q) : PGs X es t' := ⟨fun pins s σ H v u Q I r q => h.run pins s σ H v u Q I r (i _ _ _ _ q)⟩
end
end TC
set_option maxRecDepth 100000
/-! TC, part b: expressions. -/
namespace TC
open PySem PySem.Spec L2

section
variable {X : Cx} {G0 : DHp} {H0 : Hp} {pos : Pos}

/-! ### names, constants -/
@[simp] def wVar (i : Nat) : WE := fun ρ G Q => match ρ[i]? with
  | some (some d) => Q d G
  | _ => False
@[simp] def wC (d : D) : WE := fun _ G Q => Q d G
theorem de_var {i : Nat} {x : Str} (hN : X.N[i]? = some x) (hv : Vis X.env.scope x) (hd : (x == ("__debug__" : Str)) = false := by decide) (hcd : (x == ("__classdict__" : Str)) = false := by decide) : DE X G0 H0 (.Name x pos) (wVar i) :=
  PE.to (pe_var hN hv hd hcd) fun σ H Q ⟨ρ, G, QD, pt, w, k⟩ => by
    unfold wVar at w
    split at w
    · rename_i d e
      obtain ⟨v, e2, r⟩ := pt.sl.at_ i d e
      exact ⟨v, e2, k d G v H pt.hr r .refl w⟩
    · exact w.elim
theorem de_c {e : Expr} {v : V} {d : D} (h : PE X e (tC v)) (r : ∀ H, Rep X.K H d v) : DE X G0 H0 e (wC d) :=
  PE.to h fun σ H Q ⟨ρ, G, QD, pt, w, k⟩ => k d G v H pt.hr (r H) .refl w
theorem de_int {i j} : DE X G0 H0 (.Constant (.int i) j pos) (wC (.int i)) := de_c pe_int fun _ => rfl
theorem de_bl {b j} : DE X G0 H0 (.Constant (.bool b) j pos) (wC (.bl b)) := de_c pe_bl fun _ => rfl
theorem de_non {j} : DE X G0 H0 (.Constant .none j pos) (wC .non) := de_c pe_non fun _ => rfl
theorem de_str {x j} : DE X G0 H0 (.Constant (.str x) j pos) (wC (.str x)) := de_c pe_str fun _ => rfl
theorem de_glob {x : Str} {v : V} {d : D} {u : Value} (hg : Gl X x) (hm : X.mg x = some u) (r : RelV v u) (q : ∀ H, Rep X.K H d v) (hd : (x == ("__debug__" : Str)) = false := by decide) : DE X G0 H0 (.Name x pos) (wC d) := de_c (pe_glob hg hm r hd) q
theorem de_bltn {x : Str} {v : V} {d : D} {u : Value} (hg : Gl X x) (hm : X.mg x = none) (hv : bootBuiltins x = some u) (r : RelV v u) (q : ∀ H, Rep X.K H d v) (hn : x ≠ "__name__" := by decide) (hd : (x == ("__debug__" : Str)) = false := by decide) : DE X G0 H0 (.Name x pos) (wC d) := de_c (pe_bltn hg hm hv r hn hd) q

/-! ### operators by values -/
abbrev WR1 := D → DHp → DK → Prop
abbrev WR2 := D → D → DHp → DK → Prop
abbrev WRA := List D → DHp → DK → Prop
def OpD (K : W.Frag) (r : R2) (f : WR2) : Prop := ∀ (x y : D) (v u : V) (G : DHp) (H : Hp) (Q : VK) (QD : DK), HR K G H → Rep K H x v → Rep K H y u → f x y G QD →
  (∀ d G' v' H', HR K G' H' → Rep K H' d v' → Stp G H G' H' → QD d G' → Q v' H') → r v u H Q
def UnD (K : W.Frag) (r : V → Hp → VK → Prop) (f : WR1) : Prop := ∀ (x : D) (v : V) (G : DHp) (H : Hp) (Q : VK) (QD : DK), HR K G H → Rep K H x v → f x G QD →
  (∀ d G' v' H', HR K G' H' → Rep K H' d v' → Stp G H G' H' → QD d G' → Q v' H') → r v H Q
def CaD (K : W.Frag) (r : List V → Hp → VK → Prop) (f : WRA) : Prop := ∀ (xs : List D) (vs : List V) (G : DHp) (H : Hp) (Q : VK) (QD : DK), HR K G H → Reps K H xs vs → f xs G QD →
  (∀ d G' v' H', HR K G' H' → Rep K H' d v' → Stp G H G' H' → QD d G' → Q v' H') → r vs H Q
@[simp] def wOp (f : WR2) (a b : WE) : WE := fun ρ G Q => a ρ G fun x G1 => b ρ G1 fun y G2 => f x y G2 Q
@[simp] def wUn (f : WR1) (a : WE) : WE := fun ρ G Q => a ρ G fun x G1 => f x G1 Q
variable {a b c : Expr} {wa wb wc : WE}
/-- two expressions, then what their values ask -/
theorem lf_two {K : W.Frag} {r : R2} {f : WR2} (o : OpD K r f) {σ : St} {H : Hp} {Q : VK} (h : LfE K G0 H0 (wOp f wa wb) σ H Q) : tOp r (LfE K G0 H0 wa) (LfE K G0 H0 wb) σ H Q := by
  obtain ⟨ρ, G, QD, pt, w, k⟩ := h
  refine ⟨ρ, G, _, pt, w, fun x G1 v H1 h1 r1 s1 w1 => ?_⟩
  refine ⟨ρ, G1, _, pt.go h1 s1, w1, fun y G2 u H2 h2 r2 s2 w2 => ?_⟩
  exact o x y v u G2 H2 Q QD h2 (r1.mono (s2.mn h1)) r2 w2 fun d G' v' H' h' r' s' q => k d G' v' H' h' r' ((s1.trans s2).trans s') q
theorem de_op {op : Operator} {r : R2} {f : WR2} (ho : OpR X (binaryOp op) r) (hd : OpD X.K r f) (ha : DE X G0 H0 a wa) (hb : DE X G0 H0 b wb) : DE X G0 H0 (.BinOp a op b pos) (wOp f wa wb) :=
  PE.to (pe_op ho ha hb) fun _ _ _ h => lf_two hd h
theorem de_cmp {op : CmpOp} {r : R2} {f : WR2} (ho : OpR X (compareOp op) r) (hd : OpD X.K r f) (ha : DE X G0 H0 a wa) (hb : DE X G0 H0 b wb) (hm : behindInMarks op b = false) : DE X G0 H0 (.Compare a [op] [b] pos) (wOp f wa wb) :=
  PE.to (pe_cmpR ho ha hb hm) fun _ _ _ h => lf_two hd h
theorem de_un {op : UnaryOp} {r : V → Hp → VK → Prop} {f : WR1} (ho : UnR X (unaryOp op) r) (hd : UnD X.K r f) (ha : DE X G0 H0 a wa) : DE X G0 H0 (.UnaryOp op a pos) (wUn f wa) :=
  PE.to (pe_un ho ha) fun σ H Q ⟨ρ, G, QD, pt, w, k⟩ => ⟨ρ, G, _, pt, w, fun x G1 v H1 h1 r1 s1 w1 => hd x v G1 H1 Q QD h1 r1 w1 fun d G' v' H' h' r' s' q => k d G' v' H' h' r' (s1.trans s') q⟩
theorem de_ix {r : R2} {f : WR2} (ho : IxR X r) (hd : OpD X.K r f) (ha : DE X G0 H0 a wa) (hb : DE X G0 H0 b wb) (hs : PlainIx b) : DE X G0 H0 (.Subscript a b pos) (wOp f wa wb) :=
  PE.to (pe_ix ho ha hb hs) fun _ _ _ h => lf_two hd h
theorem OpD.or {K : W.Frag} {r r' : R2} {f f' : WR2} (h : OpD K r f) (h' : OpD K r' f') : OpD K (fun x y H Q => r x y H Q ∨ r' x y H Q) (fun x y G Q => f x y G Q ∨ f' x y G Q) :=
  fun x y v u G H Q QD hr rx ry w k => w.elim (fun w => .inl (h x y v u G H Q QD hr rx ry w k)) fun w => .inr (h' x y v u G H Q QD hr rx ry w k)
theorem OpD.to {K : W.Frag} {r : R2} {f f' : WR2} (h : OpD K r f) (i : ∀ x y G Q, f' x y G Q → f x y G Q) : OpD K r f' :=
  fun x y v u G H Q QD hr rx ry w k => h x y v u G H Q QD hr rx ry (i _ _ _ _ w) k

/-! ### tests -/
/-- a bool's way -/
def kB (Q : Bool → DHp → Prop) : DK := fun d G => match d with
  | .bl b => Q b G
  | _ => False
@[simp] def wTest (w : WE) : WT := fun ρ G Q => w ρ G (kB Q)
theorem lf_test {K : W.Frag} {w : WE} {σ : St} {H : Hp} {Q : Bool → Hp → Prop} (h : LfT K G0 H0 (wTest w) σ H Q) : LfE K G0 H0 w σ H fun x H1 => ∃ c, x = .bl c ∧ Q c H1 := by
  obtain ⟨ρ, G, QD, pt, w, k⟩ := h
  refine ⟨ρ, G, _, pt, w, fun x G1 v H1 h1 r1 s1 w1 => ?_⟩
  unfold kB at w1
  split at w1
  · cases r1
    exact ⟨_, rfl, k _ G1 H1 h1 s1 w1⟩
  · exact w1.elim
theorem dt_val {w : WE} (h : DE X G0 H0 a w) (he : ∀ whole, isTrue a X.env whole = (do let v ← whole; standAt a.pos; holding [v] (truthy v)) := by intro _; rfl) : DT X G0 H0 a (wTest w) :=
  PT.to (pt_val h he) fun _ _ _ q => lf_test q
theorem dt_cmp {op : CmpOp} {r : R2} {f : WR2} (ho : OpR X (compareOp op) r) (hd : OpD X.K r f) (ha : DE X G0 H0 a wa) (hb : DE X G0 H0 b wb) (hm : behindInMarks op b = false) : DT X G0 H0 (.Compare a [op] [b] pos) (wTest (wOp f wa wb)) :=
  PT.to (pt_cmpR ho ha hb hm) fun σ H Q q => lf_two hd (lf_test q)
@[simp] def wtAnd (a b : WT) : WT := fun ρ G Q => a ρ G fun c G1 => if c = true then b ρ G1 Q else Q false G1
@[simp] def wtOr (a b : WT) : WT := fun ρ G Q => a ρ G fun c G1 => if c = true then Q true G1 else b ρ G1 Q
@[simp] def wtNot (a : WT) : WT := fun ρ G Q => a ρ G fun c G1 => Q (!c) G1
variable {ta tb : WT} {rest : List Expr}
theorem dw_and1 (ha : DT X G0 H0 a ta) : DW X G0 H0 (.BoolOp .And [a] pos) ta := pw_and1 ha
theorem dw_or1 (ha : DT X G0 H0 a ta) : DW X G0 H0 (.BoolOp .Or [a] pos) ta := pw_or1 ha
theorem dw_and (ha : DT X G0 H0 a ta) (hb : DW X G0 H0 (.BoolOp .And (b :: rest) pos) tb) : DW X G0 H0 (.BoolOp .And (a :: b :: rest) pos) (wtAnd ta tb) :=
  PW.to (pw_and ha hb) fun σ H Q ⟨ρ, G, QD, pt, w, k⟩ => ⟨ρ, G, _, pt, w, fun c G1 H1 h1 s1 w1 => by
    cases c with
    | true => exact ⟨ρ, G1, QD, pt.go h1 s1, w1, fun b G' H' h' s' q => k b G' H' h' (s1.trans s') q⟩
    | false => exact k false G1 H1 h1 s1 w1⟩
theorem dw_or (ha : DT X G0 H0 a ta) (hb : DW X G0 H0 (.BoolOp .Or (b :: rest) pos) tb) : DW X G0 H0 (.BoolOp .Or (a :: b :: rest) pos) (wtOr ta tb) :=
  PW.to (pw_or ha hb) fun σ H Q ⟨ρ, G, QD, pt, w, k⟩ => ⟨ρ, G, _, pt, w, fun c G1 H1 h1 s1 w1 => by
    cases c with
    | false => exact ⟨ρ, G1, QD, pt.go h1 s1, w1, fun b G' H' h' s' q => k b G' H' h' (s1.trans s') q⟩
    | true => exact k true G1 H1 h1 s1 w1⟩
theorem dw_dt {w : WT} (h : DW X G0 H0 a w) : DT X G0 H0 a w := h.pt
theorem dt_not (ha : DT X G0 H0 a ta) : DT X G0 H0 (.UnaryOp .Not a pos) (wtNot ta) :=
  PT.to (pt_not ha) fun σ H Q ⟨ρ, G, QD, pt, w, k⟩ => ⟨ρ, G, _, pt, w, fun c G1 H1 h1 s1 w1 => k (!c) G1 H1 h1 s1 w1⟩
/-- .. as values -/
@[simp] def weAnd (a b : WE) : WE := fun ρ G Q => a ρ G (kB fun c G1 => if c = true then b ρ G1 Q else Q (.bl false) G1)
@[simp] def weOr (a b : WE) : WE := fun ρ G Q => a ρ G (kB fun c G1 => if c = true then Q (.bl true) G1 else b ρ G1 Q)
@[simp] def weNot (a : WE) : WE := fun ρ G Q => a ρ G (kB fun c G1 => Q (.bl (!c)) G1)
theorem de_one {op} (ha : DE X G0 H0 a wa) : DE X G0 H0 (.BoolOp op [a] pos) wa := pe_one ha
theorem de_and (ha : DE X G0 H0 a wa) (hb : DE X G0 H0 (.BoolOp .And (b :: rest) pos) wb) : DE X G0 H0 (.BoolOp .And (a :: b :: rest) pos) (weAnd wa wb) :=
  PE.to (pe_and ha hb) fun σ H Q ⟨ρ, G, QD, pt, w, k⟩ => by
    refine ⟨ρ, G, _, pt, w, fun x G1 v H1 h1 r1 s1 w1 => ?_⟩
    unfold kB at w1
    split at w1
    · rename_i c
      cases r1
      refine ⟨c, rfl, ?_⟩
      cases c with
      | true => exact ⟨ρ, G1, QD, pt.go h1 s1, w1, fun b G' v' H' h' r' s' q => k b G' v' H' h' r' (s1.trans s') q⟩
      | false => exact k (.bl false) G1 _ H1 h1 rfl s1 w1
    · exact w1.elim
theorem de_or (ha : DE X G0 H0 a wa) (hb : DE X G0 H0 (.BoolOp .Or (b :: rest) pos) wb) : DE X G0 H0 (.BoolOp .Or (a :: b :: rest) pos) (weOr wa wb) :=
  PE.to (pe_or ha hb) fun σ H Q ⟨ρ, G, QD, pt, w, k⟩ => by
    refine ⟨ρ, G, _, pt, w, fun x G1 v H1 h1 r1 s1 w1 => ?_⟩
    unfold kB at w1
    split at w1
    · rename_i c
      cases r1
      refine ⟨c, rfl, ?_⟩
      cases c with
      | false => exact ⟨ρ, G1, QD, pt.go h1 s1, w1, fun b G' v' H' h' r' s' q => k b G' v' H' h' r' (s1.trans s') q⟩
      | true => exact k (.bl true) G1 _ H1 h1 rfl s1 w1
    · exact w1.elim
theorem de_not (ha : DE X G0 H0 a wa) : DE X G0 H0 (.UnaryOp .Not a pos) (weNot wa) :=
  PE.to (pe_not ha) fun σ H Q ⟨ρ, G, QD, pt, w, k⟩ => by
    refine ⟨ρ, G, _, pt, w, fun x G1 v H1 h1 r1 s1 w1 => ?_⟩
    unfold kB at w1
    split at w1
    · cases r1
      exact ⟨_, rfl, k (.bl _) G1 _ H1 h1 rfl s1 w1⟩
    · exact w1.elim
@[simp] def wIfE (t : WT) (a b : WE) : WE := fun ρ G Q => t ρ G fun c G1 => if c = true then a ρ G1 Q else b ρ G1 Q
theorem de_ifE {c : Expr} (hc : DT X G0 H0 c ta) (ha : DE X G0 H0 a wa) (hb : DE X G0 H0 b wb) : DE X G0 H0 (.IfExp c a b pos) (wIfE ta wa wb) :=
  PE.to (pe_ifExp hc ha hb) fun σ H Q ⟨ρ, G, QD, pt, w, k⟩ => ⟨ρ, G, _, pt, w, fun c G1 H1 h1 s1 w1 => by
    cases c with
    | true => exact ⟨ρ, G1, QD, pt.go h1 s1, w1, fun b G' v' H' h' r' s' q => k b G' v' H' h' r' (s1.trans s') q⟩
    | false => exact ⟨ρ, G1, QD, pt.go h1 s1, w1, fun b G' v' H' h' r' s' q => k b G' v' H' h' r' (s1.trans s') q⟩⟩
/-- a < b < c -/
@[simp] def wChain (f f' : WR2) (a b c : WE) : WE := fun ρ G Q => a ρ G fun x G1 => b ρ G1 fun y G2 => f x y G2 (kB fun k G3 => if k = true then c ρ G3 fun z G4 => f' y z G4 Q else Q (.bl false) G3)
theorem lf_chain {K : W.Frag} {r r' : R2} {f f' : WR2} (o : OpD K r f) (o' : OpD K r' f') {σ : St} {H : Hp} {Q : VK} (h : LfE K G0 H0 (wChain f f' wa wb wc) σ H Q) :
    tChain r r' (LfE K G0 H0 wa) (LfE K G0 H0 wb) (LfE K G0 H0 wc) σ H Q := by
  obtain ⟨ρ, G, QD, pt, w, k⟩ := h
  refine ⟨ρ, G, _, pt, w, fun x G1 v H1 h1 r1 s1 w1 => ?_⟩
  refine ⟨ρ, G1, _, pt.go h1 s1, w1, fun y G2 u H2 h2 r2 s2 w2 => ?_⟩
  refine o x y v u G2 H2 _ _ h2 (r1.mono (s2.mn h1)) r2 w2 fun d G3 v' H3 h3 r3 s3 q => ?_
  unfold kB at q
  split at q
  · rename_i kk
    cases r3
    refine ⟨kk, rfl, ?_⟩
    have s13 := (s1.trans s2).trans s3
    cases kk with
    | false => exact k (.bl false) G3 _ H3 h3 rfl s13 q
    | true =>
      refine ⟨ρ, G3, _, pt.go h3 s13, q, fun z G4 vz H4 h4 r4 s4 w4 => ?_⟩
      exact o' y z u vz G4 H4 Q QD h4 ((r2.mono (s3.mn h2)).mono (s4.mn h3)) r4 w4 fun d G' v' H' h' r' s' q => k d G' v' H' h' r' ((s13.trans s4).trans s') q
  · exact q.elim
theorem de_chain {op op' : CmpOp} {r r' : R2} {f f' : WR2} (ho : OpR X (compareOp op) r) (hd : OpD X.K r f) (ho' : OpR X (compareOp op') r') (hd' : OpD X.K r' f') (ha : DE X G0 H0 a wa) (hb : DE X G0 H0 b wb) (hc : DE X G0 H0 c wc)
    (hm : lastMarks [op, op'] [b, c] = false := by with_unfolding_all rfl) : DE X G0 H0 (.Compare a [op, op'] [b, c] pos) (wChain f f' wa wb wc) := PE.to (pe_chain ho ho' ha hb hc hm) fun _ _ _ h => lf_chain hd hd' h
theorem dt_chain {op op' : CmpOp} {r r' : R2} {f f' : WR2} (ho : OpR X (compareOp op) r) (hd : OpD X.K r f) (ho' : OpR X (compareOp op') r') (hd' : OpD X.K r' f') (ha : DE X G0 H0 a wa) (hb : DE X G0 H0 b wb) (hc : DE X G0 H0 c wc)
    (hm : lastMarks [op, op'] [b, c] = false := by with_unfolding_all rfl) : DT X G0 H0 (.Compare a [op, op'] [b, c] pos) (wTest (wChain f f' wa wb wc)) :=
  PT.to (pt_chain ho ho' ha hb hc hm) fun _ _ _ h => lf_chain hd hd' (lf_test h)
end
end TC
set_option maxRecDepth 100000
/-! TC, part c: operators. -/
namespace TC
open PySem PySem.Spec L2

section
variable {K : W.Frag}
theorem big_line {n : Nat} (h : n ≤ 1000000) : n ≤ sizeLine := by rw [sizeLine_eq]; omega

/-! ### arithmetic -/
def dAdd : WR2
  | .int i, .int j => fun G Q => Q (.int (i + j)) G
  | .str a, .str b => fun G Q => a.length + b.length ≤ 1000000 ∧ Q (.str (a ++ b)) G
  | .tup xs, .tup ys => fun G Q => xs.length + ys.length ≤ 1000000 ∧ Q (.tup (xs ++ ys)) G
  | .ref a, .ref b => fun G Q => ∃ xs ys, G a = some (.lst xs) ∧ G b = some (.lst ys) ∧ xs.length + ys.length ≤ 1000000 ∧ ∀ p, G p = none → Q (.ref p) (updD G p (.lst (xs ++ ys)))
  | _, _ => fun _ _ => False
abbrev rAddA (K : W.Frag) : R2 := fun x y H Q => (rI0 (fun i j => .int (i + j)) x y H Q) ∨ (∃ i j, x = .str i ∧ y = .str j ∧ i.length + j.length ≤ sizeLine ∧ Q (.str (i ++ j)) H) ∨ rCatA K x y H Q ∨ rCat x y H Q
theorem or_add {X : Cx} : OpR X (binaryOp .Add) (rAddA X.K) := op_add.or (op_add_str.or (op_catA.or op_cat))
theorem od_add : OpD K (rAddA K) dAdd := by
  intro x y v u G H Q QD hr rx ry w k
  unfold dAdd at w
  split at w
  · cases rx; cases ry
    exact .inl ⟨_, _, rfl, rfl, k (.int _) G _ H hr rfl .refl w⟩
  · cases rx; cases ry
    exact .inr (.inl ⟨_, _, rfl, rfl, big_line w.1, k (.str _) G _ H hr rfl .refl w.2⟩)
  · rename_i xs ys
    obtain ⟨a, vs, rfl, ha, ra⟩ := rx
    obtain ⟨b, ws, rfl, hb, rb⟩ := ry
    refine .inr (.inr (.inl ⟨a, b, vs, ws, rfl, rfl, SqT.of ha, SqT.of hb, by rw [← ra.length, ← rb.length]; exact big_line w.1, fun e => ?_, fun e e2 => ?_, fun e e2 p hp => ?_⟩))
    · subst e
      have : xs = [] := List.eq_nil_of_length_eq_zero ra.length
      subst this
      exact k (.tup ys) G _ H hr ⟨b, ws, rfl, hb, rb⟩ .refl (by simpa using w.2)
    · subst e2
      have : ys = [] := List.eq_nil_of_length_eq_zero rb.length
      subst this
      exact k (.tup xs) G _ H hr ⟨a, vs, rfl, ha, ra⟩ .refl (by simpa using w.2)
    · exact k (.tup (xs ++ ys)) G _ _ (hr.newU hp) ⟨p, vs ++ ws, rfl, upd_same, (ra.append rb).mono (mn_upd hp)⟩ (.newU hp) w.2
  · rename_i a b
    cases rx; cases ry
    obtain ⟨xs, ys, ea, eb, hl, w⟩ := w
    obtain ⟨vs, ha, ra⟩ := hr a _ ea
    obtain ⟨ws, hb, rb⟩ := hr b _ eb
    refine .inr (.inr (.inr ⟨a, b, vs, ws, rfl, rfl, ha, hb, by rw [← ra.length, ← rb.length]; exact big_line hl, fun p hp => ?_⟩))
    exact k (.ref p) _ _ _ (hr.new hp (o := .lst (xs ++ ys)) ⟨_, upd_same, (ra.append rb).mono (mn_upd hp)⟩) rfl (.new hr hp) (w p (hr.free hp))
  · exact w.elim
def dInt2 (C : Int → Int → Prop) (g : Int → Int → D) : WR2
  | .int i, .int j => fun G Q => C i j ∧ Q (g i j) G
  | _, _ => fun _ _ => False
theorem od_int2 {C : Int → Int → Prop} {g : Int → Int → V} {g' : Int → Int → D} (e : ∀ i j H, Rep K H (g' i j) (g i j)) : OpD K (rI C g) (dInt2 C g') := by
  intro x y v u G H Q QD hr rx ry w k
  unfold dInt2 at w
  split at w
  · cases rx; cases ry
    exact ⟨_, _, rfl, rfl, w.1, k _ G _ H hr (e _ _ H) .refl w.2⟩
  · exact w.elim
def dInt0 (g : Int → Int → D) : WR2
  | .int i, .int j => fun G Q => Q (g i j) G
  | _, _ => fun _ _ => False
theorem od_int0 {g : Int → Int → V} {g' : Int → Int → D} (e : ∀ i j H, Rep K H (g' i j) (g i j)) : OpD K (rI0 g) (dInt0 g') := by
  intro x y v u G H Q QD hr rx ry w k
  unfold dInt0 at w
  split at w
  · cases rx; cases ry
    exact ⟨_, _, rfl, rfl, k _ G _ H hr (e _ _ H) .refl w⟩
  · exact w.elim
@[simp] def dSub : WR2 := dInt0 fun i j => .int (i - j)
theorem od_sub : OpD K (rI0 fun i j => .int (i - j)) dSub := od_int0 fun _ _ _ => rfl
@[simp] def dMod : WR2 := dInt2 (fun _ j => 0 < j) fun i j => .int (i % j)
theorem od_mod : OpD K (rI (fun _ j => 0 < j) fun i j => .int (i % j)) dMod := od_int2 fun _ _ _ => rfl
@[simp] def dFdiv : WR2 := dInt2 CDiv fun i j => .int (i / j)
theorem od_fdiv : OpD K (rI CDiv fun i j => .int (i / j)) dFdiv := od_int2 fun _ _ _ => rfl
@[simp] def dPow : WR2 := dInt2 CPow fun i j => .int (i ^ j.toNat)
theorem od_pow : OpD K (rI CPow fun i j => .int (i ^ j.toNat)) dPow := od_int2 fun _ _ _ => rfl

/-! ### order -/
def dOrd (p : Int → Int → Bool) (q : List Nat → List Nat → Bool) : WR2
  | .int i, .int j => fun G Q => Q (.bl (p i j)) G
  | .str a, .str b => fun G Q => Q (.bl (q a.cps.toList b.cps.toList)) G
  | _, _ => fun _ _ => False
abbrev rOrd (p : Int → Int → Bool) (q : List Nat → List Nat → Bool) : R2 := fun x y H Q => (rI0 (fun i j => .bl (p i j)) x y H Q) ∨ (∃ i j, x = .str i ∧ y = .str j ∧ Q (.bl (q i.cps.toList j.cps.toList)) H)
theorem od_ord {p : Int → Int → Bool} {q : List Nat → List Nat → Bool} : OpD K (rOrd p q) (dOrd p q) := by
  intro x y v u G H Q QD hr rx ry w k
  unfold dOrd at w
  split at w
  · cases rx; cases ry
    exact .inl ⟨_, _, rfl, rfl, k (.bl _) G _ H hr rfl .refl w⟩
  · cases rx; cases ry
    exact .inr ⟨_, _, rfl, rfl, k (.bl _) G _ H hr rfl .refl w⟩
  · exact w.elim
abbrev pLt : Int → Int → Bool := fun i j => decide (i < j)
abbrev pLe : Int → Int → Bool := fun i j => decide (i ≤ j)
abbrev pGt : Int → Int → Bool := fun i j => decide (j < i)
abbrev pGe : Int → Int → Bool := fun i j => decide (j ≤ i)
abbrev qLt : List Nat → List Nat → Bool := fun i j => decide (i < j)
abbrev qLe : List Nat → List Nat → Bool := fun i j => !decide (j < i)
abbrev qGt : List Nat → List Nat → Bool := fun i j => decide (j < i)
abbrev qGe : List Nat → List Nat → Bool := fun i j => !decide (i < j)
abbrev dLt := dOrd pLt qLt
abbrev dLe := dOrd pLe qLe
abbrev dGt := dOrd pGt qGt
abbrev dGe := dOrd pGe qGe
theorem or_lt {X : Cx} : OpR X (compareOp .Lt) (rOrd pLt qLt) := op_lt.or op_lt_str
theorem or_le {X : Cx} : OpR X (compareOp .LtE) (rOrd pLe qLe) := op_le.or op_le_str
theorem or_gt {X : Cx} : OpR X (compareOp .Gt) (rOrd pGt qGt) := op_gt.or op_gt_str
theorem or_ge {X : Cx} : OpR X (compareOp .GtE) (rOrd pGe qGe) := op_ge.or op_ge_str

/-! ### is None -/
def isNon : D → Bool
  | .non => true
  | _ => false
def dIsN (neg : Bool) : WR2 := fun x y G Q => match y with
  | .non => Q (.bl (neg != isNon x)) G
  | _ => False
theorem isNon_rep {H : Hp} {x : D} {v : V} (r : Rep K H x v) : decide (v = .non) = isNon x := by
  cases x with
  | non => cases r; rfl
  | bl _ => cases r; rfl
  | int _ => cases r; rfl
  | str _ => cases r; rfl
  | tup _ => obtain ⟨a, vs, rfl, _⟩ := r; rfl
  | ref _ => cases r; rfl
  | ty _ => cases r; rfl
  | rl _ => obtain ⟨a, vs, rfl, _⟩ := r; rfl
theorem od_isN : OpD K (fun x y H Q => y = .non ∧ Q (.bl (decide (x = .non))) H) (dIsN false) := by
  intro x y v u G H Q QD hr rx ry w k
  unfold dIsN at w
  split at w
  · cases ry
    refine ⟨rfl, ?_⟩
    rw [isNon_rep rx]
    exact k (.bl _) G _ H hr rfl .refl (by simpa using w)
  · exact w.elim
theorem od_notN : OpD K (fun x y H Q => y = .non ∧ Q (.bl (!decide (x = .non))) H) (dIsN true) := by
  intro x y v u G H Q QD hr rx ry w k
  unfold dIsN at w
  split at w
  · cases ry
    refine ⟨rfl, ?_⟩
    rw [isNon_rep rx]
    exact k (.bl _) G _ H hr rfl .refl (by simpa using w)
  · exact w.elim

/-! ### data read off -/
mutual
def rdW (f : Addr → Option PyData) : D → Option PyData
  | .non => some .none
  | .bl b => some (.bool b)
  | .int i => some (.int i)
  | .str x => some (.str x)
  | .tup ds => (rdWs f ds).map .tuple
  | .ref a => f a
  | .ty _ => none
  | .rl ds => (rdWs f ds).map .list
def rdWs (f : Addr → Option PyData) : List D → Option (List PyData)
  | [] => some []
  | d :: ds => match rdW f d, rdWs f ds with
    | some p, some ps => some (p :: ps)
    | _, _ => none
end
def rfN : Nat → DHp → Addr → Option PyData
  | 0, _, _ => none
  | n + 1, G, a => match G a with
    | some (.lst xs) => (rdWs (rfN n G) xs).map .list
    | _ => none
def rd (G : DHp) (d : D) : Option PyData := rdW (rfN 20 G) d
def rds (G : DHp) (ds : List D) : Option (List PyData) := rdWs (rfN 20 G) ds
section
variable {G : DHp} {H : Hp}
mutual
theorem dp_of {f : Addr → Option PyData} (hf : ∀ a p, f a = some p → Dp K H (.ref a) p) : ∀ {d : D} {v : V} {p : PyData}, rdW f d = some p → Rep K H d v → Dp K H v p
  | .non, _, _, e, r => by cases r; cases e; exact .non
  | .bl _, _, _, e, r => by cases r; cases e; exact .bl _
  | .int _, _, _, e, r => by cases r; cases e; exact .int _
  | .str _, _, _, e, r => by cases r; cases e; exact .str _
  | .tup ds, v, p, e, r => by
    obtain ⟨a, vs, rfl, h, rs⟩ := r
    unfold rdW at e
    obtain ⟨ps, e1, rfl⟩ := Option.map_eq_some_iff.mp e
    exact .tup (SqT.of h) (dps_of hf e1 rs)
  | .ref a, _, _, e, r => by cases r; exact hf a _ (by simpa [rdW] using e)
  | .ty _, _, _, e, r => by cases e
  | .rl ds, v, p, e, r => by
    obtain ⟨a, vs, rfl, h, rs⟩ := r
    unfold rdW at e
    obtain ⟨ps, e1, rfl⟩ := Option.map_eq_some_iff.mp e
    exact .lst h.sq (dps_of hf e1 rs)
theorem dps_of {f : Addr → Option PyData} (hf : ∀ a p, f a = some p → Dp K H (.ref a) p) : ∀ {ds : List D} {vs : List V} {ps : List PyData}, rdWs f ds = some ps → Reps K H ds vs → DpAll K H vs ps
  | [], _, _, e, r => by cases r; cases e; exact .nil
  | d :: ds, vs, ps, e, r => by
    obtain ⟨v, rr, rfl, r1, r2⟩ := r
    unfold rdWs at e
    split at e
    · rename_i p ps' e1 e2
      cases e
      exact .cons (dp_of hf e1 r1) (dps_of hf e2 r2)
    · cases e
end
theorem rfN_dp (hr : HR K G H) : ∀ (n : Nat) (a : Addr) (p : PyData), rfN n G a = some p → Dp K H (.ref a) p
  | 0, _, _, e => by cases e
  | n + 1, a, p, e => by
    unfold rfN at e
    split at e
    · rename_i xs ea
      obtain ⟨ps, e1, rfl⟩ := Option.map_eq_some_iff.mp e
      obtain ⟨vs, h, rs⟩ := hr a _ ea
      exact .lst (SqL.of h) (dps_of (rfN_dp hr n) e1 rs)
    · cases e
theorem rd_dp (hr : HR K G H) {d : D} {v : V} {p : PyData} (e : rd G d = some p) (r : Rep K H d v) : Dp K H v p := dp_of (rfN_dp hr 20) e r
theorem rds_dp (hr : HR K G H) {ds : List D} {vs : List V} {ps : List PyData} (e : rds G ds = some ps) (r : Reps K H ds vs) : DpAll K H vs ps := dps_of (rfN_dp hr 20) e r
end

/-! ### == and != -/
def dEqD (neg : Bool) : WR2 := fun x y G Q => ∃ p q, rd G x = some p ∧ rd G y = some q ∧ SeqAt.shaped p = true ∧ SeqAt.shaped q = true ∧ Q (.bl (neg != PyData.eqv p q)) G
/-- scalars first, then data as a whole -/
def dEq : WR2
  | .int i, .int j => fun G Q => Q (.bl (i == j)) G
  | .str a, .str b => fun G Q => Q (.bl (a == b)) G
  | .bl a, .bl b => fun G Q => Q (.bl (a == b)) G
  | x, y => dEqD false x y
def dNe : WR2
  | .int i, .int j => fun G Q => Q (.bl (!(i == j))) G
  | .str a, .str b => fun G Q => Q (.bl (!(a == b))) G
  | .bl a, .bl b => fun G Q => Q (.bl (!(a == b))) G
  | x, y => dEqD true x y
abbrev rEqA (K : W.Frag) : R2 := fun x y H Q => rEq x y H Q ∨ rEqD K x y H Q
abbrev rNeA (K : W.Frag) : R2 := fun x y H Q => rNe x y H Q ∨ rNeD K x y H Q
theorem or_eq {X : Cx} (hu : X.A.units + 64 < cLine) : OpR X (compareOp .Eq) (rEqA X.K) := op_eq.or (op_eqD hu)
theorem or_ne {X : Cx} (hu : X.A.units + 64 < cLine) : OpR X (compareOp .NotEq) (rNeA X.K) := op_ne.or (op_neD hu)
theorem od_eqD {x y : D} {v u : V} {G : DHp} {H : Hp} {Q : VK} {QD : DK} (hr : HR K G H) (rx : Rep K H x v) (ry : Rep K H y u) (w : dEqD false x y G QD)
    (k : ∀ d G' v' H', HR K G' H' → Rep K H' d v' → Stp G H G' H' → QD d G' → Q v' H') : rEqD K v u H Q := by
  obtain ⟨p, q, e1, e2, s1, s2, w⟩ := w
  exact ⟨p, q, rd_dp hr e1 rx, rd_dp hr e2 ry, s1, s2, k (.bl _) G _ H hr rfl .refl (by simpa using w)⟩
theorem od_neD {x y : D} {v u : V} {G : DHp} {H : Hp} {Q : VK} {QD : DK} (hr : HR K G H) (rx : Rep K H x v) (ry : Rep K H y u) (w : dEqD true x y G QD)
    (k : ∀ d G' v' H', HR K G' H' → Rep K H' d v' → Stp G H G' H' → QD d G' → Q v' H') : rNeD K v u H Q := by
  obtain ⟨p, q, e1, e2, s1, s2, w⟩ := w
  exact ⟨p, q, rd_dp hr e1 rx, rd_dp hr e2 ry, s1, s2, k (.bl _) G _ H hr rfl .refl (by simpa using w)⟩
theorem od_eq : OpD K (rEqA K) dEq := by
  intro x y v u G H Q QD hr rx ry w k
  unfold dEq at w
  split at w
  · cases rx; cases ry
    exact .inl ⟨rfl, by rw [dec_int]; exact k (.bl _) G _ H hr rfl .refl w⟩
  · cases rx; cases ry
    exact .inl ⟨rfl, by rw [dec_str]; exact k (.bl _) G _ H hr rfl .refl w⟩
  · cases rx; cases ry
    exact .inl ⟨rfl, by rw [dec_bl]; exact k (.bl _) G _ H hr rfl .refl w⟩
  · exact .inr (od_eqD hr rx ry w k)
theorem od_ne : OpD K (rNeA K) dNe := by
  intro x y v u G H Q QD hr rx ry w k
  unfold dNe at w
  split at w
  · cases rx; cases ry
    exact .inl ⟨rfl, by rw [dec_int]; exact k (.bl _) G _ H hr rfl .refl w⟩
  · cases rx; cases ry
    exact .inl ⟨rfl, by rw [dec_str]; exact k (.bl _) G _ H hr rfl .refl w⟩
  · cases rx; cases ry
    exact .inl ⟨rfl, by rw [dec_bl]; exact k (.bl _) G _ H hr rfl .refl w⟩
  · exact .inr (od_neD hr rx ry w k)

/-! ### in -/
def flatD : D → Bool
  | .non => true
  | .bl _ => true
  | .int _ => true
  | .str _ => true
  | _ => false
def eqF : D → D → Bool
  | .non, .non => true
  | .bl a, .bl b => a == b
  | .bl a, .int b => (if a then 1 else 0) == b
  | .int a, .bl b => a == (if b then 1 else 0)
  | .int a, .int b => a == b
  | .str a, .str b => a == b
  | _, _ => false
def inF (x : D) (xs : List D) : Bool := xs.any fun y => eqF y x
/-- the items of a list, of a tuple -/
def itemsD (G : DHp) : D → Option (List D)
  | .tup xs => some xs
  | .rl xs => some xs
  | .ref a => match G a with
    | some (.lst xs) => some xs
    | _ => none
  | _ => none
def dInF (neg : Bool) : WR2 := fun x y G Q => match itemsD G y with
  | some xs => flatD x = true ∧ xs.all flatD = true ∧ Q (.bl (neg != inF x xs)) G
  | none => False
/-- one sign in a text -/
def dInS (neg : Bool) : WR2
  | .str a, .str z => fun G Q => ∃ c, a = ⟨#[c]⟩ ∧ Q (.bl (neg != decide (c ∈ z.cps.toList))) G
  | _, _ => fun _ _ => False
theorem flat_rep {H : Hp} {x : D} {v : V} (r : Rep K H x v) (f : flatD x = true) : flatV v = true := by
  cases x <;> first
    | (exact absurd (show false = true from f) Bool.false_ne_true)
    | (cases r; rfl)
theorem eqF_rep {H : Hp} {x y : D} {v u : V} (rx : Rep K H x v) (fx : flatD x = true) (ry : Rep K H y u) (fy : flatD y = true) : eqV v u = eqF x y := by
  cases x <;> first
    | (exact absurd (show false = true from fx) Bool.false_ne_true)
    | (cases y <;> first
        | (exact absurd (show false = true from fy) Bool.false_ne_true)
        | (cases rx; cases ry; rfl))
theorem flats_rep {H : Hp} : ∀ {xs : List D} {vs : List V}, Reps K H xs vs → xs.all flatD = true → vs.all flatV = true
  | [], _, r, _ => by cases r; rfl
  | x :: xs, vs, r, f => by
    obtain ⟨v, rr, rfl, r1, r2⟩ := r
    rw [List.all_cons, Bool.and_eq_true] at f
    rw [List.all_cons, flat_rep r1 f.1, flats_rep r2 f.2]; rfl
theorem inF_rep {H : Hp} {x : D} {v : V} (rx : Rep K H x v) (fx : flatD x = true) : ∀ {xs : List D} {vs : List V}, Reps K H xs vs → xs.all flatD = true → inV v vs = inF x xs
  | [], _, r, _ => by cases r; rfl
  | y :: xs, vs, r, f => by
    obtain ⟨u, rr, rfl, r1, r2⟩ := r
    rw [List.all_cons, Bool.and_eq_true] at f
    have := inF_rep rx fx r2 f.2
    unfold inV inF at *
    rw [List.any_cons, List.any_cons, this, eqF_rep r1 f.1 rx fx]
theorem items_sq {G : DHp} {H : Hp} {y : D} {u : V} {xs : List D} (hr : HR K G H) (r : Rep K H y u) (e : itemsD G y = some xs) : ∃ p vs, u = .ref p ∧ (SqL K H p vs ∨ SqT K H p vs) ∧ Reps K H xs vs := by
  cases y with
  | tup ds =>
    cases e
    obtain ⟨a, vs, rfl, h, rs⟩ := r
    exact ⟨a, vs, rfl, .inr (SqT.of h), rs⟩
  | rl ds =>
    cases e
    obtain ⟨a, vs, rfl, h, rs⟩ := r
    exact ⟨a, vs, rfl, .inl h.sq, rs⟩
  | ref a =>
    cases r
    unfold itemsD at e
    simp only at e
    split at e
    · cases e
      rename_i ea
      obtain ⟨vs, h, rs⟩ := hr a _ ea
      exact ⟨a, vs, rfl, .inl (SqL.of h), rs⟩
    · cases e
  | _ => cases e
theorem od_inF : OpD K (rIn K false) (dInF false) := by
  intro x y v u G H Q QD hr rx ry w k
  unfold dInF at w
  split at w
  · rename_i xs e
    obtain ⟨fx, fs, w⟩ := w
    obtain ⟨p, vs, rfl, h, rs⟩ := items_sq hr ry e
    refine ⟨p, vs, rfl, h, flat_rep rx fx, flats_rep rs fs, ?_⟩
    rw [inF_rep rx fx rs fs]
    exact k (.bl _) G _ H hr rfl .refl (by simpa using w)
  · exact w.elim
theorem od_ninF : OpD K (rIn K true) (dInF true) := by
  intro x y v u G H Q QD hr rx ry w k
  unfold dInF at w
  split at w
  · rename_i xs e
    obtain ⟨fx, fs, w⟩ := w
    obtain ⟨p, vs, rfl, h, rs⟩ := items_sq hr ry e
    refine ⟨p, vs, rfl, h, flat_rep rx fx, flats_rep rs fs, ?_⟩
    rw [inF_rep rx fx rs fs]
    exact k (.bl _) G _ H hr rfl .refl (by simpa using w)
  · exact w.elim
theorem od_inS : OpD K (fun x y H Q => ∃ (c : Nat) (z : Str), x = .str ⟨#[c]⟩ ∧ y = .str z ∧ Q (.bl (decide (c ∈ z.cps.toList))) H) (dInS false) := by
  intro x y v u G H Q QD hr rx ry w k
  unfold dInS at w
  split at w
  · cases rx; cases ry
    obtain ⟨c, rfl, w⟩ := w
    exact ⟨c, _, rfl, rfl, k (.bl _) G _ H hr rfl .refl (by simpa using w)⟩
  · exact w.elim
theorem od_ninS : OpD K (fun x y H Q => ∃ (c : Nat) (z : Str), x = .str ⟨#[c]⟩ ∧ y = .str z ∧ Q (.bl (!decide (c ∈ z.cps.toList))) H) (dInS true) := by
  intro x y v u G H Q QD hr rx ry w k
  unfold dInS at w
  split at w
  · cases rx; cases ry
    obtain ⟨c, rfl, w⟩ := w
    exact ⟨c, _, rfl, rfl, k (.bl _) G _ H hr rfl .refl (by simpa using w)⟩
  · exact w.elim

/-! ### subscripts -/
def pick {α : Type} (xs : List α) (i : Int) : Option α := if 0 ≤ i then xs[i.toNat]? else if -(xs.length : Int) ≤ i then xs[(i + xs.length).toNat]? else none
theorem pick_at {α : Type} {xs : List α} {i : Int} : atI xs i = pick xs i := by
  unfold atI ixN pick
  by_cases h : 0 ≤ i
  · rw [if_pos h, if_pos h]
    by_cases h2 : i < xs.length
    · rw [if_pos h2]; rfl
    · rw [if_neg h2]
      have : xs.length ≤ i.toNat := by omega
      rw [List.getElem?_eq_none this]; rfl
  · rw [if_neg h, if_neg h]
    split <;> rfl
/-- a value that must be there -/
def must (o : Option D) (G : DHp) (Q : DK) : Prop := match o with
  | some d => Q d G
  | none => False
def dIx : WR2
  | .tup xs, .int i => fun G Q => must (pick xs i) G Q
  | .rl xs, .int i => fun G Q => must (pick xs i) G Q
  | .ref a, .int i => fun G Q => ∃ xs, G a = some (.lst xs) ∧ must (pick xs i) G Q
  | .str z, .int i => fun G Q => z.length ≤ 1000000 ∧ must ((pick z.cps.toList i).map fun c => .str ⟨#[c]⟩) G Q
  | _, _ => fun _ _ => False
theorem must_of {o : Option D} {G : DHp} {Q : DK} (h : must o G Q) : ∃ d, o = some d ∧ Q d G := by
  unfold must at h
  split at h
  · exact ⟨_, rfl, h⟩
  · exact h.elim
theorem Reps.at_ {H : Hp} {ds : List D} {vs : List V} {i : Int} {d : D} (r : Reps K H ds vs) (h : pick ds i = some d) : ∃ v, atI vs i = some v ∧ Rep K H d v := by
  rw [pick_at]
  unfold pick at *
  rw [← r.length]
  split at h
  · rename_i q; rw [if_pos q]; exact r.get h
  · rename_i q
    rw [if_neg q]
    split at h
    · rename_i q2; rw [if_pos q2]; exact r.get h
    · cases h
theorem od_ix : OpD K (rIx K) dIx := by
  intro x y v u G H Q QD hr rx ry w k
  unfold dIx at w
  split at w
  · obtain ⟨a, vs, rfl, h, rs⟩ := rx
    cases ry
    obtain ⟨d, e, w⟩ := must_of w
    obtain ⟨v, e2, r⟩ := rs.at_ e
    exact .inr (.inl ⟨a, vs, _, v, rfl, rfl, SqT.of h, e2, k d G v H hr r .refl w⟩)
  · obtain ⟨a, vs, rfl, h, rs⟩ := rx
    cases ry
    obtain ⟨d, e, w⟩ := must_of w
    obtain ⟨v, e2, r⟩ := rs.at_ e
    exact .inl ⟨a, vs, _, v, rfl, rfl, h.sq, e2, k d G v H hr r .refl w⟩
  · cases rx
    cases ry
    obtain ⟨xs, ea, w⟩ := w
    obtain ⟨vs, h, rs⟩ := hr _ _ ea
    obtain ⟨d, e, w⟩ := must_of w
    obtain ⟨v, e2, r⟩ := rs.at_ e
    exact .inl ⟨_, vs, _, v, rfl, rfl, SqL.of h, e2, k d G v H hr r .refl w⟩
  · cases rx
    cases ry
    obtain ⟨hl, w⟩ := w
    obtain ⟨d, e, w⟩ := must_of w
    obtain ⟨c, e2, rfl⟩ := Option.map_eq_some_iff.mp e
    exact .inr (.inr ⟨_, _, c, rfl, rfl, big_line hl, by rw [pick_at]; exact e2, k (.str _) G _ H hr rfl .refl w⟩)
  · exact w.elim
end
end TC
set_option maxRecDepth 100000
/-! TC, part d: arguments, displays, slices, calls, targets, statements, loops, comprehensions. -/
namespace TC
open PySem PySem.Spec L2

section
variable {X : Cx} {G0 : DHp} {H0 : Hp} {pos : Pos} {e a b c : Expr} {es : List Expr} {we wa wb wc : WE} {ws : WA}
/-! ### arguments, displays -/
@[simp] def wNil : WA := fun _ G Q => Q [] G
@[simp] def wCons (a : WE) (r : WA) : WA := fun ρ G Q => a ρ G fun x G1 => r ρ G1 fun xs G2 => Q (x :: xs) G2
theorem da_nil : DA X G0 H0 [] wNil := PA.to pa_nil fun σ H Q ⟨ρ, G, QD, pt, w, k⟩ => k [] G [] H pt.hr rfl .refl w
theorem da_cons (ha : DE X G0 H0 e we) (hr : DA X G0 H0 es ws) (hs : starEach (e :: es) X.env = (false, eval e X.env) :: starEach es X.env := by rfl) : DA X G0 H0 (e :: es) (wCons we ws) :=
  PA.to (pa_cons ha hr hs) fun σ H Q ⟨ρ, G, QD, pt, w, k⟩ => ⟨ρ, G, _, pt, w, fun x G1 v H1 h1 r1 s1 w1 => ⟨ρ, G1, _, pt.go h1 s1, w1, fun xs G2 vs H2 h2 r2 s2 w2 =>
    k (x :: xs) G2 (v :: vs) H2 h2 ⟨v, vs, rfl, r1.mono (s2.mn h1), r2⟩ (s1.trans s2) w2⟩⟩
@[simp] def wTup (ws : WA) : WE := fun ρ G Q => ws ρ G fun xs G1 => xs.length ≤ 1000000 ∧ Q (.tup xs) G1
@[simp] def wLst (ws : WA) : WE := fun ρ G Q => ws ρ G fun xs G1 => xs.length ≤ 1000000 ∧ ∀ p, G1 p = none → Q (.ref p) (updD G1 p (.lst xs))
theorem de_tup {x1} (h : DA X G0 H0 es ws) : DE X G0 H0 (.Tuple es x1 pos) (wTup ws) :=
  PE.to (pe_tup h) fun σ H Q ⟨ρ, G, QD, pt, w, k⟩ => ⟨ρ, G, _, pt, w, fun xs G1 vs H1 h1 r1 s1 w1 => ⟨by rw [← r1.length]; exact big_line w1.1, fun p hp =>
    k (.tup xs) G1 _ _ (h1.newU hp) ⟨p, vs, rfl, upd_same, r1.mono (mn_upd hp)⟩ (s1.trans (.newU hp)) w1.2⟩⟩
theorem de_lst (h : DA X G0 H0 es ws) : DE X G0 H0 (.List es pos) (wLst ws) :=
  PE.to (pe_lst h) fun σ H Q ⟨ρ, G, QD, pt, w, k⟩ => ⟨ρ, G, _, pt, w, fun xs G1 vs H1 h1 r1 s1 w1 => ⟨by rw [← r1.length]; exact big_line w1.1, fun p hp =>
    k (.ref p) _ _ _ (h1.new hp (o := .lst xs) ⟨vs, upd_same, r1.mono (mn_upd hp)⟩) rfl (s1.trans (.new h1 hp)) (w1.2 p (h1.free hp))⟩⟩

/-! ### slices -/
abbrev WO := Ro → DHp → (Option Int → DHp → Prop) → Prop
def LfO (K : W.Frag) (G0 : DHp) (H0 : Hp) (w : WO) : TO := fun σ H Q => ∃ ρ G QD, Pt K G0 H0 ρ G σ H ∧ w ρ G QD ∧ ∀ o G' H', HR K G' H' → Stp G H G' H' → QD o G' → Q o H'
theorem PO.to {e : Option Expr} {t t' : TO} (h : PO X e t) (i : ∀ σ H Q, t' σ H Q → t σ H Q) : PO X e t' := ⟨fun pins s σ H Q I q => h.run pins s σ H Q I (i _ _ _ q)⟩
abbrev DP (X : Cx) (G0 : DHp) (H0 : Hp) (e : Option Expr) (w : WO) : Prop := PO X e (LfO X.K G0 H0 w)
@[simp] def woNone : WO := fun _ G Q => Q none G
def kI (Q : Option Int → DHp → Prop) : DK := fun d G => match d with
  | .int i => Q (some i) G
  | _ => False
@[simp] def woSome (we : WE) : WO := fun ρ G Q => we ρ G (kI Q)
theorem dp_none : DP X G0 H0 none woNone := PO.to po_none fun σ H Q ⟨ρ, G, QD, pt, w, k⟩ => k none G H pt.hr .refl w
theorem dp_some (h : DE X G0 H0 e we) : DP X G0 H0 (some e) (woSome we) := PO.to (po_some h) fun σ H Q ⟨ρ, G, QD, pt, w, k⟩ => ⟨ρ, G, _, pt, w, fun x G1 v H1 h1 r1 s1 w1 => by
  unfold kI at w1
  split at w1
  · cases r1
    exact ⟨_, rfl, k _ G1 H1 h1 s1 w1⟩
  · exact w1.elim⟩
/-- the part of a row between two bounds -/
def cut {α : Type} (xs : List α) (lo hi : Option Int) : List α := (xs.drop (HT.sIx xs.length 0 lo)).take (HT.sIx xs.length xs.length hi - HT.sIx xs.length 0 lo)
theorem cut_len {α : Type} (xs : List α) (lo hi : Option Int) : (cut xs lo hi).length ≤ xs.length := by
  unfold cut
  rw [List.length_take, List.length_drop]; omega
theorem Reps.cut {K : W.Frag} {H : Hp} {ds : List D} {vs : List V} (r : Reps K H ds vs) (lo hi : Option Int) : Reps K H (TC.cut ds lo hi) (cutV vs lo hi) := by
  unfold TC.cut cutV
  rw [r.length]
  exact (r.drop _).take _
def dSl (x : D) (lo hi : Option Int) : DHp → DK → Prop := fun G Q => match x with
  | .tup xs => Q (.tup (cut xs lo hi)) G
  | .ref a => ∃ xs, G a = some (.lst xs) ∧ ∀ p, G p = none → Q (.ref p) (updD G p (.lst (cut xs lo hi)))
  | .str z => z.length ≤ 1000000 ∧ Q (.str (cutS z lo hi)) G
  | _ => False
@[simp] def wSl (we : WE) (wl wh : WO) : WE := fun ρ G Q => we ρ G fun x G1 => wl ρ G1 fun l G2 => wh ρ G2 fun u G3 => dSl x l u G3 Q
abbrev rSlX (K : W.Frag) : V → Option Int → Option Int → Hp → VK → Prop := fun x lo hi H Q => rSlA K x lo hi H Q ∨ rSlL K x lo hi H Q ∨ rSlS x lo hi H Q
theorem sl_x : SlR X (rSlX X.K) := sl_tupA.or (sl_list.or sl_str)
theorem de_slice {lo hi : Option Expr} {wl wh : WO} {p2 : Pos} (he : DE X G0 H0 e we) (hl : DP X G0 H0 lo wl) (hh : DP X G0 H0 hi wh) : DE X G0 H0 (.Subscript e (.Slice lo hi none p2) pos) (wSl we wl wh) :=
  PE.to (pe_slice sl_x he hl hh) fun σ H Q ⟨ρ, G, QD, pt, w, k⟩ => ⟨ρ, G, _, pt, w, fun x G1 v H1 h1 r1 s1 w1 => ⟨ρ, G1, _, pt.go h1 s1, w1, fun l G2 H2 h2 s2 w2 => ⟨ρ, G2, _, (pt.go h1 s1).go h2 s2, w2, fun u G3 H3 h3 s3 w3 => by
    have r3 := (r1.mono (s2.mn h1)).mono (s3.mn h2)
    have s13 := (s1.trans s2).trans s3
    unfold dSl at w3
    split at w3
    · rename_i xs
      obtain ⟨a, vs, rfl, h, rs⟩ := r3
      refine .inl ⟨a, vs, rfl, SqT.of h, fun q => ?_, fun q p hp => ?_⟩
      · have e : TC.cut xs l u = xs := by
          unfold TC.cut
          rw [rs.length, q.1, q.2, List.drop_zero, Nat.sub_zero, ← rs.length, List.take_length]
        rw [e] at w3
        exact k (.tup xs) G3 _ H3 h3 ⟨a, vs, rfl, h, rs⟩ s13 w3
      · exact k (.tup (TC.cut xs l u)) G3 _ _ (h3.newU hp) ⟨p, _, rfl, upd_same, (rs.cut l u).mono (mn_upd hp)⟩ (s13.trans (.newU hp)) w3
    · cases r3
      obtain ⟨xs, ea, w3⟩ := w3
      obtain ⟨vs, h, rs⟩ := h3 _ _ ea
      exact .inr (.inl ⟨_, vs, rfl, SqL.of h, fun p hp => k (.ref p) _ _ _ (h3.new hp (o := .lst (TC.cut xs l u)) ⟨_, upd_same, (rs.cut l u).mono (mn_upd hp)⟩) rfl (s13.trans (.new h3 hp)) (w3 p (h3.free hp))⟩)
    · cases r3
      exact .inr (.inr ⟨_, rfl, big_line w3.1, k (.str _) G3 _ H3 h3 rfl s13 w3.2⟩)
    · exact w3.elim⟩⟩⟩

/-! ### built-ins by name -/
@[simp] def wCB (f : WRA) (ws : WA) : WE := fun ρ G Q => ws ρ G fun xs G1 => f xs G1 Q
theorem lf_cb {K : W.Frag} {r : List V → Hp → VK → Prop} {f : WRA} (hd : CaD K r f) {σ : St} {H : Hp} {Q : VK} (h : LfE K G0 H0 (wCB f ws) σ H Q) : tCB r (LfA K G0 H0 ws) σ H Q := by
  obtain ⟨ρ, G, QD, pt, w, k⟩ := h
  exact ⟨ρ, G, _, pt, w, fun xs G1 vs H1 h1 r1 s1 w1 => hd xs vs G1 H1 Q QD h1 r1 w1 fun d G' v' H' h' r' s' q => k d G' v' H' h' r' (s1.trans s') q⟩
theorem de_callB {x : Str} {p : Pos} {id : String} {r : List V → Hp → VK → Prop} {f : WRA} (hc : CallR X (.builtin id) r) (hd : CaD X.K r f) (hg : Gl X x) (hm : X.mg x = none) (hv : bootBuiltins x = some (.builtin id)) (ha : DA X G0 H0 (e :: es) ws)
    (hn : x ≠ "__name__" := by decide) (hdb : (x == ("__debug__" : Str)) = false := by decide)
    (he : starEach (e :: es) X.env = (false, eval e X.env) :: starEach es X.env := by rfl) (hpl : (backTo pos (starEach es X.env)).any (·.1) = false := by rfl) : DE X G0 H0 (.Call (.Name x p) (e :: es) [] pos) (wCB f ws) :=
  PE.to (pe_callB hc hg hm hv ha hn hdb he hpl) fun _ _ _ h => lf_cb hd h
theorem de_callTy {x : Str} {p : Pos} {T : String} {r : List V → Hp → VK → Prop} {f : WRA} (hc : CallR X (.type T) r) (hd : CaD X.K r f) (hg : Gl X x) (hm : X.mg x = none) (hv : bootBuiltins x = some (.type T)) (ha : DA X G0 H0 (e :: es) ws)
    (hn : x ≠ "__name__" := by decide) (hdb : (x == ("__debug__" : Str)) = false := by decide)
    (he : starEach (e :: es) X.env = (false, eval e X.env) :: starEach es X.env := by rfl) (hpl : (backTo pos (starEach es X.env)).any (·.1) = false := by rfl) : DE X G0 H0 (.Call (.Name x p) (e :: es) [] pos) (wCB f ws) :=
  PE.to (pe_callTy hc hg hm hv ha hn hdb he hpl) fun _ _ _ h => lf_cb hd h

/-! ### defs -/
/-- an error as it is met: its class, what its own dict holds -/
structure DX where
  C : Addr
  fs : Option (List (Str × D))
def XR (K : W.Frag) (H : Hp) (cls : Value) (dx : Option Addr) (x : DX) : Prop := cls = .ref x.C ∧ match dx, x.fs with
  | none, none => True
  | some d, some fs => ∃ vs, H d = some (.xd vs) ∧ RepKV K H fs vs
  | _, _ => False
abbrev DXK := DX → DHp → Prop
/-- a def's promise by data -/
abbrev DSp := List D → DHp → DK → DXK → Prop
def lfSp (K : W.Frag) (sp : DSp) : Sp := fun vs H Q E => ∃ ds G QD ED, Reps K H ds vs ∧ HR K G H ∧ sp ds G QD ED ∧ (∀ d G' v H', HR K G' H' → Rep K H' d v → Stp G H G' H' → QD d G' → Q v H') ∧
  ∀ x G' cls dx H', HR K G' H' → XR K H' cls dx x → Stp G H G' H' → ED x G' → E cls dx H'
/-- what is wished of an error in a body -/
abbrev WXD := Ro → DX → DHp → Prop
def LfX (K : W.Frag) (G0 : DHp) (H0 : Hp) (w : WXD) : WX := fun cls dx σ H => ∃ ρ G x, Pt K G0 H0 ρ G σ H ∧ XR K H cls dx x ∧ w ρ x G
@[simp] def noX : WXD := fun _ _ _ => False
theorem tk_no {K : W.Frag} : Takes X (LfX K G0 H0 noX) := takes0.imp fun _ _ _ _ ⟨_, _, _, _, _, z⟩ => z
abbrev DFn (P : Program) (w : World) (K : W.Frag) (mg : Str → Option Value) (base : Heap) (k : Nat) (f : Addr) (fd : FuncData) (ps : List Str) (sp : DSp) : Prop := FnOk P w K mg base (L2.CX P w) k f fd ps (lfSp K sp)
@[simp] def wCall (sp : DSp) (W : WXD) (ws : WA) : WE := fun ρ G Q => ws ρ G fun xs G1 => sp xs G1 Q (W ρ)
theorem lf_call {K : W.Frag} {sp : DSp} {U : WXD} {ws : WA} {σ : St} {H : Hp} {Q : VK} (h : LfE K G0 H0 (wCall sp U ws) σ H Q) : tCallS (lfSp K sp) (L2.WE (LfX K G0 H0 U)) (LfA K G0 H0 ws) σ H Q := by
  obtain ⟨ρ, G, QD, pt, w, k⟩ := h
  refine ⟨ρ, G, _, pt, w, fun xs G1 vs H1 h1 r1 s1 w1 => ?_⟩
  exact ⟨xs, G1, _, _, r1, h1, w1, fun d G' v H' h' r' s' q => k d G' v H' h' r' (s1.trans s') q, fun x G' cls dx H' h' xr s' q => ⟨ρ, G', x, (pt.go h1 s1).go h' s', xr, q⟩⟩
theorem de_call {k : Nat} {f : Addr} {fd : FuncData} {ps : List Str} {sp : DSp} {W : WXD} {x : Str} {p : Pos} (F : DFn X.prog X.w X.K X.mg X.base k f fd ps sp) (hr : Room k X.A) (hg : Gl X x) (hm : X.mg x = some (.ref f)) (hk : PySem.W.keepIn X.K (.ref f) = true) (hb : Binds X.K fd ps [])
    (tk : Takes X (LfX X.K G0 H0 W)) (ha : DA X G0 H0 (e :: es) ws) (hdb : (x == ("__debug__" : Str)) = false := by decide) (he : starEach (e :: es) X.env = (false, eval e X.env) :: starEach es X.env := by rfl) (hpl : (backTo pos (starEach es X.env)).any (·.1) = false := by rfl) :
    DE X G0 H0 (.Call (.Name x p) (e :: es) [] pos) (wCall sp W ws) := PE.to (pe_callS F hr hg hm hk hb (fun σ => passAt tk σ) ha hdb he hpl) fun _ _ _ h => lf_call h

/-! ### targets -/
@[simp] def wgName (i : Nat) : WG := fun d ρ G Q => Q (ρ.set i (some d)) G
theorem dg_name {i : Nat} {x : Str} (hN : X.N.Nodup) (hi : X.N[i]? = some x) (hx : Loc X.env.scope x) (hf : X.fn x = true ∨ X.env.scope.names.lookup x = some .local := by first | exact .inl rfl | exact .inr rfl | assumption) : DG X G0 H0 (.Name x pos) (wgName i) :=
  PG.to (pg_name hN hi hx hf) fun v σ H Q ⟨d, ρ, G, QD, pt, r, w, k⟩ => k _ G _ H (pt.set i r) .refl w
def wgNil : WGs := fun ds ρ G Q => match ds with
  | [] => Q ρ G
  | _ => False
def wgCons (g : WG) (r : WGs) : WGs := fun ds ρ G Q => match ds with
  | d :: ds => g d ρ G fun ρ1 G1 => r ds ρ1 G1 Q
  | [] => False
theorem dgs_nil : DGs X G0 H0 [] wgNil := PGs.to pgs_nil fun vs σ H Q ⟨ds, ρ, G, QD, pt, r, w, k⟩ => by
  unfold wgNil at w
  split at w
  · exact ⟨r, k _ G _ H pt .refl w⟩
  · exact w.elim
theorem dgs_cons {g : WG} {gs : WGs} (h1 : DG X G0 H0 e g) (h2 : DGs X G0 H0 es gs) (hs : (assignEach (e :: es) X.env).map (·.2) = assign e X.env :: (assignEach es X.env).map (·.2) := by rfl) : DGs X G0 H0 (e :: es) (wgCons g gs) :=
  PGs.to (pgs_cons h1 h2 hs) fun vs σ H Q ⟨ds, ρ, G, QD, pt, r, w, k⟩ => by
    unfold wgCons at w
    split at w
    · obtain ⟨v, rr, rfl, r1, r2⟩ := r
      exact ⟨v, rr, rfl, _, ρ, G, _, pt, r1, w, fun ρ1 G1 σ1 H1 pt1 s1 w1 => ⟨_, ρ1, G1, QD, pt1, r2.mono (s1.mn pt.hr), w1, fun a b c d p s q => k a b c d p (s1.trans s) q⟩⟩
    · exact w.elim
def wgTup (n : Nat) (gs : WGs) : WG := fun d ρ G Q => match d with
  | .tup ds => ds.length = n ∧ gs ds ρ G Q
  | _ => False
theorem dg_tup {k n : Nat} {gs : WGs} (hc : X.calm = true) (h : DGs X G0 H0 es gs) (hn : (assignEach es X.env).length = n := by rfl) (hst : (assignEach es X.env).findIdx? (·.1) = none := by rfl) : DG X G0 H0 (.Tuple es k pos) (wgTup n gs) :=
  PG.to (pg_tup hc h hn hst) fun v σ H Q ⟨d, ρ, G, QD, pt, r, w, kk⟩ => by
    unfold wgTup at w
    split at w
    · obtain ⟨a, vs, rfl, h, rs⟩ := r
      exact ⟨a, vs, rfl, SqT.of h, by rw [← rs.length]; exact w.1, _, ρ, G, QD, pt, rs, w.2, kk⟩
    · exact w.elim
/-- xs[i] = v, of a list -/
def dSet (o i v : D) (G : DHp) (Q : DHp → Prop) : Prop := match o, i with
  | .ref a, .int j => ∃ xs, G a = some (.lst xs) ∧ 0 ≤ j ∧ j < xs.length ∧ Q (updD G a (.lst (xs.set j.toNat v)))
  | _, _ => False
@[simp] def wgSub (wo wi : WE) : WG := fun d ρ G Q => wo ρ G fun o G1 => wi ρ G1 fun i G2 => dSet o i d G2 fun G3 => Q ρ G3
theorem dg_sub (ho : DE X G0 H0 a wa) (hi : DE X G0 H0 b wb)
    (has : ∀ v, assign (.Subscript a b pos) X.env v = (do
      let ov ← holding [v] (eval a X.env)
      let iv ← holding [v, ov] (eval b X.env)
      standAt pos
      holding [v, ov, iv] (setItem ov iv v)
      release [v, ov, iv] []) := by intro _; rfl) : DG X G0 H0 (.Subscript a b pos) (wgSub wa wb) :=
  PG.to (pg_sub ho hi set_list has) fun v σ H Q ⟨d, ρ, G, QD, pt, r, w, k⟩ => ⟨ρ, G, _, pt, w, fun o G1 vo H1 h1 r1 s1 w1 => ⟨ρ, G1, _, pt.go h1 s1, w1, fun i G2 vi H2 h2 r2 s2 w2 => by
    unfold dSet at w2
    split at w2
    · cases r1.mono (s2.mn h1)
      cases r2
      obtain ⟨xs, ea, h0, hl, w2⟩ := w2
      obtain ⟨vs, h, rs⟩ := h2 _ _ ea
      rename_i p j
      have hlen := rs.length
      refine ⟨_, vs, _, j.toNat, rfl, rfl, h, ?_, ?_⟩
      · unfold ixN
        rw [if_pos h0, if_pos (by omega)]
      · have r' : Rep X.K H2 d v := (r.mono (s1.mn pt.hr)).mono (s2.mn h1)
        have m := mn_write (x := .lst (vs.set j.toNat v)) h2 ea
        have hr' : HR X.K (updD G2 p (.lst (xs.set j.toNat d))) (upd H2 p (.lst (vs.set j.toNat v))) := h2.write ea ⟨_, upd_same, (rs.set r' j.toNat).mono m⟩
        have st : Stp G2 H2 (updD G2 p (.lst (xs.set j.toNat d))) (upd H2 p (.lst (vs.set j.toNat v))) := .write ea
        exact k ρ _ σ _ (((pt.go h1 s1).go h2 s2).go hr' st) ((s1.trans s2).trans st) w2
    · exact w2.elim⟩⟩

/-! ### statements -/
variable {st : Stmt} {sts : List Stmt} {w1 w2 : WS} {g : WG}
@[simp] def wNext : WS := fun F ρ G => F.nx ρ G
@[simp] def wSeq (t u : WS) : WS := fun F ρ G => t { F with nx := u F } ρ G
theorem dss_nil : DSs X G0 H0 [] wNext := PSs.to pss_nil fun E σ H ⟨ρ, G, F, pt, w, l⟩ => l.nx ρ G σ H pt .refl w
theorem lf_seq {K : W.Frag} {E : Ends} {σ : St} {H : Hp} (h : LfS K G0 H0 (wSeq w1 w2) E σ H) : tSeq (LfS K G0 H0 w1) (LfS K G0 H0 w2) E σ H := by
  obtain ⟨ρ, G, F, pt, w, l⟩ := h
  exact ⟨ρ, G, _, pt, w, fun ρ1 G1 σ1 H1 p1 s1 q => ⟨ρ1, G1, F, p1, q, l.go s1⟩, l.rt, l.bk, l.ct⟩
theorem dss_cons (h1 : DS X G0 H0 st w1) (h2 : DSs X G0 H0 sts w2) : DSs X G0 H0 (st :: sts) (wSeq w1 w2) := PSs.to (pss_cons h1 h2) fun _ _ _ h => lf_seq h
theorem dss_one (h1 : DS X G0 H0 st w1) : DSs X G0 H0 [st] w1 := pss_one h1
@[simp] def wBrk : WS := fun F ρ G => F.bk ρ G
@[simp] def wCnt : WS := fun F ρ G => F.ct ρ G
theorem ds_pass : DS X G0 H0 (.Pass pos) wNext := PS.to ps_pass fun E σ H ⟨ρ, G, F, pt, w, l⟩ => l.nx ρ G σ H pt .refl w
theorem ds_break : DS X G0 H0 (.Break pos) wBrk := PS.to ps_break fun E σ H ⟨ρ, G, F, pt, w, l⟩ => l.bk ρ G σ H pt .refl w
theorem ds_continue : DS X G0 H0 (.Continue pos) wCnt := PS.to ps_continue fun E σ H ⟨ρ, G, F, pt, w, l⟩ => l.ct ρ G σ H pt .refl w
@[simp] def wExpr (we : WE) : WS := fun F ρ G => we ρ G fun _ G1 => F.nx ρ G1
theorem ds_expr (he : DE X G0 H0 e we) (hs : swapsWith e none pos.line X.env = pure false := by rfl) : DS X G0 H0 (.Expr e pos) (wExpr we) :=
  PS.to (ps_expr he hs) fun E σ H ⟨ρ, G, F, pt, w, l⟩ => ⟨ρ, G, _, pt, w, fun d G1 v H1 h1 r1 s1 q => l.nx ρ G1 σ H1 (pt.go h1 s1) s1 q⟩
@[simp] def wRet (we : WE) : WS := fun F ρ G => we ρ G F.rt
@[simp] def wRetN : WS := fun F _ G => F.rt .non G
theorem ds_ret (he : DE X G0 H0 e we) : DS X G0 H0 (.Return (some e) pos) (wRet we) :=
  PS.to (ps_ret he) fun E σ H ⟨ρ, G, F, pt, w, l⟩ => ⟨ρ, G, _, pt, w, fun d G1 v H1 h1 r1 s1 q => l.rt d G1 v H1 h1 r1 s1 q⟩
theorem ds_retN : DS X G0 H0 (.Return none pos) wRetN := PS.to ps_retN fun E σ H ⟨ρ, G, F, pt, w, l⟩ => l.rt .non G _ H pt.hr rfl .refl w
@[simp] def wIf (c : WT) (t u : WS) : WS := fun F ρ G => c ρ G fun b G1 => if b = true then t F ρ G1 else u F ρ G1
theorem ds_if {c : Expr} {as bs : List Stmt} {wc : WT} (hc : DT X G0 H0 c wc) (ha : DSs X G0 H0 as w1) (hb : DSs X G0 H0 bs w2) : DS X G0 H0 (.If c as bs pos) (wIf wc w1 w2) :=
  PS.to (ps_if hc ha hb) fun E σ H ⟨ρ, G, F, pt, w, l⟩ => ⟨ρ, G, _, pt, w, fun b G1 H1 h1 s1 q => by
    cases b with
    | true => exact ⟨ρ, G1, F, pt.go h1 s1, q, l.go s1⟩
    | false => exact ⟨ρ, G1, F, pt.go h1 s1, q, l.go s1⟩⟩
@[simp] def wAsg (we : WE) (g : WG) : WS := fun F ρ G => we ρ G fun d G1 => g d ρ G1 F.nx
theorem lf_asg {K : W.Frag} {E : Ends} {σ : St} {H : Hp} (h : LfS K G0 H0 (wAsg we g) E σ H) : tAsg (LfE K G0 H0 we) (LfG K G0 H0 g) E σ H := by
  obtain ⟨ρ, G, F, pt, w, l⟩ := h
  exact ⟨ρ, G, _, pt, w, fun d G1 v H1 h1 r1 s1 q => ⟨d, ρ, G1, _, pt.go h1 s1, r1, q, fun ρ2 G2 σ2 H2 p2 s2 q2 => l.nx ρ2 G2 σ2 H2 p2 (s1.trans s2) q2⟩⟩
theorem ds_asg {tg : Expr} (he : DE X G0 H0 e we) (hg : DG X G0 H0 tg g) (hs : swapsWithSole [tg] e pos.line X.env = pure false := by rfl) (hw : swappedStores [tg] e X.env = pure none := by rfl)
    (h1 : (assignEach [tg] X.env).map (·.2) = [assign tg X.env] := by rfl) : DS X G0 H0 (.Assign [tg] e pos) (wAsg we g) := PS.to (ps_asg he hg hs hw h1) fun _ _ _ h => lf_asg h
theorem ds_set {i : Nat} {x : Str} {pos' : Pos} (hN : X.N.Nodup) (hi : X.N[i]? = some x) (hx : Loc X.env.scope x) (he : DE X G0 H0 e we) (hs : swapsWith e (some (.Name x pos')) pos.line X.env = pure false := by rfl) (hf : X.fn x = true ∨ X.env.scope.names.lookup x = some .local := by first | exact .inl rfl | exact .inr rfl | assumption) :
    DS X G0 H0 (.Assign [.Name x pos'] e pos) (wAsg we (wgName i)) := PS.to (ps_set hN hi hx he hs hf) fun E σ H ⟨ρ, G, F, pt, w, l⟩ => ⟨ρ, G, _, pt, w, fun d G1 v H1 h1 r1 s1 q => l.nx _ G1 _ H1 ((pt.go h1 s1).set i r1) s1 q⟩
def wPar (i j : Nat) (ws : WA) : WS := fun F ρ G => ws ρ G fun ds G1 => match ds with
  | [x, y] => F.nx ((ρ.set i (some x)).set j (some y)) G1
  | _ => False
theorem ds_par {i j : Nat} {x y : Str} {px py pt : Pos} {kt k2 pt2} (hc : X.calm = true) (hN : X.N.Nodup) (hi : X.N[i]? = some x) (hj : X.N[j]? = some y) (hij : i ≠ j)
    (hx : X.env.scope.names.lookup x = some .local) (hy : X.env.scope.names.lookup y = some .local) (ha : DA X G0 H0 [a, b] ws)
    (hw : swappedStores [.Tuple [.Name x px, .Name y py] kt pt] (.Tuple [a, b] k2 pt2) X.env = pure (some [x, y]))
    (hs : swapsWithSole [.Tuple [.Name x px, .Name y py] kt pt] (.Tuple [a, b] k2 pt2) pos.line X.env = pure false := by rfl) :
    DS X G0 H0 (.Assign [.Tuple [.Name x px, .Name y py] kt pt] (.Tuple [a, b] k2 pt2) pos) (wPar i j ws) :=
  PS.to (ps_par hc hN hi hj hij hx hy ha hw hs) fun E σ H ⟨ρ, G, F, pt, w, l⟩ => ⟨ρ, G, _, pt, w, fun ds G1 vs H1 h1 r1 s1 q => by
    split at q
    · obtain ⟨v, r, rfl, q1, u, r', rfl, q2, e⟩ := r1
      have e : r' = [] := e
      subst e
      exact ⟨v, u, rfl, l.nx _ G1 _ H1 (((pt.go h1 s1).set i q1).set j q2) s1 q⟩
    · exact q.elim⟩
def wPar3 (i j m : Nat) (ws : WA) : WS := fun F ρ G => ws ρ G fun ds G1 => match ds with
  | [x, y, z] => F.nx (((ρ.set i (some x)).set j (some y)).set m (some z)) G1
  | _ => False
theorem ds_par3 {i j m : Nat} {x y z : Str} {px py pz pt : Pos} {kt k2 pt2} (hc : X.calm = true) (hN : X.N.Nodup) (hi : X.N[i]? = some x) (hj : X.N[j]? = some y) (hl : X.N[m]? = some z) (hij : i ≠ j) (hil : i ≠ m) (hjl : j ≠ m)
    (hx : X.env.scope.names.lookup x = some .local) (hy : X.env.scope.names.lookup y = some .local) (hz : X.env.scope.names.lookup z = some .local) (ha : DA X G0 H0 [a, b, c] ws)
    (hw : swappedStores [.Tuple [.Name x px, .Name y py, .Name z pz] kt pt] (.Tuple [a, b, c] k2 pt2) X.env = pure (some [x, y, z]))
    (hs : swapsWithSole [.Tuple [.Name x px, .Name y py, .Name z pz] kt pt] (.Tuple [a, b, c] k2 pt2) pos.line X.env = pure false := by rfl) :
    DS X G0 H0 (.Assign [.Tuple [.Name x px, .Name y py, .Name z pz] kt pt] (.Tuple [a, b, c] k2 pt2) pos) (wPar3 i j m ws) :=
  PS.to (ps_par3 hc hN hi hj hl hij hil hjl hx hy hz ha hw hs) fun E σ H ⟨ρ, G, F, pt, w, l⟩ => ⟨ρ, G, _, pt, w, fun ds G1 vs H1 h1 r1 s1 q => by
    split at q
    · obtain ⟨v, r, rfl, q1, u, r', rfl, q2, t, r'', rfl, q3, e⟩ := r1
      have e : r'' = [] := e
      subst e
      exact ⟨v, u, t, rfl, l.nx _ G1 _ H1 ((((pt.go h1 s1).set i q1).set j q2).set m q3) s1 q⟩
    · exact q.elim⟩
end
end TC
set_option maxRecDepth 100000
/-! TC, part e: what is walked, loops, comprehensions, while, raise, the rule of a def. -/
namespace TC
open PySem PySem.Spec L2

/-! ### what is walked -/
/-- items xs, as long as gd holds of the heap -/
abbrev WI := Ro → DHp → (List D → (DHp → Prop) → DHp → Prop) → Prop
structure ItOk (K : W.Frag) (J : It) (xs : List D) (gd : DHp → Prop) (Ga : DHp) (Ha : Hp) : Prop where
  go : ∀ i G H, i < xs.length → HR K G H → Stp Ga Ha G H → gd G → J.go i H
  yld : ∀ (i : Nat) d G H x H', xs[i]? = some d → HR K G H → Stp Ga Ha G H → gd G → J.yld i H x H' → Rep K H' d x ∧ HR K G H' ∧ Stp G H G H'
  stop : ∀ G H, HR K G H → Stp Ga Ha G H → gd G → J.stop xs.length H
def LfI (K : W.Frag) (G0 : DHp) (H0 : Hp) (w : WI) : TI := fun σ H R => ∃ ρ G QD, Pt K G0 H0 ρ G σ H ∧ w ρ G QD ∧ ∀ xs gd G1 H1 J, HR K G1 H1 → Stp G H G1 H1 → ItOk K J xs gd G1 H1 → QD xs gd G1 → R J H1
abbrev DI (X : Cx) (G0 : DHp) (H0 : Hp) (tg e : Expr) (w : WI) : Prop := PI X tg e (LfI X.K G0 H0 w)
theorem PI.to {X : Cx} {tg e : Expr} {t t' : TI} (h : PI X tg e t) (i : ∀ σ H R, t' σ H R → t σ H R) : PI X tg e t' := ⟨fun pins s σ H R I q => h.run pins s σ H R I (i _ _ _ q)⟩

section
variable {X : Cx} {G0 : DHp} {H0 : Hp} {pos : Pos} {e e2 a b tg : Expr} {es : List Expr} {we wa wb : WE} {ws : WA}
/-- a value's items, list or tuple -/
def kTupI (Q : List D → (DHp → Prop) → DHp → Prop) : DK := fun d G => match d with
  | .tup xs => Q xs (fun _ => True) G
  | _ => False
def kLstI (Q : List D → (DHp → Prop) → DHp → Prop) : DK := fun d G => match d with
  | .ref a => ∃ xs, G a = some (.lst xs) ∧ Q xs (fun G' => G' a = some (.lst xs)) G
  | _ => False
def kStrI (Q : List D → (DHp → Prop) → DHp → Prop) : DK := fun d G => match d with
  | .str z => Q (z.cps.toList.map fun c => .str ⟨#[c]⟩) (fun _ => True) G
  | _ => False
@[simp] def wiTup (we : WE) : WI := fun ρ G Q => we ρ G (kTupI Q)
@[simp] def wiLst (we : WE) : WI := fun ρ G Q => we ρ G (kLstI Q)
@[simp] def wiStr (we : WE) : WI := fun ρ G Q => we ρ G (kStrI Q)
theorem it_tup {K : W.Frag} {p : Addr} {xs : List D} {vs : List V} {G : DHp} {H : Hp} (hr : HR K G H) (h : H p = some (.tup vs)) (r : Reps K H xs vs) : ItOk K (Itt K p) xs (fun _ => True) G H where
  go := fun i G' H' hi hr' s _ => ⟨vs, vs[i]'(by rw [← r.length]; exact hi), SqT.of (s.tup hr h), by simp [← r.length, hi]⟩
  yld := fun i d G' H' x H'' e hr' s _ y => by
    obtain ⟨rfl, y⟩ := y
    obtain ⟨v, e2, q⟩ := r.get e
    have := y vs (SqT.of (s.tup hr h))
    rw [e2] at this; cases this
    exact ⟨q.mono (s.mn hr), hr', .refl⟩
  stop := fun G' H' hr' s _ => ⟨vs, SqT.of (s.tup hr h), by rw [r.length]; exact Nat.le_refl _⟩
theorem di_tup (he : DE X G0 H0 e we) : DI X G0 H0 tg e (wiTup we) := PI.to (pi_tup he) fun σ H R ⟨ρ, G, QD, pt, w, k⟩ => ⟨ρ, G, _, pt, w, fun d G1 v H1 h1 r1 s1 w1 => by
  unfold kTupI at w1
  split at w1
  · obtain ⟨p, vs, rfl, h, rs⟩ := r1
    exact ⟨p, rfl, ⟨vs, SqT.of h⟩, k _ _ G1 H1 _ h1 s1 (it_tup h1 h rs) w1⟩
  · exact w1.elim⟩
theorem it_lst {K : W.Frag} {p : Addr} {xs : List D} {G : DHp} {H : Hp} : ItOk K (Itl K p) xs (fun G' => G' p = some (.lst xs)) G H where
  go := fun i G' H' hi hr' s g => by
    obtain ⟨vs, h, r⟩ := hr' p _ g
    exact ⟨vs, vs[i]'(by rw [← r.length]; exact hi), SqL.of h, by simp [← r.length, hi]⟩
  yld := fun i d G' H' x H'' e hr' s g y => by
    obtain ⟨rfl, y⟩ := y
    obtain ⟨vs, h, r⟩ := hr' p _ g
    obtain ⟨v, e2, q⟩ := r.get e
    have := y vs (SqL.of h)
    rw [e2] at this; cases this
    exact ⟨q, hr', .refl⟩
  stop := fun G' H' hr' s g => by
    obtain ⟨vs, h, r⟩ := hr' p _ g
    exact ⟨vs, SqL.of h, by rw [r.length]; exact Nat.le_refl _⟩
theorem di_lst (he : DE X G0 H0 e we) : DI X G0 H0 tg e (wiLst we) := PI.to (pi_list he) fun σ H R ⟨ρ, G, QD, pt, w, k⟩ => ⟨ρ, G, _, pt, w, fun d G1 v H1 h1 r1 s1 w1 => by
  unfold kLstI at w1
  split at w1
  · cases r1
    obtain ⟨xs, ea, w1⟩ := w1
    obtain ⟨vs, h, r⟩ := h1 _ _ ea
    exact ⟨_, rfl, ⟨vs, SqL.of h⟩, k _ _ G1 H1 _ h1 s1 it_lst w1⟩
  · exact w1.elim⟩
theorem di_str (he : DE X G0 H0 e we) : DI X G0 H0 tg e (wiStr we) := PI.to (pi_str he) fun σ H R ⟨ρ, G, QD, pt, w, k⟩ => ⟨ρ, G, _, pt, w, fun d G1 v H1 h1 r1 s1 w1 => by
  unfold kStrI at w1
  split at w1
  · rename_i z
    cases r1
    have wk := walk_str (z := z)
    refine ⟨z, rfl, k _ _ G1 H1 _ h1 s1 ⟨fun i G H hi _ _ _ => wk.goes i H (by simpa using hi) trivial, fun i d G H x H' e hr s _ y => ?_, fun G H _ _ _ => by simpa using wk.stops H trivial⟩ w1⟩
    have hi : i < z.cps.size := by
      have := (List.getElem?_eq_some_iff.mp e).1
      simpa using this
    obtain ⟨rfl, c, e2, rfl⟩ := wk.yields i H x H' hi trivial y
    rw [List.getElem?_map, Array.getElem?_toList, e2] at e
    cases e
    exact ⟨rfl, hr, .refl⟩
  · exact w1.elim⟩
/-- lo, lo + 1, .. -/
def intsD (lo : Int) (n : Nat) : List D := (List.range n).map fun (i : Nat) => D.int (lo + (i : Int))
theorem it_rng {K : W.Frag} {lo : Int} {n : Nat} {G : DHp} {H : Hp} : ItOk K (Itr lo n) (intsD lo n) (fun _ => True) G H where
  go := fun i G' H' hi _ _ _ => by
    have : i < n := by simpa [intsD] using hi
    exact this
  yld := fun i d G' H' x H'' e hr' s _ y => by
    obtain ⟨rfl, rfl⟩ := y
    have : i < n := by
      have := (List.getElem?_eq_some_iff.mp e).1
      simpa [intsD] using this
    unfold intsD at e
    rw [List.getElem?_map, List.getElem?_range this] at e
    cases e
    exact ⟨rfl, hr', .refl⟩
  stop := fun G' H' _ _ _ => by show n ≤ (intsD lo n).length; simp [intsD]
def kRng1 (Q : List D → (DHp → Prop) → DHp → Prop) : List D → DHp → Prop := fun ds G => match ds with
  | [.int j] => -1000000 ≤ j ∧ j ≤ 1000000 ∧ Q (intsD 0 j.toNat) (fun _ => True) G
  | _ => False
def kRng2 (Q : List D → (DHp → Prop) → DHp → Prop) : List D → DHp → Prop := fun ds G => match ds with
  | [.int i, .int j] => (-1000000 ≤ i ∧ i ≤ 1000000 ∧ -1000000 ≤ j ∧ j ≤ 1000000) ∧ Q (intsD i (j - i).toNat) (fun _ => True) G
  | _ => False
@[simp] def wiRng1 (ws : WA) : WI := fun ρ G Q => ws ρ G (kRng1 Q)
@[simp] def wiRng2 (ws : WA) : WI := fun ρ G Q => ws ρ G (kRng2 Q)
theorem Reps.one_inv {K : W.Frag} {H : Hp} {d : D} {vs : List V} (r : Reps K H [d] vs) : ∃ v, vs = [v] ∧ Rep K H d v := by
  obtain ⟨v, r, rfl, h, e⟩ := r
  have e : r = [] := e
  subst e
  exact ⟨v, rfl, h⟩
theorem Reps.two_inv {K : W.Frag} {H : Hp} {d d' : D} {vs : List V} (r : Reps K H [d, d'] vs) : ∃ v v', vs = [v, v'] ∧ Rep K H d v ∧ Rep K H d' v' := by
  obtain ⟨v, r, rfl, h, r2⟩ := r
  obtain ⟨v', rfl, h'⟩ := Reps.one_inv r2
  exact ⟨v, v', rfl, h, h'⟩
theorem di_rng1 {p : Pos} (hg : Gl X "range") (hm : X.mg "range" = none) (ha : DA X G0 H0 [a] ws) (hs : starEach [a] X.env = [(false, eval a X.env)] := by rfl) : DI X G0 H0 tg (.Call (.Name "range" p) [a] [] pos) (wiRng1 ws) :=
  PI.to (pi_range1 hg hm ha hs) fun σ H R ⟨ρ, G, QD, pt, w, k⟩ => ⟨ρ, G, _, pt, w, fun ds G1 vs H1 h1 r1 s1 w1 => by
    unfold kRng1 at w1
    split at w1
    · obtain ⟨v, rfl, q⟩ := r1.one_inv
      cases q
      obtain ⟨b1, b2, w1⟩ := w1
      exact ⟨_, rfl, by omega, by omega, k _ _ G1 H1 _ h1 s1 it_rng w1⟩
    · exact w1.elim⟩
theorem di_rng2 {p : Pos} (hg : Gl X "range") (hm : X.mg "range" = none) (ha : DA X G0 H0 [a, b] ws) (hs : starEach [a, b] X.env = [(false, eval a X.env), (false, eval b X.env)] := by rfl) (hs2 : starEach [b] X.env = [(false, eval b X.env)] := by rfl) : DI X G0 H0 tg (.Call (.Name "range" p) [a, b] [] pos) (wiRng2 ws) :=
  PI.to (pi_range2 hg hm ha hs hs2) fun σ H R ⟨ρ, G, QD, pt, w, k⟩ => ⟨ρ, G, _, pt, w, fun ds G1 vs H1 h1 r1 s1 w1 => by
    unfold kRng2 at w1
    split at w1
    · obtain ⟨v, v', rfl, q, q'⟩ := r1.two_inv
      cases q; cases q'
      obtain ⟨⟨b1, b2, b3, b4⟩, w1⟩ := w1
      exact ⟨_, _, rfl, ⟨by omega, by omega, by omega, by omega⟩, k _ _ G1 H1 _ h1 s1 it_rng w1⟩
    · exact w1.elim⟩

/-! ### for -/
def forW (gd : DHp → Prop) (g : WG) (b : WS) (F : DEnds) : List D → Ro → DHp → Prop
  | [], ρ, G => gd G ∧ F.nx ρ G
  | x :: xs, ρ, G => gd G ∧ g x ρ G fun ρ1 G1 => b { nx := forW gd g b F xs, rt := F.rt, bk := F.nx, ct := forW gd g b F xs } ρ1 G1
@[simp] def wFor (wi : WI) (g : WG) (b : WS) : WS := fun F ρ G => wi ρ G fun xs gd G1 => forW gd g b F xs ρ G1
theorem lf_for {K : W.Frag} {wi : WI} {g : WG} {b : WS} {E : Ends} {σ : St} {H : Hp} (h : LfS K G0 H0 (wFor wi g b) E σ H) : tFor (LfI K G0 H0 wi) (LfG K G0 H0 g) (LfS K G0 H0 b) E σ H := by
  obtain ⟨ρ, G, F, pt, w, l⟩ := h
  refine ⟨ρ, G, _, pt, w, fun xs gd Ga Ha J ha sa it wa => ?_⟩
  refine ⟨fun i m σ H => m = xs.length - i ∧ i ≤ xs.length ∧ ∃ ρ G, Pt K G0 H0 ρ G σ H ∧ Stp Ga Ha G H ∧ forW gd g b F (xs.drop i) ρ G,
    ⟨_, rfl, Nat.zero_le _, ρ, Ga, pt.go ha sa, .refl, wa⟩, ?_⟩
  rintro i m σ1 H1 ⟨rfl, hi, ρ1, G1, pt1, s1, w1⟩
  by_cases hlt : i < xs.length
  · have e : xs.drop i = xs[i] :: xs.drop (i + 1) := List.drop_eq_getElem_cons hlt
    rw [e] at w1
    obtain ⟨g1, w1⟩ := w1
    refine .inr ⟨it.go i G1 H1 hlt pt1.hr s1 g1, fun σ' H' => xs.length - (i + 1) = xs.length - (i + 1) ∧ i + 1 ≤ xs.length ∧ ∃ ρ G, Pt K G0 H0 ρ G σ' H' ∧ Stp Ga Ha G H' ∧ forW gd g b F (xs.drop (i + 1)) ρ G,
      fun σ' H' n' => ⟨xs.length - (i + 1), by omega, n'⟩, fun x H' y => ?_⟩
    obtain ⟨rx, hr', s'⟩ := it.yld i xs[i] G1 H1 x H' (List.getElem?_eq_getElem hlt) pt1.hr s1 g1 y
    refine ⟨_, ρ1, G1, _, pt1.go hr' s', rx, w1, fun ρ2 G2 σ2 H2 p2 s2 w2 => ?_⟩
    have sA : Stp Ga Ha G2 H2 := (s1.trans s').trans s2
    have sL : Stp G H G2 H2 := sa.trans sA
    have nxt : ∀ ρ' G' σ' H', Pt K G0 H0 ρ' G' σ' H' → Stp G2 H2 G' H' → forW gd g b F (xs.drop (i + 1)) ρ' G' → xs.length - (i + 1) = xs.length - (i + 1) ∧ i + 1 ≤ xs.length ∧ ∃ ρ G, Pt K G0 H0 ρ G σ' H' ∧ Stp Ga Ha G H' ∧ forW gd g b F (xs.drop (i + 1)) ρ G :=
      fun ρ' G' σ' H' p s w => ⟨rfl, hlt, ρ', G', p, sA.trans s, w⟩
    exact ⟨ρ2, G2, _, p2, w2, nxt, fun d G' v H' h r s q => l.rt d G' v H' h r (sL.trans s) q, fun ρ' G' σ' H' p s q => l.nx ρ' G' σ' H' p (sL.trans s) q, nxt⟩
  · have e : i = xs.length := by omega
    subst e
    rw [List.drop_length] at w1
    exact .inl ⟨it.stop G1 H1 pt1.hr s1 w1.1, l.nx ρ1 G1 σ1 H1 pt1 (sa.trans s1) w1.2⟩
theorem ds_for {iter : Expr} {body : List Stmt} {wi : WI} {g : WG} {b : WS} (hp : PassesOwn (model X.prog X.w) X.A X.env X.xe) (hc : X.calm = true) (hi : DI X G0 H0 tg iter wi) (hg : DG X G0 H0 tg g) (hb : DSs X G0 H0 body b)
    (hs : ∀ x, foldedSetIterable iter X.env x = pure x := by intro _; rfl) : DS X G0 H0 (.For tg iter body [] pos) (wFor wi g b) := PS.to (ps_for hp hc hi hg hb hs) fun _ _ _ h => lf_for h

/-! ### while -/
/-- some number of turns is enough -/
def whW (c : WT) (b : WS) (F : DEnds) : Nat → Ro → DHp → Prop
  | 0, _, _ => False
  | n + 1, ρ, G => c ρ G fun k G1 => if k = true then b { nx := whW c b F n, rt := F.rt, bk := F.nx, ct := whW c b F n } ρ G1 else F.nx ρ G1
def wWhile (c : WT) (b : WS) : WS := fun F ρ G => ∃ n, whW c b F n ρ G
theorem lf_while {K : W.Frag} {c : WT} {b : WS} {E : Ends} {σ : St} {H : Hp} (h : LfS K G0 H0 (wWhile c b) E σ H) : tWhile (LfT K G0 H0 c) (LfS K G0 H0 b) E σ H := by
  obtain ⟨ρ, G, F, pt, ⟨n, w⟩, l⟩ := h
  refine ⟨fun m σ' H' => ∃ ρ' G', Pt K G0 H0 ρ' G' σ' H' ∧ Stp G H G' H' ∧ whW c b F m ρ' G', ⟨n, ρ, G, pt, .refl, w⟩, ?_⟩
  rintro m σ1 H1 ⟨ρ1, G1, p1, s1, w1⟩
  cases m with
  | zero => exact w1.elim
  | succ m =>
    refine ⟨ρ1, G1, _, p1, w1, fun k G2 H2 h2 s2 w2 => ?_⟩
    cases k with
    | true =>
      refine iteT ⟨fun σ' H' => ∃ ρ' G', Pt K G0 H0 ρ' G' σ' H' ∧ Stp G H G' H' ∧ whW c b F m ρ' G', fun σ' H' q => ⟨m, Nat.lt_succ_self _, q⟩, ρ1, G2, _, p1.go h2 s2, w2, ?_⟩
      have s12 := s1.trans s2
      exact ⟨fun ρ' G' σ' H' p s w => ⟨ρ', G', p, s12.trans s, w⟩, fun d G' v H' h r s q => l.rt d G' v H' h r (s12.trans s) q, fun ρ' G' σ' H' p s q => l.nx ρ' G' σ' H' p (s12.trans s) q, fun ρ' G' σ' H' p s w => ⟨ρ', G', p, s12.trans s, w⟩⟩
    | false => exact iteF (l.nx ρ1 G2 σ1 H2 (p1.go h2 s2) (s1.trans s2) w2)
theorem ds_while {c : Expr} {body : List Stmt} {wc : WT} {b : WS} (hp : PassesOwn (model X.prog X.w) X.A X.env X.xe) (hc : DT X G0 H0 c wc) (hb : DSs X G0 H0 body b) : DS X G0 H0 (.While c body [] pos) (wWhile wc b) := PS.to (ps_while hp hc hb) fun _ _ _ h => lf_while h

/-! ### comprehensions -/
@[simp] def wipeD (ρ : Ro) : List Nat → Ro
  | [] => ρ
  | v :: vs => (wipeD ρ vs).set v none
theorem wipeD_length (ρ : Ro) : ∀ vs : List Nat, (wipeD ρ vs).length = ρ.length
  | [] => rfl
  | v :: vs => by unfold wipeD; rw [List.length_set, wipeD_length ρ vs]
theorem wipeD_some {ρ : Ro} {i : Nat} {x : D} : ∀ {vs : List Nat}, (wipeD ρ vs)[i]? = some (some x) → ρ[i]? = some (some x) ∧ i ∉ vs
  | [], h => ⟨h, by simp⟩
  | v :: vs, h => by
    unfold wipeD at h
    by_cases hi : v = i
    · subst hi
      by_cases hv : v < (wipeD ρ vs).length
      · rw [List.getElem?_set_self hv] at h; cases h
      · rw [List.getElem?_eq_none (by simpa using hv)] at h; cases h
    · rw [List.getElem?_set_ne hi] at h
      obtain ⟨h1, h2⟩ := wipeD_some h
      exact ⟨h1, by simp only [List.mem_cons, not_or]; exact ⟨fun e => hi e.symm, h2⟩⟩
theorem wipe_keep {σ : St} {i : Nat} {x : V} : ∀ {vs : List Nat}, σ[i]? = some (some x) → i ∉ vs → (wipe σ vs)[i]? = some (some x)
  | [], h, _ => h
  | v :: vs, h, hi => by
    unfold wipe
    rw [List.getElem?_set_ne (fun e => hi (by simp [e]))]
    exact wipe_keep h fun z => hi (by simp [z])
theorem SlD.wipe {K : W.Frag} {H : Hp} {ρ : Ro} {σ : St} (s : SlD K H ρ σ) (vs : List Nat) : SlD K H (wipeD ρ vs) (L2.wipe σ vs) := ⟨by rw [wipeD_length, wipe_length, s.len], fun i d e => by
  obtain ⟨e1, hn⟩ := wipeD_some e
  obtain ⟨v, h, r⟩ := s.at_ i d e1
  exact ⟨v, wipe_keep h hn, r⟩⟩
theorem wipe_at {σ : St} {i : Nat} : ∀ {vs : List Nat}, i ∈ vs → i < σ.length → (wipe σ vs)[i]? = some none
  | v :: vs, h, hl => by
    unfold wipe
    by_cases e : v = i
    · subst e
      rw [List.getElem?_set_self (by rw [wipe_length]; exact hl)]
    · rw [List.getElem?_set_ne e]
      exact wipe_at ((List.mem_cons.mp h).resolve_left fun z => e z.symm) hl
theorem wipe_none {σ : St} {i : Nat} : ∀ {vs : List Nat}, i ∉ vs → (wipe σ vs)[i]? = σ[i]?
  | [], _ => rfl
  | v :: vs, h => by
    unfold wipe
    rw [List.getElem?_set_ne (fun e => h (by simp [e]))]
    exact wipe_none fun z => h (by simp [z])
theorem wipe_ext {σ τ : St} {vs : List Nat} (hl : σ.length = τ.length) (h : ∀ i, i ∉ vs → σ[i]? = τ[i]?) : wipe σ vs = wipe τ vs := by
  refine List.ext_getElem? fun i => ?_
  by_cases hi : i ∈ vs
  · by_cases hs : i < σ.length
    · rw [wipe_at hi hs, wipe_at hi (by omega)]
    · rw [List.getElem?_eq_none (by rw [wipe_length]; omega), List.getElem?_eq_none (by rw [wipe_length]; omega)]
  · rw [wipe_none hi, wipe_none hi, h i hi]
theorem wipe_set {σ : St} {i : Nat} {x : Option V} {vs : List Nat} (hi : i ∈ vs) : wipe ((wipe σ vs).set i x) vs = wipe σ vs := by
  refine wipe_ext (by rw [List.length_set, wipe_length]) fun j hj => ?_
  have ne : i ≠ j := fun e => hj (by rw [← e]; exact hi)
  rw [List.getElem?_set_ne ne, wipe_none hj]
/-- the loop of a comprehension: acc what is made so far -/
def lcW (gd : DHp → Prop) (g : WG) (wt : WT) (we : WE) (ρ : Ro) (Q : DK) : List D → List D → DHp → Prop
  | [], acc, G => gd G ∧ ∀ p, G p = none → Q (.ref p) (updD G p (.lst acc))
  | x :: xs, acc, G => gd G ∧ g x ρ G fun ρ1 G1 => wt ρ1 G1 fun b G2 => if b = true then we ρ1 G2 fun y G3 => acc.length < 1000000 ∧ lcW gd g wt we ρ Q xs (acc ++ [y]) G3 else lcW gd g wt we ρ Q xs acc G2
@[simp] def wLc (vs : List Nat) (wi : WI) (g : WG) (wt : WT) (we : WE) : WE := fun ρ G Q => wi ρ G fun xs gd G1 => lcW gd g wt we (wipeD ρ vs) Q xs [] G1
@[simp] def wtYes : WT := fun _ G Q => Q true G
/-- a clause's tests -/
abbrev DTs (X : Cx) (G0 : DHp) (H0 : Hp) (ifs : List Expr) (w : WT) : Prop := PTs X ifs (LfT X.K G0 H0 w)
theorem PTs.to {ifs : List Expr} {t t' : TT} (h : PTs X ifs t) (i : ∀ σ H Q, t' σ H Q → t σ H Q) : PTs X ifs t' := ⟨fun pins s σ H Q I q => h.run pins s σ H Q I (i _ _ _ q)⟩
theorem dts_nil : DTs X G0 H0 [] wtYes := PTs.to pts_nil fun σ H Q ⟨ρ, G, QD, pt, w, k⟩ => k true G H pt.hr .refl w
theorem dts_one {c : Expr} {w : WT} (h : DT X G0 H0 c w) : DTs X G0 H0 [c] w := pts_one h
/-- a target of a comprehension: it stores in the block's own slots alone -/
structure OwnG (K : W.Frag) (vs : List Nat) (t : TG) (g : WG) : Prop where
  to : ∀ (G0 : DHp) (H0 : Hp) (x : V) (d : D) (ρ : Ro) (G : DHp) (σ : St) (H : Hp) (QD : Ro → DHp → Prop) (Q : St → Hp → Prop), Pt K G0 H0 (wipeD ρ vs) G (wipe σ vs) H → Rep K H d x → g d (wipeD ρ vs) G QD →
    (∀ ρ' σ', Pt K G0 H0 ρ' G σ' H → QD ρ' G → wipe σ' vs = wipe σ vs → Q σ' H) → t x (wipe σ vs) H Q
theorem own_name {K : W.Frag} {vs : List Nat} {i : Nat} (hi : i ∈ vs) : OwnG K vs (gName i) (wgName i) := ⟨fun G0 H0 x d ρ G σ H QD Q pt r w k => k _ _ (pt.set i r) w (wipe_set hi)⟩
theorem own_two {K : W.Frag} {vs : List Nat} {i j : Nat} (hi : i ∈ vs) (hj : j ∈ vs) : OwnG K vs (gTup K 2 (gCons (gName i) (gCons (gName j) gNil))) (wgTup 2 (wgCons (wgName i) (wgCons (wgName j) wgNil))) := ⟨fun G0 H0 x d ρ G σ H QD Q pt r w k => by
  unfold wgTup at w
  split at w
  · rename_i ds
    obtain ⟨hl, w⟩ := w
    obtain ⟨a, us, rfl, h, rs⟩ := r
    match ds, hl with
    | [d1, d2], _ =>
      obtain ⟨v1, v2, rfl, r1, r2⟩ := rs.two_inv
      refine ⟨a, _, rfl, SqT.of h, rfl, v1, _, rfl, v2, _, rfl, rfl, k _ _ ((pt.set i r1).set j r2) w ?_⟩
      refine wipe_ext (by rw [List.length_set, List.length_set, wipe_length]) fun m hm => ?_
      have n1 : i ≠ m := fun e => hm (by rw [← e]; exact hi)
      have n2 : j ≠ m := fun e => hm (by rw [← e]; exact hj)
      rw [List.getElem?_set_ne n2, List.getElem?_set_ne n1, wipe_none hm]
  · exact w.elim⟩
theorem lf_lc {K : W.Frag} {vs : List Nat} {wi : WI} {t : TG} {g : WG} {wt : WT} {we : WE} {σ : St} {H : Hp} {Q : VK} (og : OwnG K vs t g) (h : LfE K G0 H0 (wLc vs wi g wt we) σ H Q) :
    tLc (LfI K G0 H0 wi) t (LfT K G0 H0 wt) (LfE K G0 H0 we) vs σ H Q := by
  obtain ⟨ρ, G, QD, pt, w, k⟩ := h
  refine ⟨ρ, G, _, pt, w, fun xs gd Ga Ha J ha sa it wa => ?_⟩
  intro Dp hD
  refine ⟨fun i m H => m = xs.length - i ∧ i ≤ xs.length ∧ ∃ G acc us, HR K G H ∧ Stp Ga Ha G H ∧ G Dp = none ∧ H Dp = some (.lst us) ∧ Reps K H acc us ∧ lcW gd g wt we (wipeD ρ vs) QD (xs.drop i) acc G,
    ⟨_, rfl, Nat.zero_le _, Ga, [], [], ha.newU hD, .newU hD, ha.free hD, upd_same, rfl, wa⟩, ?_⟩
  rintro i m H1 ⟨rfl, hi, G1, acc, us, h1, s1, gn, hl, ra, w1⟩
  have p1 : Pt K G0 H0 ρ G1 σ H1 := (pt.go ha sa).go h1 s1
  have pw : Pt K G0 H0 (wipeD ρ vs) G1 (wipe σ vs) H1 := ⟨p1.sl.wipe vs, p1.hr, p1.st⟩
  by_cases hlt : i < xs.length
  · have e : xs.drop i = xs[i] :: xs.drop (i + 1) := List.drop_eq_getElem_cons hlt
    rw [e] at w1
    obtain ⟨g1, w1⟩ := w1
    refine .inr ⟨it.go i G1 H1 hlt h1 s1 g1, fun H => xs.length - (i + 1) = xs.length - (i + 1) ∧ i + 1 ≤ xs.length ∧ ∃ G acc us, HR K G H ∧ Stp Ga Ha G H ∧ G Dp = none ∧ H Dp = some (.lst us) ∧ Reps K H acc us ∧ lcW gd g wt we (wipeD ρ vs) QD (xs.drop (i + 1)) acc G,
      fun H' n' => ⟨xs.length - (i + 1), by omega, n'⟩, fun x H' y => ?_⟩
    obtain ⟨rx, hr', s'⟩ := it.yld i xs[i] G1 H1 x H' (List.getElem?_eq_getElem hlt) h1 s1 g1 y
    refine og.to G0 H0 x xs[i] ρ G1 σ H' _ _ (pw.go hr' s') rx w1 fun ρ2 σ2 p2 w2 e2 => ⟨e2, ?_⟩
    refine ⟨ρ2, G1, _, p2, w2, fun b G3 H3 h3 s3 w3 => ?_⟩
    have s13 : Stp G1 H1 G3 H3 := s'.trans s3
    have keepD : ∀ {G' : DHp} {H' : Hp}, HR K G' H' → Stp G1 H1 G' H' → G' Dp = none ∧ H' Dp = some (.lst us) ∧ Reps K H' acc us := fun h s => ⟨s.hid Dp _ gn hl, s.keep Dp _ gn hl, ra.mono (s.mn h1)⟩
    cases b with
    | false =>
      obtain ⟨a1, a2, a3⟩ := keepD h3 s13
      exact iteF ⟨rfl, hlt, G3, acc, us, h3, s1.trans s13, a1, a2, a3, w3⟩
    | true =>
      refine iteT ⟨ρ2, G3, _, p2.go h3 s3, w3, fun y G4 v H4 h4 r4 s4 w4 => ?_⟩
      have s14 := s13.trans s4
      obtain ⟨a1, a2, a3⟩ := keepD h4 s14
      obtain ⟨hz, w4⟩ := w4
      have hz' : us.length < sizeLine := by rw [← a3.length, sizeLine_eq]; omega
      have nH : ∀ a o, G4 a = some o → a ≠ Dp := fun a o e z => by rw [z, a1] at e; cases e
      have mn : Mn K H4 (upd H4 Dp (.lst (us ++ [v]))) := by
        refine ⟨fun a ys h => ?_, fun a ys h => ?_⟩
        · have ne : ∀ o, H4 a = some o → o ≠ .lst us → a ≠ Dp := fun o e n z => by rw [z, a2] at e; cases e; exact n rfl
          rw [upd_ne (ne _ h (by intro z; cases z))]; exact h
        · have ne : ∀ o, H4 a = some o → o ≠ .lst us → a ≠ Dp := fun o e n z => by rw [z, a2] at e; cases e; exact n rfl
          rcases h with ⟨ob, h⟩ | h
          · exact .inl ⟨ob, by rw [upd_ne (ne _ h (by intro z; cases z))]; exact h⟩
          · exact .inr h
      have hr5 : HR K G4 (upd H4 Dp (.lst (us ++ [v]))) := fun a o e => (h4 a o e).mono mn (upd_ne (nH a o e))
      refine ⟨us, a2, hz', rfl, hlt, G4, acc ++ [y], us ++ [v], hr5, ?_, a1, upd_same, (a3.append (Reps.one r4)).mono mn, w4⟩
      have sA : Stp Ga Ha G4 H4 := s1.trans s14
      refine ⟨fun a o g h => ?_, sA.hid⟩
      by_cases z : a = Dp
      · rw [z, hD] at h; cases h
      · rw [upd_ne z]; exact sA.keep a o g h
  · have e : i = xs.length := by omega
    subst e
    rw [List.drop_length] at w1
    refine .inl ⟨it.stop G1 H1 h1 s1 w1.1, ?_⟩
    have hH : upd H1 Dp (.lst us) = H1 := by
      funext b
      by_cases z : b = Dp
      · subst z; rw [upd_same, hl]
      · rw [upd_ne z]
    refine k (.ref Dp) (updD G1 Dp (.lst acc)) _ H1 ?_ rfl ?_ (w1.2 Dp gn)
    · intro a o ea
      by_cases z : a = Dp
      · subst z; rw [updD_same] at ea; cases ea; exact ⟨us, hl, ra⟩
      · rw [updD_ne z] at ea; exact h1 a o ea
    · have sA : Stp G H G1 H1 := sa.trans s1
      refine ⟨sA.keep, fun a o g h => ?_⟩
      by_cases z : a = Dp
      · subst z
        have := sa.keep a o g h
        rw [hD] at this; cases this
      · rw [updD_ne z]; exact sA.hid a o g h
/-- the block's context -/
abbrev BlkX (X : Cx) (scope : Scope) (s : Shared) (H : Hp) (C : Addr) (cl : List (Str × Addr)) (fp : List Addr) : Cx := X.blk s H scope (compEnvC scope cl C X.env) fp
theorem de_lc {elt tg iter : Expr} {ifs : List Expr} {scope : Scope} {own : List (Str × Nat)} {wi : WI} {t : TG} {g : WG} {wt : WT} {we : WE} (hc : X.calm = true) (hN : X.N.Nodup) (hi : DI X G0 H0 tg iter wi) (ok : BlkOk X.N X.env.scope scope own) (og : OwnG X.K (own.map (·.2)) t g)
    (hg : ∀ s H C cl fp, PG (BlkX X scope s H C cl fp) tg t) (ht : ∀ s H C cl fp, DTs (BlkX X scope s H C cl fp) G0 H0 ifs wt) (he : ∀ s H C cl fp, DE (BlkX X scope s H C cl fp) G0 H0 elt we) (hs : ∀ x, foldedSetIterable iter X.env x = pure x := by intro _; rfl) :
    DE X G0 H0 (.ListComp elt [⟨tg, iter, ifs, 0⟩] scope pos) (wLc (own.map (·.2)) wi g wt we) := PE.to (pe_lc hc hN hi ok hg ht he hs) fun _ _ _ h => lf_lc og h
theorem ds_setLc {i : Nat} {y : Str} {py : Pos} {elt tg iter : Expr} {ifs : List Expr} {scope : Scope} {own : List (Str × Nat)} {spos : Pos} {wi : WI} {t : TG} {g : WG} {wt : WT} {we : WE} (hc : X.calm = true) (hN : X.N.Nodup) (hy : X.N[i]? = some y) (hyl : X.env.scope.names.lookup y = some .local)
    (hsw : swapsWith (.ListComp elt [⟨tg, iter, ifs, 0⟩] scope pos) (some (.Name y py)) spos.line X.env = pure true) (hi : DI X G0 H0 tg iter wi) (ok : BlkOk X.N X.env.scope scope own) (og : OwnG X.K (own.map (·.2)) t g)
    (hg : ∀ s H C cl fp, PG (BlkX X scope s H C cl fp) tg t) (ht : ∀ s H C cl fp, DTs (BlkX X scope s H C cl fp) G0 H0 ifs wt) (he : ∀ s H C cl fp, DE (BlkX X scope s H C cl fp) G0 H0 elt we) (hs : ∀ x, foldedSetIterable iter X.env x = pure x := by intro _; rfl) :
    DS X G0 H0 (.Assign [.Name y py] (.ListComp elt [⟨tg, iter, ifs, 0⟩] scope pos) spos) (wAsg (wLc (own.map (·.2)) wi g wt we) (wgName i)) :=
  PS.to (ps_setLc hc hN hy hyl hsw hi ok hg ht he hs) fun E σ H ⟨ρ, G, F, pt, w, l⟩ =>
    lf_lc og ⟨ρ, G, _, pt, w, fun d G1 v H1 h1 r1 s1 q => l.nx _ G1 _ H1 ((pt.go h1 s1).set i r1) s1 q⟩
end
end TC
set_option maxRecDepth 100000
/-! TC, part f: errors, the rule of a def, built-in calls. -/
namespace TC
open PySem PySem.Spec PyProof.Rows L2

section
variable {X : Cx} {G0 : DHp} {H0 : Hp} {pos : Pos} {e e2 a b tg : Expr} {es : List Expr} {we wa wb : WE} {ws : WA}

/-! ### raise, try -/
@[simp] def wRaise (U : WXD) (C : Addr) : WS := fun _ ρ G => U ρ ⟨C, none⟩ G
theorem ds_raise {U : WXD} {C : Addr} {bmB : List Value} {B newId initId : String} {x m : Str} {j : Nat} {p p2 p3 : Pos} (hc : X.calm = true) (tk : Takes X (LfX X.K G0 H0 U)) (F : ExcBaseFacts B newId initId bmB) (q : PySem.W.excIn X.K C bmB newId = true) (gC : X.mg x = some (.ref C)) (kC : PySem.W.keepIn X.K (.ref C) = true)
    (r : Raises X (.ref C)) (hg : Gl X x) (hdb : (x == ("__debug__" : Str)) = false := by decide) : DS X G0 H0 (.Raise (some (.Call (.Name x p) [.Constant (.str m) j p2] [] p3)) none pos) (wRaise U C) :=
  PS.to (ps_raise hc tk (pmk_own F q gC kC r hg hdb)) fun E σ H ⟨ρ, G, FF, pt, w, l⟩ => ⟨ρ, G, ⟨C, none⟩, pt, ⟨rfl, trivial⟩, w⟩

/-- try: body, except c: suite -/
def wTry1 (K : W.Frag) (c : Value) (ts : WS) (Uo : WXD) (tb : WXD → WS) : WS := fun F ρ G =>
  tb (fun ρ' x G' => ∃ b, PySem.W.exmOne K (.ref x.C) c = some b ∧ (b = true → ts F ρ' G') ∧ (b = false → Uo ρ' x G')) F ρ G
theorem ds_try1 {x : Str} {c : Value} {body suite : List Stmt} {b0 : Stmt} {np pos' : Pos} {tb : WXD → WS} {ts : WS} {Uo : WXD} (hs : X.stack = X.env :: X.outer) (hf : X.env.frame = some X.env.locals) (hc : Names X x c) (tk : Takes X (LfX X.K G0 H0 Uo))
    (hb : ∀ (G1 : DHp) (H1 : Hp) (U : WXD) (pn : List (Addr × Obj)) (xe : Value → Shared → Prop), Takes (X.tr pn xe) (LfX X.K G1 H1 U) → PassesOwn (model X.prog X.w) X.A X.env xe → DSs (X.tr pn xe) G1 H1 body (tb U))
    (hsu : ∀ (a : Addr) (pn : List (Addr × Obj)), DSs (X.suite a pn) G0 H0 (b0 :: suite) ts) :
    DS X G0 H0 (.Try body [.ExceptHandler (some (.Name x np)) none (b0 :: suite) pos'] [] [] pos) (wTry1 X.K c ts Uo tb) := by
  refine PS.to (ps_try_only (tb := fun W E σ H => ∃ U G1 H1, (∀ cls d σ' H', LfX X.K G1 H1 U cls d σ' H' → W cls d σ' H') ∧ LfS X.K G1 H1 (tb U) E σ H) (ts := fun _ _ _ => LfS X.K G0 H0 ts) hs hf hc tk
    (fun W pn xe t po => ⟨fun pins s σ H D I ⟨U, G1, H1, hU, q⟩ => (hb G1 H1 U pn xe (t.imp hU) po).run pins s σ H D I q⟩) (fun a oe cls d pn _ _ => hsu a _)) ?_
  intro E σ H ⟨ρ, G, F, pt, w, l⟩
  refine ⟨fun ρ' x G' => ∃ b, PySem.W.exmOne X.K (.ref x.C) c = some b ∧ (b = true → ts F ρ' G') ∧ (b = false → Uo ρ' x G'), G, H, fun cls d σ' H' hx => ?_, ρ, G, F, ⟨pt.sl, pt.hr, .refl⟩, w, ?_⟩
  · obtain ⟨ρ', G', xx, p', xr, b, e, h1, h2⟩ := hx
    obtain ⟨ec, xr'⟩ := id xr
    refine ⟨b, by rw [ec]; exact e, fun hb a _ => ?_, fun hb => ?_⟩
    · exact ⟨ρ', G', F, ⟨p'.sl, p'.hr, pt.st.trans p'.st⟩, h1 hb, l.go p'.st⟩
    · exact ⟨ρ', G', xx, ⟨p'.sl, p'.hr, pt.st.trans p'.st⟩, xr, h2 hb⟩
  · exact ⟨fun ρ' G' σ' H' p s q => l.nx ρ' G' σ' H' ⟨p.sl, p.hr, pt.st.trans p.st⟩ s q, l.rt, fun ρ' G' σ' H' p s q => l.bk ρ' G' σ' H' ⟨p.sl, p.hr, pt.st.trans p.st⟩ s q, fun ρ' G' σ' H' p s q => l.ct ρ' G' σ' H' ⟨p.sl, p.hr, pt.st.trans p.st⟩ s q⟩
end

/-! ### a def's body keeps its promise -/
abbrev startD (N : List Str) (ds : List D) : Ro := ds.map some ++ List.replicate (N.length - ds.length) none
theorem Reps.start {K : W.Frag} {H : Hp} {N : List Str} {ds : List D} {vs : List V} (r : Reps K H ds vs) : SlD K H (startD N ds) (L2.start N vs) := by
  have hl := r.length
  refine ⟨by simp [startD, L2.start, hl], fun i d e => ?_⟩
  unfold startD at e
  unfold L2.start
  by_cases hi : i < ds.length
  · rw [List.getElem?_append_left (by simpa using hi), List.getElem?_map] at e
    cases e2 : ds[i]? with
    | none => rw [e2] at e; cases e
    | some d' =>
      rw [e2] at e
      cases e
      obtain ⟨v, h, q⟩ := r.get e2
      exact ⟨v, by rw [List.getElem?_append_left (by simp; omega), List.getElem?_map, h]; rfl, q⟩
  · rw [List.getElem?_append_right (by simpa using hi), List.getElem?_replicate] at e
    split at e <;> cases e
abbrev CxD (P : Program) (w : World) (K : W.Frag) (mg : Str → Option Value) (base : Heap) (N : List Str) (qual : Str) (scope : Scope) (f : Addr) (cd : Value) (A : Around) (outer : List Env) (s : Shared) (H : Hp) (E : XK) : Cx := cxOf (L2.CX P w) P w K mg base N qual scope f cd A outer s H E
theorem def_ok {P : Program} {w : World} {K : W.Frag} {mg : Str → Option Value} {base : Heap} {x qual : Str} {params : Arguments} {body : List Stmt} {scope : Scope} {dvs : List V} {kws : List (Str × V)} {f : Addr} {fd : FuncData} {N ps : List Str} {k : Nat} {sp : DSp} {wb : DXK → WS}
    (F : FunD K x qual params body scope dvs kws f fd) (S : FnScope N ps scope) (len : ∀ ds G Q E, sp ds G Q E → ds.length = ps.length)
    (hbody : ∀ (cdv : Value) (A : Around) (outer : List Env) (s : Shared) (H : Hp) (E : XK) (G0 : DHp) (ED : DXK), Room k (A.deeper (envOfC qual scope s.heap.objs.size f cdv)) →
      Takes (CxD P w K mg base N qual scope f cdv A outer s H E) (LfX K G0 H fun _ => ED) → PassesOwn (model P w) (A.deeper (envOfC qual scope s.heap.objs.size f cdv)) (envOfC qual scope s.heap.objs.size f cdv) (CxD P w K mg base N qual scope f cdv A outer s H E).xe →
      DSs (CxD P w K mg base N qual scope f cdv A outer s H E) G0 H body (wb ED))
    (spec : ∀ ds G Q E, sp ds G Q E → wb E { nx := fun _ G' => Q .non G', rt := Q } (startD N ds) G) : DFn P w K mg base (k + 1) f fd ps sp := by
  refine F.ok S (fun vs H Q E ⟨ds, G, QD, ED, r, _, h, _⟩ => by rw [← r.length]; exact len _ _ _ _ h) fun cdv A outer s H vs Q E hr h => ?_
  obtain ⟨ds, G, QD, ED, r, hG, h, kQ, kE⟩ := h
  refine ⟨_, hbody cdv A outer s H E G ED hr (Takes.imp (takes_of rfl rfl rfl rfl) fun c d σ H' ⟨ρ, G', xx, pt, xr, q⟩ => kE xx G' c d H' pt.hr xr pt.st q) (passes_of rfl), startD N ds, G, { nx := fun _ G' => QD .non G', rt := QD }, ⟨r.start, hG, .refl⟩, spec ds G QD ED h, ?_⟩
  exact ⟨fun ρ' G' σ' H' p s q => kQ .non G' .non H' p.hr rfl s q, fun d G' v H' h r s q => kQ d G' v H' h r s q, fun _ _ _ _ _ _ q => q.elim, fun _ _ _ _ _ _ q => q.elim⟩
theorem DFn.mono {P : Program} {w : World} {K : W.Frag} {mg : Str → Option Value} {base : Heap} {j k : Nat} {f : Addr} {fd : FuncData} {ps : List Str} {sp : DSp} (F : DFn P w K mg base j f fd ps sp) (h : j ≤ k) : DFn P w K mg base k f fd ps sp := FnOk.mono F h
theorem DFn.imp {P : Program} {w : World} {K : W.Frag} {mg : Str → Option Value} {base : Heap} {k : Nat} {f : Addr} {fd : FuncData} {ps : List Str} {sp sp' : DSp} (F : DFn P w K mg base k f fd ps sp) (h : ∀ ds G Q E, sp' ds G Q E → sp ds G Q E) : DFn P w K mg base k f fd ps sp' :=
  FnOk.imp F fun vs H Q E ⟨ds, G, QD, ED, r, hG, q, k1, k2⟩ => ⟨ds, G, QD, ED, r, hG, h _ _ _ _ q, k1, k2⟩

/-! ### built-in calls -/
section
variable {K : W.Frag}
theorem Reps.three_inv {H : Hp} {d d' d'' : D} {vs : List V} (r : Reps K H [d, d', d''] vs) : ∃ v v' v'', vs = [v, v', v''] ∧ Rep K H d v ∧ Rep K H d' v' ∧ Rep K H d'' v'' := by
  obtain ⟨v, r, rfl, h, r2⟩ := r
  obtain ⟨v', v'', rfl, h', h''⟩ := Reps.two_inv r2
  exact ⟨v, v', v'', rfl, h, h', h''⟩
def dLen : WRA := fun ds G Q => match ds with
  | [.str z] => z.length ≤ 1000000 ∧ Q (.int z.length) G
  | [.tup xs] => Q (.int xs.length) G
  | [.rl xs] => Q (.int xs.length) G
  | [.ref a] => ∃ xs, G a = some (.lst xs) ∧ Q (.int xs.length) G
  | _ => False
theorem cd_len : CaD K (fun xs H Q => ∃ x n, xs = [x] ∧ LenV K x H n ∧ Q (.int n) H) dLen := by
  intro xs vs G H Q QD hr r w k
  unfold dLen at w
  split at w
  · obtain ⟨v, rfl, q⟩ := r.one_inv
    cases q
    exact ⟨_, _, rfl, ⟨big_line w.1, rfl⟩, k (.int _) G _ H hr rfl .refl w.2⟩
  · obtain ⟨v, rfl, q⟩ := r.one_inv
    obtain ⟨a, us, rfl, h, rs⟩ := q
    exact ⟨_, us.length, rfl, .inr ⟨us, SqT.of h, rfl⟩, by rw [← rs.length]; exact k (.int _) G _ H hr rfl .refl w⟩
  · obtain ⟨v, rfl, q⟩ := r.one_inv
    obtain ⟨a, us, rfl, h, rs⟩ := q
    exact ⟨_, us.length, rfl, .inl ⟨us, h.sq, rfl⟩, by rw [← rs.length]; exact k (.int _) G _ H hr rfl .refl w⟩
  · obtain ⟨v, rfl, q⟩ := r.one_inv
    cases q
    obtain ⟨xs, ea, w⟩ := w
    obtain ⟨us, h, rs⟩ := hr _ _ ea
    exact ⟨_, us.length, rfl, .inl ⟨us, SqL.of h, rfl⟩, by rw [← rs.length]; exact k (.int _) G _ H hr rfl .refl w⟩
  · exact w.elim

/-- the built-in classes that isinstance is asked for -/
inductive Kd where
  | int | bool | str | tup | lst
  deriving DecidableEq
def Kd.name : Kd → String
  | .int => "int" | .bool => "bool" | .str => "str" | .tup => "tuple" | .lst => "list"
def isK (k : Kd) (G : DHp) : D → Option Bool
  | .non => some false
  | .bl _ => some (decide (k = .int) || decide (k = .bool))
  | .int _ => some (decide (k = .int))
  | .str _ => some (decide (k = .str))
  | .tup _ => some (decide (k = .tup))
  | .rl _ => some (decide (k = .lst))
  | .ref a => match G a with
    | some (.lst _) => some (decide (k = .lst))
    | some (.dK _) => some false
    | some (.dT _) => some false
    | _ => none
  | .ty _ => none
def oB (o : Option Bool) (G : DHp) (Q : DK) : Prop := match o with
  | some b => Q (.bl b) G
  | none => False
def dIsi : WRA := fun ds G Q => match ds with
  | [x, .ty n] => ∃ k : Kd, n = k.name ∧ oB (isK k G x) G Q
  | _ => False
theorem isK_ok {k : Kd} {G : DHp} {H : Hp} {x : D} {v : V} {b : Bool} (hr : HR K G H) (r : Rep K H x v) (e : isK k G x = some b) : ∃ t, TyX K H v (.type t) ∧ kitB t k.name = some b := by
  cases x with
  | non => cases r; cases e; exact ⟨_, .base .non, by cases k <;> decide +kernel⟩
  | bl y => cases r; cases e; exact ⟨_, .base (.bl y), by cases k <;> decide +kernel⟩
  | int y => cases r; cases e; exact ⟨_, .base (.int y), by cases k <;> decide +kernel⟩
  | str y => cases r; cases e; exact ⟨_, .base (.str y), by cases k <;> decide +kernel⟩
  | tup ds =>
    obtain ⟨a, vs, rfl, h, rs⟩ := r
    cases e
    exact ⟨_, .base (.tup h), by cases k <;> decide +kernel⟩
  | rl ds =>
    obtain ⟨a, vs, rfl, h, rs⟩ := r
    cases e
    rcases h with ⟨o, h⟩ | ⟨o, its, n, h, hc, _⟩
    · exact ⟨_, .base (.frz h), by cases k <;> decide +kernel⟩
    · exact ⟨_, .kList h hc, by cases k <;> decide +kernel⟩
  | ref a =>
    cases r
    unfold isK at e
    simp only at e
    split at e
    · rename_i ea
      cases e
      obtain ⟨vs, h, _⟩ := hr _ _ ea
      exact ⟨_, .base (.lst h), by cases k <;> decide +kernel⟩
    · rename_i ea
      cases e
      obtain ⟨vs, h, _⟩ := hr _ _ ea
      exact ⟨_, .base (.dK h), by cases k <;> decide +kernel⟩
    · rename_i ea
      cases e
      obtain ⟨vs, h, _⟩ := hr _ _ ea
      exact ⟨_, .base (.dT h), by cases k <;> decide +kernel⟩
    · cases e
  | ty n => cases e
theorem cd_isi : CaD K (rIsi K) dIsi := by
  intro xs vs G H Q QD hr r w k
  unfold dIsi at w
  split at w
  · obtain ⟨v, v', rfl, q, q'⟩ := r.two_inv
    cases q'
    obtain ⟨kd, rfl, w⟩ := w
    unfold oB at w
    split at w
    · rename_i b e
      obtain ⟨t, ty, kb⟩ := isK_ok hr q e
      exact ⟨v, _, .type t, .type kd.name, b, rfl, .ty _, ty, kit_ty kb, k (.bl b) G _ H hr rfl .refl w⟩
    · exact w.elim
  · exact w.elim
/-- isinstance(x, T) -/
@[simp] def wIsi (k : Kd) (we : WE) : WE := fun ρ G Q => we ρ G fun x G1 => oB (isK k G1 x) G1 Q
theorem de_isi {X : Cx} {G0 : DHp} {H0 : Hp} {pos p p2 : Pos} {e : Expr} {we : WE} {T : Str} (k : Kd) (hg : Gl X "isinstance") (hm : X.mg "isinstance" = none) (he : DE X G0 H0 e we) (hgT : Gl X T) (hmT : X.mg T = none) (hvT : bootBuiltins T = some (.type k.name)) (hn : T ≠ "__name__" := by decide) (hd : (T == ("__debug__" : Str)) = false := by decide)
    (hs : starEach [e, .Name T p2] X.env = (false, eval e X.env) :: starEach [.Name T p2] X.env := by rfl) (hs2 : starEach [.Name T p2] X.env = (false, eval (.Name T p2) X.env) :: starEach [] X.env := by rfl) (hpl : (backTo pos (starEach [.Name T p2] X.env)).any (·.1) = false := by rfl) :
    DE X G0 H0 (.Call (.Name "isinstance" p) [e, .Name T p2] [] pos) (wIsi k we) :=
  PE.to (de_callB call_isi cd_isi hg hm (by decide +kernel) (da_cons he (da_cons (de_bltn (v := .ty k.name) (d := .ty k.name) hgT hmT hvT rfl (fun _ => rfl) hn hd) da_nil hs2) hs) (by decide) (by decide) hs hpl) fun σ H Q ⟨ρ, G, QD, pt, w, k'⟩ =>
    ⟨ρ, G, QD, pt, show we ρ G (fun x G1 => dIsi [x, .ty k.name] G1 QD) from (by
      have : (fun x G1 => dIsi [x, .ty k.name] G1 QD) = fun x G1 => oB (isK k G1 x) G1 QD := by
        funext x G1
        refine propext ⟨fun ⟨k2, e, h⟩ => ?_, fun h => ⟨k, rfl, h⟩⟩
        have : k2 = k := by
          revert e
          cases k <;> cases k2 <;> first | (intro _; rfl) | (intro e; exact absurd e (by decide))
        subst this
        exact h
      rw [this]
      exact w), k'⟩
def dInt1 : WRA := fun ds G Q => match ds with
  | [.int i] => Q (.int i) G
  | [.bl b] => Q (.int (if b then 1 else 0)) G
  | _ => False
theorem cd_int1 : CaD K (fun xs H Q => (∃ i, xs = [.int i] ∧ Q (.int i) H) ∨ ∃ k, xs = [.bl k] ∧ Q (.int (if k then 1 else 0)) H) dInt1 := by
  intro xs vs G H Q QD hr r w k
  unfold dInt1 at w
  split at w
  · obtain ⟨v, rfl, q⟩ := r.one_inv
    cases q
    exact .inl ⟨_, rfl, k (.int _) G _ H hr rfl .refl w⟩
  · obtain ⟨v, rfl, q⟩ := r.one_inv
    cases q
    exact .inr ⟨_, rfl, k (.int _) G _ H hr rfl .refl w⟩
  · exact w.elim
def dMax2 : WRA := fun ds G Q => match ds with
  | [.int i, .int j] => Q (.int (if j > i then j else i)) G
  | _ => False
theorem cd_max2 : CaD K (fun xs H Q => ∃ i j, xs = [.int i, .int j] ∧ Q (.int (if j > i then j else i)) H) dMax2 := by
  intro xs vs G H Q QD hr r w k
  unfold dMax2 at w
  split at w
  · obtain ⟨v, v', rfl, q, q'⟩ := r.two_inv
    cases q; cases q'
    exact ⟨_, _, rfl, k (.int _) G _ H hr rfl .refl w⟩
  · exact w.elim
def dMin2 : WRA := fun ds G Q => match ds with
  | [.int i, .int j] => Q (.int (if j < i then j else i)) G
  | _ => False
theorem cd_min2 : CaD K (fun xs H Q => ∃ i j, xs = [.int i, .int j] ∧ Q (.int (if j < i then j else i)) H) dMin2 := by
  intro xs vs G H Q QD hr r w k
  unfold dMin2 at w
  split at w
  · obtain ⟨v, v', rfl, q, q'⟩ := r.two_inv
    cases q; cases q'
    exact ⟨_, _, rfl, k (.int _) G _ H hr rfl .refl w⟩
  · exact w.elim
def dAll : WRA := fun ds G Q => match ds with
  | [.ref a] => ∃ bs : List Bool, G a = some (.lst (bs.map .bl)) ∧ Q (.bl (bs.all id)) G
  | _ => False
theorem cd_all : CaD K (rAll K) dAll := by
  intro xs vs G H Q QD hr r w k
  unfold dAll at w
  split at w
  · obtain ⟨v, rfl, q⟩ := r.one_inv
    cases q
    obtain ⟨bs, ea, w⟩ := w
    obtain ⟨us, h, rs⟩ := hr _ _ ea
    cases rs.bls
    exact ⟨_, bs, rfl, SqL.of h, k (.bl _) G _ H hr rfl .refl w⟩
  · exact w.elim
def dAny : WRA := fun ds G Q => match ds with
  | [.ref a] => ∃ bs : List Bool, G a = some (.lst (bs.map .bl)) ∧ Q (.bl (bs.any id)) G
  | _ => False
theorem cd_any : CaD K (rAny K) dAny := by
  intro xs vs G H Q QD hr r w k
  unfold dAny at w
  split at w
  · obtain ⟨v, rfl, q⟩ := r.one_inv
    cases q
    obtain ⟨bs, ea, w⟩ := w
    obtain ⟨us, h, rs⟩ := hr _ _ ea
    cases rs.bls
    exact ⟨_, bs, rfl, SqL.of h, k (.bl _) G _ H hr rfl .refl w⟩
  · exact w.elim
def dSum : WRA := fun ds G Q => match ds with
  | [.ref a] => ∃ ns : List Int, G a = some (.lst (ns.map .int)) ∧ Q (.int ns.sum) G
  | _ => False
theorem cd_sum : CaD K (rSum K) dSum := by
  intro xs vs G H Q QD hr r w k
  unfold dSum at w
  split at w
  · obtain ⟨v, rfl, q⟩ := r.one_inv
    cases q
    obtain ⟨ns, ea, w⟩ := w
    obtain ⟨us, h, rs⟩ := hr _ _ ea
    cases rs.ints
    exact ⟨_, ns, rfl, SqL.of h, k (.int _) G _ H hr rfl .refl w⟩
  · exact w.elim
def dList : WRA := fun ds G Q => match ds with
  | [d] => match itemsD G d with
    | some xs => ∀ p, G p = none → Q (.ref p) (updD G p (.lst xs))
    | none => False
  | _ => False
theorem cd_list : CaD K (fun xs H Q => ∃ p ys, xs = [.ref p] ∧ (SqL K H p ys ∨ SqT K H p ys) ∧ ∀ l, H l = none → Q (.ref l) (upd H l (.lst ys))) dList := by
  intro xs vs G H Q QD hr r w k
  unfold dList at w
  split at w
  · obtain ⟨v, rfl, q⟩ := r.one_inv
    split at w
    · rename_i ys e
      obtain ⟨p, us, rfl, h, rs⟩ := items_sq hr q e
      exact ⟨p, us, rfl, h, fun l hl => k (.ref l) _ _ _ (hr.new hl (o := .lst ys) ⟨us, upd_same, rs.mono (mn_upd hl)⟩) rfl (.new hr hl) (w l (hr.free hl))⟩
    · exact w.elim
  · exact w.elim
def dTuple : WRA := fun ds G Q => match ds with
  | [d] => match itemsD G d with
    | some xs => Q (.tup xs) G
    | none => False
  | _ => False
theorem cd_tuple : CaD K (fun xs H Q => ∃ p ys, xs = [.ref p] ∧ ((SqL K H p ys ∧ ∀ l, H l = none → Q (.ref l) (upd H l (.tup ys))) ∨ (SqT K H p ys ∧ Q (.ref p) H))) dTuple := by
  intro xs vs G H Q QD hr r w k
  unfold dTuple at w
  split at w
  · obtain ⟨v, rfl, q⟩ := r.one_inv
    split at w
    · rename_i d _ ys e
      cases d with
      | tup xs =>
        cases e
        obtain ⟨p, us, rfl, h, rs⟩ := id q
        exact ⟨p, us, rfl, .inr ⟨SqT.of h, k (.tup ys) G _ H hr q .refl w⟩⟩
      | rl xs =>
        cases e
        obtain ⟨p, us, rfl, h, rs⟩ := q
        exact ⟨p, us, rfl, .inl ⟨h.sq, fun l hl => k (.tup ys) G _ _ (hr.newU hl) ⟨l, us, rfl, upd_same, rs.mono (mn_upd hl)⟩ (.newU hl) w⟩⟩
      | ref a =>
        cases q
        unfold itemsD at e
        simp only at e
        split at e
        · rename_i ea
          cases e
          obtain ⟨us, h, rs⟩ := hr _ _ ea
          exact ⟨a, us, rfl, .inl ⟨SqL.of h, fun l hl => k (.tup ys) G _ _ (hr.newU hl) ⟨l, us, rfl, upd_same, rs.mono (mn_upd hl)⟩ (.newU hl) w⟩⟩
        · cases e
      | _ => cases e
    · exact w.elim
  · exact w.elim
/-- the greatest, the least of a row -/
def maxL : List Int → Int
  | [] => 0
  | [x] => x
  | x :: xs => if maxL xs < x then x else maxL xs
def minL : List Int → Int
  | [] => 0
  | [x] => x
  | x :: xs => if x < minL xs then x else minL xs
theorem maxL_spec : ∀ {ns : List Int}, ns ≠ [] → maxL ns ∈ ns ∧ ∀ y ∈ ns, y ≤ maxL ns
  | [x], _ => by simp [maxL]
  | x :: y :: xs, _ => by
    obtain ⟨h1, h2⟩ := maxL_spec (ns := y :: xs) (by simp)
    unfold maxL
    split
    · rename_i h
      refine ⟨by simp, fun z hz => ?_⟩
      rcases List.mem_cons.mp hz with rfl | hz
      · exact Int.le_refl _
      · exact Int.le_of_lt (Int.lt_of_le_of_lt (h2 z hz) h)
    · rename_i h
      refine ⟨List.mem_cons_of_mem _ h1, fun z hz => ?_⟩
      rcases List.mem_cons.mp hz with rfl | hz
      · omega
      · exact h2 z hz
theorem minL_spec : ∀ {ns : List Int}, ns ≠ [] → minL ns ∈ ns ∧ ∀ y ∈ ns, minL ns ≤ y
  | [x], _ => by simp [minL]
  | x :: y :: xs, _ => by
    obtain ⟨h1, h2⟩ := minL_spec (ns := y :: xs) (by simp)
    unfold minL
    split
    · rename_i h
      refine ⟨by simp, fun z hz => ?_⟩
      rcases List.mem_cons.mp hz with rfl | hz
      · exact Int.le_refl _
      · exact Int.le_of_lt (Int.lt_of_lt_of_le h (h2 z hz))
    · rename_i h
      refine ⟨List.mem_cons_of_mem _ h1, fun z hz => ?_⟩
      rcases List.mem_cons.mp hz with rfl | hz
      · omega
      · exact h2 z hz
def dMaxL : WRA := fun ds G Q => match ds with
  | [.ref a] => ∃ ns : List Int, G a = some (.lst (ns.map .int)) ∧ ns ≠ [] ∧ Q (.int (maxL ns)) G
  | _ => False
theorem cd_maxL : CaD K (rMax K) dMaxL := by
  intro xs vs G H Q QD hr r w k
  unfold dMaxL at w
  split at w
  · obtain ⟨v, rfl, q⟩ := r.one_inv
    cases q
    obtain ⟨ns, ea, hne, w⟩ := w
    obtain ⟨us, h, rs⟩ := hr _ _ ea
    cases rs.ints
    obtain ⟨h1, h2⟩ := maxL_spec hne
    refine ⟨_, ns, rfl, SqL.of h, List.length_pos_iff.mpr hne, fun m hm hle => ?_⟩
    have : m = maxL ns := Int.le_antisymm (h2 m hm) (hle _ h1)
    subst this
    exact k (.int _) G _ H hr rfl .refl w
  · exact w.elim
def dMinL : WRA := fun ds G Q => match ds with
  | [.ref a] => ∃ ns : List Int, G a = some (.lst (ns.map .int)) ∧ ns ≠ [] ∧ Q (.int (minL ns)) G
  | _ => False
theorem cd_minL : CaD K (rMin K) dMinL := by
  intro xs vs G H Q QD hr r w k
  unfold dMinL at w
  split at w
  · obtain ⟨v, rfl, q⟩ := r.one_inv
    cases q
    obtain ⟨ns, ea, hne, w⟩ := w
    obtain ⟨us, h, rs⟩ := hr _ _ ea
    cases rs.ints
    obtain ⟨h1, h2⟩ := minL_spec hne
    refine ⟨_, ns, rfl, SqL.of h, List.length_pos_iff.mpr hne, fun m hm hle => ?_⟩
    have : m = minL ns := Int.le_antisymm (hle _ h1) (h2 m hm)
    subst this
    exact k (.int _) G _ H hr rfl .refl w
  · exact w.elim
end
end TC
set_option maxRecDepth 100000
/-! TC, part g: the values' functions at values of known form. -/
namespace TC
open PySem PySem.Spec PyProof.Rows L2
section
variable {G : DHp} {Q : DK} {i j : Int} {a b z : Str} {xs ys : List D} {x y : D} {p q : Addr}
@[simp] theorem kB_bl {Q : Bool → DHp → Prop} {c : Bool} : kB Q (.bl c) G = Q c G := rfl
@[simp] theorem kI_int {Q : Option Int → DHp → Prop} : kI Q (.int i) G = Q (some i) G := rfl
@[simp] theorem kTupI_tup {Q : List D → (DHp → Prop) → DHp → Prop} : kTupI Q (.tup xs) G = Q xs (fun _ => True) G := rfl
@[simp] theorem kLstI_ref {Q : List D → (DHp → Prop) → DHp → Prop} : kLstI Q (.ref p) G = ∃ xs, G p = some (.lst xs) ∧ Q xs (fun G' => G' p = some (.lst xs)) G := rfl
@[simp] theorem kStrI_str {Q : List D → (DHp → Prop) → DHp → Prop} : kStrI Q (.str z) G = Q (z.cps.toList.map fun c => .str ⟨#[c]⟩) (fun _ => True) G := rfl
@[simp] theorem kRng1_int {Q : List D → (DHp → Prop) → DHp → Prop} : kRng1 Q [.int j] G = (-1000000 ≤ j ∧ j ≤ 1000000 ∧ Q (intsD 0 j.toNat) (fun _ => True) G) := rfl
@[simp] theorem kRng2_int {Q : List D → (DHp → Prop) → DHp → Prop} : kRng2 Q [.int i, .int j] G = ((-1000000 ≤ i ∧ i ≤ 1000000 ∧ -1000000 ≤ j ∧ j ≤ 1000000) ∧ Q (intsD i (j - i).toNat) (fun _ => True) G) := rfl
@[simp] theorem dAdd_int : dAdd (.int i) (.int j) G Q = Q (.int (i + j)) G := rfl
@[simp] theorem dAdd_str : dAdd (.str a) (.str b) G Q = (a.length + b.length ≤ 1000000 ∧ Q (.str (a ++ b)) G) := rfl
@[simp] theorem dAdd_tup : dAdd (.tup xs) (.tup ys) G Q = (xs.length + ys.length ≤ 1000000 ∧ Q (.tup (xs ++ ys)) G) := rfl
@[simp] theorem dAdd_ref : dAdd (.ref p) (.ref q) G Q = ∃ xs ys, G p = some (.lst xs) ∧ G q = some (.lst ys) ∧ xs.length + ys.length ≤ 1000000 ∧ ∀ r, G r = none → Q (.ref r) (updD G r (.lst (xs ++ ys))) := rfl
@[simp] theorem dInt2_int {C : Int → Int → Prop} {g : Int → Int → D} : dInt2 C g (.int i) (.int j) G Q = (C i j ∧ Q (g i j) G) := rfl
@[simp] theorem dInt0_int {g : Int → Int → D} : dInt0 g (.int i) (.int j) G Q = Q (g i j) G := rfl
@[simp] theorem dOrd_int {pp : Int → Int → Bool} {qq : List Nat → List Nat → Bool} : dOrd pp qq (.int i) (.int j) G Q = Q (.bl (pp i j)) G := rfl
@[simp] theorem dOrd_str {pp : Int → Int → Bool} {qq : List Nat → List Nat → Bool} : dOrd pp qq (.str a) (.str b) G Q = Q (.bl (qq a.cps.toList b.cps.toList)) G := rfl
@[simp] theorem dIsN_non {n : Bool} : dIsN n x .non G Q = Q (.bl (n != isNon x)) G := rfl
@[simp] theorem isNon_non : isNon .non = true := rfl
@[simp] theorem isNon_int : isNon (.int i) = false := rfl
@[simp] theorem isNon_bl {c : Bool} : isNon (.bl c) = false := rfl
@[simp] theorem isNon_str : isNon (.str a) = false := rfl
@[simp] theorem isNon_tup : isNon (.tup xs) = false := rfl
@[simp] theorem isNon_ref : isNon (.ref p) = false := rfl
@[simp] theorem isNon_rl : isNon (.rl xs) = false := rfl
@[simp] theorem dEq_int : dEq (.int i) (.int j) G Q = Q (.bl (i == j)) G := rfl
@[simp] theorem dEq_str : dEq (.str a) (.str b) G Q = Q (.bl (a == b)) G := rfl
@[simp] theorem dEq_bl {c d : Bool} : dEq (.bl c) (.bl d) G Q = Q (.bl (c == d)) G := rfl
@[simp] theorem dNe_int : dNe (.int i) (.int j) G Q = Q (.bl (!(i == j))) G := rfl
@[simp] theorem dNe_str : dNe (.str a) (.str b) G Q = Q (.bl (!(a == b))) G := rfl
@[simp] theorem dNe_bl {c d : Bool} : dNe (.bl c) (.bl d) G Q = Q (.bl (!(c == d))) G := rfl
@[simp] theorem itemsD_tup : itemsD G (.tup xs) = some xs := rfl
@[simp] theorem itemsD_rl : itemsD G (.rl xs) = some xs := rfl
theorem itemsD_ref (h : G p = some (.lst xs)) : itemsD G (.ref p) = some xs := by simp [itemsD, h]
@[simp] theorem must_some : must (some x) G Q = Q x G := rfl
@[simp] theorem must_none : must none G Q = False := rfl
@[simp] theorem dIx_tup : dIx (.tup xs) (.int i) G Q = must (pick xs i) G Q := rfl
@[simp] theorem dIx_rl : dIx (.rl xs) (.int i) G Q = must (pick xs i) G Q := rfl
@[simp] theorem dIx_ref : dIx (.ref p) (.int i) G Q = ∃ xs, G p = some (.lst xs) ∧ must (pick xs i) G Q := rfl
@[simp] theorem dIx_str : dIx (.str z) (.int i) G Q = (z.length ≤ 1000000 ∧ must ((pick z.cps.toList i).map fun c => .str ⟨#[c]⟩) G Q) := rfl
@[simp] theorem dSl_tup {lo hi : Option Int} : dSl (.tup xs) lo hi G Q = Q (.tup (cut xs lo hi)) G := rfl
@[simp] theorem dSl_ref {lo hi : Option Int} : dSl (.ref p) lo hi G Q = ∃ xs, G p = some (.lst xs) ∧ ∀ r, G r = none → Q (.ref r) (updD G r (.lst (cut xs lo hi))) := rfl
@[simp] theorem dSl_str {lo hi : Option Int} : dSl (.str z) lo hi G Q = (z.length ≤ 1000000 ∧ Q (.str (cutS z lo hi)) G) := rfl
@[simp] theorem dSet_ref {Q : DHp → Prop} : dSet (.ref p) (.int i) x G Q = ∃ xs, G p = some (.lst xs) ∧ 0 ≤ i ∧ i < xs.length ∧ Q (updD G p (.lst (xs.set i.toNat x))) := rfl
@[simp] theorem dLen_tup : dLen [.tup xs] G Q = Q (.int xs.length) G := rfl
@[simp] theorem dLen_rl : dLen [.rl xs] G Q = Q (.int xs.length) G := rfl
@[simp] theorem dLen_ref : dLen [.ref p] G Q = ∃ xs, G p = some (.lst xs) ∧ Q (.int xs.length) G := rfl
@[simp] theorem dLen_str : dLen [.str z] G Q = (z.length ≤ 1000000 ∧ Q (.int z.length) G) := rfl
@[simp] theorem isK_non {k : Kd} : isK k G .non = some false := rfl
@[simp] theorem isK_bl {k : Kd} {c : Bool} : isK k G (.bl c) = some (decide (k = .int) || decide (k = .bool)) := rfl
@[simp] theorem isK_int {k : Kd} : isK k G (.int i) = some (decide (k = .int)) := rfl
@[simp] theorem isK_str {k : Kd} : isK k G (.str a) = some (decide (k = .str)) := rfl
@[simp] theorem isK_tup {k : Kd} : isK k G (.tup xs) = some (decide (k = .tup)) := rfl
@[simp] theorem isK_rl {k : Kd} : isK k G (.rl xs) = some (decide (k = .lst)) := rfl
@[simp] theorem isK_ref {k : Kd} (h : G p = some (.lst xs)) : isK k G (.ref p) = some (decide (k = .lst)) := by simp [isK, h]
@[simp] theorem oB_some {c : Bool} : oB (some c) G Q = Q (.bl c) G := rfl
@[simp] theorem dInt1_int : dInt1 [.int i] G Q = Q (.int i) G := rfl
@[simp] theorem dInt1_bl {c : Bool} : dInt1 [.bl c] G Q = Q (.int (if c then 1 else 0)) G := rfl
@[simp] theorem dMax2_int : dMax2 [.int i, .int j] G Q = Q (.int (if j > i then j else i)) G := rfl
@[simp] theorem dMin2_int : dMin2 [.int i, .int j] G Q = Q (.int (if j < i then j else i)) G := rfl
@[simp] theorem dAll_ref : dAll [.ref p] G Q = ∃ bs : List Bool, G p = some (.lst (bs.map .bl)) ∧ Q (.bl (bs.all id)) G := rfl
@[simp] theorem dAny_ref : dAny [.ref p] G Q = ∃ bs : List Bool, G p = some (.lst (bs.map .bl)) ∧ Q (.bl (bs.any id)) G := rfl
@[simp] theorem dSum_ref : dSum [.ref p] G Q = ∃ ns : List Int, G p = some (.lst (ns.map .int)) ∧ Q (.int ns.sum) G := rfl
@[simp] theorem dMaxL_ref : dMaxL [.ref p] G Q = ∃ ns : List Int, G p = some (.lst (ns.map .int)) ∧ ns ≠ [] ∧ Q (.int (maxL ns)) G := rfl
@[simp] theorem dMinL_ref : dMinL [.ref p] G Q = ∃ ns : List Int, G p = some (.lst (ns.map .int)) ∧ ns ≠ [] ∧ Q (.int (minL ns)) G := rfl
@[simp] theorem dList_tup : dList [.tup xs] G Q = ∀ r, G r = none → Q (.ref r) (updD G r (.lst xs)) := rfl
theorem dList_ref (h : G p = some (.lst xs)) : dList [.ref p] G Q = ∀ r, G r = none → Q (.ref r) (updD G r (.lst xs)) := by simp [dList, itemsD, h]
@[simp] theorem dTuple_tup : dTuple [.tup xs] G Q = Q (.tup xs) G := rfl
theorem dTuple_ref (h : G p = some (.lst xs)) : dTuple [.ref p] G Q = Q (.tup xs) G := by simp [dTuple, itemsD, h]
@[simp] theorem wgNil_nil {ρ : Ro} {Q : Ro → DHp → Prop} : wgNil [] ρ G Q = Q ρ G := rfl
@[simp] theorem wgCons_cons {ρ : Ro} {g : WG} {r : WGs} {Q : Ro → DHp → Prop} : wgCons g r (x :: xs) ρ G Q = g x ρ G fun ρ1 G1 => r xs ρ1 G1 Q := rfl
@[simp] theorem wgTup_tup {ρ : Ro} {n : Nat} {r : WGs} {Q : Ro → DHp → Prop} : wgTup n r (.tup xs) ρ G Q = (xs.length = n ∧ r xs ρ G Q) := rfl
theorem pick_nat {α : Type} {l : List α} {n : Nat} : pick l (n : Int) = l[n]? := by simp [pick]
@[simp] theorem pick_lit {α : Type} {l : List α} {n : Nat} : pick l (OfNat.ofNat n : Int) = l[(OfNat.ofNat n : Nat)]? := pick_nat (n := n)
end
/-- what is told stays told -/
def Ext (G G' : DHp) : Prop := ∀ a o, G a = some o → G' a = some o
theorem Ext.refl {G : DHp} : Ext G G := fun _ _ h => h
theorem Ext.trans {G G1 G2 : DHp} (a : Ext G G1) (b : Ext G1 G2) : Ext G G2 := fun x o h => b x o (a x o h)
theorem Ext.new {G : DHp} {p : Addr} {o : DO} (h : G p = none) : Ext G (updD G p o) := fun a u e => by
  by_cases z : a = p
  · subst z; rw [h] at e; cases e
  · rw [updD_ne z]; exact e
theorem Ext.free {G G' : DHp} {p : Addr} (x : Ext G G') (h : G' p = none) : G p = none := by
  cases e : G p with
  | none => rfl
  | some o => rw [x p o e] at h; cases h
end TC
set_option maxRecDepth 100000
set_option maxHeartbeats 4000000
namespace TC
open PySem PySem.Spec PyProof.Rows L2
theorem tuple_mul_self (l : Addr) (items : Array Value) (n : Nat) (dd : Option Addr) (sl : Array (Option Value)) (x : Int) (u : Tok) (c0 : (decide (x < -(2 ^ 63)) || decide (x ≥ 2 ^ 63)) = false) (c1 : (items.isEmpty || x == 1) = true) :
    Meets (Builtin.«tuple.__mul__» ⟨[.ref l, .int x u], []⟩) (fun _ R s => s.heap.get? l = some { cls := .type "tuple", dict := dd, data := .seq items n, slots := sl } ∧ R (.ok (.ret (Value.ref l))) s) :=
  .of_wp fun prog w A R s h => by
    obtain ⟨hp, g, d, tk, os⟩ := s
    obtain ⟨hl, h⟩ := h
    have f1 := AutoSeq1.idx_int
    wp_walk using wpAny_loadPart' hl
    repeat (first
      | (refine wpAny_ite_false (decide_eq_false (by rw [c0]; exact Bool.false_ne_true)) ?_; wp_walk using wpAny_loadPart' hl)
      | (refine wpAny_ite_true (decide_eq_true c1) ?_; wp_walk using wpAny_loadPart' hl)
      | (refine wpAny_ite_true c1 ?_; wp_walk using wpAny_loadPart' hl))
    exact ⟨_, rfl, h⟩
theorem tuple_mul_zero (l : Addr) (items : Array Value) (n : Nat) (dd : Option Addr) (sl : Array (Option Value)) (x : Int) (u : Tok) (c0 : (decide (x < -(2 ^ 63)) || decide (x ≥ 2 ^ 63)) = false) (c1 : (items.isEmpty || x == 1) = false) (c2 : (decide (x ≤ 0) || items.isEmpty) = true) :
    Meets (Builtin.«tuple.__mul__» ⟨[.ref l, .int x u], []⟩) (fun _ R s => s.heap.get? l = some { cls := .type "tuple", dict := dd, data := .seq items n, slots := sl } ∧
      R (.ok (.ret (Value.ref s.heap.objs.size))) { s with heap := s.heap.push { cls := Value.type "tuple", data := Data.seq #[] }, toks := s.toks }) :=
  .of_wp fun prog w A R s h => by
    obtain ⟨hp, g, d, tk, os⟩ := s
    obtain ⟨hl, h⟩ := h
    have f1 := AutoSeq1.idx_int
    wp_walk using wpAny_loadPart' hl
    repeat (first
      | (refine wpAny_ite_false (decide_eq_false (by rw [c0]; exact Bool.false_ne_true)) ?_; wp_walk using wpAny_loadPart' hl)
      | (refine wpAny_ite_false (decide_eq_false (by rw [c1]; exact Bool.false_ne_true)) ?_; wp_walk using wpAny_loadPart' hl)
      | (refine wpAny_ite_true (decide_eq_true c2) ?_; wp_walk using wpAny_loadPart' hl))
    exact ⟨_, rfl, h⟩
end TC
set_option maxRecDepth 100000
set_option maxHeartbeats 1000000
/-! TC, part h: times, minus, dicts, methods of lists, short words. -/
namespace TC
open PySem PySem.Spec PyProof.Rows L2

/-! ### tuple * int, whatever the int -/
def rRepA (K : W.Frag) : R2 := fun x y H Q => ∃ l k xs, x = .ref l ∧ y = .int k ∧ SqT K H l xs ∧ -1000 ≤ k ∧ k ≤ 1000 ∧ xs.length ≤ 1000 ∧ (∀ p ys, ys = (List.replicate k.toNat xs).flatten → H p = none → Q (.ref p) (upd H p (.tup ys))) ∧ ((List.replicate k.toNat xs).flatten = xs → Q (.ref l) H)
theorem op_repA {X : Cx} : OpR X (binaryOp .Mult) (rRepA X.K) := by
  intro pins s σ H x y v u Q I rx ry h
  obtain ⟨l, k, xs, rfl, rfl, hT, h1, h2, hz, q1, q2⟩ := h
  by_cases big : xs ≠ [] ∧ 2 ≤ k
  · exact op_repT pins s σ H _ _ v u Q I rx ry ⟨l, k, xs, rfl, rfl, hT, big.1, big.2, h2, hz, fun p hp => q1 p _ rfl hp⟩
  · cases rx
    obtain ⟨t, rfl⟩ := ry
    obtain ⟨its, r, ⟨⟨cls, dd, data, sl⟩, ho, hc, n, hd⟩, hs⟩ := I.tuple hT
    simp only at hc hd
    subst hc hd
    have hle : its.length = xs.length := r.length.symm
    have c0 : (decide (k < -(2 ^ 63)) || decide (k ≥ 2 ^ 63)) = false := by
      rw [decide_eq_false (by omega), decide_eq_false (by omega)] <;> rfl
    by_cases c1 : (its.toArray.isEmpty || k == 1) = true
    · refine wpAny_binaryOp_repeat_ref (T := "tuple") (U := "int") (by decide) ⟨_, ho, rfl⟩ (fun s' => typeIs_int s' k t) noFill_tuple_mul F.fills_int_mul F.slot_int_rmul repeat_tuple F.slot_int_index.lookup
        (call_meets F.slot_int_rmul (typeIs_int s k t) F.entry_int_rmul (F.args_int_rmul_2 _ _) (int_rmul_tuple k t l its.toArray n dd sl)
          ⟨ho, rfl, ⟨_, ho, rfl⟩, call_meets F.slot_tuple_mul ⟨_, ho, rfl⟩ F.entry_tuple_mul (F.args_tuple_mul_2 _ _) (tuple_mul_self l its.toArray n dd sl k t c0 c1) ⟨ho, ?_⟩⟩)
      refine ⟨.ref l, H, I, rfl, q2 ?_⟩
      rcases Bool.or_eq_true_iff.mp c1 with e | e
      · have : its = [] := by
          cases its with
          | nil => rfl
          | cons a b => cases e
        subst this
        have : xs = [] := List.eq_nil_of_length_eq_zero hle.symm
        subst this
        simp
      · have : k = 1 := beq_iff_eq.mp e
        subst this
        simp
    · have c1' : (its.toArray.isEmpty || k == 1) = false := Bool.not_eq_true _ ▸ c1
      have hne : ¬ its.toArray.isEmpty = true := fun e => c1 (by rw [e]; rfl)
      have hk : k ≤ 0 := by
        have a1 : k ≠ 1 := fun e => c1 (by rw [e]; simp)
        have a2 : xs ≠ [] := fun e => hne (by
          have : its = [] := List.eq_nil_of_length_eq_zero (by rw [hle, e]; rfl)
          rw [this]; rfl)
        have a3 : ¬ 2 ≤ k := fun e => big ⟨a2, e⟩
        omega
      have c2 : (decide (k ≤ 0) || its.toArray.isEmpty) = true := by rw [decide_eq_true hk]; rfl
      refine wpAny_binaryOp_repeat_ref (T := "tuple") (U := "int") (by decide) ⟨_, ho, rfl⟩ (fun s' => typeIs_int s' k t) noFill_tuple_mul F.fills_int_mul F.slot_int_rmul repeat_tuple F.slot_int_index.lookup
        (call_meets F.slot_int_rmul (typeIs_int s k t) F.entry_int_rmul (F.args_int_rmul_2 _ _) (int_rmul_tuple k t l its.toArray n dd sl)
          ⟨ho, rfl, ⟨_, ho, rfl⟩, call_meets F.slot_tuple_mul ⟨_, ho, rfl⟩ F.entry_tuple_mul (F.args_tuple_mul_2 _ _) (tuple_mul_zero l its.toArray n dd sl k t c0 c1' c2) ⟨ho, ?_⟩⟩)
      have e0 : k.toNat = 0 := by omega
      refine ⟨.ref s.heap.objs.size, _, I.laid (t' := s.toks) (o := .tup []) (fun b ob q => Heap.get?_push_of_some _ q) (Nat.le_refl _) ?_, rfl, q1 _ [] (by rw [e0]; rfl) (I.hok.fresh (Nat.le_refl _))⟩
      exact ⟨Nat.zero_le _, [], .nil, IsTup.new _ _⟩
section
variable {K : W.Frag}
theorem Reps.rep {H : Hp} {xs : List D} {vs : List V} (r : Reps K H xs vs) : ∀ n : Nat, Reps K H (List.replicate n xs).flatten (List.replicate n vs).flatten
  | 0 => rfl
  | n + 1 => by
    rw [List.replicate_succ, List.replicate_succ, List.flatten_cons, List.flatten_cons]
    exact r.append (Reps.rep r n)
def dMul : WR2
  | .int i, .int j => fun G Q => CMul i j ∧ Q (.int (i * j)) G
  | .tup xs, .int k => fun G Q => (-1000 ≤ k ∧ k ≤ 1000 ∧ xs.length ≤ 1000) ∧ Q (.tup (List.replicate k.toNat xs).flatten) G
  | .ref a, .int k => fun G Q => ∃ xs, G a = some (.lst xs) ∧ (-1000 ≤ k ∧ k ≤ 1000 ∧ xs.length ≤ 1000) ∧ ∀ p, G p = none → Q (.ref p) (updD G p (.lst (List.replicate k.toNat xs).flatten))
  | _, _ => fun _ _ => False
abbrev rMulA (K : W.Frag) : R2 := fun x y H Q => (rI CMul (fun i j => .int (i * j)) x y H Q) ∨ rRepA K x y H Q ∨ rRep x y H Q
theorem or_mul {X : Cx} : OpR X (binaryOp .Mult) (rMulA X.K) := op_mul.or (op_repA.or op_rep)
theorem od_mul : OpD K (rMulA K) dMul := by
  intro x y v u G H Q QD hr rx ry w k
  unfold dMul at w
  split at w
  · cases rx; cases ry
    exact .inl ⟨_, _, rfl, rfl, w.1, k (.int _) G _ H hr rfl .refl w.2⟩
  · rename_i xs j
    obtain ⟨a, vs, rfl, h, rs⟩ := rx
    cases ry
    obtain ⟨⟨h1, h2, h3⟩, w⟩ := w
    refine .inr (.inl ⟨a, j, vs, rfl, rfl, SqT.of h, h1, h2, by rw [← rs.length]; exact h3, fun p ys e hp => ?_, fun e => ?_⟩)
    · subst e
      exact k (.tup _) G _ _ (hr.newU hp) ⟨p, _, rfl, upd_same, (rs.rep _).mono (mn_upd hp)⟩ (.newU hp) w
    · have := rs.rep j.toNat
      rw [e] at this
      exact k (.tup _) G _ H hr ⟨a, vs, rfl, h, this⟩ .refl w
  · rename_i a j
    cases rx; cases ry
    obtain ⟨xs, ea, ⟨h1, h2, h3⟩, w⟩ := w
    obtain ⟨vs, h, rs⟩ := hr _ _ ea
    refine .inr (.inr ⟨a, j, vs, rfl, rfl, h, by omega, by omega, ?_, fun p hp => ?_⟩)
    · rw [← rs.length, sizeLine_eq]
      have a1 : xs.length * j.toNat ≤ 1000 * 1000 := Nat.mul_le_mul h3 (by omega)
      omega
    · exact k (.ref p) _ _ _ (hr.new hp (o := .lst (List.replicate j.toNat xs).flatten) ⟨_, upd_same, (rs.rep _).mono (mn_upd hp)⟩) rfl (.new hr hp) (w p (hr.free hp))
  · exact w.elim
def dNeg : WR1 := fun x G Q => match x with
  | .int i => Q (.int (-i)) G
  | _ => False
theorem ud_neg : UnD K (rU fun i => .int (-i)) dNeg := by
  intro x v G H Q QD hr rx w k
  unfold dNeg at w
  split at w
  · cases rx
    exact ⟨_, rfl, k (.int _) G _ H hr rfl .refl w⟩
  · exact w.elim

/-! ### dicts -/
def keyOf : D → Option Key
  | .int i => some (.inl i)
  | .str x => some (.inr x)
  | _ => none
def keysOf : List D → Option (List Key)
  | [] => some []
  | d :: ds => match keyOf d, keysOf ds with
    | some k, some ks => some (k :: ks)
    | _, _ => none
theorem keyOf_rep {H : Hp} {x : D} {v : V} {k : Key} (r : Rep K H x v) (e : keyOf x = some k) : v = kV k := by
  cases x with
  | int i => cases r; cases e; rfl
  | str i => cases r; cases e; rfl
  | _ => cases e
theorem keysOf_rep {H : Hp} : ∀ {xs : List D} {vs : List V} {ks : List Key}, Reps K H xs vs → keysOf xs = some ks → vs = ks.map kV
  | [], _, _, r, e => by cases r; cases e; rfl
  | x :: xs, vs, ks, r, e => by
    obtain ⟨v, rr, rfl, r1, r2⟩ := r
    unfold keysOf at e
    split at e
    · rename_i k ks' e1 e2
      cases e
      rw [keyOf_rep r1 e1, keysOf_rep r2 e2]; rfl
    · cases e
section
variable {κ : Type} [DecidableEq κ]
def lookD (kvs : List (κ × D)) (k : κ) : Option D := match kvs with
  | [] => none
  | (j, d) :: r => if j = k then some d else lookD r k
def putD (kvs : List (κ × D)) (k : κ) (v : D) : List (κ × D) :=
  if (kvs.any fun kv => decide (kv.1 = k)) = true then kvs.map (fun kv => if kv.1 = k then (kv.1, v) else kv) else kvs ++ [(k, v)]
def ORep (K : W.Frag) (H : Hp) : Option D → Option V → Prop
  | some d, some v => Rep K H d v
  | none, none => True
  | _, _ => False
theorem RepKV.look {H : Hp} {k : κ} : ∀ {ds : List (κ × D)} {vs : List (κ × V)}, RepKV K H ds vs → ORep K H (lookD ds k) (valV vs k)
  | [], _, r => by cases r; exact trivial
  | (j, d) :: ds, vs, r => by
    obtain ⟨v, rr, rfl, r1, r2⟩ := r
    unfold lookD
    by_cases e : j = k
    · rw [if_pos e, valV_pos (p := (j, v)) e]
      exact r1
    · rw [if_neg e, valV_neg (p := (j, v)) e]
      exact RepKV.look r2
theorem RepKV.any {H : Hp} {k : κ} : ∀ {ds : List (κ × D)} {vs : List (κ × V)}, RepKV K H ds vs → (vs.any fun kv => decide (kv.1 = k)) = ds.any fun kv => decide (kv.1 = k)
  | [], _, r => by cases r; rfl
  | (j, d) :: ds, vs, r => by
    obtain ⟨v, rr, rfl, r1, r2⟩ := r
    rw [List.any_cons, List.any_cons, RepKV.any r2]
theorem RepKV.length {H : Hp} : ∀ {ds : List (κ × D)} {vs : List (κ × V)}, RepKV K H ds vs → vs.length = ds.length
  | [], _, r => by cases r; rfl
  | (j, d) :: ds, vs, r => by
    obtain ⟨v, rr, rfl, r1, r2⟩ := r
    rw [List.length_cons, List.length_cons, RepKV.length r2]
theorem RepKV.mapPut {H : Hp} {k : κ} {d : D} {v : V} (h : Rep K H d v) : ∀ {ds : List (κ × D)} {vs : List (κ × V)}, RepKV K H ds vs → RepKV K H (ds.map fun kv => if kv.1 = k then (kv.1, d) else kv) (vs.map fun kv => if kv.1 = k then (kv.1, v) else kv)
  | [], _, r => by cases r; rfl
  | (j, c) :: ds, vs, r => by
    obtain ⟨u, rr, rfl, r1, r2⟩ := r
    rw [List.map_cons, List.map_cons]
    by_cases e : j = k
    · rw [if_pos (show (j, c).1 = k from e), if_pos (show (j, u).1 = k from e)]
      exact ⟨v, _, rfl, h, RepKV.mapPut h r2⟩
    · rw [if_neg (show ¬ (j, c).1 = k from e), if_neg (show ¬ (j, u).1 = k from e)]
      exact ⟨u, _, rfl, r1, RepKV.mapPut h r2⟩
theorem RepKV.append {H : Hp} {k : κ} {d : D} {v : V} (h : Rep K H d v) : ∀ {ds : List (κ × D)} {vs : List (κ × V)}, RepKV K H ds vs → RepKV K H (ds ++ [(k, d)]) (vs ++ [(k, v)])
  | [], _, r => by cases r; exact ⟨v, [], rfl, h, rfl⟩
  | (j, c) :: ds, vs, r => by
    obtain ⟨u, rr, rfl, r1, r2⟩ := r
    exact ⟨u, rr ++ [(k, v)], rfl, r1, RepKV.append h r2⟩
theorem RepKV.put {H : Hp} {k : κ} {d : D} {v : V} (h : Rep K H d v) {ds : List (κ × D)} {vs : List (κ × V)} (r : RepKV K H ds vs) : RepKV K H (putD ds k d) (putK vs k v) := by
  unfold putD putK
  rw [r.any]
  split
  · exact r.mapPut h
  · exact r.append h
end
/-- what a dict holds at a key -/
def dLook (G : DHp) (x k : D) : Option (Option D) := match x with
  | .ref a => match G a with
    | some (.dK kvs) => (keyOf k).map (lookD kvs)
    | some (.rdK kvs) => (keyOf k).map (lookD kvs)
    | some (.dT kvs) => (match k with
      | .tup ks => (keysOf ks).map (lookD kvs)
      | _ => none)
    | some (.rdT kvs) => (match k with
      | .tup ks => (keysOf ks).map (lookD kvs)
      | _ => none)
    | _ => none
  | _ => none
theorem dLook_ok {G : DHp} {H : Hp} {x k : D} {v u : V} {o : Option D} (hr : HR K G H) (rx : Rep K H x v) (rk : Rep K H k u) (e : dLook G x k = some o) :
    ∃ a w, v = .ref a ∧ DGet H a u w ∧ IsD H a ∧ ORep K H o w := by
  cases x with
  | ref a =>
    cases rx
    unfold dLook at e
    simp only at e
    cases ea : G a with
    | none => rw [ea] at e; cases e
    | some ob =>
      rw [ea] at e
      cases ob with
      | dK kvs =>
        obtain ⟨key, ek, rfl⟩ := Option.map_eq_some_iff.mp e
        obtain ⟨vs, h, rs⟩ := hr a _ ea
        have e2 := rs.look (k := key)
        rw [keyOf_rep rk ek]
        exact ⟨a, _, rfl, .inl ⟨vs, key, .inl h, rfl, rfl⟩, .inl ⟨vs, .inl h⟩, e2⟩
      | rdK kvs =>
        obtain ⟨key, ek, rfl⟩ := Option.map_eq_some_iff.mp e
        obtain ⟨ob, vs, h, rs⟩ := hr a _ ea
        have e2 := rs.look (k := key)
        rw [keyOf_rep rk ek]
        exact ⟨a, _, rfl, .inl ⟨vs, key, .inr ⟨ob, h⟩, rfl, rfl⟩, .inl ⟨vs, .inr ⟨ob, h⟩⟩, e2⟩
      | dT kvs =>
        cases k with
        | tup ks =>
          obtain ⟨key, ek, rfl⟩ := Option.map_eq_some_iff.mp e
          obtain ⟨b, us, rfl, hb, ru⟩ := rk
          obtain ⟨vs, h, rs⟩ := hr a _ ea
          have e2 := rs.look (k := key)
          rw [keysOf_rep ru ek] at hb
          exact ⟨a, _, rfl, .inr ⟨vs, key, b, .inl h, rfl, hb, rfl⟩, .inr ⟨vs, .inl h⟩, e2⟩
        | _ => cases e
      | rdT kvs =>
        cases k with
        | tup ks =>
          obtain ⟨key, ek, rfl⟩ := Option.map_eq_some_iff.mp e
          obtain ⟨b, us, rfl, hb, ru⟩ := rk
          obtain ⟨ob, vs, h, rs⟩ := hr a _ ea
          have e2 := rs.look (k := key)
          rw [keysOf_rep ru ek] at hb
          exact ⟨a, _, rfl, .inr ⟨vs, key, b, .inr ⟨ob, h⟩, rfl, hb, rfl⟩, .inr ⟨vs, .inr ⟨ob, h⟩⟩, e2⟩
        | _ => cases e
      | _ => cases e
  | _ => cases e

/-! ### in, of any kind -/
def dIn (neg : Bool) : WR2 := fun x y G Q => match y with
  | .str z => ∃ c, x = .str ⟨#[c]⟩ ∧ Q (.bl (neg != decide (c ∈ z.cps.toList))) G
  | _ => match itemsD G y with
    | some xs => flatD x = true ∧ xs.all flatD = true ∧ Q (.bl (neg != inF x xs)) G
    | none => match dLook G y x with
      | some o => Q (.bl (neg != o.isSome)) G
      | none => False
abbrev rInA (K : W.Frag) (neg : Bool) : R2 := fun x y H Q => rIn K neg x y H Q ∨ (∃ (c : Nat) (z : Str), x = .str ⟨#[c]⟩ ∧ y = .str z ∧ Q (.bl (neg != decide (c ∈ z.cps.toList))) H) ∨ (∃ a o, y = .ref a ∧ DGet H a x o ∧ Q (.bl (neg != o.isSome)) H)
theorem or_in {X : Cx} (hu : X.A.units + 64 < cLine) : OpR X (compareOp .In) (rInA X.K false) := by
  refine op_in_seq.or (OpR.or (f := compareOp .In) (r := fun x y H Q => ∃ (c : Nat) (z : Str), x = .str ⟨#[c]⟩ ∧ y = .str z ∧ Q (.bl (false != decide (c ∈ z.cps.toList))) H) ?_ ?_)
  · intro pins s σ H x y v u Q I rx ry ⟨c, z, e1, e2, q⟩
    exact op_in_sign pins s σ H x y v u Q I rx ry ⟨c, z, e1, e2, by simpa using q⟩
  · intro pins s σ H x y v u Q I rx ry ⟨a, o, e, g, q⟩
    subst e
    cases ry
    exact d_in (by omega) I g rx fun s' I' => ⟨.bl _, H, I', rfl, by simpa using q⟩
theorem or_nin {X : Cx} (hu : X.A.units + 64 < cLine) : OpR X (compareOp .NotIn) (rInA X.K true) := by
  refine op_notIn_seq.or (OpR.or (f := compareOp .NotIn) (r := fun x y H Q => ∃ (c : Nat) (z : Str), x = .str ⟨#[c]⟩ ∧ y = .str z ∧ Q (.bl (true != decide (c ∈ z.cps.toList))) H) ?_ ?_)
  · intro pins s σ H x y v u Q I rx ry ⟨c, z, e1, e2, q⟩
    exact op_notIn_sign pins s σ H x y v u Q I rx ry ⟨c, z, e1, e2, by simpa using q⟩
  · intro pins s σ H x y v u Q I rx ry ⟨a, o, e, g, q⟩
    subst e
    cases ry
    exact d_notIn (by omega) I g rx fun s' I' => ⟨.bl _, H, I', rfl, by simpa using q⟩
theorem od_inA {neg : Bool} : OpD K (rInA K neg) (dIn neg) := by
  intro x y v u G H Q QD hr rx ry w k
  unfold dIn at w
  split at w
  · cases ry
    obtain ⟨c, rfl, w⟩ := w
    cases rx
    exact .inr (.inl ⟨c, _, rfl, rfl, k (.bl _) G _ H hr rfl .refl w⟩)
  · split at w
    · rename_i xs e
      obtain ⟨fx, fs, w⟩ := w
      obtain ⟨p, vs, rfl, h, rs⟩ := items_sq hr ry e
      refine .inl ⟨p, vs, rfl, h, flat_rep rx fx, flats_rep rs fs, ?_⟩
      rw [inF_rep rx fx rs fs]
      refine k (.bl _) G _ H hr ?_ .refl w
      cases neg <;> simp [Rep]
    · split at w
      · rename_i o e
        obtain ⟨a, w', rfl, g, _, m⟩ := dLook_ok hr ry rx e
        refine .inr (.inr ⟨a, w', rfl, g, k (.bl _) G _ H hr ?_ .refl w⟩)
        cases o with
        | none =>
          cases w' with
          | none => rfl
          | some _ => exact m.elim
        | some d =>
          cases w' with
          | none => exact m.elim
          | some _ => rfl
      · exact w.elim
end
section
variable {X : Cx} {G0 : DHp} {H0 : Hp} {pos pos' apos : Pos} {e f o : Expr} {es : List Expr} {we wf wo : WE} {ws : WA}
/-- d[k] -/
@[simp] def wDIx (wo we : WE) : WE := fun ρ G Q => wo ρ G fun x G1 => we ρ G1 fun k G2 => must ((dLook G2 x k).join) G2 Q
theorem de_dix (hu : X.A.units + 64 < cLine) (ho : DE X G0 H0 o wo) (he : DE X G0 H0 e we) (hs : NoSl e) : DE X G0 H0 (.Subscript o e pos) (wDIx wo we) :=
  PE.to (pe_dget (by omega) ho he hs) fun σ H Q ⟨ρ, G, QD, pt, w, k⟩ => ⟨ρ, G, _, pt, w, fun x G1 v H1 h1 r1 s1 w1 => ⟨ρ, G1, _, pt.go h1 s1, w1, fun y G2 u H2 h2 r2 s2 w2 => by
    obtain ⟨d, e, w2⟩ := must_of w2
    obtain ⟨o, eo, e⟩ : ∃ o, dLook G2 x y = some o ∧ o = some d := by
      cases q : dLook G2 x y with
      | none => rw [q] at e; cases e
      | some o => rw [q] at e; exact ⟨o, rfl, e⟩
    subst e
    obtain ⟨a, w', rfl, g, _, m⟩ := dLook_ok h2 (r1.mono (s2.mn h1)) r2 eo
    cases w' with
    | none => exact m.elim
    | some z => exact ⟨a, z, rfl, g, k d G2 z H2 h2 m (s1.trans s2) w2⟩⟩⟩
/-- d.get(k, x) -/
@[simp] def wDGet (wo we wf : WE) : WE := fun ρ G Q => wo ρ G fun x G1 => (∃ k o, dLook G1 x k = some o) ∧ we ρ G1 fun k G2 => wf ρ G2 fun y G3 => match dLook G3 x k with
  | some o => Q (o.getD y) G3
  | none => False
theorem de_dget (hu : X.A.units + 64 < cLine) (ho : DE X G0 H0 o wo) (he : DE X G0 H0 e we) (hf : DE X G0 H0 f wf) (m : M2 X o "get" apos e f pos) : DE X G0 H0 (.Call (.Attribute o "get" apos) [e, f] [] pos) (wDGet wo we wf) :=
  PE.to (pe_dget2 (by omega) ho he hf m) fun σ H Q ⟨ρ, G, QD, pt, w, k⟩ => ⟨ρ, G, _, pt, w, fun x G1 v H1 h1 r1 s1 w1 => by
    obtain ⟨⟨kk, oo, eo⟩, w1⟩ := w1
    have hx : ∃ a, x = .ref a := by
      cases x with
      | ref a => exact ⟨a, rfl⟩
      | _ => cases eo
    obtain ⟨a, rfl⟩ := hx
    cases r1
    have isd : IsD H1 a := by
      unfold dLook at eo
      simp only at eo
      cases ea : G1 a with
      | none => rw [ea] at eo; cases eo
      | some ob =>
        rw [ea] at eo
        cases ob with
        | dK kvs => obtain ⟨vs, h, _⟩ := h1 a _ ea; exact .inl ⟨vs, .inl h⟩
        | rdK kvs => obtain ⟨ob, vs, h, _⟩ := h1 a _ ea; exact .inl ⟨vs, .inr ⟨ob, h⟩⟩
        | dT kvs => obtain ⟨vs, h, _⟩ := h1 a _ ea; exact .inr ⟨vs, .inl h⟩
        | rdT kvs => obtain ⟨ob, vs, h, _⟩ := h1 a _ ea; exact .inr ⟨vs, .inr ⟨ob, h⟩⟩
        | _ => cases eo
    refine ⟨a, rfl, isd, ρ, G1, _, pt.go h1 s1, w1, fun y G2 u H2 h2 r2 s2 w2 => ⟨ρ, G2, _, (pt.go h1 s1).go h2 s2, w2, fun z G3 uz H3 h3 r3 s3 w3 => ?_⟩⟩
    split at w3
    · rename_i o eo'
      obtain ⟨a', w', e', g, _, m'⟩ := dLook_ok h3 (show Rep X.K H3 (.ref a) (.ref a) from rfl) (r2.mono (s3.mn h2)) eo'
      cases e'
      have s13 := (s1.trans s2).trans s3
      refine ⟨w', g, ?_⟩
      cases o with
      | none =>
        cases w' with
        | none => exact k z G3 uz H3 h3 r3 s13 w3
        | some _ => exact m'.elim
      | some d =>
        cases w' with
        | none => exact m'.elim
        | some zz => exact k d G3 zz H3 h3 m' s13 w3
    · exact w3.elim⟩
/-- the pairs of a display -/
abbrev WP := Ro → DHp → (List (D × D) → DHp → Prop) → Prop
@[simp] def wDNil : WP := fun _ G Q => Q [] G
@[simp] def wDCons (wk wv : WE) (r : WP) : WP := fun ρ G Q => wk ρ G fun x G1 => wv ρ G1 fun y G2 => r ρ G2 fun ps G3 => Q ((x, y) :: ps) G3
def keyed : List (D × D) → Option (List (Key × D))
  | [] => some []
  | (x, y) :: r => match keyOf x, keyed r with
    | some k, some ks => some ((k, y) :: ks)
    | _, _ => none
def mergeD (kvs more : List (Key × D)) : List (Key × D) := more.foldl (fun acc kv => putD acc kv.1 kv.2) kvs
@[simp] def wDict (wp : WP) : WE := fun ρ G Q => wp ρ G fun ps G1 => match keyed ps with
  | some kvs => kvs.length ≤ 15 ∧ ∀ p, G1 p = none → Q (.ref p) (updD G1 p (.dK (mergeD [] kvs)))
  | none => False
def RepP (K : W.Frag) (H : Hp) : List (D × D) → List (V × V) → Prop
  | [], vs => vs = []
  | (x, y) :: r, vs => ∃ u v t, vs = (u, v) :: t ∧ Rep K H x u ∧ Rep K H y v ∧ RepP K H r t
theorem RepP.mono {K : W.Frag} {H H' : Hp} (m : Mn K H H') : ∀ {ds : List (D × D)} {vs : List (V × V)}, RepP K H ds vs → RepP K H' ds vs
  | [], _, h => h
  | (x, y) :: r, vs, h => by
    obtain ⟨u, v, t, e, h1, h2, h3⟩ := h
    exact ⟨u, v, t, e, h1.mono m, h2.mono m, RepP.mono m h3⟩
structure DPs (X : Cx) (G0 : DHp) (H0 : Hp) (pos : Pos) (keys : List (Option Expr)) (values : List Expr) (trs : List (TE × TE)) (wp : WP) : Prop where
  pps : PPs X pos keys values trs
  to : ∀ ρ G σ H QD (Q : List (V × V) → Hp → Prop), Pt X.K G0 H0 ρ G σ H → wp ρ G QD → (∀ ps G' vs H', HR X.K G' H' → RepP X.K H' ps vs → Stp G H G' H' → QD ps G' → Q vs H') → tPairs trs σ H Q
theorem dd_nil : DPs X G0 H0 pos [] [] [] wDNil := ⟨pps_nil, fun ρ G σ H QD Q pt w k => k [] G [] H pt.hr rfl .refl w⟩
theorem dd_cons {k v : Expr} {ks : List (Option Expr)} {vs : List Expr} {wk wv : WE} {trs : List (TE × TE)} {wp : WP} (hk : DE X G0 H0 k wk) (hv : DE X G0 H0 v wv) (hr : DPs X G0 H0 pos ks vs trs wp) :
    DPs X G0 H0 pos (some k :: ks) (v :: vs) ((LfE X.K G0 H0 wk, LfE X.K G0 H0 wv) :: trs) (wDCons wk wv wp) := ⟨pps_cons hk hv hr.pps, fun ρ G σ H QD Q pt w kk =>
  ⟨ρ, G, _, pt, w, fun x G1 u H1 h1 r1 s1 w1 => ⟨ρ, G1, _, pt.go h1 s1, w1, fun y G2 uy H2 h2 r2 s2 w2 => hr.to ρ G2 σ H2 _ _ ((pt.go h1 s1).go h2 s2) w2 fun ps G3 us H3 h3 r3 s3 w3 =>
    kk ((x, y) :: ps) G3 ((u, uy) :: us) H3 h3 ⟨u, uy, us, rfl, (r1.mono (s2.mn h1)).mono (s3.mn h2), r2.mono (s3.mn h2), r3⟩ ((s1.trans s2).trans s3) w3⟩⟩⟩
theorem keyed_rep {K : W.Frag} {H : Hp} : ∀ {ps : List (D × D)} {vs : List (V × V)} {kvs : List (Key × D)}, RepP K H ps vs → keyed ps = some kvs → ∃ us, vs = us.map (fun kv : Key × V => (kV kv.1, kv.2)) ∧ RepKV K H kvs us ∧ us.length = kvs.length
  | [], _, _, r, e => by cases r; cases e; exact ⟨[], rfl, rfl, rfl⟩
  | (x, y) :: ps, vs, kvs, r, e => by
    obtain ⟨u, v, t, rfl, h1, h2, h3⟩ := r
    unfold keyed at e
    split at e
    · rename_i k ks e1 e2
      cases e
      obtain ⟨us, rfl, h4, h5⟩ := keyed_rep h3 e2
      exact ⟨(k, v) :: us, by rw [keyOf_rep h1 e1]; rfl, ⟨v, us, rfl, h2, h4⟩, by simp [h5]⟩
    · cases e
theorem RepKV.merge {K : W.Frag} {H : Hp} : ∀ {more : List (Key × D)} {vm : List (Key × V)} {kvs : List (Key × D)} {vs : List (Key × V)}, RepKV K H more vm → RepKV K H kvs vs → RepKV K H (mergeD kvs more) (mergeK vs vm)
  | [], _, _, _, r, q => by cases r; exact q
  | (k, d) :: more, vm, kvs, vs, r, q => by
    obtain ⟨v, t, rfl, h1, h2⟩ := r
    exact RepKV.merge (more := more) (vm := t) h2 (q.put h1)
theorem de_dict {keys : List (Option Expr)} {values : List Expr} {trs : List (TE × TE)} {wp : WP} (h : DPs X G0 H0 pos keys values trs wp) (hall : keys.all (·.isSome) = true) (hl : keys.length = values.length) (h0 : keys ≠ []) (h15 : keys.length ≤ 15) :
    DE X G0 H0 (.Dict keys values pos) (wDict wp) := PE.to (pe_disp h.pps hall hl h0 h15) fun σ H Q ⟨ρ, G, QD, pt, w, k⟩ => by
  intro p hp
  refine h.to ρ G σ _ _ _ (pt.go (pt.hr.newU hp) (.newU hp)) w fun ps G1 vs H1 h1 r1 s1 w1 => ?_
  have s01 : Stp G H G1 H1 := (Stp.newU hp).trans s1
  have gp : G p = none := pt.hr.free hp
  have kp : H1 p = some (.dK []) := s1.keep p _ gp upd_same
  have g1p : G1 p = none := s1.hid p _ gp upd_same
  split at w1
  · rename_i kvs ek
    obtain ⟨us, rfl, ru, hlen⟩ := keyed_rep r1 ek
    refine ⟨kp, us, rfl, by rw [hlen]; exact w1.1, ?_⟩
    have mn : Mn X.K H1 (upd H1 p (.dK (mergeK [] us))) := by
      refine ⟨fun a ys h => ?_, fun a ys h => ?_⟩
      · have ne : a ≠ p := fun z => by rw [z, kp] at h; cases h
        rw [upd_ne ne]; exact h
      · rcases h with ⟨ob, h⟩ | h
        · have ne : a ≠ p := fun z => by rw [z, kp] at h; cases h
          exact .inl ⟨ob, by rw [upd_ne ne]; exact h⟩
        · exact .inr h
    refine k (.ref p) (updD G1 p (.dK (mergeD [] kvs))) _ _ ?_ rfl ?_ (w1.2 p g1p)
    · intro a o ea
      by_cases z : a = p
      · subst z; rw [updD_same] at ea; cases ea
        exact ⟨_, upd_same, (ru.mono mn).merge (kvs := []) (vs := []) rfl⟩
      · rw [updD_ne z] at ea
        exact (h1 a o ea).mono mn (upd_ne z)
    · refine ⟨fun a o g h => ?_, fun a o g h => ?_⟩
      · have ne : a ≠ p := fun z => by rw [z, hp] at h; cases h
        rw [upd_ne ne]; exact s01.keep a o g h
      · have ne : a ≠ p := fun z => by rw [z, hp] at h; cases h
        rw [updD_ne ne]; exact s01.hid a o g h
  · exact w1.elim
@[simp] def wDNewK : WE := fun _ G Q => ∀ p, G p = none → Q (.ref p) (updD G p (.dK []))
@[simp] def wDNewT : WE := fun _ G Q => ∀ p, G p = none → Q (.ref p) (updD G p (.dT []))
theorem de_dnewK : DE X G0 H0 (.Dict [] [] pos) wDNewK := PE.to pe_dnewK fun σ H Q ⟨ρ, G, QD, pt, w, k⟩ p hp => k (.ref p) _ _ _ (pt.hr.new hp (o := .dK []) ⟨[], upd_same, rfl⟩) rfl (.new pt.hr hp) (w p (pt.hr.free hp))
theorem de_dnewT : DE X G0 H0 (.Dict [] [] pos) wDNewT := PE.to pe_dnewT fun σ H Q ⟨ρ, G, QD, pt, w, k⟩ p hp => k (.ref p) _ _ _ (pt.hr.new hp (o := .dT []) ⟨[], upd_same, rfl⟩) rfl (.new pt.hr hp) (w p (pt.hr.free hp))
/-- d[k] = v -/
def dPut (x k v : D) (G : DHp) (Q : DHp → Prop) : Prop := match x with
  | .ref a => (∃ kvs key, G a = some (.dK kvs) ∧ keyOf k = some key ∧ kvs.length < 1000000 ∧ Q (updD G a (.dK (putD kvs key v)))) ∨
      ∃ kvs ks key, G a = some (.dT kvs) ∧ k = .tup ks ∧ keysOf ks = some key ∧ kvs.length < 1000000 ∧ Q (updD G a (.dT (putD kvs key v)))
  | _ => False
@[simp] def wDPut (wo we wv : WE) : WS := fun F ρ G => wv ρ G fun v G1 => wo ρ G1 fun x G2 => we ρ G2 fun k G3 => dPut x k v G3 fun G4 => F.nx ρ G4
theorem ds_dput {value : Expr} {wv : WE} (hu : X.A.units + 64 < cLine) (ho : DE X G0 H0 o wo) (he : DE X G0 H0 e we) (hv : DE X G0 H0 value wv) (hs : swapsWith value (some (.Subscript o e pos')) pos.line X.env = pure false := by rfl) :
    DS X G0 H0 (.Assign [.Subscript o e pos'] value pos) (wDPut wo we wv) :=
  PS.to (ps_dput (by omega) ho he hv hs) fun E σ H ⟨ρ, G, F, pt, w, l⟩ => ⟨ρ, G, _, pt, w, fun v G1 uv H1 h1 r1 s1 w1 => ⟨ρ, G1, _, pt.go h1 s1, w1, fun x G2 ux H2 h2 r2 s2 w2 => ⟨ρ, G2, _, (pt.go h1 s1).go h2 s2, w2, fun y G3 uy H3 h3 r3 s3 w3 => by
    have rv := (r1.mono (s2.mn h1)).mono (s3.mn h2)
    have s13 := (s1.trans s2).trans s3
    have p3 := ((pt.go h1 s1).go h2 s2).go h3 s3
    unfold dPut at w3
    split at w3
    · rename_i a
      cases r2
      rcases w3 with ⟨kvs, key, ea, ek, hl, w3⟩ | ⟨kvs, ks, key, ea, rfl, ek, hl, w3⟩
      · obtain ⟨vs, hh, rs⟩ := h3 a _ ea
        have hl' : vs.length < sizeLine := by rw [rs.length, sizeLine_eq]; omega
        refine ⟨a, _, rfl, by rw [keyOf_rep r3 ek]; exact DPut.k hh hl', ?_⟩
        have m := mn_write (x := .dK (putK vs key uv)) h3 ea
        have hr' := h3.write (x := .dK (putK vs key uv)) (u := .dK (putD kvs key v)) ea ⟨_, upd_same, (rs.put rv).mono m⟩
        have st : Stp G3 H3 (updD G3 a (.dK (putD kvs key v))) (upd H3 a (.dK (putK vs key uv))) := .write ea
        exact l.nx ρ _ σ _ (p3.go hr' st) (s13.trans st) w3
      · obtain ⟨vs, hh, rs⟩ := h3 a _ ea
        obtain ⟨b, us, rfl, hb, ru⟩ := r3
        have hl' : vs.length < sizeLine := by rw [rs.length, sizeLine_eq]; omega
        rw [keysOf_rep ru ek] at hb
        refine ⟨a, _, rfl, DPut.t hh hb hl', ?_⟩
        have m := mn_write (x := .dT (putK vs key uv)) h3 ea
        have hr' := h3.write (x := .dT (putK vs key uv)) (u := .dT (putD kvs key v)) ea ⟨_, upd_same, (rs.put rv).mono m⟩
        have st : Stp G3 H3 (updD G3 a (.dT (putD kvs key v))) (upd H3 a (.dT (putK vs key uv))) := .write ea
        exact l.nx ρ _ σ _ (p3.go hr' st) (s13.trans st) w3
    · exact w3.elim⟩⟩⟩

/-! ### methods of lists -/
abbrev WRM := D → List D → DHp → DK → Prop
def MtD (K : W.Frag) (r : V → List V → Hp → VK → Prop) (f : WRM) : Prop := ∀ (x : D) (xs : List D) (v : V) (vs : List V) (G : DHp) (H : Hp) (Q : VK) (QD : DK), HR K G H → Rep K H x v → Reps K H xs vs → f x xs G QD →
  (∀ d G' v' H', HR K G' H' → Rep K H' d v' → Stp G H G' H' → QD d G' → Q v' H') → r v vs H Q
def isL (x : D) (G : DHp) : Prop := ∃ a xs, x = .ref a ∧ G a = some (.lst xs)
@[simp] def wMt (f : WRM) (wo : WE) (ws : WA) : WE := fun ρ G Q => wo ρ G fun x G1 => isL x G1 ∧ ws ρ G1 fun xs G2 => f x xs G2 Q
theorem de_bm {name : Str} {id : String} {r : V → List V → Hp → VK → Prop} {ff : WRM} (pa : PlainAttrs "list") (slot : Slot "list" name id) (hty : typeOf (.builtin id) = pure (.type "method_descriptor")) (hm : MtR X id r) (hd : MtD X.K r ff) (ho : DE X G0 H0 o wo) (ha : DA X G0 H0 (e :: es) ws)
    (hbase : attributeBase o name X.env (eval o X.env) = eval o X.env := by rfl)
    (hfew : ((backTo pos (starEach (e :: es) X.env)).all (fun x => !x.1) && (backToKw pos (keywordEach [] X.env)).all (fun x => x.1.isSome)
      && decide ((e :: es).length + ([] : List Keyword).length + (if ([] : List Keyword).isEmpty then 0 else 1) < 30)) = true := by rfl)
    (hline : (apos.endLine == pos.line) = true := by rfl) (hs : starEach (e :: es) X.env = (false, eval e X.env) :: starEach es X.env := by rfl) (hplain : (backTo pos (starEach es X.env)).any (·.1) = false := by rfl) :
    DE X G0 H0 (.Call (.Attribute o name apos) (e :: es) [] pos) (wMt ff wo ws) :=
  PE.to (pe_bm pa slot hty hm ho ha hbase hfew hline hs hplain) fun σ H Q ⟨ρ, G, QD, pt, w, k⟩ => ⟨ρ, G, _, pt, w, fun x G1 v H1 h1 r1 s1 w1 => by
    obtain ⟨⟨a, ys, rfl, ea⟩, w1⟩ := w1
    cases r1
    obtain ⟨vs, hh, rs⟩ := h1 a _ ea
    exact ⟨.inl ⟨rfl, vs, SqL.of hh⟩, ρ, G1, _, pt.go h1 s1, w1, fun xs G2 us H2 h2 r2 s2 w2 => hd (.ref a) xs (.ref a) us G2 H2 Q QD h2 rfl r2 w2 fun d G' v' H' h' r' s' q => k d G' v' H' h' r' ((s1.trans s2).trans s') q⟩⟩
def dAppend : WRM := fun x xs G Q => match x, xs with
  | .ref p, [y] => ∃ ys, G p = some (.lst ys) ∧ ys.length < 1000000 ∧ Q .non (updD G p (.lst (ys ++ [y])))
  | _, _ => False
theorem md_append {K : W.Frag} : MtD K rAppend dAppend := by
  intro x xs v vs G H Q QD hr rx rs w k
  unfold dAppend at w
  split at w
  · rename_i p y
    cases rx
    obtain ⟨u, rfl, ry⟩ := rs.one_inv
    obtain ⟨ys, ea, hl, w⟩ := w
    obtain ⟨us, h, rl⟩ := hr p _ ea
    refine ⟨p, us, u, rfl, rfl, h, by rw [← rl.length, sizeLine_eq]; omega, ?_⟩
    have m := mn_write (x := .lst (us ++ [u])) hr ea
    exact k .non _ .non _ (hr.write (u := .lst (ys ++ [y])) ea ⟨_, upd_same, (rl.append (Reps.one ry)).mono m⟩) rfl (.write ea) w
  · exact w.elim

/-! ### short words -/
theorem dv (i : Nat) {x : Str} (hN : X.N[i]? = some x := by rfl) (hv : Vis X.env.scope x := by first | exact Or.inl rfl | exact Or.inr (Or.inl rfl) | exact Or.inr (Or.inr rfl)) (hd : (x == ("__debug__" : Str)) = false := by decide)
    (hcd : (x == ("__classdict__" : Str)) = false := by decide) : DE X G0 H0 (.Name x pos) (wVar i) := de_var hN hv hd hcd
theorem dgn (i : Nat) {x : Str} (hN : X.N.Nodup) (hi : X.N[i]? = some x := by rfl) (hx : Loc X.env.scope x := by first | exact Or.inl rfl | exact Or.inr rfl) (hf : X.fn x = true ∨ X.env.scope.names.lookup x = some .local := by first | exact .inl rfl | exact .inr rfl) : DG X G0 H0 (.Name x pos) (wgName i) := dg_name hN hi hx hf
theorem pgn (i : Nat) {x : Str} (hN : X.N.Nodup) (hi : X.N[i]? = some x := by rfl) (hx : Loc X.env.scope x := by first | exact Or.inl rfl | exact Or.inr rfl) (hf : X.fn x = true ∨ X.env.scope.names.lookup x = some .local := by first | exact .inl rfl | exact .inr rfl) : PG X (.Name x pos) (gName i) := pg_name hN hi hx hf
theorem dsn (i : Nat) {x : Str} (hN : X.N.Nodup) (he : DE X G0 H0 e we) (hi : X.N[i]? = some x := by rfl) (hx : Loc X.env.scope x := by first | exact Or.inl rfl | exact Or.inr rfl) (hs : swapsWith e (some (.Name x pos')) pos.line X.env = pure false := by rfl) (hf : X.fn x = true ∨ X.env.scope.names.lookup x = some .local := by first | exact .inl rfl | exact .inr rfl) :
    DS X G0 H0 (.Assign [.Name x pos'] e pos) (wAsg we (wgName i)) := ds_set hN hi hx he hs hf
theorem de_gint {x : Str} {n : Int} {t : Tok} (hg : Gl X x) (hm : X.mg x = some (.int n t)) (hd : (x == ("__debug__" : Str)) = false := by decide) : DE X G0 H0 (.Name x pos) (wC (.int n)) := de_glob (v := .int n) (d := .int n) hg hm ⟨t, rfl⟩ (fun _ => rfl) hd
theorem de_gstr {x z : Str} {t : Tok} (hg : Gl X x) (hm : X.mg x = some (.str z t)) (hd : (x == ("__debug__" : Str)) = false := by decide) : DE X G0 H0 (.Name x pos) (wC (.str z)) := de_glob (v := .str z) (d := .str z) hg hm ⟨t, rfl⟩ (fun _ => rfl) hd
/-- xs[::-1], a list -/
def dRev (x : D) (G : DHp) (Q : DK) : Prop := match x with
  | .ref a => ∃ xs, G a = some (.lst xs) ∧ ∀ p, G p = none → Q (.ref p) (updD G p (.lst xs.reverse))
  | _ => False
@[simp] def wRev (we : WE) : WE := fun ρ G Q => we ρ G fun x G1 => dRev x G1 Q
theorem Reps.reverse {K : W.Frag} {H : Hp} : ∀ {xs : List D} {vs : List V}, Reps K H xs vs → Reps K H xs.reverse vs.reverse
  | [], _, r => by cases r; rfl
  | x :: xs, vs, r => by
    obtain ⟨v, rr, rfl, r1, r2⟩ := r
    rw [List.reverse_cons, List.reverse_cons]
    exact (Reps.reverse r2).append (Reps.one r1)
theorem de_rev {k : Nat} {p1 p2 p3 : Pos} (he : DE X G0 H0 e we) : DE X G0 H0 (.Subscript e (.Slice none none (some (.UnaryOp .USub (.Constant (.int 1) k p1) p2)) p3) pos) (wRev we) :=
  PE.to (pe_revL he) fun σ H Q ⟨ρ, G, QD, pt, w, kk⟩ => ⟨ρ, G, _, pt, w, fun x G1 v H1 h1 r1 s1 w1 => by
    unfold dRev at w1
    split at w1
    · cases r1
      obtain ⟨xs, ea, w1⟩ := w1
      obtain ⟨vs, h, rs⟩ := h1 _ _ ea
      exact ⟨_, vs, rfl, SqL.of h, fun p hp => kk (.ref p) _ _ _ (h1.new hp (o := .lst xs.reverse) ⟨_, upd_same, rs.reverse.mono (mn_upd hp)⟩) rfl (s1.trans (.new h1 hp)) (w1 p (h1.free hp))⟩
    · exact w1.elim⟩
end
end TC
set_option maxRecDepth 100000
set_option maxHeartbeats 1000000
/-! TC, part i: zip and enumerate over tuples, lists, texts in any mix. -/
namespace TC
open PySem PySem.Spec PyProof.Rows L2

/-- what a zip or an enumerate goes over -/
inductive SV where
  | tup (a : Addr) | lst (a : Addr) | txt (x : Str)
def signsV (x : Str) : List V := x.cps.toList.map fun c => .str ⟨#[c]⟩
def SV.at (K : PySem.W.Frag) (H : Hp) : SV → List V → Prop
  | .tup a, xs => SqT K H a xs
  | .lst a, xs => SqL K H a xs
  | .txt x, xs => xs = signsV x
def SV.v : SV → V
  | .tup a => .ref a
  | .lst a => .ref a
  | .txt x => .str x
def SV.val (t : Tok) : SV → Value
  | .tup a => .ref a
  | .lst a => .ref a
  | .txt x => .str x t
def SV.ob (t : Tok) : SV → Obj
  | .tup a => { cls := .type "tuple_iterator", data := .fields #[.ref a, .int 0 0] }
  | .lst a => { cls := .type "list_iterator", data := .fields #[.ref a, .int 0 0] }
  | .txt x => { cls := .type (strIterType x), data := .fields #[.str x t, .int 0 0] }
def SV.st (t : Tok) (it : Addr) (i : Nat) (h : Heap) : SV → Prop
  | .tup a => h.IsTupleIter it a i
  | .lst a => h.IsListIter it a i
  | .txt x => h.IsStrIter it (strIterType x) x t i
def SV.cells : SV → List Addr
  | .tup a => [a]
  | .lst a => [a]
  | .txt _ => []
theorem SV.rel {c : SV} {u : Value} (r : RelV c.v u) : ∃ t, u = c.val t := by
  cases c with
  | tup a => cases r; exact ⟨0, rfl⟩
  | lst a => cases r; exact ⟨0, rfl⟩
  | txt x => obtain ⟨t, rfl⟩ := r; exact ⟨t, rfl⟩
theorem SV.obj {c : SV} {t : Tok} {it : Addr} {i : Nat} {h : Heap} (q : c.st t it i h) : ∃ o, h.get? it = some o ∧ ∀ v, o.data ≠ .cell v := by
  cases c with
  | tup a => obtain ⟨o, ho, _, hd⟩ := q; exact ⟨o, ho, fun v e => by rw [hd] at e; cases e⟩
  | lst a => obtain ⟨o, ho, _, hd⟩ := q; exact ⟨o, ho, fun v e => by rw [hd] at e; cases e⟩
  | txt x => obtain ⟨o, ho, _, hd⟩ := q; exact ⟨o, ho, fun v e => by rw [hd] at e; cases e⟩
theorem SV.st_at {c : SV} {t : Tok} {it : Addr} {i : Nat} {h h' : Heap} (q : c.st t it i h) (k : ∀ o, h.get? it = some o → h'.get? it = some o) : c.st t it i h' := by
  cases c with
  | tup a => obtain ⟨o, ho, r⟩ := q; exact ⟨o, k o ho, r⟩
  | lst a => obtain ⟨o, ho, r⟩ := q; exact ⟨o, k o ho, r⟩
  | txt x => obtain ⟨o, ho, r⟩ := q; exact ⟨o, k o ho, r⟩
theorem SV.st0 {c : SV} {t : Tok} {it : Addr} {h : Heap} (q : h.get? it = some (c.ob t)) : c.st t it 0 h := by
  cases c with
  | tup a => exact ⟨_, q, rfl, rfl⟩
  | lst a => exact ⟨_, q, rfl, rfl⟩
  | txt x => exact ⟨_, q, rfl, rfl⟩
section
variable {X : Cx} {pins : List (Addr × Obj)} {σ : L2.St} {H : Hp} {s : Shared}
theorem SV.inj {c : SV} {xs ys : List V} (I : Inv X pins σ H s) (a : c.at X.K H xs) (b : c.at X.K H ys) : xs = ys := by
  cases c with
  | tup _ => exact I.tuple_inj a b
  | lst _ => exact I.list_inj a b
  | txt _ => exact Eq.trans a (Eq.symm b)
theorem drawsMono {prog : Program} {w : World} {A : Around} {it : Addr} {fp : List Addr} {n : Nat} {P P' : Nat → Value → Prop} {St : Nat → Heap → Prop} (D : Draws prog w A it fp n P St) (h : ∀ i v, P i v → P' i v) : Draws prog w A it fp n P' St :=
  ⟨D.live, D.frame, fun i s Q E hi st hQ => D.item i s Q E hi st fun x h' tk hp => hQ x h' tk (h i x hp), D.done⟩
/-- the iterator over c, at this heap -/
theorem SV.draws {c : SV} {t : Tok} {it : Addr} {xs : List V} {prog : Program} {w : World} {A : Around} (hh : A.handled = none) (I : Inv X pins σ H s) (q : c.at X.K H xs) (hne : ∀ a ∈ c.cells, a ≠ it) :
    ∃ St : Nat → Heap → Prop, Draws prog w A it (it :: c.cells) xs.length (fun i v => ∃ x, xs[i]? = some x ∧ RelV x v) St ∧ (∀ i, c.st t it i s.heap → St i s.heap) ∧ ∀ i h, St i h → c.st t it i h := by
  cases c with
  | tup a =>
    obtain ⟨its, r, p, _⟩ := I.tuple q
    have hl : its.toArray.size = xs.length := by rw [List.size_toArray, r.length]
    refine ⟨fun i h => h.IsTupleIter it a i ∧ h.IsTuple a its.toArray, drawsMono (hl ▸ Draws.tuple hh it a (hne a (by simp [SV.cells])) its.toArray) fun i v e => ?_, fun i h => ⟨h, p⟩, fun i h z => z.1⟩
    have e' : its[i]? = some v := by simpa using e
    have hi : i < xs.length := by rw [r.length]; exact (List.getElem?_eq_some_iff.mp e').1
    obtain ⟨u, hu, ru⟩ := r.get (List.getElem?_eq_getElem hi)
    rw [e'] at hu; cases hu
    exact ⟨_, List.getElem?_eq_getElem hi, ru⟩
  | lst a =>
    obtain ⟨its, r, p, _⟩ := I.list q
    have hl : its.toArray.size = xs.length := by rw [List.size_toArray, r.length]
    refine ⟨fun i h => h.IsListIter it a i ∧ h.IsList a its.toArray, drawsMono (hl ▸ Draws.list hh it a (hne a (by simp [SV.cells])) its.toArray) fun i v e => ?_, fun i h => ⟨h, p.isList⟩, fun i h z => z.1⟩
    have e' : its[i]? = some v := by simpa using e
    have hi : i < xs.length := by rw [r.length]; exact (List.getElem?_eq_some_iff.mp e').1
    obtain ⟨u, hu, ru⟩ := r.get (List.getElem?_eq_getElem hi)
    rw [e'] at hu; cases hu
    exact ⟨_, List.getElem?_eq_getElem hi, ru⟩
  | txt x =>
    have hl : x.cps.size = xs.length := by
      have : xs = signsV x := q
      rw [this]; simp [signsV]
    refine ⟨fun i h => h.IsStrIter it (strIterType x) x t i, drawsMono (hl ▸ Draws.text hh it x t) fun i v e => ?_, fun i h => h, fun i h z => z⟩
    obtain ⟨k, u, e1, rfl⟩ := e
    refine ⟨.str ⟨#[k]⟩, ?_, u, rfl⟩
    have : xs = signsV x := q
    rw [this]
    simp [signsV, e1]
end
theorem SV.begins {c : SV} {t : Tok} {X : Cx} {pins : List (Addr × Obj)} {σ : L2.St} {H : Hp} {s : Shared} {xs : List V} (I : Inv X pins σ H s) (q : c.at X.K H xs) : ∃ P : Heap → Prop, Begins (c.val t) (c.ob t) P ∧ P s.heap ∧ ∀ a ∈ c.cells, a < s.heap.objs.size := by
  cases c with
  | tup a =>
    obtain ⟨its, r, p, _⟩ := I.tuple q
    obtain ⟨o, ho, _⟩ := id p
    exact ⟨_, begins_tuple a its.toArray, p, fun b hb => by
      have : b = a := by simpa [SV.cells] using hb
      subst this; exact Heap.lt_size ho⟩
  | lst a =>
    obtain ⟨its, r, p, _⟩ := I.list q
    exact ⟨_, begins_list a its.toArray, p.isList, fun b hb => by
      have : b = a := by simpa [SV.cells] using hb
      subst this; exact p.lt⟩
  | txt x => exact ⟨_, begins_text x t, trivial, fun b hb => by simp [SV.cells] at hb⟩

/-! ### zip of two -/
def ItZ (K : PySem.W.Frag) (a b : SV) : It :=
  ⟨fun i H => ∃ (xs ys : List V) (x y : V), a.at K H xs ∧ b.at K H ys ∧ xs[i]? = some x ∧ ys[i]? = some y,
    fun i H v H' => ∃ T x y, v = .ref T ∧ H T = none ∧ H' = upd H T (.tup [x, y]) ∧ (∀ xs, a.at K H xs → xs[i]? = some x) ∧ ∀ ys, b.at K H ys → ys[i]? = some y,
    fun i H => ∃ xs ys : List V, a.at K H xs ∧ b.at K H ys ∧ i ≤ xs.length ∧ i ≤ ys.length ∧ (xs.length = i ∨ ys.length = i)⟩
theorem turn_z {P : Program} {w : World} {K : PySem.W.Frag} {elts : List Expr} {kk : Nat} {tpos : Pos} {a b : SV} {t1 t2 : Tok} {z TI TO i1 i2 : Addr} (S : ZipSep2 z TI TO i1 i2 (i1 :: a.cells) (i2 :: b.cells)) :
    Turn P w K (.Tuple elts kk tpos) (ItZ K a b) [z, TI, TO, i1, i2] z (fun i h => IsZip h z TI TO .none ∧ IsTupOf2 h TI (.ref i1) (.ref i2) ∧ (∃ x y, IsTupOf2 h TO x y) ∧ a.st t1 i1 i h ∧ b.st t2 i2 i h ∧ (∀ c ∈ a.cells, c ≠ i1) ∧ ∀ c ∈ b.cells, c ≠ i2) where
  mem := by simp
  obj := fun i h st c hc => by
    obtain ⟨hz, hTI, ⟨x, y, hTO⟩, q1, q2, _⟩ := st
    have e' : c = z ∨ c = TI ∨ c = TO ∨ c = i1 ∨ c = i2 := by simpa using hc
    rcases e' with q | q | q | q | q
    · rw [q]; exact ⟨_, hz, fun v q => nomatch q⟩
    · rw [q]; exact ⟨_, hTI, fun v q => nomatch q⟩
    · rw [q]; exact ⟨_, hTO, fun v q => nomatch q⟩
    · rw [q]; exact SV.obj q1
    · rw [q]; exact SV.obj q2
  keep := fun i h h' st k => by
    obtain ⟨hz, hTI, ⟨x, y, hTO⟩, h1, h2, r⟩ := st
    exact ⟨k z (by simp) _ hz, k TI (by simp) _ hTI, ⟨x, y, k TO (by simp) _ hTO⟩, SV.st_at h1 fun o q => k i1 (by simp) o q, SV.st_at h2 fun o q => k i2 (by simp) o q, r⟩
  item := by
    intro X hP hw hK hc i pins s σ H E I hf st hg
    subst hP hw hK
    obtain ⟨hz, hTI, ⟨x0, y0, hTO⟩, h1, h2, n1, n2⟩ := st
    obtain ⟨xs, ys, x, y, hqx, hqy, hx, hy⟩ := hg
    obtain ⟨St1, D1, e1, f1⟩ := SV.draws (prog := X.prog) (w := X.w) (A := X.A.in1) (t := t1) (I.ok.hd hc) I hqx n1
    obtain ⟨St2, D2, e2, f2⟩ := SV.draws (prog := X.prog) (w := X.w) (A := X.A.in1) (t := t2) (I.ok.hd hc) I hqy n2
    have hzl : z < s.heap.objs.size := Heap.lt_size hz
    have l1 : i < xs.length := (List.getElem?_eq_some_iff.mp hx).1
    have l2 : i < ys.length := (List.getElem?_eq_some_iff.mp hy).1
    refine wpAny_pyNext_zipD2_item S D1 D2 hz hTI hTO (e1 i h1) (e2 i h2) l1 l2 fun u u2 h' tk p1 p2 z' TO' h1' h2' hT hsz hk => ?_
    obtain ⟨x', ex, ru⟩ := p1
    obtain ⟨y', ey, ru2⟩ := p2
    rw [hx] at ex; cases ex
    rw [hy] at ey; cases ey
    refine ⟨_, rfl, wpAny_letOwnedTupleGo_zip (s := { s with heap := h', toks := tk }) z' fun h'' z'' sb => ?_⟩
    have hT2 : h''.get? s.heap.objs.size = some { cls := .type "tuple", data := .seq #[u, u2] } := (sb.2 _ (Nat.ne_of_gt hzl)).trans hT
    have new : ObjOk X.prog X.w (upd H s.heap.objs.size (.tup [x, y])) h'' s.heap.objs.size (.tup [x, y]) :=
      ⟨by show 2 ≤ sizeLine; decide, [u, u2], .cons ru (.cons ru2 .nil), ⟨_, hT2, rfl, _, rfl⟩⟩
    have I1 : Inv X pins σ (upd H s.heap.objs.size (.tup [x, y])) { s with heap := h'', toks := tk } :=
      I.turnedNew (t' := tk) (ch := [z, TI, TO, i1, i2]) (fun c o hb q => (sb.2 c (fun q' => hb (by simp [q']))).trans (hk c o (fun q' => hb (by simp [q'])) (fun q' => hb (by simp [q'])) (fun q' => hb (by simp [q'])) (fun q' => hb (by simp [q'])) q)) hf (Nat.le_refl _) new
    refine ⟨.ref s.heap.objs.size, _, I1, rfl, ⟨_, x, y, rfl, I.hok.fresh (Nat.le_refl _), rfl, fun l hl => by rw [SV.inj I hl hqx]; exact hx, fun l hl => by rw [SV.inj I hl hqy]; exact hy⟩, ⟨z'', ?_, ⟨u, u2, ?_⟩, ?_, ?_, n1, n2⟩, fun c hcm => ?_⟩
    · exact (sb.2 _ S.TIz).trans (hk _ _ S.TIz S.TITO S.TIi1 S.TIi2 hTI)
    · exact (sb.2 _ S.TOz).trans TO'
    · exact SV.st_at (f1 _ _ h1') fun o q => (sb.2 _ (Ne.symm S.zi1)).trans q
    · exact SV.st_at (f2 _ _ h2') fun o q => (sb.2 _ (Ne.symm S.zi2)).trans q
    · have hlt : c < s.heap.objs.size := by
        have e' : c = z ∨ c = TI ∨ c = TO ∨ c = i1 ∨ c = i2 := by simpa using hcm
        rcases e' with q | q | q | q | q
        · rw [q]; exact hzl
        · rw [q]; exact Heap.lt_size hTI
        · rw [q]; exact Heap.lt_size hTO
        · rw [q]; obtain ⟨_, e1, _⟩ := SV.obj h1; exact Heap.lt_size e1
        · rw [q]; obtain ⟨_, e2, _⟩ := SV.obj h2; exact Heap.lt_size e2
      rw [upd_ne (Nat.ne_of_lt hlt)]
      exact (hf c hcm).1
  done := by
    intro X hP hw hK hc i pins s σ H E I hf st hg
    subst hP hw hK
    obtain ⟨hz, hTI, ⟨x0, y0, hTO⟩, h1, h2, n1, n2⟩ := st
    obtain ⟨xs, ys, hqx, hqy, le1, le2, hend⟩ := hg
    obtain ⟨St1, D1, e1, f1⟩ := SV.draws (prog := X.prog) (w := X.w) (A := X.A.in1) (t := t1) (I.ok.hd hc) I hqx n1
    obtain ⟨St2, D2, e2, f2⟩ := SV.draws (prog := X.prog) (w := X.w) (A := X.A.in1) (t := t2) (I.ok.hd hc) I hqy n2
    exact wpAny_pyNext_zipD2_end S D1 D2 hz hTI hTO (e1 i h1) (e2 i h2) le1 le2 (hend.imp Eq.symm Eq.symm) fun h' tk hk => ⟨rfl, I.turnedL (t' := tk) (ch := [z, TI, TO, i1, i2]) (fun c o hb q =>
      hk c o (fun q' => hb (by simp [q'])) (fun q' => hb (by simp [q'])) (fun q' => hb (by simp [q'])) (fun q' => hb (by simp [q'])) q) hf⟩
  self := fun A i s Q E st h => wpAny_pyIter_zip st.1 h
def iZ (K : PySem.W.Frag) (ta : TA) : TI := fun σ H R => ta σ H fun vs H1 => ∃ (a b : SV) (xs ys : List V), vs = [a.v, b.v] ∧ a.at K H1 xs ∧ b.at K H1 ys ∧ R (ItZ K a b) H1
theorem pi_z {X : Cx} {e e2 : Expr} {ta : TA} {p pos tpos : Pos} {elts : List Expr} {kk : Nat} (hg : Gl X "zip") (hm : X.mg "zip" = none) (ha : PA X [e, e2] ta)
    (hs : starEach [e, e2] X.env = (false, eval e X.env) :: starEach [e2] X.env := by rfl) (hpl : (backTo pos (starEach [e2] X.env)).any (·.1) = false := by rfl) :
    PI X (.Tuple elts kk tpos) (.Call (.Name "zip" p) [e, e2] [] pos) (iZ X.K ta) := by
  refine ⟨fun pins s σ H R I h => ?_⟩
  refine Call_ (ld_blt I hg hm PyProof.Rows.boot_zip (PyProof.Rows.callWith_type1 (thn (ha.run pos pins s σ H _ I h) fun us s1 ⟨vs, H1, I1, r1, q1⟩ => ?_) hs hpl))
  obtain ⟨a, b, xs, ys, ex, q1, q2, q⟩ := q1
  subst ex
  cases r1 with
  | cons r rr =>
    cases rr with
    | cons r' rr =>
      cases rr
      obtain ⟨t1, rfl⟩ := a.rel r
      obtain ⟨t2, rfl⟩ := b.rel r'
      obtain ⟨P1, B1, hp1, lt1⟩ := SV.begins (t := t1) I1 q1
      obtain ⟨P2, B2, hp2, lt2⟩ := SV.begins (t := t2) I1 q2
      have fresh5 : ∀ c, c ∈ [s1.heap.objs.size + 4, s1.heap.objs.size + 2, s1.heap.objs.size + 3, s1.heap.objs.size, s1.heap.objs.size + 1] → FpOk X pins H1 c := fun c hcm => by
        have e' : c = s1.heap.objs.size + 4 ∨ c = s1.heap.objs.size + 2 ∨ c = s1.heap.objs.size + 3 ∨ c = s1.heap.objs.size ∨ c = s1.heap.objs.size + 1 := by simpa using hcm
        have hle : s1.heap.objs.size ≤ c := by
          rcases e' with z | z | z | z | z
          · rw [z]; exact Nat.le_add_right _ _
          · rw [z]; exact Nat.le_add_right _ _
          · rw [z]; exact Nat.le_add_right _ _
          · rw [z]; exact Nat.le_refl _
          · rw [z]; exact Nat.le_add_right _ _
        exact I1.fpOk hle (I1.hok.fresh hle)
      refine zip_begins2 B1 B2 hp1 hp2 fun h' hz hTI hTO g1 g2 hsz hk => wpAny_pyIter_zip hz ?_
      have I2 : Inv X pins σ H1 { s1 with heap := h' } := I1.kept (t' := s1.toks) hk
      exact ⟨s1.heap.objs.size + 4, [s1.heap.objs.size + 4, s1.heap.objs.size + 2, s1.heap.objs.size + 3, s1.heap.objs.size, s1.heap.objs.size + 1], _, _, H1, rfl, I2,
        turn_z (t1 := t1) (t2 := t2) (zip_sep2 lt1 lt2), ⟨hz, hTI, ⟨_, _, hTO⟩, SV.st0 g1, SV.st0 g2, fun c hcm => Nat.ne_of_lt (lt1 c hcm), fun c hcm => Nat.ne_of_lt (Nat.lt_succ_of_lt (lt2 c hcm))⟩, fresh5, q⟩

/-! ### enumerate -/
set_option maxHeartbeats 2000000 in
theorem meets_enumerate_newB1 {v : Value} {o : Obj} {H : Heap → Prop} (B : Begins v o H) :
    Meets (Builtin.«enumerate.__new__» ⟨[.type "enumerate", v], []⟩) (fun _ R s => H s.heap ∧
      R (.ok (.ret (.ref (s.heap.push o).objs.size))) { s with heap := (s.heap.push o).push { cls := .type "enumerate", data := .fields #[.none, .bool false, .ref s.heap.objs.size, rawInt 0, .none, .none] } }) :=
  .of_wp fun prog w A R s h => by
    obtain ⟨hp, g, d, tk, os⟩ := s; obtain ⟨h1, h⟩ := h
    have hsub := sub_enumerate
    have q1 : ∀ {A' : Around} {E : Value → Shared → Prop} {Q : Value → Shared → Prop}, Q (.ref hp.objs.size) ⟨hp.push o, g, d, tk, os⟩ → wpAny (model prog w) A' (pyIter v) Q E ⟨hp, g, d, tk, os⟩ :=
      fun q => B.iter prog w _ _ ⟨hp, g, d, tk, os⟩ _ h1 q
    wp_walk using q1
    refine wpAny_stack_any fun st => wpAny_pure ?_
    split
    · rename_i c _ _ _ _ _
      cases (c == Value.type "enumerate")
      · wp_walk using q1
        exact ⟨_, rfl, h⟩
      · wp_walk using q1
        exact ⟨_, rfl, h⟩
    · wp_walk using q1
      exact ⟨_, rfl, h⟩
theorem enum_begins1 {prog : Program} {w : World} {A : Around} {E : Value → Shared → Prop} {s : Shared} {v : Value} {o : Obj} {H : Heap → Prop} {Q : Value → Shared → Prop} (B : Begins v o H) (h1 : H s.heap)
    (h : ∀ h', IsEnum h' (s.heap.objs.size + 1) s.heap.objs.size 0 .none → h'.get? s.heap.objs.size = some o → h'.objs.size = s.heap.objs.size + 2 →
      (∀ b o, s.heap.get? b = some o → h'.get? b = some o) → Q (.ref (s.heap.objs.size + 1)) { s with heap := h' }) :
    wpAny (model prog w) A (call (.type "enumerate") [v]) Q E s := by
  refine callType_new F.called_enumerate (by decide) (F.typeCall_enumerate_1 _) (F.newCall_enumerate_1 _) (fun obj => F.args_object_init_2 obj _) F.entry_enumerate_new
    (meets_enumerate_newB1 B) ⟨h1, ?_⟩
  have hz : (s.heap.push o).objs.size = s.heap.objs.size + 1 := Heap.size_push ..
  show _ ∧ _
  rw [hz]
  have he : IsEnum ((s.heap.push o).push { cls := .type "enumerate", data := .fields #[.none, .bool false, .ref s.heap.objs.size, rawInt 0, .none, .none] }) (s.heap.objs.size + 1) s.heap.objs.size 0 .none := by
    have := Heap.get?_push_size (s.heap.push o) (o := { cls := .type "enumerate", data := .fields #[.none, .bool false, .ref s.heap.objs.size, rawInt 0, .none, .none] }) rfl
    rw [hz] at this; exact this
  refine ⟨⟨_, he, rfl⟩, h _ he (Heap.get?_push_of_some _ (Heap.get?_push_size _ B.free)) (by rw [Heap.size_push, hz]) fun b o x => Heap.get?_push_of_some _ (Heap.get?_push_of_some _ x)⟩
def ItE (K : PySem.W.Frag) (k0 : Int) (a : SV) : It :=
  ⟨fun i H => ∃ (xs : List V) (x : V), a.at K H xs ∧ xs[i]? = some x, fun i H v H' => ∃ T x, v = .ref T ∧ H T = none ∧ H' = upd H T (.tup [.int (k0 + (i : Int)), x]) ∧ ∀ xs, a.at K H xs → xs[i]? = some x, fun i H => ∃ xs : List V, a.at K H xs ∧ xs.length = i⟩
theorem turn_e {P : Program} {w : World} {K : PySem.W.Frag} {elts : List Expr} {kk : Nat} {tpos : Pos} {a : SV} {t : Tok} {k0 : Int} (e it : Addr) :
    Turn P w K (.Tuple elts kk tpos) (ItE K k0 a) [e, it] e (fun i h => (∃ old, IsEnum h e it (k0 + (i : Int)) old) ∧ a.st t it i h ∧ e ≠ it ∧ (∀ c ∈ a.cells, c ≠ it) ∧ e ∉ it :: a.cells) where
  mem := by simp
  obj := fun i h st b hb => by
    obtain ⟨⟨old, he⟩, h1, _⟩ := st
    have e' : b = e ∨ b = it := by simpa using hb
    rcases e' with z | z
    · rw [z]; exact ⟨_, he, fun v q => nomatch q⟩
    · rw [z]; exact SV.obj h1
  keep := fun i h h' st k => let ⟨⟨old, he⟩, hi, r⟩ := st; ⟨⟨old, k e (by simp) _ he⟩, SV.st_at hi fun o q => k it (by simp) o q, r⟩
  item := by
    intro X hP hw hK hc i pins s σ H E I hf st hg
    subst hP hw hK
    obtain ⟨⟨old, he⟩, hit, hne, n1, hef⟩ := st
    obtain ⟨xs, x, hq, hx⟩ := hg
    obtain ⟨St1, D1, e1, f1⟩ := SV.draws (prog := X.prog) (w := X.w) (A := X.A.in1) (t := t) (I.ok.hd hc) I hq n1
    have hel : e < s.heap.objs.size := Heap.lt_size he
    have hil : it < s.heap.objs.size := by obtain ⟨_, q, _⟩ := SV.obj hit; exact Heap.lt_size q
    have l1 : i < xs.length := (List.getElem?_eq_some_iff.mp hx).1
    refine wpAny_pyNext_enum_itemC D1 he (e1 i hit) l1 hne hef fun u h' tk p1 ho hit' hT hsz hk => ?_
    obtain ⟨x', ex, ru⟩ := p1
    rw [hx] at ex; cases ex
    refine ⟨_, rfl, wpAny_letOwnedTupleGo_enum (s := { s with heap := h', toks := tk + 1 }) ho fun h'' he' sb => ?_⟩
    have hT2 : h''.get? s.heap.objs.size = some { cls := .type "tuple", data := .seq #[.int (k0 + (i : Int)) tk, u] } := (sb.2 _ (Nat.ne_of_gt hel)).trans hT
    have new : ObjOk X.prog X.w (upd H s.heap.objs.size (.tup [.int (k0 + (i : Int)), x])) h'' s.heap.objs.size (.tup [.int (k0 + (i : Int)), x]) :=
      ⟨by show 2 ≤ sizeLine; decide, [.int (k0 + (i : Int)) tk, u], .cons ⟨_, rfl⟩ (.cons ru .nil), ⟨_, hT2, rfl, _, rfl⟩⟩
    have I1 : Inv X pins σ (upd H s.heap.objs.size (.tup [.int (k0 + (i : Int)), x])) { s with heap := h'', toks := tk + 1 } :=
      I.turnedNew (ch := [e, it]) (fun b ob hb q => (sb.2 b (fun z => hb (by simp [z]))).trans (hk b ob (fun z => hb (by simp [z])) (fun z => hb (by simp [z])) q)) hf (Nat.le_refl _) new
    refine ⟨.ref s.heap.objs.size, _, I1, rfl, ⟨_, x, rfl, I.hok.fresh (Nat.le_refl _), rfl, fun ys hy => by rw [SV.inj I hy hq]; exact hx⟩, ⟨⟨u, ?_⟩, SV.st_at (f1 _ _ hit') fun o q => (sb.2 it (Ne.symm hne)).trans q, hne, n1, hef⟩, fun b hb => ?_⟩
    · have e1 : k0 + ((i + 1 : Nat) : Int) = k0 + (i : Int) + 1 := by omega
      rw [e1]; exact he'
    · have hb' : b < s.heap.objs.size := by
        have e' : b = e ∨ b = it := by simpa using hb
        rcases e' with z | z
        · rw [z]; exact hel
        · rw [z]; exact hil
      rw [upd_ne (Nat.ne_of_lt hb')]
      exact (hf b hb).1
  done := by
    intro X hP hw hK hc i pins s σ H E I hf st hg
    subst hP hw hK
    obtain ⟨⟨old, he⟩, hit, hne, n1, hef⟩ := st
    obtain ⟨xs, hq, hx⟩ := hg
    obtain ⟨St1, D1, e1, f1⟩ := SV.draws (prog := X.prog) (w := X.w) (A := X.A.in1) (t := t) (I.ok.hd hc) I hq n1
    exact wpAny_pyNext_enum_endD D1 he (hx ▸ e1 i hit) fun h' eb => ⟨rfl, I.turnedL (t' := s.toks) (ch := [e, it]) (fun b o hb q => eb b o (fun z => hb (by simp [z])) q) hf⟩
  self := fun A i s Q E st h => let ⟨⟨_, he⟩, _⟩ := st; wpAny_pyIter_enum he h
def iE (K : PySem.W.Frag) (ta : TA) : TI := fun σ H R => ta σ H fun vs H1 => ∃ (a : SV) (xs : List V), vs = [a.v] ∧ a.at K H1 xs ∧ R (ItE K 0 a) H1
theorem pi_e {X : Cx} {e : Expr} {ta : TA} {p pos tpos : Pos} {elts : List Expr} {kk : Nat} (hg : Gl X "enumerate") (hm : X.mg "enumerate" = none) (ha : PA X [e] ta) (hs : starEach [e] X.env = [(false, eval e X.env)] := by rfl) :
    PI X (.Tuple elts kk tpos) (.Call (.Name "enumerate" p) [e] [] pos) (iE X.K ta) := by
  refine ⟨fun pins s σ H R I h => ?_⟩
  refine Call_ (ld_blt I hg hm boot_enumerate (PyProof.Rows.callWith_type1 (thn (ha.run pos pins s σ H _ I h) fun us s1 ⟨vs, H1, I1, r1, q1⟩ => ?_) hs rfl))
  obtain ⟨a, xs, ex, hq, q⟩ := q1
  subst ex
  cases r1 with
  | cons r rr =>
    cases rr
    obtain ⟨t1, rfl⟩ := a.rel r
    obtain ⟨P1, B1, hp1, lt1⟩ := SV.begins (t := t1) I1 hq
    refine enum_begins1 B1 hp1 fun h' he g1 hsz hk => wpAny_pyIter_enum he ?_
    have I2 : Inv X pins σ H1 { s1 with heap := h' } := I1.kept (t' := s1.toks) hk
    refine ⟨s1.heap.objs.size + 1, [s1.heap.objs.size + 1, s1.heap.objs.size], _, _, H1, rfl, I2, turn_e (t := t1) (k0 := 0) (a := a) (s1.heap.objs.size + 1) s1.heap.objs.size, ⟨⟨.none, he⟩, SV.st0 g1, Nat.succ_ne_self _, fun c hcm => Nat.ne_of_lt (lt1 c hcm), ?_⟩, fun b hb => ?_, q⟩
    · intro hm
      rcases List.mem_cons.mp hm with e | hm
      · exact Nat.succ_ne_self _ e
      · have : s1.heap.objs.size + 1 < s1.heap.objs.size := lt1 _ hm
        omega
    · have e' : b = s1.heap.objs.size + 1 ∨ b = s1.heap.objs.size := by simpa using hb
      have hle : s1.heap.objs.size ≤ b := by
        rcases e' with z | z
        · rw [z]; exact Nat.le_add_right _ _
        · rw [z]; exact Nat.le_refl _
      exact I1.fpOk hle (I1.hok.fresh hle)

/-! ### by data -/
def signsD (z : Str) : List D := z.cps.toList.map fun c => .str ⟨#[c]⟩
def walkD (G : DHp) : D → Option (List D)
  | .tup xs => some xs
  | .rl xs => some xs
  | .str z => some (signsD z)
  | .ref a => match G a with
    | some (.lst xs) => some xs
    | _ => none
  | _ => none
@[simp] theorem walkD_tup {G : DHp} {xs : List D} : walkD G (.tup xs) = some xs := rfl
@[simp] theorem walkD_rl {G : DHp} {xs : List D} : walkD G (.rl xs) = some xs := rfl
@[simp] theorem walkD_str {G : DHp} {z : Str} : walkD G (.str z) = some (signsD z) := rfl
theorem walkD_ref {G : DHp} {a : Addr} {xs : List D} (h : G a = some (.lst xs)) : walkD G (.ref a) = some xs := by simp [walkD, h]
theorem Reps.signs {K : W.Frag} {H : Hp} {z : Str} : Reps K H (signsD z) (signsV z) := by
  have : signsD z = (z.cps.toList.map fun c => (⟨#[c]⟩ : Str)).map D.str := by simp [signsD]
  have e2 : signsV z = (z.cps.toList.map fun c => (⟨#[c]⟩ : Str)).map V.str := by simp [signsV]
  rw [this, e2]
  exact Reps.ofStrs
theorem walk_sv {K : W.Frag} {G : DHp} {H : Hp} {d : D} {v : V} {xs : List D} (hr : HR K G H) (r : Rep K H d v) (e : walkD G d = some xs) :
    ∃ c : SV, v = c.v ∧ ∀ G' H', HR K G' H' → Stp G H G' H' → walkD G' d = some xs → ∃ vs, c.at K H' vs ∧ Reps K H' xs vs := by
  cases d with
  | tup ds =>
    obtain ⟨a, vs, rfl, h, rs⟩ := r
    cases e
    exact ⟨.tup a, rfl, fun G' H' h' s' _ => ⟨vs, SqT.of (s'.tup hr h), rs.mono (s'.mn hr)⟩⟩
  | rl ds =>
    obtain ⟨a, vs, rfl, h, rs⟩ := r
    cases e
    exact ⟨.lst a, rfl, fun G' H' h' s' _ => ⟨vs, (s'.fl hr h).sq, rs.mono (s'.mn hr)⟩⟩
  | str z =>
    cases r
    cases e
    exact ⟨.txt z, rfl, fun G' H' _ _ _ => ⟨_, rfl, Reps.signs⟩⟩
  | ref a =>
    cases r
    refine ⟨.lst a, rfl, fun G' H' h' s' e' => ?_⟩
    unfold walkD at e'
    simp only at e'
    split at e'
    · rename_i ys ea
      cases e'
      obtain ⟨vs, h, rs⟩ := h' a _ ea
      exact ⟨vs, SqL.of h, rs⟩
    · cases e'
  | _ => cases e
def zipD (xs ys : List D) : List D := List.zipWith (fun x y => .tup [x, y]) xs ys
def kZip (Q : List D → (DHp → Prop) → DHp → Prop) : List D → DHp → Prop := fun ds G => match ds with
  | [x, y] => ∃ xs ys, walkD G x = some xs ∧ walkD G y = some ys ∧ Q (zipD xs ys) (fun G' => walkD G' x = some xs ∧ walkD G' y = some ys) G
  | _ => False
@[simp] def wiZip (ws : WA) : WI := fun ρ G Q => ws ρ G (kZip Q)
@[simp] theorem kZip_two {Q : List D → (DHp → Prop) → DHp → Prop} {x y : D} {G : DHp} : kZip Q [x, y] G = ∃ xs ys, walkD G x = some xs ∧ walkD G y = some ys ∧ Q (zipD xs ys) (fun G' => walkD G' x = some xs ∧ walkD G' y = some ys) G := rfl
section
variable {X : Cx} {G0 : DHp} {H0 : Hp} {pos : Pos} {e e2 : Expr} {ws : WA}
theorem di_zip {p tpos : Pos} {elts : List Expr} {kk : Nat} (hg : Gl X "zip") (hm : X.mg "zip" = none) (ha : DA X G0 H0 [e, e2] ws)
    (hs : starEach [e, e2] X.env = (false, eval e X.env) :: starEach [e2] X.env := by rfl) (hpl : (backTo pos (starEach [e2] X.env)).any (·.1) = false := by rfl) : DI X G0 H0 (.Tuple elts kk tpos) (.Call (.Name "zip" p) [e, e2] [] pos) (wiZip ws) :=
  PI.to (pi_z hg hm ha hs hpl) fun σ H R ⟨ρ, G, QD, pt, w, k⟩ => ⟨ρ, G, _, pt, w, fun ds G1 vs H1 h1 r1 s1 w1 => by
    unfold kZip at w1
    split at w1
    · rename_i x y
      obtain ⟨v, v', rfl, q, q'⟩ := r1.two_inv
      obtain ⟨xs, ys, ex, ey, w1⟩ := w1
      obtain ⟨c1, rfl, f1⟩ := walk_sv h1 q ex
      obtain ⟨c2, rfl, f2⟩ := walk_sv h1 q' ey
      obtain ⟨us1, a1, _⟩ := f1 G1 H1 h1 .refl ex
      obtain ⟨us2, a2, _⟩ := f2 G1 H1 h1 .refl ey
      have lz : (zipD xs ys).length = min xs.length ys.length := by simp [zipD]
      refine ⟨c1, c2, us1, us2, rfl, a1, a2, k _ _ G1 H1 _ h1 s1 ⟨?_, ?_, ?_⟩ w1⟩
      · intro i G H hi hr s g
        obtain ⟨u1, b1, r1⟩ := f1 G H hr s g.1
        obtain ⟨u2, b2, r2⟩ := f2 G H hr s g.2
        have l1 := r1.length; have l2 := r2.length
        exact ⟨u1, u2, u1[i]'(by omega), u2[i]'(by omega), b1, b2, List.getElem?_eq_getElem _, List.getElem?_eq_getElem _⟩
      · intro i d G H v H' e hr s g yy
        obtain ⟨T, x', y', rfl, hT, rfl, y1, y2⟩ := yy
        obtain ⟨u1, b1, r1⟩ := f1 G H hr s g.1
        obtain ⟨u2, b2, r2⟩ := f2 G H hr s g.2
        unfold zipD at e
        rw [List.getElem?_zipWith] at e
        cases ex : xs[i]? with
        | none => rw [ex] at e; simp at e
        | some dx =>
          cases ey : ys[i]? with
          | none => rw [ex, ey] at e; simp at e
          | some dy =>
            rw [ex, ey] at e
            simp at e
            subst e
            obtain ⟨vx, e1, rx⟩ := r1.get ex
            obtain ⟨vy, e2, ry⟩ := r2.get ey
            rw [y1 u1 b1] at e1; cases e1
            rw [y2 u2 b2] at e2; cases e2
            exact ⟨⟨T, [x', y'], rfl, upd_same, ⟨x', [y'], rfl, rx.mono (mn_upd hT), Reps.one (ry.mono (mn_upd hT))⟩⟩, hr.newU hT, .newU hT⟩
      · intro G H hr s g
        obtain ⟨u1, b1, r1⟩ := f1 G H hr s g.1
        obtain ⟨u2, b2, r2⟩ := f2 G H hr s g.2
        have l1 := r1.length; have l2 := r2.length
        exact ⟨u1, u2, b1, b2, by omega, by omega, by omega⟩
    · exact w1.elim⟩
def numD (lo : Int) : List D → List D
  | [] => []
  | x :: xs => .tup [.int lo, x] :: numD (lo + 1) xs
theorem numD_length : ∀ {xs : List D} {lo : Int}, (numD lo xs).length = xs.length
  | [], _ => rfl
  | x :: xs, lo => by simp [numD, numD_length]
theorem numD_get : ∀ {xs : List D} {lo : Int} {i : Nat}, (numD lo xs)[i]? = xs[i]?.map fun x => .tup [.int (lo + (i : Int)), x]
  | [], _, _ => by simp [numD]
  | x :: xs, lo, 0 => by simp [numD]
  | x :: xs, lo, i + 1 => by
    simp only [numD, List.getElem?_cons_succ, numD_get]
    have : lo + 1 + (i : Int) = lo + ((i + 1 : Nat) : Int) := by omega
    rw [this]
def kEnum (Q : List D → (DHp → Prop) → DHp → Prop) : List D → DHp → Prop := fun ds G => match ds with
  | [x] => ∃ xs, walkD G x = some xs ∧ Q (numD 0 xs) (fun G' => walkD G' x = some xs) G
  | _ => False
@[simp] def wiEnum (ws : WA) : WI := fun ρ G Q => ws ρ G (kEnum Q)
@[simp] theorem kEnum_one {Q : List D → (DHp → Prop) → DHp → Prop} {x : D} {G : DHp} : kEnum Q [x] G = ∃ xs, walkD G x = some xs ∧ Q (numD 0 xs) (fun G' => walkD G' x = some xs) G := rfl
theorem di_enum {p tpos : Pos} {elts : List Expr} {kk : Nat} (hg : Gl X "enumerate") (hm : X.mg "enumerate" = none) (ha : DA X G0 H0 [e] ws) (hs : starEach [e] X.env = [(false, eval e X.env)] := by rfl) :
    DI X G0 H0 (.Tuple elts kk tpos) (.Call (.Name "enumerate" p) [e] [] pos) (wiEnum ws) :=
  PI.to (pi_e hg hm ha hs) fun σ H R ⟨ρ, G, QD, pt, w, k⟩ => ⟨ρ, G, _, pt, w, fun ds G1 vs H1 h1 r1 s1 w1 => by
    unfold kEnum at w1
    split at w1
    · rename_i x
      obtain ⟨v, rfl, q⟩ := r1.one_inv
      obtain ⟨xs, ex, w1⟩ := w1
      obtain ⟨c1, rfl, f1⟩ := walk_sv h1 q ex
      obtain ⟨us1, a1, _⟩ := f1 G1 H1 h1 .refl ex
      refine ⟨c1, us1, rfl, a1, k _ _ G1 H1 _ h1 s1 ⟨?_, ?_, ?_⟩ w1⟩
      · intro i G H hi hr s g
        obtain ⟨u1, b1, r1⟩ := f1 G H hr s g
        have l1 := r1.length
        rw [numD_length] at hi
        exact ⟨u1, u1[i]'(by omega), b1, List.getElem?_eq_getElem _⟩
      · intro i d G H v H' e hr s g yy
        obtain ⟨T, x', rfl, hT, rfl, y1⟩ := yy
        obtain ⟨u1, b1, r1⟩ := f1 G H hr s g
        rw [numD_get] at e
        obtain ⟨dx, edx, rfl⟩ := Option.map_eq_some_iff.mp e
        obtain ⟨vx, e1, rx⟩ := r1.get edx
        rw [y1 u1 b1] at e1; cases e1
        exact ⟨⟨T, [_, x'], rfl, upd_same, ⟨_, [x'], rfl, rfl, Reps.one (rx.mono (mn_upd hT))⟩⟩, hr.newU hT, .newU hT⟩
      · intro G H hr s g
        obtain ⟨u1, b1, r1⟩ := f1 G H hr s g
        exact ⟨u1, b1, by rw [numD_length, r1.length]⟩
    · exact w1.elim⟩
end
end TC
set_option maxRecDepth 100000
/-! TC, part j: classes of errors, calls without arguments, recursion, shapes of promises. -/
namespace TC
open PySem PySem.Spec PyProof.Rows L2

/-- where the classes of errors lie -/
structure ExC where
  CueError : Addr
  InvalidShow : Addr
  InvalidScript : Addr
  InvalidStep : Addr
  InvalidCue : Addr
  InvalidMoves : Addr
  InvalidJumps : Addr
  InvalidRun : Addr
  InvalidIndex : Addr
  InvalidChannel : Addr
  NoWay : Addr
  NothingToUndo : Addr
  WrongText : Addr
  TooMany : Addr
  WrongLine : Addr
def exC (K : PySem.W.Frag) : ExC where
  CueError := He.ga K "CueError"
  InvalidShow := He.ga K "InvalidShow"
  InvalidScript := He.ga K "InvalidScript"
  InvalidStep := He.ga K "InvalidStep"
  InvalidCue := He.ga K "InvalidCue"
  InvalidMoves := He.ga K "InvalidMoves"
  InvalidJumps := He.ga K "InvalidJumps"
  InvalidRun := He.ga K "InvalidRun"
  InvalidIndex := He.ga K "InvalidIndex"
  InvalidChannel := He.ga K "InvalidChannel"
  NoWay := He.ga K "NoWay"
  NothingToUndo := He.ga K "NothingToUndo"
  WrongText := He.ga K "WrongText"
  TooMany := He.ga K "TooMany"
  WrongLine := He.ga K "WrongLine"

section
variable {X : Cx} {G0 : DHp} {H0 : Hp} {pos : Pos}
@[simp] def wCall0 (sp : DSp) (W : WXD) : WE := fun ρ G Q => sp [] G Q (W ρ)
theorem de_call0 {k : Nat} {f : Addr} {fd : FuncData} {sp : DSp} {W : WXD} {x : Str} {p : Pos} (F : DFn X.prog X.w X.K X.mg X.base k f fd [] sp) (hr : Room k X.A) (hg : Gl X x) (hm : X.mg x = some (.ref f)) (hk : PySem.W.keepIn X.K (.ref f) = true) (hb : Binds X.K fd [] [])
    (tk : Takes X (LfX X.K G0 H0 W)) (hdb : (x == ("__debug__" : Str)) = false := by decide) : DE X G0 H0 (.Call (.Name x p) [] [] pos) (wCall0 sp W) := by
  refine ⟨fun pins s σ H Q I ⟨ρ, G, QD, pt, w, k⟩ => ?_⟩
  refine wpAny_Call_Name_kw (ld_glob I hg hm ?_ hdb)
  refine PySem.W.callWith_K0 I.kIn hk (run_fnS (us := []) (vs := []) (E := L2.WE (LfX X.K G0 H0 W)) F hr hb (passAt tk σ) I .nil ?_)
  exact ⟨[], G, _, _, rfl, pt.hr, w, fun d G' v' H' h' r' s' q => k d G' v' H' h' r' s' q, fun x G' cls dx H' h' xr s' q => ⟨ρ, G', x, pt.go h' s', xr, q⟩⟩
end
/-- no promise -/
def noSp : DSp := fun _ _ _ _ => False
theorem DFn.none {P : Program} {w : World} {K : PySem.W.Frag} {mg : Str → Option Value} {base : Heap} {k : Nat} {f : Addr} {fd : FuncData} {ps : List Str} : DFn P w K mg base k f fd ps noSp :=
  ⟨fun _ _ _ _ ⟨_, _, _, _, _, _, h, _⟩ => h.elim, fun _ _ _ _ _ _ _ _ _ _ _ _ _ ⟨_, _, _, _, _, _, h, _⟩ => h.elim⟩

/-! ### shapes of promises -/
abbrev DSp0 := DHp → DK → DXK → Prop
abbrev DSp1 := D → DHp → DK → DXK → Prop
abbrev DSp2 := D → D → DHp → DK → DXK → Prop
abbrev DSp3 := D → D → D → DHp → DK → DXK → Prop
abbrev DSp4 := D → D → D → D → DHp → DK → DXK → Prop
def sp0 (f : DSp0) : DSp := fun ds G Q E => match ds with
  | [] => f G Q E
  | _ => False
def sp1 (f : DSp1) : DSp := fun ds G Q E => match ds with
  | [a] => f a G Q E
  | _ => False
def sp2 (f : DSp2) : DSp := fun ds G Q E => match ds with
  | [a, b] => f a b G Q E
  | _ => False
def sp3 (f : DSp3) : DSp := fun ds G Q E => match ds with
  | [a, b, c] => f a b c G Q E
  | _ => False
def sp4 (f : DSp4) : DSp := fun ds G Q E => match ds with
  | [a, b, c, d] => f a b c d G Q E
  | _ => False
section
variable {G : DHp} {Q : DK} {E : DXK} {ds : List D} {a b c d : D}
@[simp] theorem sp0_at {f : DSp0} : sp0 f [] G Q E = f G Q E := rfl
@[simp] theorem sp1_at {f : DSp1} : sp1 f [a] G Q E = f a G Q E := rfl
@[simp] theorem sp2_at {f : DSp2} : sp2 f [a, b] G Q E = f a b G Q E := rfl
@[simp] theorem sp3_at {f : DSp3} : sp3 f [a, b, c] G Q E = f a b c G Q E := rfl
@[simp] theorem sp4_at {f : DSp4} : sp4 f [a, b, c, d] G Q E = f a b c d G Q E := rfl
theorem sp0_inv {f : DSp0} (h : sp0 f ds G Q E) : ds = [] ∧ f G Q E := by
  unfold sp0 at h; split at h
  · exact ⟨rfl, h⟩
  · exact h.elim
theorem sp1_inv {f : DSp1} (h : sp1 f ds G Q E) : ∃ a, ds = [a] ∧ f a G Q E := by
  unfold sp1 at h; split at h
  · exact ⟨_, rfl, h⟩
  · exact h.elim
theorem sp2_inv {f : DSp2} (h : sp2 f ds G Q E) : ∃ a b, ds = [a, b] ∧ f a b G Q E := by
  unfold sp2 at h; split at h
  · exact ⟨_, _, rfl, h⟩
  · exact h.elim
theorem sp3_inv {f : DSp3} (h : sp3 f ds G Q E) : ∃ a b c, ds = [a, b, c] ∧ f a b c G Q E := by
  unfold sp3 at h; split at h
  · exact ⟨_, _, _, rfl, h⟩
  · exact h.elim
theorem sp4_inv {f : DSp4} (h : sp4 f ds G Q E) : ∃ a b c d, ds = [a, b, c, d] ∧ f a b c d G Q E := by
  unfold sp4 at h; split at h
  · exact ⟨_, _, _, _, rfl, h⟩
  · exact h.elim
end
/-- the length of what is given -/
class ArOk (sp : DSp) (n : Nat) : Prop where
  len : ∀ ds G Q E, sp ds G Q E → ds.length = n
instance {f : DSp0} : ArOk (sp0 f) 0 := ⟨fun _ _ _ _ h => by rw [(sp0_inv h).1]; rfl⟩
instance {f : DSp1} : ArOk (sp1 f) 1 := ⟨fun _ _ _ _ h => by obtain ⟨_, rfl, _⟩ := sp1_inv h; rfl⟩
instance {f : DSp2} : ArOk (sp2 f) 2 := ⟨fun _ _ _ _ h => by obtain ⟨_, _, rfl, _⟩ := sp2_inv h; rfl⟩
instance {f : DSp3} : ArOk (sp3 f) 3 := ⟨fun _ _ _ _ h => by obtain ⟨_, _, _, rfl, _⟩ := sp3_inv h; rfl⟩
instance {f : DSp4} : ArOk (sp4 f) 4 := ⟨fun _ _ _ _ h => by obtain ⟨_, _, _, _, rfl, _⟩ := sp4_inv h; rfl⟩
instance {n : Nat} : ArOk noSp n := ⟨fun _ _ _ _ h => h.elim⟩
end TC
set_option maxRecDepth 100000
/-! TC, part k: rules for loops, values that are known, sources of draws. -/
namespace TC
open PySem PySem.Spec PyProof.Rows L2

section
variable {α : Type} {l : List α}
@[simp] theorem pick_0 : pick l 0 = l[0]? := by simp [pick]
@[simp] theorem pick_1 : pick l 1 = l[1]? := by simp [pick]
@[simp] theorem pick_2 : pick l 2 = l[2]? := by simp [pick]
@[simp] theorem pick_3 : pick l 3 = l[3]? := by simp [pick]
@[simp] theorem pick_4 : pick l 4 = l[4]? := by simp [pick]
@[simp] theorem pick_5 : pick l 5 = l[5]? := by simp [pick]
@[simp] theorem pick_6 : pick l 6 = l[6]? := by simp [pick]
@[simp] theorem pick_7 : pick l 7 = l[7]? := by simp [pick]
@[simp] theorem pick_8 : pick l 8 = l[8]? := by simp [pick]
@[simp] theorem pick_9 : pick l 9 = l[9]? := by simp [pick]
end
@[simp] theorem dMul_int {i j : Int} {G : DHp} {Q : DK} : dMul (.int i) (.int j) G Q = (CMul i j ∧ Q (.int (i * j)) G) := rfl
@[simp] theorem dMul_tup {xs : List D} {k : Int} {G : DHp} {Q : DK} : dMul (.tup xs) (.int k) G Q = ((-1000 ≤ k ∧ k ≤ 1000 ∧ xs.length ≤ 1000) ∧ Q (.tup (List.replicate k.toNat xs).flatten) G) := rfl
@[simp] theorem dMul_ref {a : Addr} {k : Int} {G : DHp} {Q : DK} : dMul (.ref a) (.int k) G Q = ∃ xs, G a = some (.lst xs) ∧ (-1000 ≤ k ∧ k ≤ 1000 ∧ xs.length ≤ 1000) ∧ ∀ p, G p = none → Q (.ref p) (updD G p (.lst (List.replicate k.toNat xs).flatten)) := rfl
@[simp] theorem dNeg_int {i : Int} {G : DHp} {Q : DK} : dNeg (.int i) G Q = Q (.int (-i)) G := rfl
@[simp] theorem wPar_two {i j : Nat} {a b : WE} {F : DEnds} {ρ : Ro} {G : DHp} : wPar i j (wCons a (wCons b wNil)) F ρ G = a ρ G fun x G1 => b ρ G1 fun y G2 => F.nx ((ρ.set i (some x)).set j (some y)) G2 := rfl
@[simp] theorem wPar3_three {i j m : Nat} {a b c : WE} {F : DEnds} {ρ : Ro} {G : DHp} : wPar3 i j m (wCons a (wCons b (wCons c wNil))) F ρ G = a ρ G fun x G1 => b ρ G1 fun y G2 => c ρ G2 fun z G3 => F.nx (((ρ.set i (some x)).set j (some y)).set m (some z)) G3 := rfl
theorem ite3 {c1 c2 c3 T X : Prop} [Decidable c1] [Decidable c2] [Decidable c3] (h : ¬ (c1 ∧ c2 ∧ c3)) (x : X) : if c1 then if c2 then if c3 then T else X else X else X := by
  split
  · split
    · split
      · rename_i a b c; exact absurd ⟨a, b, c⟩ h
      · exact x
    · exact x
  · exact x
theorem cut_to {α : Type} {xs : List α} {n : Nat} : cut xs none (some (n : Int)) = xs.take n := by
  unfold cut
  rw [HT.sIx_nat, HT.sIx_none, List.drop_zero, Nat.sub_zero]
  by_cases h : n ≤ xs.length
  · rw [Nat.min_eq_left h]
  · rw [Nat.min_eq_right (by omega), List.take_length, List.take_of_length_le (by omega)]
theorem cut_from {α : Type} {xs : List α} {n : Nat} : cut xs (some (n : Int)) none = xs.drop n := by
  unfold cut
  rw [HT.sIx_nat, HT.sIx_none]
  by_cases h : n ≤ xs.length
  · rw [Nat.min_eq_left h, List.take_of_length_le (by rw [List.length_drop]; omega)]
  · rw [Nat.min_eq_right (by omega), List.drop_of_length_le (Nat.le_refl _), List.drop_of_length_le (by omega)]; simp
theorem cut_ft {α : Type} {xs : List α} {i j : Nat} : cut xs (some (i : Int)) (some (j : Int)) = (xs.drop i).take (j - i) := by
  unfold cut
  rw [HT.sIx_nat, HT.sIx_nat]
  by_cases h : i ≤ xs.length
  · rw [Nat.min_eq_left h]
    by_cases h2 : j ≤ xs.length
    · rw [Nat.min_eq_left h2]
    · rw [Nat.min_eq_right (show xs.length ≤ j by omega), List.take_of_length_le (by rw [List.length_drop]; omega), List.take_of_length_le (by rw [List.length_drop]; omega)]
  · rw [Nat.min_eq_right (show xs.length ≤ i by omega), List.drop_of_length_le (Nat.le_refl _), List.drop_of_length_le (show xs.length ≤ i by omega)]; simp
@[simp] theorem dRev_ref {a : Addr} {G : DHp} {Q : DK} : dRev (.ref a) G Q = ∃ xs, G a = some (.lst xs) ∧ ∀ p, G p = none → Q (.ref p) (updD G p (.lst xs.reverse)) := rfl
/-- two statements, what holds between them told -/
theorem seq_cut {t u : WS} {F : DEnds} {ρ : Ro} {G : DHp} (mid : Ro → DHp → Prop) (h1 : ∀ nx : Ro → DHp → Prop, (∀ ρ' G', mid ρ' G' → nx ρ' G') → t { F with nx := nx } ρ G) (h2 : ∀ ρ' G', mid ρ' G' → u F ρ' G') : wSeq t u F ρ G := h1 _ h2
/-! ### loops -/
theorem forW_rule {gd : DHp → Prop} {g : WG} {b : WS} {F : DEnds} (Pr : List D → Ro → DHp → Prop)
    (step : ∀ x r ρ G (nx : Ro → DHp → Prop), Pr (x :: r) ρ G → (∀ ρ' G', Pr r ρ' G' → nx ρ' G') → gd G ∧ g x ρ G fun ρ1 G1 => b { nx := nx, rt := F.rt, bk := F.nx, ct := nx } ρ1 G1)
    (fin : ∀ ρ G, Pr [] ρ G → gd G ∧ F.nx ρ G) : ∀ {xs : List D} {ρ : Ro} {G : DHp}, Pr xs ρ G → forW gd g b F xs ρ G
  | [], _, _, h => fin _ _ h
  | _ :: _, _, _, h => step _ _ _ _ _ h fun _ _ h' => forW_rule Pr step fin h'
theorem lcW_rule {gd : DHp → Prop} {g : WG} {wt : WT} {we : WE} {ρ : Ro} {Q : DK} (Pr : List D → List D → DHp → Prop)
    (step : ∀ x r acc G (K : List D → DHp → Prop), Pr (x :: r) acc G → (∀ acc' G', Pr r acc' G' → K acc' G') →
      gd G ∧ g x ρ G fun ρ1 G1 => wt ρ1 G1 fun b G2 => if b = true then we ρ1 G2 fun y G3 => acc.length < 1000000 ∧ K (acc ++ [y]) G3 else K acc G2)
    (fin : ∀ acc G, Pr [] acc G → gd G ∧ ∀ p, G p = none → Q (.ref p) (updD G p (.lst acc))) : ∀ {xs acc : List D} {G : DHp}, Pr xs acc G → lcW gd g wt we ρ Q xs acc G
  | [], _, _, h => fin _ _ h
  | _ :: _, _, _, h => step _ _ _ _ (fun acc' G' => lcW gd g wt we ρ Q _ acc' G') h fun _ _ h' => lcW_rule Pr step fin h'
/-- a comprehension without tests whose items each give f of them, what is told staying told -/
theorem lc_map {gd : DHp → Prop} {g : WG} {we : WE} {ρ : Ro} {Q : DK} {xs : List D} {G : DHp} (f : D → D) (hl : xs.length ≤ 1000000) (hgd : ∀ G', Ext G G' → gd G')
    (step : ∀ x, x ∈ xs → ∀ (G1 : DHp) (K : DK), Ext G G1 → (∀ G2, Ext G1 G2 → K (f x) G2) → g x ρ G1 fun ρ1 G2 => we ρ1 G2 K)
    (fin : ∀ G1 p, Ext G G1 → G1 p = none → Q (.ref p) (updD G1 p (.lst (xs.map f)))) : lcW gd g wtYes we ρ Q xs [] G := by
  refine lcW_rule (fun r acc G1 => ∃ d, xs = d ++ r ∧ acc = d.map f ∧ Ext G G1) ?_ ?_ ⟨[], rfl, rfl, .refl⟩
  · rintro x r acc G1 K ⟨d, rfl, rfl, e⟩ hK
    refine ⟨hgd _ e, ?_⟩
    have hm : x ∈ d ++ x :: r := by simp
    have := step x hm G1 (fun y G3 => (d.map f).length < 1000000 ∧ K (d.map f ++ [y]) G3) e fun G2 e2 => ⟨by simp at hl ⊢; omega, hK _ _ ⟨d ++ [x], by simp, by simp, e.trans e2⟩⟩
    simpa using this
  · rintro acc G1 ⟨d, e1, rfl, e⟩
    simp at e1
    subst e1
    exact ⟨hgd _ e, fun p hp => fin G1 p e hp⟩
/-- a comprehension with a test -/
theorem lc_filter {gd : DHp → Prop} {g : WG} {wt : WT} {we : WE} {ρ : Ro} {Q : DK} {xs : List D} {G : DHp} (f : D → D) (c : D → Bool) (hl : xs.length ≤ 1000000) (hgd : ∀ G', Ext G G' → gd G')
    (step : ∀ x, x ∈ xs → ∀ (G1 : DHp) (acc : List D) (K : List D → DHp → Prop), Ext G G1 → acc.length < 1000000 → (∀ G2, Ext G1 G2 → K (if c x = true then acc ++ [f x] else acc) G2) →
      g x ρ G1 fun ρ1 G2 => wt ρ1 G2 fun b G3 => if b = true then we ρ1 G3 fun y G4 => acc.length < 1000000 ∧ K (acc ++ [y]) G4 else K acc G3)
    (fin : ∀ G1 p, Ext G G1 → G1 p = none → Q (.ref p) (updD G1 p (.lst ((xs.filter c).map f)))) : lcW gd g wt we ρ Q xs [] G := by
  refine lcW_rule (fun r acc G1 => ∃ d, xs = d ++ r ∧ acc = (d.filter c).map f ∧ Ext G G1) ?_ ?_ ⟨[], rfl, rfl, .refl⟩
  · rintro x r acc G1 K ⟨d, rfl, rfl, e⟩ hK
    refine ⟨hgd _ e, ?_⟩
    have hm : x ∈ d ++ x :: r := by simp
    have hlen : ((d.filter c).map f).length < 1000000 := by
      have := List.length_filter_le c d
      simp at hl ⊢; omega
    refine step x hm G1 _ K e hlen fun G2 e2 => hK _ _ ⟨d ++ [x], by simp, ?_, e.trans e2⟩
    by_cases hc : c x = true
    · simp [hc]
    · simp [hc]
  · rintro acc G1 ⟨d, e1, rfl, e⟩
    simp at e1
    subst e1
    exact ⟨hgd _ e, fun p hp => fin G1 p e hp⟩

theorem lc_keep {gd : DHp → Prop} {g : WG} {wt : WT} {we : WE} {ρ : Ro} {Q : DK} {xs : List D} {G : DHp} (c : D → Bool) (hl : xs.length ≤ 1000000) (hgd : ∀ G', Ext G G' → gd G')
    (step : ∀ x, x ∈ xs → ∀ (G1 : DHp) (acc : List D) (K : List D → DHp → Prop), Ext G G1 → acc.length < 1000000 → (∀ G2, Ext G1 G2 → K (if c x = true then acc ++ [x] else acc) G2) →
      g x ρ G1 fun ρ1 G2 => wt ρ1 G2 fun b G3 => if b = true then we ρ1 G3 fun y G4 => acc.length < 1000000 ∧ K (acc ++ [y]) G4 else K acc G3)
    (fin : ∀ G1 p, Ext G G1 → G1 p = none → Q (.ref p) (updD G1 p (.lst (xs.filter c)))) : lcW gd g wt we ρ Q xs [] G :=
  lc_filter id c hl hgd step (by simpa using fin)

/-! ### values that are known to the ground -/
def Kn : Nat → DHp → D → Prop
  | 0, _, d => match d with
    | .non => True
    | .bl _ => True
    | .int _ => True
    | .str x => PyData.strOk x = true ∧ x.length ≤ 1000000
    | _ => False
  | n + 1, G, d => match d with
    | .non => True
    | .bl _ => True
    | .int _ => True
    | .str x => PyData.strOk x = true ∧ x.length ≤ 1000000
    | .tup ds => ds.length ≤ 1000 * (n + 1) ∧ ∀ d ∈ ds, Kn n G d
    | .rl ds => ds.length ≤ 1000 * (n + 1) ∧ ∀ d ∈ ds, Kn n G d
    | .ref a => ∃ xs, G a = some (.lst xs) ∧ xs.length ≤ 1000 * (n + 1) ∧ ∀ d ∈ xs, Kn n G d
    | .ty _ => False
section
variable {G G' : DHp} {n m : Nat} {d : D} {ds xs : List D} {a : Addr} {z : Str}
@[simp] theorem kn_non : Kn n G .non := by cases n <;> trivial
@[simp] theorem kn_bl {b : Bool} : Kn n G (.bl b) := by cases n <;> trivial
@[simp] theorem kn_int {i : Int} : Kn n G (.int i) := by cases n <;> trivial
@[simp] theorem kn_str : Kn n G (.str z) ↔ PyData.strOk z = true ∧ z.length ≤ 1000000 := by cases n <;> exact Iff.rfl
@[simp] theorem kn_tup : Kn (n + 1) G (.tup ds) ↔ ds.length ≤ 1000 * (n + 1) ∧ ∀ d ∈ ds, Kn n G d := Iff.rfl
@[simp] theorem kn_rl : Kn (n + 1) G (.rl ds) ↔ ds.length ≤ 1000 * (n + 1) ∧ ∀ d ∈ ds, Kn n G d := Iff.rfl
@[simp] theorem kn_ref : Kn (n + 1) G (.ref a) ↔ ∃ xs, G a = some (.lst xs) ∧ xs.length ≤ 1000 * (n + 1) ∧ ∀ d ∈ xs, Kn n G d := Iff.rfl
theorem kn_ty {x : String} (h : Kn n G (.ty x)) : False := by cases n <;> exact h
theorem Kn.ext (e : Ext G G') : ∀ {n : Nat} {d : D}, Kn n G d → Kn n G' d
  | 0, d, h => by cases d <;> exact h
  | n + 1, d, h => by
    cases d with
    | tup ds => exact ⟨h.1, fun d hd => Kn.ext e (h.2 d hd)⟩
    | rl ds => exact ⟨h.1, fun d hd => Kn.ext e (h.2 d hd)⟩
    | ref a => obtain ⟨xs, h1, hl, h2⟩ := h; exact ⟨xs, e a _ h1, hl, fun d hd => Kn.ext e (h2 d hd)⟩
    | _ => exact h
theorem Kn.up : ∀ {n : Nat} {d : D}, Kn n G d → Kn (n + 1) G d
  | 0, d, h => by cases d <;> first | exact h | exact h.elim
  | n + 1, d, h => by
    cases d with
    | tup ds => exact ⟨by have := h.1; omega, fun d hd => Kn.up (h.2 d hd)⟩
    | rl ds => exact ⟨by have := h.1; omega, fun d hd => Kn.up (h.2 d hd)⟩
    | ref a => obtain ⟨xs, h1, hl, h2⟩ := h; exact ⟨xs, h1, by omega, fun d hd => Kn.up (h2 d hd)⟩
    | _ => exact h
theorem Kn.mono (h : n ≤ m) (k : Kn n G d) : Kn m G d := by
  induction h with
  | refl => exact k
  | step _ ih => exact ih.up
theorem Kn.tup_inv (h : Kn n G (.tup ds)) : ∃ m, n = m + 1 ∧ ∀ d ∈ ds, Kn m G d := by
  cases n with
  | zero => exact h.elim
  | succ m => exact ⟨m, rfl, h.2⟩
theorem Kn.len (h : Kn n G (.tup ds)) : ds.length ≤ 1000 * n := by
  cases n with
  | zero => exact h.elim
  | succ m => exact h.1
theorem Kn.mem (h : Kn n G (.tup ds)) (hd : d ∈ ds) : Kn n G d := by
  obtain ⟨m, rfl, h'⟩ := h.tup_inv
  exact (h' d hd).up
theorem Kn.get {i : Nat} (h : Kn n G (.tup ds)) (hd : ds[i]? = some d) : Kn n G d := h.mem (List.mem_of_getElem? hd)
theorem Kn.ref_inv (h : Kn n G (.ref a)) : ∃ m xs, n = m + 1 ∧ G a = some (.lst xs) ∧ xs.length ≤ 1000 * (m + 1) ∧ ∀ d ∈ xs, Kn m G d := by
  cases n with
  | zero => exact h.elim
  | succ m => obtain ⟨xs, h1, hl, h2⟩ := h; exact ⟨m, xs, rfl, h1, hl, h2⟩
/-- what a known value is asked by isinstance -/
def kindD (k : Kd) : D → Bool
  | .non => false
  | .bl _ => decide (k = .int) || decide (k = .bool)
  | .int _ => decide (k = .int)
  | .str _ => decide (k = .str)
  | .tup _ => decide (k = .tup)
  | .rl _ => decide (k = .lst)
  | .ref _ => decide (k = .lst)
  | .ty _ => false
theorem Kn.isK {k : Kd} (h : Kn n G d) : isK k G d = some (kindD k d) := by
  cases d with
  | ref a => obtain ⟨m, xs, rfl, h1, _, h2⟩ := h.ref_inv; exact isK_ref h1
  | ty x => exact (kn_ty h).elim
  | _ => rfl
end

/-! ### == of what is known -/
mutual
theorem rdW_kn {G : DHp} {f : Addr → Option PyData} {n : Nat} (hf : ∀ a, Kn n G (.ref a) → ∃ p, f a = some p ∧ p.canLay0 = true ∧ p.depth ≤ n + 1) : ∀ {d : D}, Kn n G d → (∀ m, m < n → ∀ a, Kn m G (.ref a) → ∃ p, f a = some p ∧ p.canLay0 = true ∧ p.depth ≤ m + 1) → ∃ p, rdW f d = some p ∧ p.canLay0 = true ∧ p.depth ≤ n + 1
  | .non, _, _ => ⟨_, rfl, by simp [PyData.canLay0], by simp [PyData.depth]⟩
  | .bl _, _, _ => ⟨_, rfl, by simp [PyData.canLay0], by simp [PyData.depth]⟩
  | .int _, _, _ => ⟨_, rfl, by simp [PyData.canLay0], by simp [PyData.depth]⟩
  | .str x, h, _ => ⟨_, rfl, by simpa [PyData.canLay0] using (kn_str.mp h).1, by simp [PyData.depth]⟩
  | .tup ds, h, hm => by
    obtain ⟨m, rfl, h'⟩ := h.tup_inv
    obtain ⟨ps, e, c, dp⟩ := rdWs_kn (n := m) (fun a ha => hm m (Nat.lt_succ_self _) a ha) h' fun k hk a ha => hm k (Nat.lt_succ_of_lt hk) a ha
    exact ⟨.tuple ps, by simp [rdW, e], by simpa [PyData.canLay0] using c, by simp [PyData.depth]; omega⟩
  | .rl ds, h, hm => by
    cases n with
    | zero => exact h.elim
    | succ m =>
      obtain ⟨ps, e, c, dp⟩ := rdWs_kn (n := m) (fun a ha => hm m (Nat.lt_succ_self _) a ha) h.2 fun k hk a ha => hm k (Nat.lt_succ_of_lt hk) a ha
      exact ⟨.list ps, by simp [rdW, e], by simpa [PyData.canLay0] using c, by simp [PyData.depth]; omega⟩
  | .ref a, h, _ => by
    obtain ⟨p, e, c, dp⟩ := hf a h
    exact ⟨p, by simpa [rdW] using e, c, dp⟩
  | .ty _, h, _ => (kn_ty h).elim
theorem rdWs_kn {G : DHp} {f : Addr → Option PyData} {n : Nat} (hf : ∀ a, Kn n G (.ref a) → ∃ p, f a = some p ∧ p.canLay0 = true ∧ p.depth ≤ n + 1) : ∀ {ds : List D}, (∀ d ∈ ds, Kn n G d) → (∀ m, m < n → ∀ a, Kn m G (.ref a) → ∃ p, f a = some p ∧ p.canLay0 = true ∧ p.depth ≤ m + 1) → ∃ ps, rdWs f ds = some ps ∧ PyData.canLayAll0 ps = true ∧ PyData.depthAll ps ≤ n + 1
  | [], _, _ => ⟨[], rfl, by simp [PyData.canLayAll0], by simp [PyData.depthAll]⟩
  | d :: ds, h, hm => by
    obtain ⟨p, e1, c1, d1⟩ := rdW_kn hf (h d (by simp)) hm
    obtain ⟨ps, e2, c2, d2⟩ := rdWs_kn (ds := ds) hf (fun x hx => h x (List.mem_cons_of_mem _ hx)) hm
    exact ⟨p :: ps, by simp [rdWs, e1, e2], by simp [PyData.canLayAll0, c1, c2], by simp [PyData.depthAll]; omega⟩
end
theorem rfN_kn {G : DHp} : ∀ {m : Nat} {a : Addr} {n : Nat}, n ≤ m → Kn n G (.ref a) → ∃ p, rfN m G a = some p ∧ p.canLay0 = true ∧ p.depth ≤ n + 1
  | 0, a, n, hn, h => by
    have : n = 0 := by omega
    subst this
    exact h.elim
  | m + 1, a, n, hn, h => by
    obtain ⟨k, xs, rfl, h1, _, h2⟩ := h.ref_inv
    obtain ⟨ps, e, c, dp⟩ := rdWs_kn (f := rfN m G) (n := k) (fun b hb => rfN_kn (by omega) hb) h2 fun j hj b hb => rfN_kn (by omega) hb
    refine ⟨.list ps, ?_, by simpa [PyData.canLay0] using c, by simp [PyData.depth]; omega⟩
    unfold rfN
    rw [h1]
    simp [e]
theorem rd_kn {G : DHp} {n : Nat} {d : D} (hn : n ≤ 20) (h : Kn n G d) : ∃ p, rd G d = some p ∧ SeqAt.shaped p = true := by
  obtain ⟨p, e, c, dp⟩ := rdW_kn (f := rfN 20 G) (fun a ha => rfN_kn hn ha) h fun m hm a ha => rfN_kn (by omega) ha
  exact ⟨p, e, by unfold SeqAt.shaped; rw [c, decide_eq_true (by omega)]; rfl⟩
theorem rds_kn {G : DHp} {n : Nat} {ds : List D} (hn : n ≤ 20) (h : ∀ d ∈ ds, Kn n G d) : ∃ ps, rds G ds = some ps ∧ ps.length = ds.length ∧ PyData.canLayAll0 ps = true ∧ PyData.depthAll ps ≤ n + 1 := by
  obtain ⟨ps, e, c, dp⟩ := rdWs_kn (f := rfN 20 G) (fun a ha => rfN_kn hn ha) h fun m hm a ha => rfN_kn (by omega) ha
  refine ⟨ps, e, ?_, c, dp⟩
  clear c dp h
  induction ds generalizing ps with
  | nil => cases e; rfl
  | cons d ds ih =>
    have e : rdWs (rfN 20 G) (d :: ds) = some ps := e
    unfold rdWs at e
    split at e
    · rename_i p ps' e1 e2
      cases e
      simp [ih ps' e2]
    · cases e
theorem rd_tup {G : DHp} {ds : List D} {ps : List PyData} (h : rds G ds = some ps) : rd G (.tup ds) = some (.tuple ps) := by
  unfold rd rdW
  unfold rds at h
  rw [h]; rfl
theorem rfN_up {G : DHp} {a : Addr} {xs : List D} {ps : List PyData} {m : Nat} (h1 : G a = some (.lst xs)) (h : rdWs (rfN m G) xs = some ps) : rfN (m + 1) G a = some (.list ps) := by
  unfold rfN; rw [h1]; simp [h]
/-- a list against [] -/
theorem dEqD_nil {neg : Bool} {G : DHp} {Q : DK} {p q : Addr} {xs : List D} {n : Nat} (hp : G p = some (.lst xs)) (hq : G q = some (.lst [])) (hn : n < 20) (hl : xs.length ≤ 1000 * (n + 1)) (h : ∀ d ∈ xs, Kn n G d) (w : Q (.bl (neg != xs.isEmpty)) G) : dEqD neg (.ref p) (.ref q) G Q := by
  obtain ⟨pd, e, sh⟩ := rd_kn (n := n + 1) (d := .ref p) (G := G) (by omega) ⟨xs, hp, hl, h⟩
  have e' : rfN 20 G p = some pd := by simpa [rd, rdW] using e
  have e3 : rfN 20 G q = some (.list []) := rfN_up hq rfl
  have e4 := e'
  unfold rfN at e4
  rw [hp] at e4
  obtain ⟨ps, e5, rfl⟩ := Option.map_eq_some_iff.mp e4
  refine ⟨.list ps, .list [], e, by simpa [rd, rdW] using e3, sh, by decide, ?_⟩
  have : PyData.eqv (.list ps) (.list []) = xs.isEmpty := by
    cases xs with
    | nil => cases e5; simp [PyData.eqv, PyData.eqvAll]
    | cons x xs =>
      unfold rdWs at e5
      split at e5
      · cases e5; simp [PyData.eqv, PyData.eqvAll]
      · cases e5
  rw [this]; exact w
/-- a tuple against () -/
theorem dEqD_nilT {neg : Bool} {G : DHp} {Q : DK} {xs : List D} {n : Nat} (hn : n < 20) (hl : xs.length ≤ 1000 * (n + 1)) (h : ∀ d ∈ xs, Kn n G d) (w : Q (.bl (neg != xs.isEmpty)) G) : dEqD neg (.tup xs) (.tup []) G Q := by
  obtain ⟨pd, e, sh⟩ := rd_kn (n := n + 1) (d := .tup xs) (G := G) (by omega) ⟨hl, h⟩
  have e' := e
  unfold rd rdW at e'
  obtain ⟨ps, e5, rfl⟩ := Option.map_eq_some_iff.mp e'
  refine ⟨.tuple ps, .tuple [], e, rfl, sh, by decide, ?_⟩
  have : PyData.eqv (.tuple ps) (.tuple []) = xs.isEmpty := by
    cases xs with
    | nil => cases e5; simp [PyData.eqv, PyData.eqvAll]
    | cons x xs =>
      unfold rdWs at e5
      split at e5
      · cases e5; simp [PyData.eqv, PyData.eqvAll]
      · cases e5
  rw [this]; exact w
/-- the same value at both sides -/
theorem dEqD_same {neg : Bool} {G : DHp} {Q : DK} {x y : D} {p : PyData} (h1 : rd G x = some p) (h2 : rd G y = some p) (sh : SeqAt.shaped p = true) (w : Q (.bl (!neg)) G) : dEqD neg x y G Q :=
  ⟨p, p, h1, h2, sh, sh, by rw [PySem.SeqAt.eqv_refl p (SeqAt.canLay_of_shaped sh)]; cases neg <;> exact w⟩
section
variable {G : DHp} {Q : DK} {p q : Addr} {xs ys : List D}
@[simp] theorem dEq_ref : dEq (.ref p) (.ref q) G Q = dEqD false (.ref p) (.ref q) G Q := rfl
@[simp] theorem dNe_ref : dNe (.ref p) (.ref q) G Q = dEqD true (.ref p) (.ref q) G Q := rfl
@[simp] theorem dEq_tup : dEq (.tup xs) (.tup ys) G Q = dEqD false (.tup xs) (.tup ys) G Q := rfl
@[simp] theorem dNe_tup : dNe (.tup xs) (.tup ys) G Q = dEqD true (.tup xs) (.tup ys) G Q := rfl
end

/-! ### sources of draws -/
/-- a source: two whole numbers, changed by each draw -/
structure Src (G : DHp) (s : Addr) : Prop where
  at_ : ∃ a b : Int, G s = some (.lst [.int a, .int b]) ∧ 0 ≤ a ∧ 0 ≤ b ∧ b < 2 ^ 33
/-- all but the source stays told -/
def ExtB (s : Addr) (G G' : DHp) : Prop := ∀ a o, a ≠ s → G a = some o → G' a = some o
theorem ExtB.refl {s : Addr} {G : DHp} : ExtB s G G := fun _ _ _ h => h
theorem ExtB.trans {s : Addr} {G G1 G2 : DHp} (a : ExtB s G G1) (b : ExtB s G1 G2) : ExtB s G G2 := fun x o n h => b x o n (a x o n h)
theorem Ext.b {s : Addr} {G G' : DHp} (e : Ext G G') : ExtB s G G' := fun a o _ h => e a o h
theorem ExtB.write {s : Addr} {G : DHp} {o : DO} : ExtB s G (updD G s o) := fun a u n e => by rw [updD_ne n]; exact e
theorem ExtB.writeN {s p : Addr} {G G' : DHp} {o : DO} (x : ExtB s G G') (h : G p = none) : ExtB s G (updD G' p o) := fun a u n e => by
  have : a ≠ p := fun z => by subst z; rw [h] at e; cases e
  rw [updD_ne this]; exact x a u n e
theorem Src.ext {G G' : DHp} {s : Addr} (h : Src G s) (e : Ext G G') : Src G' s := by
  obtain ⟨a, b, h1, h2⟩ := h.at_
  exact ⟨a, b, e s _ h1, h2⟩
theorem Src.ne {G : DHp} {s p : Addr} (h : Src G s) (e : G p = none) : s ≠ p := by
  obtain ⟨a, b, h1, h2⟩ := h.at_
  rintro rfl
  rw [e] at h1; cases h1
/-- told but for the source -/
def hid (s : Addr) (G : DHp) : DHp := fun a => if a = s then none else G a
theorem hid_ne {s a : Addr} {G : DHp} (h : a ≠ s) : hid s G a = G a := by unfold hid; rw [if_neg h]
theorem hid_le {s : Addr} {G : DHp} : Ext (hid s G) G := fun a o h => by
  by_cases e : a = s
  · unfold hid at h; rw [if_pos e] at h; cases h
  · rwa [hid_ne e] at h
theorem ExtB.hid {s : Addr} {G G' : DHp} (h : ExtB s G G') : Ext (TC.hid s G) (TC.hid s G') := fun a o e => by
  by_cases z : a = s
  · unfold TC.hid at e; rw [if_pos z] at e; cases e
  · rw [hid_ne z] at e ⊢; exact h a o z e
/-- known, whatever is drawn -/
abbrev Ks (n : Nat) (s : Addr) (G : DHp) (d : D) : Prop := Kn n (hid s G) d
theorem Kn.ks {n : Nat} {s : Addr} {G : DHp} {d : D} (h : Ks n s G d) : Kn n G d := h.ext hid_le
theorem Kn.exb {n : Nat} {s : Addr} {G G' : DHp} {d : D} (h : Ks n s G d) (e : ExtB s G G') : Ks n s G' d := h.ext e.hid
/-- what was told anew -/
def fre (G G' : DHp) : DHp := fun b => if (G b).isNone = true then G' b else none
theorem fre_at {G G' : DHp} {b : Addr} (h : G b = none) : fre G G' b = G' b := by unfold fre; rw [h]; rfl
theorem fre_some {G G' : DHp} {b : Addr} {o : DO} (h : fre G G' b = some o) : G b = none ∧ G' b = some o := by
  unfold fre at h
  split at h
  · rename_i q; exact ⟨Option.isNone_iff_eq_none.mp q, h⟩
  · cases h
/-- known by what was told anew, whatever is drawn -/
abbrev Kf (n : Nat) (s : Addr) (G G' : DHp) (d : D) : Prop := Kn n (hid s (fre G G')) d
theorem Kf.ks {n : Nat} {s : Addr} {G G' : DHp} {d : D} (h : Kf n s G G' d) : Ks n s G' d := Kn.ext (fun a o e => by
  by_cases z : a = s
  · unfold hid at e; rw [if_pos z] at e; cases e
  · rw [hid_ne z] at e ⊢; exact (fre_some e).2) h
theorem Kf.on {n : Nat} {s : Addr} {G G1 G2 : DHp} {d : D} (h : Kf n s G G1 d) (e : ExtB s G1 G2) : Kf n s G G2 d := Kn.ext (fun a o q => by
  by_cases z : a = s
  · unfold hid at q; rw [if_pos z] at q; cases q
  · rw [hid_ne z] at q ⊢
    obtain ⟨q1, q2⟩ := fre_some q
    rw [fre_at q1]; exact e a o z q2) h
theorem Kf.from {n : Nat} {s : Addr} {G G1 G2 : DHp} {d : D} (h : Kf n s G1 G2 d) (e : ExtB s G G1) : Kf n s G G2 d := Kn.ext (fun a o q => by
  by_cases z : a = s
  · unfold hid at q; rw [if_pos z] at q; cases q
  · rw [hid_ne z] at q ⊢
    obtain ⟨q1, q2⟩ := fre_some q
    cases g : G a with
    | some u => rw [e a u z g] at q1; cases q1
    | none => rw [fre_at g]; exact q2) h
/-- a list of before is written: what was told anew is as known as ever -/
theorem Kf.write {n : Nat} {s p : Addr} {G G' : DHp} {d : D} {o u : DO} (h : Kf n s G G' d) (hp : G p = some u) : Ks n s (updD G' p o) d := Kn.ext (fun a w q => by
  by_cases z : a = s
  · unfold hid at q; rw [if_pos z] at q; cases q
  · rw [hid_ne z] at q ⊢
    obtain ⟨q1, q2⟩ := fre_some q
    have : a ≠ p := fun e => by subst e; rw [hp] at q1; cases q1
    rw [updD_ne this]; exact q2) h
/-- a part V of what was told, and what was told anew -/
def ovr (a : Addr) (G V G' : DHp) : DHp := fun b => if (G b).isNone = true then hid a G' b else V b
theorem ovr_new {a b : Addr} {G V G' : DHp} (h : G b = none) : ovr a G V G' b = hid a G' b := by unfold ovr; rw [h]; rfl
theorem ovr_old {a b : Addr} {G V G' : DHp} {u : DO} (h : G b = some u) : ovr a G V G' b = V b := by unfold ovr; rw [h]; rfl
theorem hid_some {s a : Addr} {G : DHp} {o : DO} (h : hid s G a = some o) : a ≠ s ∧ G a = some o := by
  by_cases z : a = s
  · unfold hid at h; rw [if_pos z] at h; cases h
  · rw [hid_ne z] at h; exact ⟨z, h⟩
theorem ovr_on {a : Addr} {G V G1 G2 : DHp} (e : ExtB a G1 G2) : Ext (ovr a G V G1) (ovr a G V G2) := fun b o h => by
  cases g : G b with
  | none => rw [ovr_new g] at h ⊢; exact e.hid b o h
  | some u => rw [ovr_old g] at h ⊢; exact h
theorem ovr_base {a : Addr} {G V G' : DHp} (hV : Ext V (hid a G)) : Ext V (ovr a G V G') := fun b o h => by
  rw [ovr_old (hid_some (hV b o h)).2]; exact h
theorem ovr_le {a : Addr} {G V G' : DHp} (hV : Ext V (hid a G)) (e : ExtB a G G') : Ext (ovr a G V G') (hid a G') := fun b o h => by
  cases g : G b with
  | none => rwa [ovr_new g] at h
  | some u => rw [ovr_old g] at h; exact e.hid b o (hV b o h)
theorem ovr_trans {a : Addr} {G V G4 G5 : DHp} (e : ExtB a G G4) (e5 : ExtB a G4 G5) : Ext (ovr a G4 (ovr a G V G4) G5) (ovr a G V G5) := fun b o h => by
  cases g : G4 b with
  | none =>
    rw [ovr_new g] at h
    have hb := (hid_some h).1
    cases g0 : G b with
    | none => rw [ovr_new g0]; exact h
    | some u => rw [e b u hb g0] at g; cases g
  | some u => rw [ovr_old g] at h; exact ovr_on e5 b o h
theorem ovr_fre {a : Addr} {G V G3 G' : DHp} (e : ExtB a G G3) : Ext (hid a (fre G3 G')) (ovr a G V G') := fun b o h => by
  obtain ⟨hb, h⟩ := hid_some h
  obtain ⟨h3, h⟩ := fre_some h
  cases g0 : G b with
  | none => rw [ovr_new g0, hid_ne hb]; exact h
  | some u => rw [e b u hb g0] at h3; cases h3
theorem ovr_write {a p : Addr} {G V G3 G' : DHp} {u w : DO} (e : ExtB a G G3) (h3 : G3 p = some u) : Ext (hid a (fre G3 G')) (ovr a G V (updD G' p w)) := fun b o h => by
  obtain ⟨hb, h⟩ := hid_some h
  obtain ⟨hn, h⟩ := fre_some h
  have : b ≠ p := fun z => by subst z; rw [h3] at hn; cases hn
  cases g0 : G b with
  | none => rw [ovr_new g0, hid_ne hb, updD_ne this]; exact h
  | some u => rw [e b u hb g0] at hn; cases hn
theorem ks_new {n : Nat} {s p : Addr} {G : DHp} {xs : List D} (hp : p ≠ s) (hl : xs.length ≤ 1000 * (n + 1)) (h : ∀ d ∈ xs, Ks n s (updD G p (.lst xs)) d) : Ks (n + 1) s (updD G p (.lst xs)) (.ref p) :=
  ⟨xs, by rw [hid_ne hp, updD_same], hl, h⟩
end TC
set_option maxRecDepth 100000
/-! TC, part m: a law's end. -/
namespace TC
open PySem PySem.Spec PyProof.Rows L2
theorem cx_none {P : Program} {w : World} {H : Hp} {s s' : Shared} {e : Value} (h : L2.CX P w [] H s (fun _ _ _ => False) e s') : False := by
  obtain ⟨_, _, _, _, _, _, _, _, _, _, _, _, z⟩ := h
  exact z
/-- the law's promise by data, at the script that nobody writes -/
theorem law_end {l : PySem.W.OpenLaw} {n k : Nat} {q : Program} {lo : List Str} {X1 : (Str → Option Value) → Heap → Prop} {Y1 : World → Heap → Prop} {d : DefRec} {x : Str} (hn : l.most = some n) (hn2 : n ≤ sizeLine) (hdf : d.params.defaults = []) (hr : Room k callerA)
    (F : ∀ (w : World) (mg : Str → Option Value) (fa : Addr) (h : Heap), Y1 w h → h.Ns mainGlobals mg → mg d.name = some (.ref fa) → ∃ (K : PySem.W.Frag) (fd : FuncData) (sp : DSp), K.In h ∧ (∀ (s : Shared) (u : Value), BindsTo s fd ⟨[u], []⟩ [(x, u)]) ∧
      (∀ (ns : List Int), ns.length ≤ n → sp [.rl (ns.map .int)] (fun _ => none) (fun v _ => v = .bl true) fun _ _ => False) ∧ ∀ base : Heap, K.In base → base.Ns mainGlobals mg → DFn l.prog w K mg base k fa fd [x] sp) :
    PySem.W.WalkO q lo X1 Y1 l.row.toRowW d [] (fun f vs => PySem.call f vs) := by
  refine Att.attach_call hn hdf fun w t0 t1 g1 g2 fa ob p1 c1 dc a us ns G Y w1 w2 w3 w4 w5 w6 hlen w7 => ?_
  obtain ⟨K, fd, sp, KX, hb, hsp, hF⟩ := F w g1 fa _ Y G.T.g w4
  refine law_call KX G.T.g G.T.b G.T.builtins G.T.nolimit w7 w5 w6 (Nat.le_trans hlen hn2) hr hF hb (fun H hO hS => ?_) fun H e s' c => cx_none c
  have hS' : SqF K H a (ns.map V.int) := by
    rcases hS with (hS | ⟨o, hS⟩) | hS
    · rcases hO a with e | ⟨o, xs, e⟩
      · rw [hS] at e; cases e
      · rw [hS] at e; cases e
    · exact .inl ⟨o, hS⟩
    · exact .inr hS
  refine ⟨[.rl (ns.map .int)], fun _ => none, fun v _ => v = .bl true, fun _ _ => False, Reps.one ⟨a, _, rfl, hS', Reps.ofInts⟩, fun _ _ e => (nomatch e), hsp ns hlen, fun d G' v H' _ r _ e => ?_, fun _ _ _ _ _ _ _ _ z => z⟩
  subst e
  exact r
end TC
set_option maxRecDepth 100000
/-! SA: shows and scripts recognized. -/
namespace TC
open PySem PySem.Spec PyProof.Rows L2

/-! ### short words -/
section
variable {G G' : DHp} {Q : DK} {d row x : D} {xs : List D} {i : Int} {a : Addr}
theorem itemsD_ext (e : Ext G G') (h : itemsD G d = some xs) : itemsD G' d = some xs := by
  cases d with
  | ref a =>
    unfold itemsD at h ⊢
    simp only at h ⊢
    split at h
    · rename_i ys ea
      rw [e a _ ea]; exact h
    · cases h
  | _ => exact h
theorem dLen_items (h : itemsD G row = some xs) (w : Q (.int xs.length) G) : dLen [row] G Q := by
  cases row with
  | tup ys => cases h; exact w
  | rl ys => cases h; exact w
  | ref a =>
    unfold itemsD at h
    simp only at h
    split at h
    · rename_i ys ea
      cases h
      exact ⟨_, ea, w⟩
    · cases h
  | _ => cases h
theorem dIx_items (h : itemsD G row = some xs) (e : pick xs i = some x) (w : Q x G) : dIx row (.int i) G Q := by
  cases row with
  | tup ys => cases h; rw [dIx_tup, e]; exact w
  | rl ys => cases h; rw [dIx_rl, e]; exact w
  | ref a =>
    unfold itemsD at h
    simp only at h
    split at h
    · rename_i ys ea
      cases h
      rw [dIx_ref]
      exact ⟨_, ea, by rw [e]; exact w⟩
    · cases h
  | _ => cases h
theorem intsD_mem {lo : Int} {n : Nat} (h : x ∈ intsD lo n) : ∃ i : Nat, i < n ∧ x = .int (lo + (i : Int)) := by
  unfold intsD at h
  obtain ⟨i, hi, rfl⟩ := List.mem_map.mp h
  exact ⟨i, List.mem_range.mp hi, rfl⟩
@[simp] theorem intsD_length {lo : Int} {n : Nat} : (intsD lo n).length = n := by simp [intsD]
theorem dAll_map {c : D → Bool} {p : Addr} {G : DHp} {xs : List D} (f : D → D) (hf : ∀ x ∈ xs, f x = .bl (c x)) (w : Q (.bl (xs.all c)) (updD G p (.lst (xs.map f)))) : dAll [.ref p] (updD G p (.lst (xs.map f))) Q := by
  rw [dAll_ref]
  refine ⟨xs.map c, ?_, ?_⟩
  · rw [updD_same]
    have : xs.map f = (xs.map c).map D.bl := by
      rw [List.map_map]
      exact List.map_congr_left fun x hx => by rw [hf x hx]; rfl
    rw [this]
  · have : (xs.map c).all id = xs.all c := by simp [List.all_map]
    rw [this]; exact w
end
@[simp] theorem updD_at {G : DHp} {a : Addr} {o : DO} : updD G a o a = some o := updD_same
@[simp] theorem startD_nil {N : List Str} : startD N [] = List.replicate N.length none := by simp [startD]

theorem notEmpty_all {c : D → Bool} : ∀ xs : List D, (xs.filter fun d => !c d).isEmpty = xs.all c
  | [] => rfl
  | x :: xs => by
    by_cases h : c x = true
    · simp [h, notEmpty_all xs]
    · simp [h]
theorem dEq_nil {G : DHp} {Q : DK} {p q : Addr} {xs : List D} (n : Nat) (hp : G p = some (.lst xs)) (hq : G q = some (.lst [])) (hn : n < 20) (hl : xs.length ≤ 1000 * (n + 1)) (h : ∀ d ∈ xs, Kn n G d) (w : Q (.bl xs.isEmpty) G) : dEq (.ref p) (.ref q) G Q :=
  dEqD_nil (neg := false) hp hq hn hl h (by simpa using w)
theorem dNe_nil {G : DHp} {Q : DK} {p q : Addr} {xs : List D} (n : Nat) (hp : G p = some (.lst xs)) (hq : G q = some (.lst [])) (hn : n < 20) (hl : xs.length ≤ 1000 * (n + 1)) (h : ∀ d ∈ xs, Kn n G d) (w : Q (.bl (!xs.isEmpty)) G) : dNe (.ref p) (.ref q) G Q :=
  dEqD_nil (neg := true) hp hq hn hl h (by simpa using w)
theorem dEq_nilT {G : DHp} {Q : DK} {xs : List D} (n : Nat) (hn : n < 20) (hl : xs.length ≤ 1000 * (n + 1)) (h : ∀ d ∈ xs, Kn n G d) (w : Q (.bl xs.isEmpty) G) : dEq (.tup xs) (.tup []) G Q :=
  dEqD_nilT (neg := false) hn hl h (by simpa using w)
theorem ne_new {G : DHp} {p q : Addr} {o : DO} (h : updD G p o q = none) : p ≠ q := fun z => by subst z; rw [updD_same] at h; cases h
/-! ### what shows and scripts are -/
def wholeB (lo hi : Int) : D → Bool
  | .int i => decide (lo ≤ i) && decide (i ≤ hi)
  | _ => false
def wideB (lo hi : Int) : D → Bool
  | .tup xs => decide (lo ≤ xs.length) && decide ((xs.length : Int) ≤ hi)
  | _ => false
def letB (c : Nat) : Bool := decide (c ∈ (Str.ofString "abcdefghijklmnopqrstuvwxyz").cps)
def chanB : D → Bool
  | .str z => decide (1 ≤ z.length) && (decide (z.length ≤ 8) && z.cps.toList.all letB)
  | _ => false
def ltAt (zs : List Str) (i : Nat) : Bool := match zs[i]?, zs[i + 1]? with
  | some a, some b => decide (a.cps.toList < b.cps.toList)
  | _, _ => false
def climbR (zs : List Str) : Bool := (List.range (zs.length - 1)).all (ltAt zs)
def strOf : D → Str
  | .str z => z
  | _ => ⟨#[]⟩
def nameOf : D → Str
  | .tup (.str z :: _) => z
  | _ => ⟨#[]⟩
def moveB (chs : List Str) : D → Bool
  | .tup [.str z, .int l] => decide (z ∈ chs) && (decide (0 ≤ l) && decide (l ≤ 100))
  | _ => false
def cueB (chs : List Str) : D → Bool
  | .tup ms => ms.all (moveB chs) && climbR (ms.map nameOf)
  | _ => false
def showB : D → Bool
  | .tup [.tup cs, .tup us] => (decide (1 ≤ cs.length) && decide (cs.length ≤ 4)) && (cs.all chanB && (climbR (cs.map strOf) && us.all (cueB (cs.map strOf))))
  | _ => false
def modeB (ms : List Str) : D → Bool
  | .str z => decide (z ∈ ms)
  | _ => false
def restB (w : Str) (n : Int) (rest : List D) : Bool :=
  if w = "set" then (match rest with
    | [c, l, m] => chanB c && (wholeB 0 100 l && modeB ["track", "only"] m)
    | _ => false)
  else if w = "clear" then (match rest with
    | [c, m] => chanB c && modeB ["track", "only"] m
    | _ => false)
  else if w = "delete" then (match rest with
    | [m] => modeB ["keep", "drop"] m
    | _ => false)
  else if w = "copy" then (match rest with
    | [.int k] => (decide (1 ≤ k) && decide (k ≤ 5)) && !(k == n)
    | _ => false)
  else decide (w ∈ (["block", "insert", "swap"] : List Str)) && rest.isEmpty
def stepB : D → Bool
  | .tup (.str w :: .int n :: rest) => (decide (1 ≤ n) && decide (n ≤ 5)) && restB w n rest
  | _ => false
def scriptB : D → Bool
  | .tup xs => decide (xs.length ≤ 4) && xs.all stepB
  | _ => false

/-! ### is_whole, is_wide -/
abbrev sp_is_whole : DSp := sp3 fun v lo hi G Q _ => ∃ a b n, lo = .int a ∧ hi = .int b ∧ Kn n G v ∧ Q (.bl (wholeB a b v)) G
abbrev sp_is_wide : DSp := sp3 fun v lo hi G Q _ => ∃ a b n, lo = .int a ∧ hi = .int b ∧ Kn n G v ∧ Q (.bl (wideB a b v)) G
def b_is_whole  (E : DXK) : WS :=
  (wRet (weAnd (wIsi .int (wVar 0)) (weAnd (weNot (wIsi .bool (wVar 0))) (wChain dLe dLe (wVar 1) (wVar 0) (wVar 2)))))
abbrev N_is_whole : List Str := ["value", "low", "high"]
abbrev Okb_is_whole  (sp : DSp) : Prop := ∀ ds G Q E, sp ds G Q E → b_is_whole  E { nx := fun _ G' => Q .non G', rt := Q } (startD N_is_whole ds) G
def b_is_wide  (E : DXK) : WS :=
  (wRet (weAnd (wIsi .tup (wVar 0)) (wChain dLe dLe (wVar 1) (wCB dLen (wCons (wVar 0) wNil)) (wVar 2))))
abbrev N_is_wide : List Str := ["value", "low", "high"]
abbrev Okb_is_wide  (sp : DSp) : Prop := ∀ ds G Q E, sp ds G Q E → b_is_wide  E { nx := fun _ G' => Q .non G', rt := Q } (startD N_is_wide ds) G
theorem ok_is_whole : Okb_is_whole sp_is_whole := by
  intro ds G Q E h
  obtain ⟨v, lo, hi, rfl, a, b, n, rfl, rfl, kn, h⟩ := sp3_inv h
  cases v with
  | int i =>
    by_cases h1 : a ≤ i
    · simpa [b_is_whole, startD, kn.isK, kindD, wholeB, h1] using h
    · simpa [b_is_whole, startD, kn.isK, kindD, wholeB, h1] using h
  | _ => simp_all [b_is_whole, startD, kn.isK, kindD, wholeB]
theorem ok_is_wide : Okb_is_wide sp_is_wide := by
  intro ds G Q E h
  obtain ⟨v, lo, hi, rfl, a, b, n, rfl, rfl, kn, h⟩ := sp3_inv h
  cases v with
  | tup xs =>
    by_cases h1 : a ≤ (xs.length : Int)
    · simpa [b_is_wide, startD, kn.isK, kindD, wideB, h1] using h
    · simpa [b_is_wide, startD, kn.isK, kindD, wideB, h1] using h
  | _ => simp_all [b_is_wide, startD, kn.isK, kindD, wideB]
abbrev sp__law_whole : DSp := sp_is_whole
abbrev sp__law_wide : DSp := sp_is_wide
def b__law_whole  (E : DXK) : WS :=
  (wRet (weAnd (wIsi .int (wVar 0)) (weAnd (weNot (wIsi .bool (wVar 0))) (wChain dLe dLe (wVar 1) (wVar 0) (wVar 2)))))
abbrev N__law_whole : List Str := ["value", "low", "high"]
abbrev Okb__law_whole  (sp : DSp) : Prop := ∀ ds G Q E, sp ds G Q E → b__law_whole  E { nx := fun _ G' => Q .non G', rt := Q } (startD N__law_whole ds) G
def b__law_wide  (E : DXK) : WS :=
  (wRet (weAnd (wIsi .tup (wVar 0)) (wChain dLe dLe (wVar 1) (wCB dLen (wCons (wVar 0) wNil)) (wVar 2))))
abbrev N__law_wide : List Str := ["value", "low", "high"]
abbrev Okb__law_wide  (sp : DSp) : Prop := ∀ ds G Q E, sp ds G Q E → b__law_wide  E { nx := fun _ G' => Q .non G', rt := Q } (startD N__law_wide ds) G
theorem ok__law_whole : Okb__law_whole sp__law_whole := ok_is_whole
theorem ok__law_wide : Okb__law_wide sp__law_wide := ok_is_wide

/-! ### is_channel -/
abbrev sp_is_channel : DSp := sp1 fun v G Q _ => ∃ n, Kn n G v ∧ ∀ G', Ext G G' → Q (.bl (chanB v)) G'
def b_is_channel  (E : DXK) : WS :=
  (wSeq (wIf (wtOr (wtNot (wTest (wIsi .str (wVar 0)))) (wtNot (wTest (wChain dLe dLe (wC (.int 1)) (wCB dLen (wCons (wVar 0) wNil)) (wC (.int 8)))))) (wRet (wC (.bl false))) wNext)
  (wRet (wCB dAll (wCons (wLc [1] (wiStr (wVar 0)) (wgName 1) wtYes (wOp (dIn false) (wVar 1) (wC (.str "abcdefghijklmnopqrstuvwxyz")))) wNil))))
abbrev N_is_channel : List Str := ["value", "sign"]
abbrev Okb_is_channel  (sp : DSp) : Prop := ∀ ds G Q E, sp ds G Q E → b_is_channel  E { nx := fun _ G' => Q .non G', rt := Q } (startD N_is_channel ds) G
def signB : D → Bool
  | .str z => z.cps.toList.all letB
  | _ => false
theorem signs_all {l : List Nat} : (l.map fun c => D.str ⟨#[c]⟩).all signB = l.all letB := by
  rw [List.all_map]
  congr 1
  funext c
  simp [signB]
theorem ok_is_channel : Okb_is_channel sp_is_channel := by
  intro ds G Q E h
  obtain ⟨v, rfl, n, kn, h⟩ := sp1_inv h
  cases v with
  | str z =>
    have hl := (kn_str.mp kn).2
    have h0 := h G .refl
    by_cases h1 : 1 ≤ z.length
    · by_cases h2 : z.length ≤ 8
      · simp [b_is_channel, startD, kn.isK, kindD, hl, show (1 : Int) ≤ (z.length : Int) by omega, show (z.length : Int) ≤ 8 by omega]
        refine lc_map (fun d => .bl (signB d)) (by simpa [Str.length] using hl) (fun _ _ => trivial) (fun x hx G1 K e hK => ?_) fun G1 p e hp => ?_
        · obtain ⟨c, _, rfl⟩ := List.mem_map.mp hx
          have := hK G1 .refl
          simpa [dIn, signB, letB] using this
        · refine dAll_map (c := signB) _ (fun _ _ => rfl) ?_
          rw [signs_all, show z.cps.toList.all letB = chanB (.str z) by simp [chanB, h1, h2]]
          exact h _ (e.trans (Ext.new hp))
      · have e2 : ¬ ((z.length : Int) ≤ 8) := by omega
        have e1 : (1 : Int) ≤ (z.length : Int) := by omega
        simpa [b_is_channel, startD, kn.isK, kindD, chanB, hl, e1, e2, h1, h2] using h0
    · have e2 : z.length = 0 := by omega
      simp_all [b_is_channel, startD, kn.isK, kindD, chanB]
  | _ => have h0 := h G .refl; simp_all [b_is_channel, startD, kn.isK, kindD, chanB]
abbrev sp__law_is_channel : DSp := sp_is_channel
def b__law_is_channel  (E : DXK) : WS :=
  (wSeq (wIf (wtOr (wtNot (wTest (wIsi .str (wVar 0)))) (wtNot (wTest (wChain dLe dLe (wC (.int 1)) (wCB dLen (wCons (wVar 0) wNil)) (wC (.int 8)))))) (wRet (wC (.bl false))) wNext)
  (wRet (wOp dEq (wLc [1] (wiStr (wVar 0)) (wgName 1) (wTest (wOp (dIn true) (wVar 1) (wC (.str "abcdefghijklmnopqrstuvwxyz")))) (wVar 1)) (wLst wNil))))
abbrev N__law_is_channel : List Str := ["value", "sign"]
abbrev Okb__law_is_channel  (sp : DSp) : Prop := ∀ ds G Q E, sp ds G Q E → b__law_is_channel  E { nx := fun _ G' => Q .non G', rt := Q } (startD N__law_is_channel ds) G
theorem ok__law_is_channel : Okb__law_is_channel sp__law_is_channel := by
  intro ds G Q E h
  obtain ⟨v, rfl, n, kn, h⟩ := sp1_inv h
  cases v with
  | str z =>
    have hl := (kn_str.mp kn).2
    have h0 := h G .refl
    by_cases h1 : 1 ≤ z.length
    · by_cases h2 : z.length ≤ 8
      · simp [b__law_is_channel, startD, kn.isK, kindD, hl, show (1 : Int) ≤ (z.length : Int) by omega, show (z.length : Int) ≤ 8 by omega]
        refine lc_keep (fun d => !signB d) (by simpa [Str.length] using hl) (fun _ _ => trivial) (fun x hx G1 acc K e ha hK => ?_) fun G1 p e hp => ?_
        · obtain ⟨c, _, rfl⟩ := List.mem_map.mp hx
          have := hK G1 .refl
          by_cases hc : c ∈ (Str.ofString "abcdefghijklmnopqrstuvwxyz").cps
          · simpa [dIn, signB, letB, hc] using this
          · simpa [dIn, signB, letB, hc, ha] using this
        · intro q hq
          refine dEq_nil 0 (by rw [updD_ne (ne_new hq), updD_same]) updD_same (by omega) ?_ ?_ ?_
          · have := List.length_filter_le (fun d => !signB d) (z.cps.toList.map fun c => D.str ⟨#[c]⟩)
            simp [Str.length] at this h2 ⊢
            omega
          · intro d hd
            simp only [List.mem_filter, List.mem_map] at hd
            obtain ⟨⟨c, hc, rfl⟩, _⟩ := hd
            refine kn_str.mpr ⟨?_, by simp [Str.length]⟩
            have hok := (kn_str.mp kn).1
            simp [PyData.strOk] at hok ⊢
            have := Array.mem_toList_iff.mp hc
            obtain ⟨i, hi, rfl⟩ := Array.mem_iff_getElem.mp this
            exact hok i hi
          · rw [notEmpty_all, signs_all, show z.cps.toList.all letB = chanB (.str z) by simp [chanB, h1, h2]]
            exact h _ ((e.trans (Ext.new hp)).trans (Ext.new hq))
      · have e2 : ¬ ((z.length : Int) ≤ 8) := by omega
        have e1 : (1 : Int) ≤ (z.length : Int) := by omega
        simpa [b__law_is_channel, startD, kn.isK, kindD, chanB, hl, e1, e2, h1, h2] using h0
    · have e2 : z.length = 0 := by omega
      simp_all [b__law_is_channel, startD, kn.isK, kindD, chanB]
  | _ => have h0 := h G .refl; simp_all [b__law_is_channel, startD, kn.isK, kindD, chanB]

/-! ### climbs -/
abbrev sp_climbs : DSp := sp1 fun row G Q _ => ∃ zs : List Str, itemsD G row = some (zs.map .str) ∧ zs.length ≤ 20000 ∧ ∀ G', Ext G G' → Q (.bl (climbR zs)) G'
def b_climbs  (E : DXK) : WS :=
  (wRet (wCB dAll (wCons (wLc [1] (wiRng1 (wCons (wOp dSub (wCB dLen (wCons (wVar 0) wNil)) (wC (.int 1))) wNil)) (wgName 1) wtYes (wOp dLt (wOp dIx (wVar 0) (wVar 1)) (wOp dIx (wVar 0) (wOp dAdd (wVar 1) (wC (.int 1)))))) wNil)))
abbrev N_climbs : List Str := ["row", "at"]
abbrev Okb_climbs  (sp : DSp) : Prop := ∀ ds G Q E, sp ds G Q E → b_climbs  E { nx := fun _ G' => Q .non G', rt := Q } (startD N_climbs ds) G
def ltD (zs : List Str) : D → Bool
  | .int i => ltAt zs i.toNat
  | _ => false
theorem ints_ltD {zs : List Str} : (intsD 0 (zs.length - 1)).all (ltD zs) = climbR zs := by
  unfold intsD climbR
  rw [List.all_map]
  congr 1
  funext i
  simp [ltD]
theorem pick_map {zs : List Str} {n : Nat} {z : Str} (h : zs[n]? = some z) : pick (zs.map D.str) (n : Int) = some (.str z) := by
  rw [pick_nat, List.getElem?_map, h]; rfl
theorem ok_climbs : Okb_climbs sp_climbs := by
  intro ds G Q E h
  obtain ⟨row, rfl, zs, hz, hl, h⟩ := sp1_inv h
  simp [b_climbs, startD]
  refine dLen_items hz ?_
  have e0 : ((zs.map D.str).length : Int) = zs.length := by simp
  simp only [e0]
  refine ⟨by omega, by omega, ?_⟩
  have e1 : ((zs.length : Int) - 1).toNat = zs.length - 1 := by omega
  rw [e1]
  refine lc_map (fun d => .bl (ltD zs d)) (by simp; omega) (fun _ _ => trivial) (fun x hx G1 K e hK => ?_) fun G1 p e hp => ?_
  · obtain ⟨i, hi, rfl⟩ := intsD_mem hx
    have h1 : zs[i]? = some zs[i] := List.getElem?_eq_getElem (by omega)
    have h2 : zs[i + 1]? = some zs[i + 1] := List.getElem?_eq_getElem (by omega)
    have this : K (.bl (ltD zs (.int (0 + (i : Int))))) G1 := hK G1 .refl
    have e4 : ltD zs (.int (0 + (i : Int))) = decide ((zs[i]).cps.toList < (zs[i + 1]).cps.toList) := by simp [ltD, ltAt, h1, h2]
    rw [e4] at this
    simp
    refine dIx_items (itemsD_ext e hz) (pick_map h1) ?_
    have e3 : (i : Int) + 1 = ((i + 1 : Nat) : Int) := by omega
    rw [e3]
    refine dIx_items (itemsD_ext e hz) (pick_map h2) ?_
    exact this
  · refine dAll_map (c := ltD zs) _ (fun _ _ => rfl) ?_
    rw [ints_ltD]
    exact h _ (e.trans (Ext.new hp))
abbrev sp__law_climbs : DSp := sp_climbs
def b__law_climbs  (E : DXK) : WS :=
  (wRet (wOp dEq (wLc [1] (wiRng1 (wCons (wOp dSub (wCB dLen (wCons (wVar 0) wNil)) (wC (.int 1))) wNil)) (wgName 1) (wTest (wOp dGe (wOp dIx (wVar 0) (wVar 1)) (wOp dIx (wVar 0) (wOp dAdd (wVar 1) (wC (.int 1)))))) (wVar 1)) (wLst wNil)))
abbrev N__law_climbs : List Str := ["row", "at"]
abbrev Okb__law_climbs  (sp : DSp) : Prop := ∀ ds G Q E, sp ds G Q E → b__law_climbs  E { nx := fun _ G' => Q .non G', rt := Q } (startD N__law_climbs ds) G
theorem ok__law_climbs : Okb__law_climbs sp__law_climbs := by
  intro ds G Q E h
  obtain ⟨row, rfl, zs, hz, hl, h⟩ := sp1_inv h
  simp [b__law_climbs, startD]
  refine dLen_items hz ?_
  have e0 : ((zs.map D.str).length : Int) = zs.length := by simp
  simp only [e0]
  refine ⟨by omega, by omega, ?_⟩
  have e1 : ((zs.length : Int) - 1).toNat = zs.length - 1 := by omega
  rw [e1]
  refine lc_keep (fun d => !ltD zs d) (by simp; omega) (fun _ _ => trivial) (fun x hx G1 acc K e ha hK => ?_) fun G1 p e hp => ?_
  · obtain ⟨i, hi, rfl⟩ := intsD_mem hx
    have h1 : zs[i]? = some zs[i] := List.getElem?_eq_getElem (by omega)
    have h2 : zs[i + 1]? = some zs[i + 1] := List.getElem?_eq_getElem (by omega)
    have := hK G1 .refl
    simp
    refine dIx_items (itemsD_ext e hz) (pick_map h1) ?_
    have e3 : (i : Int) + 1 = ((i + 1 : Nat) : Int) := by omega
    rw [e3]
    refine dIx_items (itemsD_ext e hz) (pick_map h2) ?_
    by_cases hc : (zs[i]).cps.toList < (zs[i + 1]).cps.toList
    · simpa [ltD, ltAt, h1, h2, hc] using this
    · simpa [ltD, ltAt, h1, h2, hc, ha] using this
  · intro q hq
    refine dEq_nil 19 (by rw [updD_ne (ne_new hq), updD_same]) updD_same (by omega) ?_ ?_ ?_
    · have := List.length_filter_le (fun d => !ltD zs d) (intsD 0 (zs.length - 1))
      simp at this ⊢
      omega
    · intro d hd
      obtain ⟨i, _, rfl⟩ := intsD_mem (List.mem_filter.mp hd).1
      simp
    · rw [notEmpty_all, ints_ltD]
      exact h _ ((e.trans (Ext.new hp)).trans (Ext.new hq))

/-! ### is_cue -/
abbrev sp_is_cue : DSp := sp2 fun ch v G Q _ => ∃ (chs : List Str) (n : Nat), ch = .tup (chs.map .str) ∧ n < 20 ∧ Kn n G v ∧ ∀ G', Ext G G' → Q (.bl (cueB chs v)) G'
theorem wideB_true {lo hi : Int} {v : D} (h : wideB lo hi v = true) : ∃ xs, v = .tup xs ∧ lo ≤ xs.length ∧ (xs.length : Int) ≤ hi := by
  cases v with
  | tup xs =>
    simp [wideB] at h
    exact ⟨xs, rfl, h⟩
  | _ => cases h
theorem wideB_two {v : D} (h : wideB 2 2 v = true) : ∃ a b, v = .tup [a, b] := by
  obtain ⟨xs, rfl, h1, h2⟩ := wideB_true h
  match xs, h1, h2 with
  | [a, b], _, _ => exact ⟨a, b, rfl⟩
  | [], h1, _ => simp at h1
  | [a], h1, _ => simp at h1
  | a :: b :: c :: r, _, h2 => simp at h2; omega
theorem wholeB_true {lo hi : Int} {v : D} (h : wholeB lo hi v = true) : ∃ i, v = .int i ∧ lo ≤ i ∧ i ≤ hi := by
  cases v with
  | int i =>
    simp [wholeB] at h
    exact ⟨i, rfl, h⟩
  | _ => cases h
theorem moveB_true {chs : List Str} {v : D} (h : moveB chs v = true) : ∃ z l, v = .tup [.str z, .int l] ∧ z ∈ chs ∧ 0 ≤ l ∧ l ≤ 100 := by
  unfold moveB at h
  split at h
  · simp at h
    exact ⟨_, _, rfl, h.1, h.2.1, h.2.2⟩
  · cases h
theorem inF_strs {z : Str} : ∀ {chs : List Str}, inF (.str z) (chs.map .str) = decide (z ∈ chs)
  | [] => rfl
  | c :: chs => by
    have := inF_strs (z := z) (chs := chs)
    unfold inF at this ⊢
    rw [List.map_cons, List.any_cons, this]
    by_cases e : c = z
    · simp [eqF, e]
    · simp [eqF, e, Ne.symm (show c ≠ z from e)]
theorem flat_strs {chs : List Str} : (chs.map D.str).all flatD = true := by simp [List.all_map]; intros; rfl
theorem dIn_strs {neg : Bool} {z : Str} {chs : List Str} {G : DHp} {Q : DK} (w : Q (.bl (neg != decide (z ∈ chs))) G) : dIn neg (.str z) (.tup (chs.map .str)) G Q := by
  unfold dIn
  simp only [itemsD_tup]
  refine ⟨rfl, flat_strs, ?_⟩
  rw [inF_strs]; exact w
def b_is_cue  (E : DXK) : WS :=
  (wSeq (wIf (wtNot (wTest (wIsi .tup (wVar 1)))) (wRet (wC (.bl false))) wNext)
  (wSeq (wFor (wiTup (wVar 1)) (wgName 2) (wSeq (wIf (wtOr (wtNot (wTest (wCall sp_is_wide (fun _ => E) (wCons (wVar 2) (wCons (wC (.int 2)) (wCons (wC (.int 2)) wNil)))))) (wtOr (wtNot (wTest (wIsi .str (wOp dIx (wVar 2) (wC (.int 0)))))) (wTest (wOp (dIn true) (wOp dIx (wVar 2) (wC (.int 0))) (wVar 0))))) (wRet (wC (.bl false))) wNext)
  (wIf (wtNot (wTest (wCall sp_is_whole (fun _ => E) (wCons (wOp dIx (wVar 2) (wC (.int 1))) (wCons (wC (.int 0)) (wCons (wC (.int 100)) wNil)))))) (wRet (wC (.bl false))) wNext)))
  (wRet (wCall sp_climbs (fun _ => E) (wCons (wLc [2] (wiTup (wVar 1)) (wgName 2) wtYes (wOp dIx (wVar 2) (wC (.int 0)))) wNil)))))
abbrev N_is_cue : List Str := ["channels", "value", "move"]
abbrev Okb_is_cue  (sp : DSp) : Prop := ∀ ds G Q E, sp ds G Q E → b_is_cue  E { nx := fun _ G' => Q .non G', rt := Q } (startD N_is_cue ds) G
theorem ok_is_cue : Okb_is_cue sp_is_cue := by
  intro ds G Q E h
  obtain ⟨ch, v, rfl, chs, n, rfl, hn, kn, h⟩ := sp2_inv h
  have h0 := h G .refl
  cases v with
  | tup ms =>
    have hlen := kn.len
    simp [b_is_cue, startD, kindD]
    refine forW_rule (fun r ρ G1 => ∃ d o, ms = d ++ r ∧ d.all (moveB chs) = true ∧ Ext G G1 ∧ ρ = [some (.tup (chs.map .str)), some (.tup ms), o]) ?_ ?_ ⟨[], none, rfl, rfl, .refl, rfl⟩
    · rintro x r ρ G1 nx ⟨d, o, rfl, hd, e, rfl⟩ hnx
      refine ⟨trivial, ?_⟩
      have kx : Kn n G1 x := (kn.mem (by simp)).ext e
      have bad : moveB chs x = false → Q (.bl false) G1 := fun hb => by
        have := h G1 e
        have e2 : cueB chs (.tup (d ++ x :: r)) = false := by simp [cueB, hb]
        rwa [e2] at this
      simp
      refine ⟨⟨n, kx⟩, ?_⟩
      by_cases hw : wideB 2 2 x = true
      · obtain ⟨a, b, rfl⟩ := wideB_two hw
        have ka : Kn n G1 a := kx.mem (by simp)
        have kb : Kn n G1 b := kx.mem (by simp)
        simp [hw, ka.isK]
        cases a with
        | str z =>
          simp [kindD]
          refine dIn_strs ?_
          by_cases hz : z ∈ chs
          · simp [hz]
            refine ⟨⟨n, kb⟩, ?_⟩
            by_cases hb : wholeB 0 100 b = true
            · obtain ⟨l, rfl, l1, l2⟩ := wholeB_true hb
              simp [hb]
              exact hnx _ _ ⟨d ++ [.tup [.str z, .int l]], some (.tup [.str z, .int l]), by simp, by simp [hd, moveB, hz, l1, l2], e, rfl⟩
            · simp [hb]
              refine bad ?_
              cases hq : moveB chs (.tup [.str z, b]) with
              | false => rfl
              | true =>
                obtain ⟨z', l, e1, _, l1, l2⟩ := moveB_true hq
                cases e1
                simp [wholeB, l1, l2] at hb
          · simp [hz]
            refine bad ?_
            cases hq : moveB chs (.tup [.str z, b]) with
            | false => rfl
            | true =>
              obtain ⟨z', l, e1, hz', _⟩ := moveB_true hq
              cases e1
              exact absurd hz' hz
        | _ =>
          simp [kindD]
          exact bad rfl
      · simp [hw]
        refine bad ?_
        cases hq : moveB chs x with
        | false => rfl
        | true =>
          obtain ⟨z', l, rfl, _⟩ := moveB_true hq
          simp [wideB] at hw
    · rintro ρ G1 ⟨d, o, e1, hd, e, rfl⟩
      simp at e1
      subst e1
      refine ⟨trivial, ?_⟩
      simp
      refine lc_map (fun m => .str (nameOf m)) (by omega) (fun _ _ => trivial) (fun x hx G2 K e2 hK => ?_) fun G2 p e2 hp => ?_
      · obtain ⟨z, l, rfl, _⟩ := moveB_true (List.all_eq_true.mp hd x hx)
        simpa [nameOf] using hK G2 .refl
      · refine ⟨ms.map nameOf, itemsD_ref (by rw [updD_same, List.map_map]; rfl), by simp; omega, fun G3 e3 => ?_⟩
        have := h G3 ((e.trans (e2.trans (Ext.new hp))).trans e3)
        simpa [cueB, hd] using this
  | _ => simpa [b_is_cue, startD, kn.isK, kindD, cueB] using h0
abbrev sp__law_good_cue : DSp := sp_is_cue
def b__law_good_cue  (E : DXK) : WS :=
  (wSeq (wIf (wtNot (wTest (wIsi .tup (wVar 1)))) (wRet (wC (.bl false))) wNext)
  (wSeq (wFor (wiTup (wVar 1)) (wgName 2) (wSeq (wIf (wtOr (wtNot (wTest (wCall sp__law_wide (fun _ => E) (wCons (wVar 2) (wCons (wC (.int 2)) (wCons (wC (.int 2)) wNil)))))) (wtOr (wtNot (wTest (wIsi .str (wOp dIx (wVar 2) (wC (.int 0)))))) (wTest (wOp (dIn true) (wOp dIx (wVar 2) (wC (.int 0))) (wVar 0))))) (wRet (wC (.bl false))) wNext)
  (wIf (wtNot (wTest (wCall sp__law_whole (fun _ => E) (wCons (wOp dIx (wVar 2) (wC (.int 1))) (wCons (wC (.int 0)) (wCons (wC (.int 100)) wNil)))))) (wRet (wC (.bl false))) wNext)))
  (wRet (wCall sp__law_climbs (fun _ => E) (wCons (wLc [2] (wiTup (wVar 1)) (wgName 2) wtYes (wOp dIx (wVar 2) (wC (.int 0)))) wNil)))))
abbrev N__law_good_cue : List Str := ["channels", "value", "move"]
abbrev Okb__law_good_cue  (sp : DSp) : Prop := ∀ ds G Q E, sp ds G Q E → b__law_good_cue  E { nx := fun _ G' => Q .non G', rt := Q } (startD N__law_good_cue ds) G
theorem ok__law_good_cue : Okb__law_good_cue sp__law_good_cue := ok_is_cue
end TC
set_option maxRecDepth 100000
/-! SB: shows and scripts recognized, second part. -/
namespace TC
open PySem PySem.Spec PyProof.Rows L2

/-! ### shows -/
abbrev sp_is_right_show : DSp := sp1 fun v G Q _ => ∃ n, n < 20 ∧ Kn n G v ∧ ∀ G', Ext G G' → Q (.bl (showB v)) G'
theorem chan_strs {cs : List D} (h : cs.all chanB = true) : cs = (cs.map strOf).map .str := by
  rw [List.map_map]
  conv => lhs; rw [← List.map_id cs]
  refine List.map_congr_left fun x hx => ?_
  have := List.all_eq_true.mp h x hx
  cases x with
  | str z => rfl
  | _ => cases this
theorem showB_wide {v : D} (h : showB v = true) : ∃ cs us, v = .tup [.tup cs, .tup us] ∧ 1 ≤ cs.length ∧ cs.length ≤ 4 ∧ cs.all chanB = true ∧ climbR (cs.map strOf) = true ∧ us.all (cueB (cs.map strOf)) = true := by
  unfold showB at h
  split at h
  · simp only [Bool.and_eq_true, decide_eq_true_eq] at h
    exact ⟨_, _, rfl, h.1.1, h.1.2, h.2.1, h.2.2.1, h.2.2.2⟩
  · cases h
theorem showB_not {v : D} (h : ∀ cs us, v = .tup [.tup cs, .tup us] → 1 ≤ cs.length → cs.length ≤ 4 → cs.all chanB = true → climbR (cs.map strOf) = true → us.all (cueB (cs.map strOf)) = true → False) : showB v = false := by
  cases e : showB v with
  | false => rfl
  | true =>
    obtain ⟨cs, us, rfl, h1, h2, h3, h4, h5⟩ := showB_wide e
    exact (h cs us rfl h1 h2 h3 h4 h5).elim
def b_is_right_show  (E : DXK) : WS :=
  (wSeq (wIf (wtOr (wtNot (wTest (wCall sp_is_wide (fun _ => E) (wCons (wVar 0) (wCons (wC (.int 2)) (wCons (wC (.int 2)) wNil)))))) (wtNot (wTest (wCall sp_is_wide (fun _ => E) (wCons (wOp dIx (wVar 0) (wC (.int 0))) (wCons (wC (.int 1)) (wCons (wC (.int 4)) wNil))))))) (wRet (wC (.bl false))) wNext)
  (wSeq (wIf (wtOr (wtNot (wTest (wCB dAll (wCons (wLc [2] (wiTup (wOp dIx (wVar 0) (wC (.int 0)))) (wgName 2) wtYes (wCall sp_is_channel (noX) (wCons (wVar 2) wNil))) wNil)))) (wtNot (wTest (wCall sp_climbs (fun _ => E) (wCons (wOp dIx (wVar 0) (wC (.int 0))) wNil))))) (wRet (wC (.bl false))) wNext)
  (wRet (weAnd (wIsi .tup (wOp dIx (wVar 0) (wC (.int 1)))) (wCB dAll (wCons (wLc [1] (wiTup (wOp dIx (wVar 0) (wC (.int 1)))) (wgName 1) wtYes (wCall sp_is_cue (noX) (wCons (wOp dIx (wVar 0) (wC (.int 0))) (wCons (wVar 1) wNil)))) wNil))))))
abbrev N_is_right_show : List Str := ["value", "cue", "channel"]
abbrev Okb_is_right_show  (sp : DSp) : Prop := ∀ ds G Q E, sp ds G Q E → b_is_right_show  E { nx := fun _ G' => Q .non G', rt := Q } (startD N_is_right_show ds) G
theorem ok_is_right_show : Okb_is_right_show sp_is_right_show := by
  intro ds G Q E h
  obtain ⟨v, rfl, n, hn, kn, h⟩ := sp1_inv h
  by_cases hw : wideB 2 2 v = true
  · obtain ⟨a, b, rfl⟩ := wideB_two hw
    have ka : Kn n G a := kn.mem (by simp)
    have kb : Kn n G b := kn.mem (by simp)
    simp [b_is_right_show, startD, hw]
    refine ⟨⟨n, kn⟩, ⟨n, ka⟩, ?_⟩
    by_cases ha : wideB 1 4 a = true
    · obtain ⟨cs, rfl, c1, c2⟩ := wideB_true ha
      simp [ha]
      refine lc_map (fun d => .bl (chanB d)) (by omega) (fun _ _ => trivial) (fun x hx G1 K e hK => ?_) fun G1 p e hp => ?_
      · simp
        exact ⟨⟨n, (ka.mem hx).ext e⟩, hK⟩
      · refine dAll_map (c := chanB) _ (fun _ _ => rfl) ?_
        have e1 := e.trans (Ext.new (o := .lst (cs.map fun d => .bl (chanB d))) hp)
        generalize updD G1 p (.lst (cs.map fun d => .bl (chanB d))) = G2 at e1 ⊢
        by_cases hc : cs.all chanB = true
        · have hs := chan_strs hc
          simp [hc]
          refine ⟨cs.map strOf, hs, by simp; omega, fun G3 e3 => ?_⟩
          have e13 := e1.trans e3
          by_cases hb : climbR (cs.map strOf) = true
          · simp [hb, (kb.ext e13).isK]
            cases b with
            | tup us =>
              have hlen := kb.len
              simp [kindD]
              refine lc_map (fun d => .bl (cueB (cs.map strOf) d)) (by omega) (fun _ _ => trivial) (fun x hx G4 K e4 hK => ?_) fun G4 q e4 hq => ?_
              · simp
                exact ⟨cs.map strOf, hs, n, hn, (kb.mem hx).ext (e13.trans e4), hK⟩
              · refine dAll_map (c := cueB (cs.map strOf)) _ (fun _ _ => rfl) ?_
                have := h _ ((e13.trans e4).trans (Ext.new (o := .lst (us.map fun d => .bl (cueB (cs.map strOf) d))) hq))
                have ee : showB (.tup [.tup cs, .tup us]) = us.all (cueB (cs.map strOf)) := by
                  simp only [showB, hc, hb, Bool.true_and]
                  have q1 : decide (1 ≤ cs.length) = true := by simp; omega
                  have q2 : decide (cs.length ≤ 4) = true := by simp; omega
                  rw [q1, q2]; rfl
                rwa [ee] at this
            | _ =>
              have := h G3 e13
              simpa [kindD, showB] using this
          · simp [hb]
            have := h G3 e13
            rwa [showB_not fun cs' us' e' _ _ _ h4 _ => by cases e'; exact hb h4] at this
        · simp [hc]
          have := h G2 e1
          rwa [showB_not fun cs' us' e' _ _ h3 _ _ => by cases e'; exact hc h3] at this
    · simp [ha]
      have := h G .refl
      rwa [showB_not fun cs' us' e' h1 h2 _ _ _ => by cases e'; exact ha (by simp [wideB]; omega)] at this
  · simp [b_is_right_show, startD, hw]
    have := h G .refl
    rw [showB_not fun cs' us' e' _ _ _ _ _ => by subst e'; exact hw rfl] at this
    exact ⟨⟨n, kn⟩, this⟩
abbrev sp__law_good_show : DSp := sp_is_right_show
def b__law_good_show  (E : DXK) : WS :=
  (wSeq (wIf (wtOr (wtNot (wTest (wCall sp__law_wide (fun _ => E) (wCons (wVar 0) (wCons (wC (.int 2)) (wCons (wC (.int 2)) wNil)))))) (wtOr (wtNot (wTest (wCall sp__law_wide (fun _ => E) (wCons (wOp dIx (wVar 0) (wC (.int 0))) (wCons (wC (.int 1)) (wCons (wC (.int 4)) wNil)))))) (wtNot (wTest (wIsi .tup (wOp dIx (wVar 0) (wC (.int 1)))))))) (wRet (wC (.bl false))) wNext)
  (wSeq (wIf (wtOr (wTest (wOp dNe (wLc [2] (wiTup (wOp dIx (wVar 0) (wC (.int 0)))) (wgName 2) (wtNot (wTest (wCall sp__law_is_channel (noX) (wCons (wVar 2) wNil)))) (wVar 2)) (wLst wNil))) (wtNot (wTest (wCall sp__law_climbs (fun _ => E) (wCons (wOp dIx (wVar 0) (wC (.int 0))) wNil))))) (wRet (wC (.bl false))) wNext)
  (wRet (wOp dEq (wLc [1] (wiTup (wOp dIx (wVar 0) (wC (.int 1)))) (wgName 1) (wtNot (wTest (wCall sp__law_good_cue (noX) (wCons (wOp dIx (wVar 0) (wC (.int 0))) (wCons (wVar 1) wNil))))) (wVar 1)) (wLst wNil)))))
abbrev N__law_good_show : List Str := ["value", "cue", "one"]
abbrev Okb__law_good_show  (sp : DSp) : Prop := ∀ ds G Q E, sp ds G Q E → b__law_good_show  E { nx := fun _ G' => Q .non G', rt := Q } (startD N__law_good_show ds) G
theorem ok__law_good_show : Okb__law_good_show sp__law_good_show := by
  intro ds G Q E h
  obtain ⟨v, rfl, n, hn, kn, h⟩ := sp1_inv h
  by_cases hw : wideB 2 2 v = true
  · obtain ⟨a, b, rfl⟩ := wideB_two hw
    have ka : Kn n G a := kn.mem (by simp)
    have kb : Kn n G b := kn.mem (by simp)
    simp [b__law_good_show, startD, hw]
    refine ⟨⟨n, kn⟩, ⟨n, ka⟩, ?_⟩
    by_cases ha : wideB 1 4 a = true
    · obtain ⟨cs, rfl, c1, c2⟩ := wideB_true ha
      simp [ha, kb.isK]
      cases b with
      | tup us =>
        have hlen := kb.len
        simp [kindD]
        refine lc_keep (fun d => !chanB d) (by omega) (fun _ _ => trivial) (fun x hx G1 acc K e hacc hK => ?_) fun G1 p e hp => ?_
        · simp
          refine ⟨⟨n, (ka.mem hx).ext e⟩, fun G2 e2 => ?_⟩
          have := hK G2 e2
          by_cases hc : chanB x = true
          · simpa [hc] using this
          · simpa [hc, hacc] using this
        · intro q hq
          have hfl := List.length_filter_le (fun d => !chanB d) cs
          have e1 := (e.trans (Ext.new hp)).trans (Ext.new (o := .lst []) hq)
          refine dNe_nil n (by rw [updD_ne (ne_new hq), updD_same]) updD_same hn (by omega) (fun d hd => (ka.mem (List.mem_filter.mp hd).1).ext e1) ?_
          rw [notEmpty_all]
          generalize updD _ _ _ = G2 at e1 ⊢
          by_cases hc : cs.all chanB = true
          · have hs := chan_strs hc
            simp [hc]
            refine ⟨cs.map strOf, hs, by simp; omega, fun G3 e3 => ?_⟩
            have e13 := e1.trans e3
            by_cases hb : climbR (cs.map strOf) = true
            · simp [hb]
              refine lc_keep (fun d => !cueB (cs.map strOf) d) (by omega) (fun _ _ => trivial) (fun x hx G4 acc K e4 hacc hK => ?_) fun G4 q e4 hq => ?_
              · simp
                refine ⟨cs.map strOf, hs, n, hn, (kb.mem hx).ext (e13.trans e4), fun G5 e5 => ?_⟩
                have := hK G5 e5
                by_cases hc : cueB (cs.map strOf) x = true
                · simpa [hc] using this
                · simpa [hc, hacc] using this
              · intro q2 hq2
                have hfl := List.length_filter_le (fun d => !cueB (cs.map strOf) d) us
                have e5 := ((e13.trans e4).trans (Ext.new hq)).trans (Ext.new (o := .lst []) hq2)
                refine dEq_nil n (by rw [updD_ne (ne_new hq2), updD_same]) updD_same hn (by omega) (fun d hd => (kb.mem (List.mem_filter.mp hd).1).ext e5) ?_
                rw [notEmpty_all]
                have := h _ e5
                have ee : showB (.tup [.tup cs, .tup us]) = us.all (cueB (cs.map strOf)) := by
                  simp only [showB, hc, hb, Bool.true_and]
                  have q1 : decide (1 ≤ cs.length) = true := by simp; omega
                  have q2 : decide (cs.length ≤ 4) = true := by simp; omega
                  rw [q1, q2]; rfl
                rwa [ee] at this
            · simp [hb]
              have := h G3 e13
              rwa [showB_not fun cs' us' e' _ _ _ h4 _ => by cases e'; exact hb h4] at this
          · simp [hc]
            have := h G2 e1
            rwa [showB_not fun cs' us' e' _ _ h3 _ _ => by cases e'; exact hc h3] at this
      | _ =>
        have := h G .refl
        simpa [kindD, showB] using this
    · simp [ha]
      have := h G .refl
      rwa [showB_not fun cs' us' e' h1 h2 _ _ _ => by cases e'; exact ha (by simp [wideB]; omega)] at this
  · simp [b__law_good_show, startD, hw]
    have := h G .refl
    rw [showB_not fun cs' us' e' _ _ _ _ _ => by subst e'; exact hw rfl] at this
    exact ⟨⟨n, kn⟩, this⟩

/-! ### steps -/
abbrev sp_is_mode : DSp := sp2 fun v ms G Q _ => ∃ (mss : List Str) (n : Nat), ms = .tup (mss.map .str) ∧ Kn n G v ∧ Q (.bl (modeB mss v)) G
def b_is_mode  (E : DXK) : WS :=
  (wRet (weAnd (wIsi .str (wVar 0)) (wOp (dIn false) (wVar 0) (wVar 1))))
abbrev N_is_mode : List Str := ["value", "modes"]
abbrev Okb_is_mode  (sp : DSp) : Prop := ∀ ds G Q E, sp ds G Q E → b_is_mode  E { nx := fun _ G' => Q .non G', rt := Q } (startD N_is_mode ds) G
theorem ok_is_mode : Okb_is_mode sp_is_mode := by
  intro ds G Q E h
  obtain ⟨v, ms, rfl, mss, n, rfl, kn, h⟩ := sp2_inv h
  cases v with
  | str z =>
    simp [b_is_mode, startD, kindD]
    refine dIn_strs ?_
    simpa [modeB] using h
  | _ => simpa [b_is_mode, startD, kn.isK, kindD, modeB] using h
theorem cut_two {a b : D} {r : List D} : cut (a :: b :: r) (some 2) none = r := by
  unfold cut HT.sIx
  simp
theorem stepB_at {w : Str} {n : Int} {r : List D} : stepB (.tup (.str w :: .int n :: r)) = ((decide (1 ≤ n) && decide (n ≤ 5)) && restB w n r) := rfl
theorem wideB_rest {v : D} (h : wideB 2 5 v = true) : ∃ a b r, v = .tup (a :: b :: r) ∧ r.length ≤ 3 := by
  obtain ⟨xs, rfl, h1, h2⟩ := wideB_true h
  match xs, h1, h2 with
  | [], h1, _ => simp at h1
  | [a], h1, _ => simp at h1
  | a :: b :: r, _, h2 => exact ⟨a, b, r, rfl, by simp at h2; omega⟩
theorem restB_len {w : Str} {n : Int} {r : List D} (h : restB w n r = true) : r.length ≤ 3 := by
  unfold restB at h
  split at h
  · split at h
    · simp
    · cases h
  · split at h
    · split at h
      · simp
      · cases h
    · split at h
      · split at h
        · simp
        · cases h
      · split at h
        · split at h
          · simp
          · cases h
        · simp at h
          rw [h.2]; simp
theorem stepB_true {v : D} (h : stepB v = true) : ∃ w n r, v = .tup (.str w :: .int n :: r) ∧ 1 ≤ n ∧ n ≤ 5 ∧ restB w n r = true := by
  unfold stepB at h
  split at h
  · simp at h
    exact ⟨_, _, _, rfl, h.1.1, h.1.2, h.2⟩
  · cases h
theorem stepB_not {v : D} (h : ∀ w n r, v = .tup (.str w :: .int n :: r) → 1 ≤ n → n ≤ 5 → restB w n r = true → False) : stepB v = false := by
  cases e : stepB v with
  | false => rfl
  | true =>
    obtain ⟨w, n, r, rfl, h1, h2, h3⟩ := stepB_true e
    exact (h w n r rfl h1 h2 h3).elim
abbrev sp_is_right_step : DSp := sp1 fun v G Q _ => ∃ n, n < 20 ∧ Kn n G v ∧ ∀ G', Ext G G' → Q (.bl (stepB v)) G'
def b_is_right_step  (E : DXK) : WS :=
  (wSeq (wIf (wtOr (wtNot (wTest (wCall sp_is_wide (fun _ => E) (wCons (wVar 0) (wCons (wC (.int 2)) (wCons (wC (.int 5)) wNil)))))) (wtOr (wtNot (wTest (wIsi .str (wOp dIx (wVar 0) (wC (.int 0)))))) (wtNot (wTest (wCall sp_is_whole (fun _ => E) (wCons (wOp dIx (wVar 0) (wC (.int 1))) (wCons (wC (.int 1)) (wCons (wC (.int 5)) wNil)))))))) (wRet (wC (.bl false))) wNext)
  (wSeq (wPar 1 2 (wCons (wOp dIx (wVar 0) (wC (.int 0))) (wCons (wSl (wVar 0) (woSome (wC (.int 2))) woNone) wNil)))
  (wSeq (wIf (wTest (wOp dEq (wVar 1) (wC (.str "set")))) (wSeq (wIf (wtOr (wTest (wOp dNe (wCB dLen (wCons (wVar 2) wNil)) (wC (.int 3)))) (wtOr (wtNot (wTest (wCall sp_is_channel (fun _ => E) (wCons (wOp dIx (wVar 2) (wC (.int 0))) wNil)))) (wtNot (wTest (wCall sp_is_whole (fun _ => E) (wCons (wOp dIx (wVar 2) (wC (.int 1))) (wCons (wC (.int 0)) (wCons (wC (.int 100)) wNil)))))))) (wRet (wC (.bl false))) wNext)
  (wRet (wCall sp_is_mode (fun _ => E) (wCons (wOp dIx (wVar 2) (wC (.int 2))) (wCons (wTup (wCons (wC (.str "track")) (wCons (wC (.str "only")) wNil))) wNil))))) wNext)
  (wSeq (wIf (wTest (wOp dEq (wVar 1) (wC (.str "clear")))) (wRet (weAnd (wOp dEq (wCB dLen (wCons (wVar 2) wNil)) (wC (.int 2))) (weAnd (wCall sp_is_channel (fun _ => E) (wCons (wOp dIx (wVar 2) (wC (.int 0))) wNil)) (wCall sp_is_mode (fun _ => E) (wCons (wOp dIx (wVar 2) (wC (.int 1))) (wCons (wTup (wCons (wC (.str "track")) (wCons (wC (.str "only")) wNil))) wNil)))))) wNext)
  (wSeq (wIf (wTest (wOp dEq (wVar 1) (wC (.str "delete")))) (wRet (weAnd (wOp dEq (wCB dLen (wCons (wVar 2) wNil)) (wC (.int 1))) (wCall sp_is_mode (fun _ => E) (wCons (wOp dIx (wVar 2) (wC (.int 0))) (wCons (wTup (wCons (wC (.str "keep")) (wCons (wC (.str "drop")) wNil))) wNil))))) wNext)
  (wSeq (wIf (wTest (wOp dEq (wVar 1) (wC (.str "copy")))) (wRet (weAnd (wOp dEq (wCB dLen (wCons (wVar 2) wNil)) (wC (.int 1))) (weAnd (wCall sp_is_whole (fun _ => E) (wCons (wOp dIx (wVar 2) (wC (.int 0))) (wCons (wC (.int 1)) (wCons (wC (.int 5)) wNil)))) (wOp dNe (wOp dIx (wVar 2) (wC (.int 0))) (wOp dIx (wVar 0) (wC (.int 1))))))) wNext)
  (wRet (weAnd (wOp (dIn false) (wVar 1) (wTup (wCons (wC (.str "block")) (wCons (wC (.str "insert")) (wCons (wC (.str "swap")) wNil))))) (wOp dEq (wVar 2) (wTup wNil))))))))))
abbrev N_is_right_step : List Str := ["value", "word", "rest"]
abbrev Okb_is_right_step  (sp : DSp) : Prop := ∀ ds G Q E, sp ds G Q E → b_is_right_step  E { nx := fun _ G' => Q .non G', rt := Q } (startD N_is_right_step ds) G
theorem ok_is_right_step : Okb_is_right_step sp_is_right_step := by
  intro ds G Q E h
  obtain ⟨v, rfl, n, hn, kn, h⟩ := sp1_inv h
  have h0 := h G .refl
  by_cases hw : wideB 2 5 v = true
  · obtain ⟨a, b, r, rfl, hr⟩ := wideB_rest hw
    have ka : Kn n G a := kn.mem (by simp)
    have kb : Kn n G b := kn.mem (by simp)
    have kr : ∀ d ∈ r, Kn n G d := fun d hd => kn.mem (by simp [hd])
    simp [b_is_right_step, startD, hw, ka.isK, cut_two]
    refine ⟨⟨n, kn⟩, ?_⟩
    cases a with
    | str w =>
      simp [kindD]
      refine ⟨⟨n, kb⟩, ?_⟩
      by_cases hb : wholeB 1 5 b = true
      · obtain ⟨i, rfl, i1, i2⟩ := wholeB_true hb
        have e0 : stepB (.tup (.str w :: .int i :: r)) = restB w i r := by simp [stepB_at, i1, i2]
        rw [e0] at h0 h
        simp [hb, cut_two]
        by_cases w1 : w = Str.ofString "set"
        · rw [if_pos w1]
          simp only [restB, if_pos w1] at h0 h
          match r, hr with
          | [c, l, m], _ =>
            have kc : Kn n G c := kr c (by simp)
            have kl : Kn n G l := kr l (by simp)
            have km : Kn n G m := kr m (by simp)
            simp
            refine ⟨⟨n, kc⟩, fun G1 e1 => ?_⟩
            have h1 := h G1 e1
            by_cases hc : chanB c = true
            · simp [hc]
              refine ⟨⟨n, kl.ext e1⟩, ?_⟩
              by_cases hl : wholeB 0 100 l = true
              · simp [hl]
                refine ⟨["track", "only"], rfl, ⟨n, km.ext e1⟩, ?_⟩
                simpa [hc, hl] using h1
              · simpa [hc, hl] using h1
            · simpa [hc] using h1
          | [], _ => simpa using h0
          | [c], _ => simpa using h0
          | [c, l], _ => simpa using h0
        · rw [if_neg w1]
          by_cases w2 : w = Str.ofString "clear"
          · rw [if_pos w2]
            simp only [restB, if_neg w1, if_pos w2] at h0 h
            match r, hr with
            | [c, m], _ =>
              have kc : Kn n G c := kr c (by simp)
              have km : Kn n G m := kr m (by simp)
              simp
              refine ⟨⟨n, kc⟩, fun G1 e1 => ?_⟩
              have h1 := h G1 e1
              by_cases hc : chanB c = true
              · simp [hc]
                refine ⟨["track", "only"], rfl, ⟨n, km.ext e1⟩, ?_⟩
                simpa [hc] using h1
              · simpa [hc] using h1
            | [], _ => simpa using h0
            | [c], _ => simpa using h0
            | [c, l, m], _ => simpa using h0
          · rw [if_neg w2]
            by_cases w3 : w = Str.ofString "delete"
            · rw [if_pos w3]
              simp only [restB, if_neg w1, if_neg w2, if_pos w3] at h0 h
              match r, hr with
              | [m], _ =>
                have km : Kn n G m := kr m (by simp)
                simp
                refine ⟨["keep", "drop"], rfl, ⟨n, km⟩, ?_⟩
                simpa using h0
              | [], _ => simpa using h0
              | [c, l], _ => simpa using h0
              | [c, l, m], _ => simpa using h0
            · rw [if_neg w3]
              by_cases w4 : w = Str.ofString "copy"
              · rw [if_pos w4]
                simp only [restB, if_neg w1, if_neg w2, if_neg w3, if_pos w4] at h0 h
                match r, hr with
                | [m], _ =>
                  have km : Kn n G m := kr m (by simp)
                  simp
                  refine ⟨⟨n, km⟩, ?_⟩
                  by_cases hm : wholeB 1 5 m = true
                  · obtain ⟨k, rfl, k1, k2⟩ := wholeB_true hm
                    simp [hm]
                    simpa [k1, k2] using h0
                  · simp [hm]
                    cases m with
                    | int k =>
                      have : (decide (1 ≤ k) && decide (k ≤ 5)) = false := by simpa [wholeB] using hm
                      simpa [this] using h0
                    | _ => simpa using h0
                | [], _ => simpa using h0
                | [c, l], _ => simpa using h0
                | [c, l, m], _ => simpa using h0
              · rw [if_neg w4]
                simp only [restB, if_neg w1, if_neg w2, if_neg w3, if_neg w4] at h0 h
                refine dIn_strs (chs := ["block", "insert", "swap"]) ?_
                by_cases hm : w ∈ (["block", "insert", "swap"] : List Str)
                · simp only [hm, decide_true] at h0 ⊢
                  simp
                  refine dEqD_nilT (neg := false) hn (by omega) kr ?_
                  simpa using h0
                · simp only [hm, decide_false] at h0 ⊢
                  simp
                  simpa using h0
      · simp [hb]
        rwa [stepB_not fun w' n' r' e1 h1 h2 _ => by cases e1; exact hb (by simp [wholeB, h1, h2])] at h0
    | _ => simpa [kindD, stepB] using h0
  · simp [b_is_right_step, startD, hw]
    rw [stepB_not fun w' n' r' e1 h1 h2 h3 => by
      subst e1
      have := restB_len h3
      exact hw (by simp [wideB]; omega)] at h0
    exact ⟨⟨n, kn⟩, h0⟩
end TC
set_option maxRecDepth 100000
/-! SC: scripts recognized; the functions that raise. -/
namespace TC
open PySem PySem.Spec PyProof.Rows L2

abbrev sp_is_right_script : DSp := sp1 fun v G Q _ => ∃ n, n < 20 ∧ Kn n G v ∧ ∀ G', Ext G G' → Q (.bl (scriptB v)) G'
theorem scriptB_tup {xs : List D} : scriptB (.tup xs) = (decide (xs.length ≤ 4) && xs.all stepB) := rfl
def b_is_right_script  (E : DXK) : WS :=
  (wRet (weAnd (wCall sp_is_wide (fun _ => E) (wCons (wVar 0) (wCons (wC (.int 0)) (wCons (wC (.int 4)) wNil)))) (wCB dAll (wCons (wLc [1] (wiTup (wVar 0)) (wgName 1) wtYes (wCall sp_is_right_step (noX) (wCons (wVar 1) wNil))) wNil))))
abbrev N_is_right_script : List Str := ["value", "step"]
abbrev Okb_is_right_script  (sp : DSp) : Prop := ∀ ds G Q E, sp ds G Q E → b_is_right_script  E { nx := fun _ G' => Q .non G', rt := Q } (startD N_is_right_script ds) G
theorem ok_is_right_script : Okb_is_right_script sp_is_right_script := by
  intro ds G Q E h
  obtain ⟨v, rfl, n, hn, kn, h⟩ := sp1_inv h
  have h0 := h G .refl
  by_cases hw : wideB 0 4 v = true
  · obtain ⟨xs, rfl, l1, l2⟩ := wideB_true hw
    have l3 : xs.length ≤ 4 := by omega
    simp [b_is_right_script, startD, hw]
    refine ⟨⟨n, kn⟩, ?_⟩
    refine lc_map (fun d => .bl (stepB d)) (by omega) (fun _ _ => trivial) (fun x hx G1 K e hK => ?_) fun G1 p e hp => ?_
    · simp
      exact ⟨n, hn, (kn.mem hx).ext e, hK⟩
    · refine dAll_map (c := stepB) _ (fun _ _ => rfl) ?_
      have := h _ (e.trans (Ext.new (o := .lst (xs.map fun d => .bl (stepB d))) hp))
      simpa [scriptB_tup, l3] using this
  · simp [b_is_right_script, startD, hw]
    refine ⟨⟨n, kn⟩, ?_⟩
    cases v with
    | tup xs =>
      have : ¬ xs.length ≤ 4 := fun l => hw (by simp [wideB]; omega)
      simpa [scriptB_tup, this] using h0
    | _ => simpa [scriptB] using h0

/-! ### the law's own steps -/
abbrev sp__law_good_step : DSp := sp_is_right_step
def b__law_good_step  (E : DXK) : WS :=
  (wSeq (wIf (wtOr (wtNot (wTest (wIsi .tup (wVar 0)))) (wtOr (wTest (wOp dLt (wCB dLen (wCons (wVar 0) wNil)) (wC (.int 2)))) (wtNot (wTest (wIsi .str (wOp dIx (wVar 0) (wC (.int 0)))))))) (wRet (wC (.bl false))) wNext)
  (wSeq (wIf (wtNot (wTest (wCall sp__law_whole (fun _ => E) (wCons (wOp dIx (wVar 0) (wC (.int 1))) (wCons (wC (.int 1)) (wCons (wC (.int 5)) wNil)))))) (wRet (wC (.bl false))) wNext)
  (wSeq (wAsg (wDict (wDCons (wC (.str "set")) (wC (.str "cnm")) (wDCons (wC (.str "clear")) (wC (.str "cm")) (wDCons (wC (.str "block")) (wC (.str "")) (wDCons (wC (.str "insert")) (wC (.str "")) (wDCons (wC (.str "delete")) (wC (.str "w")) (wDCons (wC (.str "copy")) (wC (.str "d")) (wDCons (wC (.str "swap")) (wC (.str "")) wDNil)))))))) (wgName 1))
  (wSeq (wAsg (wDGet (wVar 1) (wOp dIx (wVar 0) (wC (.int 0))) (wC (.str "?"))) (wgName 2))
  (wSeq (wIf (wtOr (wTest (wOp dNe (wCB dLen (wCons (wVar 0) wNil)) (wOp dAdd (wC (.int 2)) (wCB dLen (wCons (wVar 2) wNil))))) (wTest (wOp dEq (wVar 2) (wC (.str "?"))))) (wRet (wC (.bl false))) wNext)
  (wSeq (wFor (wiZip (wCons (wVar 2) (wCons (wSl (wVar 0) (woSome (wC (.int 2))) woNone) wNil))) (wgTup 2 (wgCons (wgName 3) (wgCons (wgName 4) wgNil))) (wSeq (wAsg (weOr (weAnd (wOp dEq (wVar 3) (wC (.str "c"))) (wCall sp__law_is_channel (fun _ => E) (wCons (wVar 4) wNil))) (weAnd (wOp dEq (wVar 3) (wC (.str "n"))) (wCall sp__law_whole (fun _ => E) (wCons (wVar 4) (wCons (wC (.int 0)) (wCons (wC (.int 100)) wNil)))))) (wgName 5))
  (wSeq (wAsg (weOr (wVar 5) (weAnd (wOp dEq (wVar 3) (wC (.str "d"))) (weAnd (wCall sp__law_whole (fun _ => E) (wCons (wVar 4) (wCons (wC (.int 1)) (wCons (wC (.int 5)) wNil)))) (wOp dNe (wVar 4) (wOp dIx (wVar 0) (wC (.int 1))))))) (wgName 5))
  (wSeq (wIf (wtAnd (wTest (wOp (dIn false) (wVar 3) (wC (.str "mw")))) (wTest (wIsi .str (wVar 4)))) (wAsg (wOp (dIn false) (wVar 4) (wIfE (wTest (wOp dEq (wVar 3) (wC (.str "m")))) (wLst (wCons (wC (.str "track")) (wCons (wC (.str "only")) wNil))) (wLst (wCons (wC (.str "keep")) (wCons (wC (.str "drop")) wNil))))) (wgName 5)) wNext)
  (wIf (wtNot (wTest (wVar 5))) (wRet (wC (.bl false))) wNext)))))
  (wRet (wC (.bl true)))))))))
abbrev N__law_good_step : List Str := ["value", "shape", "sorts", "sort", "one", "good"]
abbrev Okb__law_good_step  (sp : DSp) : Prop := ∀ ds G Q E, sp ds G Q E → b__law_good_step  E { nx := fun _ G' => Q .non G', rt := Q } (startD N__law_good_step ds) G
def isInt (i : Int) : D → Bool
  | .int k => k == i
  | _ => false
def sortG (c : Nat) (i : Int) (one : D) : Bool := ((decide (c = 99) && chanB one) || (decide (c = 110) && wholeB 0 100 one)) || (decide (c = 100) && (wholeB 1 5 one && !isInt i one))
def sortB (c : Nat) (i : Int) (one : D) : Bool := match one with
  | .str z => if c = 109 then decide (z ∈ (["track", "only"] : List Str)) else if c = 119 then decide (z ∈ (["keep", "drop"] : List Str)) else sortG c i one
  | _ => sortG c i one
theorem sign_eq {c k : Nat} {x : Str} (h : x = ⟨#[k]⟩) : ((⟨#[c]⟩ : Str) == x) = decide (c = k) := by
  subst h
  by_cases e : c = k
  · subst e; simp
  · simp [e]
theorem mw_cps : (Str.ofString "mw").cps.toList = [109, 119] := by decide
theorem s_c : Str.ofString "c" = ⟨#[99]⟩ := by decide
theorem s_n : Str.ofString "n" = ⟨#[110]⟩ := by decide
theorem s_d : Str.ofString "d" = ⟨#[100]⟩ := by decide
theorem s_m : Str.ofString "m" = ⟨#[109]⟩ := by decide
def sortsOf (w : Str) : Str := (lookD (mergeD [] [(Sum.inr (Str.ofString "set"), D.str "cnm"), (Sum.inr (Str.ofString "clear"), .str "cm"), (Sum.inr (Str.ofString "block"), .str ""), (Sum.inr (Str.ofString "insert"), .str ""), (Sum.inr (Str.ofString "delete"), .str "w"), (Sum.inr (Str.ofString "copy"), .str "d"), (Sum.inr (Str.ofString "swap"), .str "")]) (Sum.inr w)).elim "?" strOf
theorem in_two {neg : Bool} {z : Str} {chs : List Str} {G : DHp} {Q : DK} {p : Addr} (hp : G p = some (.lst (chs.map .str))) (w : Q (.bl (neg != decide (z ∈ chs))) G) : dIn neg (.str z) (.ref p) G Q := by
  unfold dIn
  simp only [itemsD_ref hp]
  refine ⟨rfl, flat_strs, ?_⟩
  rw [inF_strs]; exact w
abbrev shapeL : List (Key × D) := [(Sum.inr (Str.ofString "set"), D.str "cnm"), (Sum.inr (Str.ofString "clear"), .str "cm"), (Sum.inr (Str.ofString "block"), .str ""), (Sum.inr (Str.ofString "insert"), .str ""), (Sum.inr (Str.ofString "delete"), .str "w"), (Sum.inr (Str.ofString "copy"), .str "d"), (Sum.inr (Str.ofString "swap"), .str "")]
theorem merge_shape : mergeD [] shapeL = shapeL := by rfl
theorem look_shape {w : Str} : (lookD (mergeD [] shapeL) (Sum.inr w)).getD (.str "?") = .str (sortsOf w) := by
  unfold sortsOf
  show _ = D.str ((lookD (mergeD [] shapeL) (Sum.inr w)).elim ("?" : Str) strOf)
  rw [merge_shape]
  unfold shapeL
  simp only [lookD]
  repeat' split
  all_goals rfl
theorem sortsOf_eq {w : Str} : sortsOf w = if w = Str.ofString "set" then "cnm" else if w = Str.ofString "clear" then "cm" else if w = Str.ofString "block" then "" else if w = Str.ofString "insert" then "" else if w = Str.ofString "delete" then "w" else if w = Str.ofString "copy" then "d" else if w = Str.ofString "swap" then "" else "?" := by
  unfold sortsOf
  show (lookD (mergeD [] shapeL) (Sum.inr w)).elim ("?" : Str) strOf = _
  rw [merge_shape]
  unfold shapeL
  simp only [lookD, Sum.inr.injEq, eq_comm (b := w)]
  repeat' split
  all_goals rfl
def mkP (p : Nat × D) : D := .tup [.str ⟨#[p.1]⟩, p.2]
theorem zip_signs {z : Str} {r : List D} : zipD (signsD z) r = (z.cps.toList.zip r).map mkP := by
  unfold zipD signsD
  rw [List.zip, List.map_zipWith, List.zipWith_map_left]
  rfl
theorem mode_sort {i : Int} {m : D} : sortB 109 i m = modeB ["track", "only"] m := by
  cases m <;> simp [sortB, sortG, modeB]
theorem keep_sort {i : Int} {m : D} : sortB 119 i m = modeB ["keep", "drop"] m := by
  cases m <;> simp [sortB, sortG, modeB]
theorem c_sort {i : Int} {m : D} : sortB 99 i m = chanB m := by
  cases m <;> simp [sortB, sortG, chanB]
theorem n_sort {i : Int} {m : D} : sortB 110 i m = wholeB 0 100 m := by
  cases m <;> simp [sortB, sortG, wholeB]
theorem d_sort {i : Int} {m : D} : sortB 100 i m = (wholeB 1 5 m && !isInt i m) := by
  cases m <;> simp [sortB, sortG, wholeB]
theorem q_cps : (Str.ofString "?").cps.toList = [63] := by decide
theorem restB_sorts {w : Str} {i : Int} {r : List D} : restB w i r = (decide (r.length = (sortsOf w).length) && (!(sortsOf w == "?") && ((sortsOf w).cps.toList.zip r).all fun p => sortB p.1 i p.2)) := by
  rw [sortsOf_eq]
  unfold restB
  by_cases w1 : w = Str.ofString "set"
  · have e1 : (Str.ofString "cnm").cps.toList = [99, 110, 109] := by decide
    have e2 : (Str.ofString "cnm").length = 3 := by decide
    have e3 : (Str.ofString "cnm" == Str.ofString "?") = false := by decide
    rw [if_pos w1, if_pos w1]
    match r with
    | [c, l, m] => simp [e1, e2, e3, mode_sort, c_sort, n_sort]
    | [] => simp [e2]
    | [c] => simp [e2]
    | [c, l] => simp [e2]
    | c :: l :: m :: x :: t => simp [e2]
  · rw [if_neg w1, if_neg w1]
    by_cases w2 : w = Str.ofString "clear"
    · have e1 : (Str.ofString "cm").cps.toList = [99, 109] := by decide
      have e2 : (Str.ofString "cm").length = 2 := by decide
      have e3 : (Str.ofString "cm" == Str.ofString "?") = false := by decide
      rw [if_pos w2, if_pos w2]
      match r with
      | [c, m] => simp [e1, e2, e3, mode_sort, c_sort]
      | [] => simp [e2]
      | [c] => simp [e2]
      | c :: l :: x :: t => simp [e2]
    · rw [if_neg w2, if_neg w2]
      by_cases w3 : w = Str.ofString "delete"
      · have e1 : (Str.ofString "w").cps.toList = [119] := by decide
        have e2 : (Str.ofString "w").length = 1 := by decide
        have e3 : (Str.ofString "w" == Str.ofString "?") = false := by decide
        have n1 : ¬ w = Str.ofString "block" := by rw [w3]; decide
        have n2 : ¬ w = Str.ofString "insert" := by rw [w3]; decide
        rw [if_pos w3, if_neg n1, if_neg n2, if_pos w3]
        match r with
        | [m] => simp [e1, e2, e3, keep_sort]
        | [] => simp [e2]
        | c :: x :: t => simp [e2]
      · rw [if_neg w3]
        by_cases w4 : w = Str.ofString "copy"
        · have e1 : (Str.ofString "d").cps.toList = [100] := by decide
          have e2 : (Str.ofString "d").length = 1 := by decide
          have e3 : (Str.ofString "d" == Str.ofString "?") = false := by decide
          have n1 : ¬ w = Str.ofString "block" := by rw [w4]; decide
          have n2 : ¬ w = Str.ofString "insert" := by rw [w4]; decide
          rw [if_pos w4, if_neg n1, if_neg n2, if_neg w3, if_pos w4]
          match r with
          | [m] => cases m <;> simp [e1, e2, e3, d_sort, wholeB, isInt]
          | [] => simp [e2]
          | c :: x :: t => simp [e2]
        · rw [if_neg w4]
          have e1 : (Str.ofString "").cps.toList = [] := by decide
          have e2 : (Str.ofString "").length = 0 := by decide
          have e3 : (Str.ofString "" == Str.ofString "?") = false := by decide
          by_cases w5 : w = Str.ofString "block"
          · rw [if_pos w5]
            subst w5
            cases r <;> simp [e1, e2, e3]
          · rw [if_neg w5]
            by_cases w6 : w = Str.ofString "insert"
            · rw [if_pos w6]
              subst w6
              cases r <;> simp [e1, e2, e3]
            · rw [if_neg w6, if_neg w3, if_neg w4]
              by_cases w7 : w = Str.ofString "swap"
              · rw [if_pos w7]
                subst w7
                cases r <;> simp [e1, e2, e3]
              · rw [if_neg w7]
                have e4 : (Str.ofString "?" == Str.ofString "?") = true := by decide
                simp [w5, w6, w7, e4]

theorem dLook_at {G : DHp} {p : Addr} {kvs : List (Key × D)} {w : Str} (h : G p = some (.dK kvs)) : dLook G (.ref p) (.str w) = some (lookD kvs (.inr w)) := by
  simp [dLook, h, keyOf]
theorem sortsOf_codes {w : Str} {c : Nat} (hq : ¬ sortsOf w = Str.ofString "?") (h : c ∈ (sortsOf w).cps.toList) : c = 99 ∨ c = 110 ∨ c = 100 ∨ c = 109 ∨ c = 119 := by
  have e1 : (Str.ofString "cnm").cps.toList = [99, 110, 109] := by decide
  have e2 : (Str.ofString "cm").cps.toList = [99, 109] := by decide
  have e3 : (Str.ofString "w").cps.toList = [119] := by decide
  have e4 : (Str.ofString "d").cps.toList = [100] := by decide
  have e5 : (Str.ofString "").cps.toList = [] := by decide
  rw [sortsOf_eq] at h hq
  by_cases w1 : w = Str.ofString "set"
  · rw [if_pos w1, e1] at h; simp at h; omega
  rw [if_neg w1] at h hq
  by_cases w2 : w = Str.ofString "clear"
  · rw [if_pos w2, e2] at h; simp at h; omega
  rw [if_neg w2] at h hq
  by_cases w3 : w = Str.ofString "block"
  · rw [if_pos w3, e5] at h; simp at h
  rw [if_neg w3] at h hq
  by_cases w4 : w = Str.ofString "insert"
  · rw [if_pos w4, e5] at h; simp at h
  rw [if_neg w4] at h hq
  by_cases w5 : w = Str.ofString "delete"
  · rw [if_pos w5, e3] at h; simp at h; omega
  rw [if_neg w5] at h hq
  by_cases w6 : w = Str.ofString "copy"
  · rw [if_pos w6, e4] at h; simp at h; omega
  rw [if_neg w6] at h hq
  by_cases w7 : w = Str.ofString "swap"
  · rw [if_pos w7, e5] at h; simp at h
  rw [if_neg w7] at h hq
  exact absurd rfl hq
theorem dIn_mw {c : Nat} {G : DHp} {Q : DK} : dIn false (.str ⟨#[c]⟩) (.str (Str.ofString "mw")) G Q = Q (.bl (decide (c ∈ ([109, 119] : List Nat)))) G := by
  unfold dIn
  simp only [mw_cps]
  refine propext ⟨fun ⟨c', e, h⟩ => ?_, fun h => ⟨c, rfl, by simpa using h⟩⟩
  have : c = c' := by simpa using e
  subst this
  simpa using h
theorem ok__law_good_step : Okb__law_good_step sp__law_good_step := by
  intro ds G Q E h
  obtain ⟨v, rfl, n, hn, kn, h⟩ := sp1_inv h
  have h0 := h G .refl
  cases v with
  | tup xs =>
    have kxs : ∀ d ∈ xs, Kn n G d := fun d hd => kn.mem hd
    match xs, kxs with
    | [], _ => simpa [b__law_good_step, startD, kindD, stepB] using h0
    | [a], _ => simpa [b__law_good_step, startD, kindD, stepB] using h0
    | a :: b :: r, kxs =>
      have ka : Kn n G a := kxs a (by simp)
      have kb : Kn n G b := kxs b (by simp)
      have kr : ∀ d ∈ r, Kn n G d := fun d hd => kxs d (by simp [hd])
      have hl := kn.len
      have ge : ¬ ((r.length : Int) + 1 + 1 < 2) := by omega
      simp [b__law_good_step, startD, ka.isK, ge]
      cases a with
      | str w =>
        simp [kindD]
        refine ⟨⟨n, kb⟩, ?_⟩
        by_cases hb : wholeB 1 5 b = true
        · obtain ⟨i, rfl, i1, i2⟩ := wholeB_true hb
          have e0 : stepB (.tup (.str w :: .int i :: r)) = restB w i r := by simp [stepB_at, i1, i2]
          rw [e0, restB_sorts] at h0 h
          simp [hb]
          refine ⟨by decide, fun p hp => ?_⟩
          have e1 : Ext G (updD G p (.dK (mergeD [] shapeL))) := Ext.new hp
          refine ⟨⟨.str w, _, dLook_at updD_same⟩, ?_⟩
          rw [dLook_at updD_same]
          simp only [look_shape]
          generalize updD G p (.dK (mergeD [] shapeL)) = G1 at e1 ⊢
          have hz : (sortsOf w).length ≤ 10 := by
            rw [sortsOf_eq]
            repeat' split
            all_goals decide
          simp [show (sortsOf w).length ≤ 1000000 by omega]
          by_cases hlen : r.length = (sortsOf w).length
          · have e2 : (r.length : Int) + 1 + 1 = 2 + (sortsOf w).length := by omega
            simp [e2]
            by_cases hq : sortsOf w = Str.ofString "?"
            · simp [hq]
              have := h G1 e1
              simpa [hlen, hq] using this
            · simp [hq]
              rw [cut_two, zip_signs]
              have hres : ∀ G', Ext G G' → Q (.bl (((sortsOf w).cps.toList.zip r).all fun p => sortB p.1 i p.2)) G' := fun G' e' => by
                have := h G' e'
                have hq' : (sortsOf w == Str.ofString "?") = false := by simpa using hq
                simpa [hlen, hq'] using this
              refine forW_rule (fun rr ρ G2 => ∃ d t o3 o4 o5, (sortsOf w).cps.toList.zip r = d ++ t ∧ rr = t.map mkP ∧ (d.all fun p => sortB p.1 i p.2) = true ∧ Ext G G2 ∧ ρ = [some (.tup (.str w :: .int i :: r)), some (.ref p), some (.str (sortsOf w)), o3, o4, o5]) ?_ ?_ ⟨[], _, none, none, none, rfl, rfl, rfl, e1, rfl⟩
              · rintro x rr ρ G2 nx ⟨d, t, o3, o4, o5, e3, e4, hd, e, rfl⟩ hnx
                match t, e4 with
                | (c, one) :: t, e4 =>
                  simp at e4
                  obtain ⟨rfl, rfl⟩ := e4
                  refine ⟨by simp, ?_⟩
                  have hm : (c, one) ∈ (sortsOf w).cps.toList.zip r := by rw [e3]; simp
                  have k1 : Kn n G2 one := (kr one (List.of_mem_zip hm).2).ext e
                  have bad : ∀ G', Ext G G' → sortB c i one = false → Q (.bl false) G' := fun G' e' hb => by
                    have := hres G' e'
                    rw [e3] at this
                    simpa [hb] using this
                  have good : ∀ G' o3 o4 o5, Ext G G' → sortB c i one = true → nx [some (.tup (.str w :: .int i :: r)), some (.ref p), some (.str (sortsOf w)), o3, o4, o5] G' := fun G' o3 o4 o5 e' hb =>
                    hnx _ _ ⟨d ++ [(c, one)], t, o3, o4, o5, by simp [e3], rfl, by simp [hd, hb], e', rfl⟩
                  have hc5 := sortsOf_codes hq (List.of_mem_zip hm).1
                  rcases hc5 with rfl | rfl | rfl | rfl | rfl
                  · simp [mkP, s_c, s_n, s_d, s_m, dIn_mw, mw_cps]
                    refine ⟨⟨n, k1⟩, fun G3 e5 => ?_⟩
                    by_cases hg : chanB one = true
                    · simpa [hg] using good G3 _ _ _ (e.trans e5) (by rw [c_sort]; exact hg)
                    · simpa [hg] using bad G3 (e.trans e5) (by rw [c_sort]; simpa using hg)
                  · simp [mkP, s_c, s_n, s_d, s_m, dIn_mw, mw_cps]
                    refine ⟨⟨n, k1⟩, ?_⟩
                    by_cases hg : wholeB 0 100 one = true
                    · simpa [hg] using good G2 _ _ _ e (by rw [n_sort]; exact hg)
                    · simpa [hg] using bad G2 e (by rw [n_sort]; simpa using hg)
                  · simp [mkP, s_c, s_n, s_d, s_m, dIn_mw, mw_cps]
                    refine ⟨⟨n, k1⟩, ?_⟩
                    by_cases hg : wholeB 1 5 one = true
                    · obtain ⟨k, rfl, k2, k3⟩ := wholeB_true hg
                      by_cases hk : k = i
                      · simpa [hg, hk] using bad G2 e (by rw [d_sort]; simp [isInt, hk])
                      · simpa [hg, hk] using good G2 _ _ _ e (by rw [d_sort]; simp [isInt, hk, hg])
                    · simpa [hg] using bad G2 e (by rw [d_sort]; simp [hg])
                  · simp [mkP, s_c, s_n, s_d, s_m, dIn_mw, mw_cps, k1.isK]
                    cases one with
                    | str z =>
                      simp [kindD]
                      intro q hq2
                      refine in_two (chs := ["track", "only"]) updD_same ?_
                      have e6 : Ext G (updD G2 q (.lst [.str (Str.ofString "track"), .str (Str.ofString "only")])) := e.trans (Ext.new hq2)
                      by_cases hg : z ∈ (["track", "only"] : List Str)
                      · simp only [hg]
                        simpa using good _ _ _ _ e6 (by rw [mode_sort]; simpa [modeB] using hg)
                      · simp only [hg]
                        simpa using bad _ e6 (by rw [mode_sort]; simpa [modeB] using hg)
                    | _ => simpa [kindD] using bad G2 e (by rw [mode_sort]; rfl)
                  · simp [mkP, s_c, s_n, s_d, s_m, dIn_mw, mw_cps, k1.isK]
                    cases one with
                    | str z =>
                      simp [kindD]
                      intro q hq2
                      refine in_two (chs := ["keep", "drop"]) updD_same ?_
                      have e6 : Ext G (updD G2 q (.lst [.str (Str.ofString "keep"), .str (Str.ofString "drop")])) := e.trans (Ext.new hq2)
                      by_cases hg : z ∈ (["keep", "drop"] : List Str)
                      · simp only [hg]
                        simpa using good _ _ _ _ e6 (by rw [keep_sort]; simpa [modeB] using hg)
                      · simp only [hg]
                        simpa using bad _ e6 (by rw [keep_sort]; simpa [modeB] using hg)
                    | _ => simpa [kindD] using bad G2 e (by rw [keep_sort]; rfl)
              · rintro ρ G2 ⟨d, t, o3, o4, o5, e3, e4, hd, e, rfl⟩
                have : t = [] := by simpa using e4
                subst this
                simp at e3
                refine ⟨by simp, ?_⟩
                have := hres G2 e
                rw [e3] at this
                simpa [hd] using this
          · have e2 : ¬ ((r.length : Int) + 1 + 1 = 2 + (sortsOf w).length) := by omega
            simp [e2]
            have := h G1 e1
            simpa [hlen] using this
        · simp [hb]
          rwa [stepB_not fun w' n' r' e1 h1 h2 _ => by cases e1; exact hb (by simp [wholeB, h1, h2])] at h0
      | _ => simpa [kindD, stepB] using h0
  | _ => simpa [b__law_good_step, startD, kn.isK, kindD, stepB] using h0
end TC
set_option maxRecDepth 100000
/-! SD: scripts, the functions that ask, draws. -/
namespace TC
open PySem PySem.Spec PyProof.Rows L2

abbrev sp__law_good_script : DSp := sp_is_right_script
def b__law_good_script  (E : DXK) : WS :=
  (wRet (weAnd (wCall sp__law_wide (fun _ => E) (wCons (wVar 0) (wCons (wC (.int 0)) (wCons (wC (.int 4)) wNil)))) (wOp dEq (wLc [1] (wiTup (wVar 0)) (wgName 1) (wtNot (wTest (wCall sp__law_good_step (noX) (wCons (wVar 1) wNil)))) (wVar 1)) (wLst wNil))))
abbrev N__law_good_script : List Str := ["value", "one"]
abbrev Okb__law_good_script  (sp : DSp) : Prop := ∀ ds G Q E, sp ds G Q E → b__law_good_script  E { nx := fun _ G' => Q .non G', rt := Q } (startD N__law_good_script ds) G
theorem ok__law_good_script : Okb__law_good_script sp__law_good_script := by
  intro ds G Q E h
  obtain ⟨v, rfl, n, hn, kn, h⟩ := sp1_inv h
  have h0 := h G .refl
  by_cases hw : wideB 0 4 v = true
  · obtain ⟨xs, rfl, l1, l2⟩ := wideB_true hw
    have l3 : xs.length ≤ 4 := by omega
    simp [b__law_good_script, startD, hw]
    refine ⟨⟨n, kn⟩, ?_⟩
    refine lc_keep (fun d => !stepB d) (by omega) (fun _ _ => trivial) (fun x hx G1 acc K e hacc hK => ?_) fun G1 p e hp => ?_
    · simp
      refine ⟨n, hn, (kn.mem hx).ext e, fun G2 e2 => ?_⟩
      have := hK G2 e2
      by_cases hc : stepB x = true
      · simpa [hc] using this
      · simpa [hc, hacc] using this
    · intro q hq
      have hfl := List.length_filter_le (fun d => !stepB d) xs
      have e1 := (e.trans (Ext.new hp)).trans (Ext.new (o := .lst []) hq)
      refine dEq_nil n (by rw [updD_ne (ne_new hq), updD_same]) updD_same hn (by omega) (fun d hd => (kn.mem (List.mem_filter.mp hd).1).ext e1) ?_
      rw [notEmpty_all]
      have := h _ e1
      simpa [scriptB_tup, l3] using this
  · simp [b__law_good_script, startD, hw]
    refine ⟨⟨n, kn⟩, ?_⟩
    cases v with
    | tup xs =>
      have : ¬ xs.length ≤ 4 := fun l => hw (by simp [wideB]; omega)
      simpa [scriptB_tup, this] using h0
    | _ => simpa [scriptB] using h0

/-! ### asking -/
abbrev sp_need_show (C : Addr) : DSp := sp1 fun v G Q E => ∃ n, n < 20 ∧ Kn n G v ∧ ∀ G', Ext G G' → if showB v = true then Q .non G' else E ⟨C, none⟩ G'
def b_need_show (C : ExC) (E : DXK) : WS :=
  (wIf (wtNot (wTest (wCall sp_is_right_show (fun _ => E) (wCons (wVar 0) wNil)))) (wRaise (fun _ => E) C.InvalidShow) wNext)
abbrev N_need_show : List Str := ["value"]
abbrev Okb_need_show (C : ExC) (sp : DSp) : Prop := ∀ ds G Q E, sp ds G Q E → b_need_show C E { nx := fun _ G' => Q .non G', rt := Q } (startD N_need_show ds) G
theorem ok_need_show {C : ExC} : Okb_need_show C (sp_need_show C.InvalidShow) := by
  intro ds G Q E h
  obtain ⟨v, rfl, n, hn, kn, h⟩ := sp1_inv h
  simp [b_need_show, startD]
  refine ⟨n, hn, kn, fun G1 e => ?_⟩
  have := h G1 e
  by_cases hs : showB v = true
  · simpa [hs] using this
  · simpa [hs] using this
abbrev sp_is_show : DSp := sp_is_right_show
abbrev sp_is_step : DSp := sp_is_right_step
abbrev sp_is_script : DSp := sp_is_right_script
def b_is_show  (E : DXK) : WS :=
  (wRet (wCall sp_is_right_show (fun _ => E) (wCons (wVar 0) wNil)))
abbrev N_is_show : List Str := ["value"]
abbrev Okb_is_show  (sp : DSp) : Prop := ∀ ds G Q E, sp ds G Q E → b_is_show  E { nx := fun _ G' => Q .non G', rt := Q } (startD N_is_show ds) G
def b_is_step  (E : DXK) : WS :=
  (wRet (wCall sp_is_right_step (fun _ => E) (wCons (wVar 0) wNil)))
abbrev N_is_step : List Str := ["value"]
abbrev Okb_is_step  (sp : DSp) : Prop := ∀ ds G Q E, sp ds G Q E → b_is_step  E { nx := fun _ G' => Q .non G', rt := Q } (startD N_is_step ds) G
def b_is_script  (E : DXK) : WS :=
  (wRet (wCall sp_is_right_script (fun _ => E) (wCons (wVar 0) wNil)))
abbrev N_is_script : List Str := ["value"]
abbrev Okb_is_script  (sp : DSp) : Prop := ∀ ds G Q E, sp ds G Q E → b_is_script  E { nx := fun _ G' => Q .non G', rt := Q } (startD N_is_script ds) G
theorem ok_is_show : Okb_is_show sp_is_show := by
  intro ds G Q E h
  obtain ⟨v, rfl, h⟩ := sp1_inv h
  simpa [b_is_show, startD] using h
theorem ok_is_step : Okb_is_step sp_is_step := by
  intro ds G Q E h
  obtain ⟨v, rfl, h⟩ := sp1_inv h
  simpa [b_is_step, startD] using h
theorem ok_is_script : Okb_is_script sp_is_script := by
  intro ds G Q E h
  obtain ⟨v, rfl, h⟩ := sp1_inv h
  simpa [b_is_script, startD] using h
def lenD : D → Int
  | .tup ms => ms.length
  | _ => 0
def sizeD : D → Int
  | .tup [_, .tup us] => (us.map lenD).sum
  | _ => 0
theorem cueB_tup {chs : List Str} {v : D} (h : cueB chs v = true) : ∃ ms, v = .tup ms := by
  cases v with
  | tup ms => exact ⟨ms, rfl⟩
  | _ => cases h
abbrev sp_count_moves (C : Addr) : DSp := sp1 fun v G Q E => ∃ n, n < 20 ∧ Kn n G v ∧ ∀ G', Ext G G' → if showB v = true then Q (.int (sizeD v)) G' else E ⟨C, none⟩ G'
def b_count_moves (C : ExC) (E : DXK) : WS :=
  (wSeq (wExpr (wCall (sp_need_show C.InvalidShow) (fun _ => E) (wCons (wVar 0) wNil)))
  (wRet (wCB dSum (wCons (wLc [1] (wiTup (wOp dIx (wVar 0) (wC (.int 1)))) (wgName 1) wtYes (wCB dLen (wCons (wVar 1) wNil))) wNil))))
abbrev N_count_moves : List Str := ["show", "cue"]
abbrev Okb_count_moves (C : ExC) (sp : DSp) : Prop := ∀ ds G Q E, sp ds G Q E → b_count_moves C E { nx := fun _ G' => Q .non G', rt := Q } (startD N_count_moves ds) G
theorem sum_lens {G : DHp} {Q : DK} {us : List D} {p : Addr} (w : Q (.int (us.map lenD).sum) (updD G p (.lst (us.map fun d => .int (lenD d))))) : dSum [.ref p] (updD G p (.lst (us.map fun d => .int (lenD d)))) Q := by
  rw [dSum_ref]
  exact ⟨us.map lenD, by rw [updD_same, List.map_map]; rfl, w⟩
theorem ok_count_moves {C : ExC} : Okb_count_moves C (sp_count_moves C.InvalidShow) := by
  intro ds G Q E h
  obtain ⟨v, rfl, n, hn, kn, h⟩ := sp1_inv h
  simp [b_count_moves, startD]
  refine ⟨n, hn, kn, fun G1 e => ?_⟩
  by_cases hs : showB v = true
  · obtain ⟨cs, us, rfl, _, _, _, _, hu⟩ := showB_wide hs
    have ku : Kn n G (.tup us) := kn.mem (by simp)
    have hl := ku.len
    simp [hs]
    refine lc_map (fun d => .int (lenD d)) (by omega) (fun _ _ => trivial) (fun x hx G2 K e2 hK => ?_) fun G2 p e2 hp => ?_
    · obtain ⟨ms, rfl⟩ := cueB_tup (List.all_eq_true.mp hu x hx)
      simpa [lenD] using hK G2 .refl
    · refine sum_lens ?_
      have := h _ ((e.trans e2).trans (Ext.new (o := .lst (us.map fun d => .int (lenD d))) hp))
      simpa [hs, sizeD] using this
  · have := h G1 e
    simpa [hs] using this
abbrev sp__law_size : DSp := sp1 fun v G Q _ => ∃ n, n < 20 ∧ Kn n G v ∧ showB v = true ∧ ∀ G', Ext G G' → Q (.int (sizeD v)) G'
def b__law_size  (E : DXK) : WS :=
  (wRet (wCB dSum (wCons (wLc [1] (wiTup (wOp dIx (wVar 0) (wC (.int 1)))) (wgName 1) wtYes (wCB dLen (wCons (wVar 1) wNil))) wNil)))
abbrev N__law_size : List Str := ["show", "cue"]
abbrev Okb__law_size  (sp : DSp) : Prop := ∀ ds G Q E, sp ds G Q E → b__law_size  E { nx := fun _ G' => Q .non G', rt := Q } (startD N__law_size ds) G
theorem ok__law_size : Okb__law_size sp__law_size := by
  intro ds G Q E h
  obtain ⟨v, rfl, n, hn, kn, hs, h⟩ := sp1_inv h
  obtain ⟨cs, us, rfl, _, _, _, _, hu⟩ := showB_wide hs
  have ku : Kn n G (.tup us) := kn.mem (by simp)
  have hl := ku.len
  simp [b__law_size, startD]
  refine lc_map (fun d => .int (lenD d)) (by omega) (fun _ _ => trivial) (fun x hx G2 K e2 hK => ?_) fun G2 p e2 hp => ?_
  · obtain ⟨ms, rfl⟩ := cueB_tup (List.all_eq_true.mp hu x hx)
    simpa [lenD] using hK G2 .refl
  · refine sum_lens ?_
    have := h _ (e2.trans (Ext.new (o := .lst (us.map fun d => .int (lenD d))) hp))
    simpa [sizeD] using this
/-- a bool told, a bool due -/
def isBoolF (a b : D) (G : DHp) (Q : DK) : Prop := match a, b with
  | .bl x, .bl y => Q (.bl (x == y)) G
  | _, _ => False
@[simp] theorem isBoolF_bl {x y : Bool} {G : DHp} {Q : DK} : isBoolF (.bl x) (.bl y) G Q = Q (.bl (x == y)) G := rfl
abbrev sp__law_is_bool : DSp := sp2 fun a b G Q _ => isBoolF a b G Q
def b__law_is_bool  (E : DXK) : WS :=
  (wRet (weAnd (wIsi .bool (wVar 0)) (wOp dEq (wVar 0) (wVar 1))))
abbrev N__law_is_bool : List Str := ["told", "due"]
abbrev Okb__law_is_bool  (sp : DSp) : Prop := ∀ ds G Q E, sp ds G Q E → b__law_is_bool  E { nx := fun _ G' => Q .non G', rt := Q } (startD N__law_is_bool ds) G
theorem ok__law_is_bool : Okb__law_is_bool sp__law_is_bool := by
  intro ds G Q E h
  obtain ⟨a, b, rfl, hh⟩ := sp2_inv h
  clear h
  unfold isBoolF at hh
  split at hh
  · simpa [b__law_is_bool, startD] using hh
  · exact hh.elim

/-! ### draws -/
/-- what a draw leaves: all but the source as it was, the source a source -/
def Drew (s : Addr) (G G' : DHp) : Prop := ExtB s G G' ∧ Src G' s
theorem Drew.trans {s : Addr} {G G1 G2 : DHp} (a : Drew s G G1) (b : Drew s G1 G2) : Drew s G G2 := ⟨a.1.trans b.1, b.2⟩
theorem Drew.of {s : Addr} {G : DHp} (h : Src G s) : Drew s G G := ⟨.refl, h⟩
theorem Drew.ext {s : Addr} {G G1 G2 : DHp} (a : Drew s G G1) (e : Ext G1 G2) : Drew s G G2 := ⟨a.1.trans e.b, a.2.ext e⟩
theorem Src.drew {s : Addr} {G G' : DHp} (h : Src G s) (e : Ext G G') : Drew s G G' := ⟨e.b, h.ext e⟩
abbrev sp__law_source : DSp := sp2 fun sc k G Q _ => ∃ (ns : List Int) (i : Nat), sc = .rl (ns.map .int) ∧ k = .int i ∧ i ≤ 1000000 ∧ ∀ p G', G p = none → Ext G G' → Src G' p → Q (.ref p) G'
def b__law_source  (E : DXK) : WS :=
  (wSeq (wAsg (wC (.int 0)) (wgName 2))
  (wSeq (wIf (wTest (wOp dGt (wCB dLen (wCons (wVar 0) wNil)) (wVar 1))) (wAsg (wCB dInt1 (wCons (wOp dIx (wVar 0) (wVar 1)) wNil)) (wgName 2)) wNext)
  (wSeq (wAsg (wOp dMod (wOp dAdd (wOp dAdd (wOp dMul (wVar 2) (wC (.int 16807))) (wOp dMul (wC (.int 60919)) (wVar 1))) (wC (.int 31))) (wC (.int 2147481173))) (wgName 3))
  (wSeq (wAsg (wOp dAdd (wOp dAdd (wOp dMod (wOp dMul (wVar 3) (wVar 3)) (wC (.int 2147481151))) (wOp dMul (wC (.int 2)) (wVar 1))) (wC (.int 5))) (wgName 3))
  (wRet (wLst (wCons (wIfE (wTest (wOp dGe (wVar 2) (wOp dPow (wC (.int 10)) (wC (.int 18))))) (wVar 2) (wC (.int 0))) (wCons (wVar 3) wNil))))))))
abbrev N__law_source : List Str := ["script", "k", "number", "start"]
abbrev Okb__law_source  (sp : DSp) : Prop := ∀ ds G Q E, sp ds G Q E → b__law_source  E { nx := fun _ G' => Q .non G', rt := Q } (startD N__law_source ds) G
theorem ok__law_source : Okb__law_source sp__law_source := by
  intro ds G Q E h
  obtain ⟨sc, k, rfl, ns, i, rfl, rfl, hi, h⟩ := sp2_inv h
  have fin : ∀ (x y : Int), 0 ≤ y → y < 2147481151 → (0 ≤ x) → ∀ q, G q = none → Q (.ref q) (updD G q (.lst [.int x, .int (y + 2 * (i : Int) + 5)])) := fun x y y0 y1 x0 q hq =>
    h q _ hq (Ext.new hq) ⟨x, _, updD_same, x0, by omega, by omega⟩
  have m1 : ∀ x : Int, CMul x 16807 := fun x => .inr (by omega)
  have m2 : CMul 60919 (i : Int) := .inl (by omega)
  have m3 : CMul 2 (i : Int) := .inl (by omega)
  have m4 : ∀ x : Int, CMul (x % 2147481173) (x % 2147481173) := fun x => .inl (by omega)
  have m5 : CPow 10 18 := ⟨by omega, by omega, by decide⟩
  simp [b__law_source, startD]
  by_cases hl : i < ns.length
  · have e1 : pick (ns.map D.int) (i : Int) = some (.int ns[i]) := by rw [pick_nat, List.getElem?_map, List.getElem?_eq_getElem hl]; rfl
    simp [hl, e1, m1, m2, m3, m4, m5]
    by_cases hb : 1000000000000000000 ≤ ns[i]
    · simp [hb]
      exact fin _ _ (by omega) (by omega) (by omega)
    · simp [hb]
      exact fin _ _ (by omega) (by omega) (by omega)
  · simp [hl, m1, m2, m3, m4, m5]
    exact fin _ _ (by omega) (by omega) (by omega)
abbrev sp__law_pick : DSp := sp2 fun s m G Q _ => ∃ (a : Addr) (k : Nat), s = .ref a ∧ m = .int k ∧ 1 ≤ k ∧ k ≤ 1000000 ∧ Src G a ∧ ∀ G' (r : Nat), Drew a G G' → r < k → Q (.int r) G'
def b__law_pick  (E : DXK) : WS :=
  (wSeq (wIf (wTest (wOp dGt (wOp dIx (wVar 0) (wC (.int 0))) (wC (.int 0)))) (wSeq (wAsg (wOp dMod (wCB dInt1 (wCons (wOp dIx (wVar 0) (wC (.int 0))) wNil)) (wVar 1)) (wgName 2))
  (wSeq (wAsg (wOp dFdiv (wCB dInt1 (wCons (wOp dIx (wVar 0) (wC (.int 0))) wNil)) (wVar 1)) (wgSub (wVar 0) (wC (.int 0))))
  (wRet (wVar 2)))) wNext)
  (wSeq (wAsg (wOp dMod (wCB dInt1 (wCons (wOp dAdd (wOp dMul (wOp dIx (wVar 0) (wC (.int 1))) (wC (.int 44497))) (wC (.int 9973))) wNil)) (wC (.int 2147483647))) (wgSub (wVar 0) (wC (.int 1))))
  (wRet (wOp dMod (wOp dFdiv (wOp dMod (wCB dInt1 (wCons (wOp dMul (wOp dIx (wVar 0) (wC (.int 1))) (wOp dIx (wVar 0) (wC (.int 1)))) wNil)) (wC (.int 2147483399))) (wC (.int 11))) (wVar 1)))))
abbrev N__law_pick : List Str := ["source", "many", "found"]
abbrev Okb__law_pick  (sp : DSp) : Prop := ∀ ds G Q E, sp ds G Q E → b__law_pick  E { nx := fun _ G' => Q .non G', rt := Q } (startD N__law_pick ds) G
theorem ok__law_pick : Okb__law_pick sp__law_pick := by
  intro ds G Q E h
  obtain ⟨s, m, rfl, p, k, rfl, rfl, k1, k2, hs, h⟩ := sp2_inv h
  obtain ⟨a, b, hp, ha, hb, hb2⟩ := hs.at_
  simp [b__law_pick, startD, hp]
  by_cases h0 : 0 < a
  · simp [h0]
    refine ⟨by omega, ⟨by omega, by omega⟩, ?_⟩
    have e1 : 0 ≤ a % (k : Int) := Int.emod_nonneg _ (by omega)
    have e2 : a % (k : Int) < k := Int.emod_lt_of_pos _ (by omega)
    have e3 : a % (k : Int) = ((a % (k : Int)).toNat : Int) := by omega
    rw [e3]
    refine h _ _ ⟨.write, ⟨_, _, updD_same, Int.ediv_nonneg ha (by omega), hb, hb2⟩⟩ (by omega)
  · simp [h0]
    refine ⟨.inr (by omega), ?_⟩

    have e0 : 0 ≤ (b * 44497 + 9973) % 2147483647 := by omega
    have e4 : (b * 44497 + 9973) % 2147483647 < 2147483647 := by omega
    generalize (b * 44497 + 9973) % 2147483647 = c at e0 e4 ⊢
    refine ⟨.inl (by omega), ⟨by omega, by omega⟩, by omega, ?_⟩
    generalize c * c % 2147483399 / 11 = x
    have e1 : 0 ≤ x % (k : Int) := Int.emod_nonneg _ (by omega)
    have e2 : x % (k : Int) < k := Int.emod_lt_of_pos _ (by omega)
    have e3 : x % (k : Int) = ((x % (k : Int)).toNat : Int) := by omega
    rw [e3]
    refine h _ _ ⟨.write, ⟨_, _, updD_same, ha, e0, by omega⟩⟩ (by omega)
end TC
set_option maxRecDepth 100000
/-! SE: drawn values. -/
namespace TC
open PySem PySem.Spec PyProof.Rows L2

abbrev sp__law_chosen : DSp := sp2 fun s t G Q _ => ∃ a xs, s = .ref a ∧ itemsD (hid a G) t = some xs ∧ xs ≠ [] ∧ xs.length ≤ 1000000 ∧ Src G a ∧ ∀ G' x, Drew a G G' → x ∈ xs → Q x G'
def b__law_chosen  (E : DXK) : WS :=
  (wRet (wOp dIx (wVar 1) (wCall sp__law_pick (fun _ => E) (wCons (wVar 0) (wCons (wCB dLen (wCons (wVar 1) wNil)) wNil)))))
abbrev N__law_chosen : List Str := ["source", "things"]
abbrev Okb__law_chosen  (sp : DSp) : Prop := ∀ ds G Q E, sp ds G Q E → b__law_chosen  E { nx := fun _ G' => Q .non G', rt := Q } (startD N__law_chosen ds) G
theorem ok__law_chosen : Okb__law_chosen sp__law_chosen := by
  intro ds G Q E h
  obtain ⟨s, t, rfl, a, xs, rfl, ht, hne, hl, hs, h⟩ := sp2_inv h
  simp [b__law_chosen, startD]
  refine dLen_items (itemsD_ext hid_le ht) ?_
  refine ⟨xs.length, rfl, List.length_pos_iff.mpr hne, hl, hs, fun G1 r d hr => ?_⟩
  refine dIx_items (itemsD_ext hid_le (itemsD_ext d.1.hid ht)) (x := xs[r]) (by rw [pick_nat]; exact List.getElem?_eq_getElem hr) ?_
  exact h G1 _ d (List.getElem_mem hr)

/-- a comprehension of draws -/
theorem lc_draw {gd : DHp → Prop} {g : WG} {we : WE} {ρ : Ro} {Q : DK} {xs : List D} {G : DHp} (s : Addr) (P : DHp → D → Prop) (hs : Src G s) (hm : ∀ G1 G2 d, ExtB s G1 G2 → P G1 d → P G2 d) (hl : xs.length ≤ 1000000) (hgd : ∀ G', Drew s G G' → gd G')
    (step : ∀ x, x ∈ xs → ∀ (G1 : DHp) (K : DK), Drew s G G1 → (∀ G2 y, Drew s G1 G2 → P G2 y → K y G2) → g x ρ G1 fun ρ1 G2 => we ρ1 G2 K)
    (fin : ∀ G1 p ys, Drew s G G1 → G1 p = none → ys.length = xs.length → (∀ y ∈ ys, P G1 y) → Q (.ref p) (updD G1 p (.lst ys))) : lcW gd g wtYes we ρ Q xs [] G := by
  refine lcW_rule (fun r acc G1 => ∃ d, xs = d ++ r ∧ acc.length = d.length ∧ Drew s G G1 ∧ ∀ y ∈ acc, P G1 y) ?_ ?_ ⟨[], rfl, rfl, .of hs, by simp⟩
  · rintro x r acc G1 K ⟨d, rfl, ha, e, hp⟩ hK
    refine ⟨hgd _ e, ?_⟩
    have hmx : x ∈ d ++ x :: r := by simp
    have := step x hmx G1 (fun y G3 => acc.length < 1000000 ∧ K (acc ++ [y]) G3) e fun G2 y e2 py => ⟨by simp at hl ⊢; omega, hK _ _ ⟨d ++ [x], by simp, by simp [ha], e.trans e2, fun z hz => by
      rcases List.mem_append.mp hz with h | h
      · exact hm _ _ _ e2.1 (hp z h)
      · rw [List.mem_singleton.mp h]; exact py⟩⟩
    simpa using this
  · rintro acc G1 ⟨d, e1, ha, e, hp⟩
    simp at e1
    subst e1
    exact ⟨hgd _ e, fun p hp' => fin G1 p acc e hp' ha hp⟩
theorem ks_mono {s : Addr} {n : Nat} : ∀ G1 G2 d, ExtB s G1 G2 → Ks n s G1 d → Ks n s G2 d := fun _ _ _ e h => h.exb e
theorem items_hid {s p : Addr} {G : DHp} {xs : List D} (hp : s ≠ p) : itemsD (hid s (updD G p (.lst xs))) (.ref p) = some xs := itemsD_ref (by rw [hid_ne (Ne.symm hp), updD_same])

abbrev sp__law_any_value_n (n : Nat) : DSp := sp2 fun s d G Q _ => ∃ (a : Addr) (k : Nat), s = .ref a ∧ d = .int k ∧ k ≤ n ∧ Src G a ∧ ∀ G' x, Drew a G G' → Kf (k + 1) a G G' x → Q x G'
abbrev sp__law_any_value : DSp := sp__law_any_value_n 3
def b__law_any_value (R : DSp) (E : DXK) : WS :=
  (wSeq (wAsg (wLst (wCons (wC .non) (wCons (wC (.bl true)) (wCons (wC (.bl false)) (wCons (wC (.int 0)) (wCons (wC (.int 1)) (wCons (wC (.int 5)) (wCons (wC (.int 101)) (wCons (wUn dNeg (wC (.int 2))) (wCons (wOp dPow (wC (.int 10)) (wC (.int 12))) (wCons (wC (.str "")) (wCons (wC (.str "a")) (wCons (wC (.str "ab")) (wCons (wC (.str "track")) (wCons (wC (.str "only")) (wCons (wC (.str "A")) (wCons (wC (.str "z z")) (wCons (wTup wNil) (wCons (wLst wNil) (wCons (wTup (wCons (wC (.str "a")) wNil)) wNil)))))))))))))))))))) (wgName 2))
  (wSeq (wAsg (wCall sp__law_pick (fun _ => E) (wCons (wVar 0) (wCons (wC (.int 8)) wNil))) (wgName 3))
  (wSeq (wIf (wtOr (wTest (wOp dLt (wVar 1) (wC (.int 1)))) (wTest (wOp dLt (wVar 3) (wC (.int 5))))) (wRet (wCall sp__law_chosen (fun _ => E) (wCons (wVar 0) (wCons (wVar 2) wNil)))) wNext)
  (wSeq (wAsg (wLc [5] (wiRng1 (wCons (wCall sp__law_pick (fun _ => E) (wCons (wVar 0) (wCons (wC (.int 5)) wNil))) wNil)) (wgName 5) wtYes (wCall R (noX) (wCons (wVar 0) (wCons (wOp dSub (wVar 1) (wC (.int 1))) wNil)))) (wgName 4))
  (wRet (wIfE (wTest (wOp dEq (wVar 3) (wC (.int 5)))) (wVar 4) (wCB dTuple (wCons (wVar 4) wNil))))))))
abbrev N__law_any_value : List Str := ["source", "deep", "plain", "way", "parts", "turn"]
abbrev Okb__law_any_value (R : DSp) (sp : DSp) : Prop := ∀ ds G Q E, sp ds G Q E → b__law_any_value R E { nx := fun _ G' => Q .non G', rt := Q } (startD N__law_any_value ds) G
theorem any_core {R : DSp} {ds : List D} {G : DHp} {Q : DK} {E : DXK} {n : Nat} (h : sp__law_any_value_n n ds G Q E) (hR : ∀ (a : Addr) (k : Nat) (G : DHp) (Q : DK) (E : DXK), k + 1 ≤ n → Src G a → (∀ G' x, Drew a G G' → Kf (k + 1) a G G' x → Q x G') → R [.ref a, .int k] G Q E) :
    b__law_any_value R E { nx := fun _ G' => Q .non G', rt := Q } (startD N__law_any_value ds) G := by
  obtain ⟨s, d, rfl, a, k, rfl, rfl, hk, hs, h⟩ := sp2_inv h
  have m5 : CPow 10 12 := ⟨by omega, by omega, by decide⟩
  simp [b__law_any_value, startD, m5]
  intro p hp q hq
  have hap : a ≠ p := hs.ne hp
  have haq : a ≠ q := fun z => by subst z; rw [updD_ne hap] at hq; exact hs.ne hq rfl
  have hpq : p ≠ q := ne_new hq
  generalize hL : ([D.non, D.bl true, D.bl false, D.int 0, D.int 1, D.int 5, D.int 101, D.int (-2), D.int 1000000000000, D.str (Str.ofString ""), D.str (Str.ofString "a"), D.str (Str.ofString "ab"), D.str (Str.ofString "track"), D.str (Str.ofString "only"), D.str (Str.ofString "A"), D.str (Str.ofString "z z"), D.tup [], D.ref p, D.tup [D.str (Str.ofString "a")]] : List D) = L
  have e0 : Ext G (updD (updD G p (.lst [])) q (.lst L)) := (Ext.new hp).trans (Ext.new hq)
  have kL : ∀ x ∈ L, Kf 1 a G (updD (updD G p (.lst [])) q (.lst L)) x := by
    intro x hx
    rw [← hL] at hx
    have kr : Kf 1 a G (updD (updD G p (.lst [])) q (.lst L)) (.ref p) := ⟨[], by rw [hid_ne (Ne.symm hap), fre_at hp, updD_ne hpq, updD_same], by simp, by simp⟩
    simp only [List.mem_cons, List.not_mem_nil, or_false] at hx
    rcases hx with rfl | rfl | rfl | rfl | rfl | rfl | rfl | rfl | rfl | rfl | rfl | rfl | rfl | rfl | rfl | rfl | rfl | rfl | rfl
    all_goals first
      | exact kr
      | exact kn_non
      | exact kn_bl
      | exact kn_int
      | exact kn_str.mpr (by decide +kernel)
      | exact ⟨Nat.zero_le _, fun d hd => absurd hd List.not_mem_nil⟩
      | exact ⟨Nat.le_of_ble_eq_true rfl, fun d hd => by rw [List.mem_singleton.mp hd]; exact kn_str.mpr (by decide +kernel)⟩
  have iL : itemsD (hid a (updD (updD G p (.lst [])) q (.lst L))) (.ref q) = some L := items_hid haq
  have nL : L ≠ [] := by rw [← hL]; simp
  have lL : L.length ≤ 1000000 := by rw [← hL]; simp
  have d0 := hs.drew e0
  generalize updD (updD G p (.lst [])) q (.lst L) = G1 at e0 kL iL d0 ⊢
  refine ⟨8, rfl, by omega, by omega, d0.2, fun G2 r d1 hr => ?_⟩
  have d2 := d0.trans d1
  have flat : ∃ x, itemsD (hid a G2) (.ref q) = some x ∧ ¬ x = [] ∧ x.length ≤ 1000000 ∧ Src G2 a ∧ ∀ (G3 : DHp) (y : D), Drew a G2 G3 → y ∈ x → Q y G3 :=
    ⟨L, itemsD_ext d1.1.hid iL, nL, lL, d1.2, fun G3 y d3 hy => h G3 y (d2.trans d3) (Kn.mono (by omega) (Kf.on (kL y hy) (d1.trans d3).1))⟩
  by_cases hk1 : (k : Int) < 1
  · rw [if_pos hk1]; exact flat
  · rw [if_neg hk1]
    by_cases hr5 : (r : Int) < 5
    · rw [if_pos hr5]; exact flat
    · rw [if_neg hr5]
      refine ⟨5, rfl, by omega, by omega, d1.2, fun G3 m d3 hm => ⟨by omega, ?_⟩⟩
      have d13 := d2.trans d3
      refine lc_draw a (fun G' d => Kf k a G G' d) d3.2 (fun _ _ _ e h => Kf.on h e) (by simp; omega) (fun _ _ => trivial) (fun x hx G4 K d4 hK => ?_) fun G4 p4 ys d4 hp4 hl hys => ?_
      · simp
        have e1 : (k : Int) - 1 = ((k - 1 : Nat) : Int) := by omega
        rw [e1]
        refine hR a (k - 1) G4 K _ (by omega) d4.2 fun G5 y d5 ky => hK G5 y d5 ?_
        have e2 : k - 1 + 1 = k := by omega
        rw [e2] at ky
        exact Kf.from ky (d13.trans d4).1
      · have ha4 : a ≠ p4 := d4.2.ne hp4
        have e4 : Ext G4 (updD G4 p4 (.lst ys)) := Ext.new hp4
        have d5 : Drew a G (updD G4 p4 (.lst ys)) := (d13.trans d4).ext e4
        have hlen : ys.length ≤ 5 := by simp at hl; omega
        have ky : ∀ y ∈ ys, Kf k a G (updD G4 p4 (.lst ys)) y := fun y hy => Kf.on (hys y hy) e4.b
        have np : G p4 = none := by
          cases g : G p4 with
          | none => rfl
          | some u => have := (d13.trans d4).1 p4 u (Ne.symm ha4) g; rw [hp4] at this; cases this
        by_cases hr6 : (r : Int) = 5
        · rw [if_pos hr6]
          exact h _ _ d5 ⟨ys, by rw [hid_ne (Ne.symm ha4), fre_at np, updD_same], by omega, ky⟩
        · rw [if_neg hr6, dTuple_ref updD_same]
          exact h _ _ d5 ⟨by omega, ky⟩
theorem ok__law_any_value_0 : Okb__law_any_value noSp (sp__law_any_value_n 0) := fun ds G Q E h => any_core h fun a k G Q E hk _ _ => by omega
theorem ok__law_any_value_s (n : Nat) : Okb__law_any_value (sp__law_any_value_n n) (sp__law_any_value_n (n + 1)) := fun ds G Q E h => any_core h fun a k G Q E hk hs h' => ⟨a, k, rfl, rfl, by omega, hs, h'⟩
end TC
set_option maxRecDepth 100000
set_option maxHeartbeats 2000000
/-! SF: variants, drawn steps and shows. -/
namespace TC
open PySem PySem.Spec PyProof.Rows L2

abbrev sp__law_variant_n (n : Nat) : DSp := sp3 fun s v d G Q _ => ∃ (a : Addr) (k m : Nat) (xs : List D) (V : DHp), s = .ref a ∧ v = .tup xs ∧ d = .int k ∧ k ≤ n ∧ 3 ≤ m ∧ m + k ≤ 18 ∧ Src G a ∧ Ext V (hid a G) ∧ Kn m V v ∧ ∀ G' x, Drew a G G' → Kn (m + 1 + k) (ovr a G V G') x → Q x G'
abbrev sp__law_variant : DSp := sp__law_variant_n 4
def b__law_variant (R : DSp) (E : DXK) : WS :=
  (wSeq (wAsg (wCB dList (wCons (wVar 1) wNil)) (wgName 3))
  (wSeq (wIf (wTest (wOp dEq (wVar 3) (wLst wNil))) (wRet (wTup (wCons (wCall sp__law_any_value (fun _ => E) (wCons (wVar 0) (wCons (wC (.int 1)) wNil))) wNil))) wNext)
  (wSeq (wPar 5 6 (wCons (wCall sp__law_pick (fun _ => E) (wCons (wVar 0) (wCons (wCB dLen (wCons (wVar 3) wNil)) wNil))) (wCons (wCall sp__law_pick (fun _ => E) (wCons (wVar 0) (wCons (wC (.int 9)) wNil))) wNil)))
  (wSeq (wAsg (wOp dIx (wVar 3) (wVar 5)) (wgName 4))
  (wSeq (wIf (wtAnd (wTest (wIsi .tup (wVar 4))) (wtAnd (wTest (wOp dGt (wVar 2) (wC (.int 0)))) (wTest (wOp dGt (wVar 6) (wC (.int 2)))))) (wRet (wOp dAdd (wOp dAdd (wCB dTuple (wCons (wSl (wVar 3) woNone (woSome (wVar 5))) wNil)) (wTup (wCons (wCall R (fun _ => E) (wCons (wVar 0) (wCons (wVar 4) (wCons (wOp dSub (wVar 2) (wC (.int 1))) wNil)))) wNil))) (wCB dTuple (wCons (wSl (wVar 3) (woSome (wOp dAdd (wVar 5) (wC (.int 1)))) woNone) wNil)))) wNext)
  (wSeq (wIf (wTest (wOp dEq (wVar 6) (wC (.int 0)))) (wRet (wCB dTuple (wCons (wOp dAdd (wSl (wVar 3) woNone (woSome (wVar 5))) (wSl (wVar 3) (woSome (wOp dAdd (wVar 5) (wC (.int 1)))) woNone)) wNil))) wNext)
  (wSeq (wIf (wTest (wOp dEq (wVar 6) (wC (.int 1)))) (wRet (wCB dTuple (wCons (wOp dAdd (wSl (wVar 3) woNone (woSome (wOp dAdd (wVar 5) (wC (.int 1))))) (wSl (wVar 3) (woSome (wVar 5)) woNone)) wNil))) wNext)
  (wSeq (wIf (wTest (wOp dEq (wVar 6) (wC (.int 2)))) (wRet (wCB dTuple (wCons (wOp dAdd (wOp dAdd (wSl (wVar 3) woNone (woSome (wVar 5))) (wRev (wSl (wVar 3) (woSome (wVar 5)) (woSome (wOp dAdd (wVar 5) (wC (.int 2))))))) (wSl (wVar 3) (woSome (wOp dAdd (wVar 5) (wC (.int 2)))) woNone)) wNil))) wNext)
  (wSeq (wIf (wTest (wOp dEq (wVar 6) (wC (.int 3)))) (wRet (wVar 3)) wNext)
  (wSeq (wIf (wTest (wOp dLt (wVar 6) (wC (.int 6)))) (wAsg (wCall sp__law_any_value (fun _ => E) (wCons (wVar 0) (wCons (wC (.int 2)) wNil))) (wgSub (wVar 3) (wVar 5))) (wSeq (wAsg (wLst (wCons (wC (.str "a")) (wCons (wC (.str "b")) (wCons (wC (.str "track")) (wCons (wC (.str "only")) (wCons (wC (.str "keep")) (wCons (wC (.str "drop")) (wCons (wC (.str "set")) (wCons (wC (.str "clear")) (wCons (wC (.str "copy")) (wCons (wC (.str "swap")) (wCons (wC (.str "insert")) (wCons (wC (.str "block")) (wCons (wC (.int 6)) wNil)))))))))))))) (wgName 7))
  (wAsg (wCall sp__law_chosen (fun _ => E) (wCons (wVar 0) (wCons (wOp dAdd (wVar 7) (wLst (wCons (wC .non) (wCons (wC (.int 0)) (wCons (wC (.int 1)) (wCons (wC (.int 2)) (wCons (wC (.int 5)) (wCons (wC (.int 100)) (wCons (wC (.int 101)) (wCons (wTup wNil) (wCons (wLst wNil) wNil))))))))))) wNil))) (wgSub (wVar 3) (wVar 5)))))
  (wRet (wCB dTuple (wCons (wVar 3) wNil)))))))))))))
abbrev N__law_variant : List Str := ["source", "value", "deep", "parts", "inner", "spot", "way", "near"]
abbrev Okb__law_variant (R : DSp) (sp : DSp) : Prop := ∀ ds G Q E, sp ds G Q E → b__law_variant R E { nx := fun _ G' => Q .non G', rt := Q } (startD N__law_variant ds) G
theorem cut_mem {xs : List D} {lo hi : Option Int} {x : D} (h : x ∈ cut xs lo hi) : x ∈ xs := by
  unfold cut at h
  exact List.mem_of_mem_drop (List.mem_of_mem_take h)
theorem variant_core {R : DSp} {ds : List D} {G : DHp} {Q : DK} {E : DXK} {n : Nat} (h00 : sp__law_variant_n n ds G Q E)
    (hR : ∀ (a : Addr) (k m : Nat) (xs : List D) (V G : DHp) (Q : DK) (E : DXK), k + 1 ≤ n → 3 ≤ m → m + k ≤ 18 → Src G a → Ext V (hid a G) → Kn m V (.tup xs) → (∀ G' x, Drew a G G' → Kn (m + 1 + k) (ovr a G V G') x → Q x G') → R [.ref a, .tup xs, .int k] G Q E) :
    b__law_variant R E { nx := fun _ G' => Q .non G', rt := Q } (startD N__law_variant ds) G := by
  obtain ⟨s, v, d, rfl, a, k, m, xs, V, rfl, rfl, rfl, hk, hm, hmk, hs, hV, kv, h⟩ := sp3_inv h00
  clear h00
  have hlen := kv.len
  simp [b__law_variant, startD]
  intro p hp q hq
  have hap : a ≠ p := hs.ne hp
  have haq : a ≠ q := fun z => by subst z; rw [updD_ne hap] at hq; exact hs.ne hq rfl
  have hpq : p ≠ q := ne_new hq
  have e0 : Ext G (updD (updD G p (.lst xs)) q (.lst [])) := (Ext.new hp).trans (Ext.new hq)
  have kx : ∀ x ∈ xs, Kn m (ovr a G V (updD (updD G p (.lst xs)) q (.lst []))) x := fun x hx => (kv.mem hx).ext (ovr_base hV)
  have gp : updD (updD G p (.lst xs)) q (.lst []) p = some (.lst xs) := by rw [updD_ne hpq, updD_same]
  have gq : updD (updD G p (.lst xs)) q (.lst []) q = some (.lst []) := updD_same
  have d0 := hs.drew e0
  generalize updD (updD G p (.lst xs)) q (.lst []) = G1 at e0 kx gp gq d0 ⊢
  refine dEq_nil m gp gq (by omega) (by omega) (fun x hx => (kx x hx).ext ((ovr_le hV d0.1).trans hid_le)) ?_
  cases xs with
  | nil =>
    simp
    refine ⟨1, rfl, by omega, d0.2, fun G2 x d1 k2 => ?_⟩
    exact h _ _ (d0.trans d1) (Kn.mono (n := 3) (by omega) ⟨by simp, fun d hd => by rw [List.mem_singleton.mp hd]; exact Kn.ext (ovr_fre d0.1) k2⟩)
  | cons x0 xr =>
    generalize hX : x0 :: xr = xs at kv hlen kx gp ⊢
    have hne : xs ≠ [] := by rw [← hX]; simp
    have hpos : 0 < xs.length := List.length_pos_iff.mpr hne
    have hemp : xs.isEmpty = false := by cases xs <;> simp_all
    simp [hemp, gp, wPar_two]
    refine ⟨xs.length, rfl, hpos, by omega, d0.2, fun G2 s d1 hs1 => ⟨9, rfl, by omega, by omega, d1.2, fun G3 w d2 hw => ?_⟩⟩
    have d3 := (d0.trans d1).trans d2
    have gp3 : G3 p = some (.lst xs) := (d1.trans d2).1 p _ (Ne.symm hap) gp
    have kx3 : ∀ x ∈ xs, Kn m (ovr a G V G3) x := fun x hx => (kx x hx).ext (ovr_on (d1.trans d2).1)
    have hV3 : Ext (ovr a G V G3) (hid a G3) := ovr_le hV d3.1
    refine ⟨xs, gp3, ?_⟩
    have e1 : pick xs (s : Int) = some xs[s] := by rw [pick_nat]; exact List.getElem?_eq_getElem hs1
    have ky : Kn m (ovr a G V G3) xs[s] := kx3 _ (List.getElem_mem hs1)
    have c1 : (s : Int) + 1 = ((s + 1 : Nat) : Int) := by omega
    have c2 : (s : Int) + 2 = ((s + 2 : Nat) : Int) := by omega
    have fin : ∀ (L : List D) (G' : DHp), Drew a G3 G' → (∀ x ∈ L, Kn (m + k) (ovr a G V G') x) → L.length ≤ xs.length + 1 → Q (.tup L) G' := fun L G' d hL hl => by
      refine h _ _ (d3.trans d) ?_
      have : m + 1 + k = (m + k) + 1 := by omega
      rw [this]
      exact ⟨by omega, hL⟩
    have finX : ∀ (L : List D) (G' : DHp), Ext G3 G' → (∀ x ∈ L, x ∈ xs) → L.length ≤ xs.length + 1 → Q (.tup L) G' := fun L G' e hL hl =>
      fin L G' (d2.2.drew e) (fun x hx => ((kx3 x (hL x hx)).ext (ovr_on e.b)).mono (by omega)) hl
    have mt : ∀ {n : Nat} {x : D}, x ∈ xs.take n → x ∈ xs := List.mem_of_mem_take
    have md : ∀ {n : Nat} {x : D}, x ∈ xs.drop n → x ∈ xs := List.mem_of_mem_drop
    simp [e1, (ky.ext (hV3.trans hid_le)).isK]
    simp only [c1, c2, cut_to, cut_from, cut_ft]
    by_cases hall : kindD .tup xs[s] = true ∧ 0 < k ∧ (2 : Int) < w
    · obtain ⟨i1, i2, i3⟩ := hall
      simp [i1, i2, i3]
      obtain ⟨ys, ey⟩ : ∃ ys, xs[s] = .tup ys := by
        cases hq' : xs[s] with
        | tup ys => exact ⟨ys, rfl⟩
        | _ => rw [hq'] at i1; simp [kindD] at i1
      rw [ey] at ky ⊢
      refine ⟨xs, gp3, fun r hr => ?_⟩
      have har := d2.2.ne hr
      rw [dTuple_ref updD_same]
      have e4 : Ext G3 (updD G3 r (.lst (xs.take s))) := Ext.new hr
      have d4 := d2.2.drew e4
      have ky4 : Kn m (ovr a G V (updD G3 r (.lst (xs.take s)))) (.tup ys) := ky.ext (ovr_on e4.b)
      have gp4 : updD G3 r (.lst (xs.take s)) p = some (.lst xs) := e4 p _ gp3
      generalize updD G3 r (.lst (xs.take s)) = G4 at e4 d4 ky4 gp4 ⊢
      have e5 : (k : Int) - 1 = ((k - 1 : Nat) : Int) := by omega
      rw [e5]
      refine hR a (k - 1) m ys (ovr a G V G4) G4 _ _ (by omega) hm (by omega) d4.2 (ovr_le hV (d3.trans d4).1) ky4 fun G5 x d5 kx5 => ?_
      replace kx5 := kx5.ext (ovr_trans (d3.trans d4).1 d5.1)
      have gp5 : G5 p = some (.lst xs) := d5.1 p _ (Ne.symm hap) gp4
      simp
      refine ⟨by omega, xs, gp5, fun r2 hr2 => ?_⟩
      rw [dTuple_ref updD_same]
      simp
      refine ⟨by omega, ?_⟩
      have e6 : Ext G5 (updD G5 r2 (.lst (xs.drop (s + 1)))) := Ext.new hr2
      have d6 : Drew a G3 (updD G5 r2 (.lst (xs.drop (s + 1)))) := (d4.trans d5).ext e6
      refine fin _ _ d6 (fun y hy => ?_) (by simp; omega)
      have hy' : y ∈ xs ∨ y = x := by
        simp at hy
        rcases hy with h | h | h
        · exact .inl (mt h)
        · exact .inr h
        · exact .inl (md h)
      rcases hy' with h | rfl
      · exact ((kx3 y h).ext (ovr_on d6.1)).mono (by omega)
      · exact (kx5.ext (ovr_on e6.b)).mono (by omega)
    · refine ite3 hall ?_
      by_cases w0 : w = 0
      · rw [if_pos w0]
        refine ⟨xs, gp3, fun r hr => ⟨xs, Ext.new hr p _ gp3, fun r1 hr1 => ⟨_, Ext.new hr1 r _ updD_same, by simp; omega, fun r2 hr2 => ?_⟩⟩⟩
        rw [dTuple_ref updD_same]
        refine finX _ _ ((Ext.new hr).trans ((Ext.new hr1).trans (Ext.new hr2))) (fun x hx => ?_) (by simp; omega)
        simp at hx
        exact hx.elim mt md
      · rw [if_neg w0]
        by_cases w1 : (w : Int) = 1
        · rw [if_pos w1]
          refine ⟨xs, gp3, fun r hr => ⟨xs, Ext.new hr p _ gp3, fun r1 hr1 => ⟨_, Ext.new hr1 r _ updD_same, by simp; omega, fun r2 hr2 => ?_⟩⟩⟩
          rw [dTuple_ref updD_same]
          refine finX _ _ ((Ext.new hr).trans ((Ext.new hr1).trans (Ext.new hr2))) (fun x hx => ?_) (by simp; omega)
          simp at hx
          exact hx.elim mt md
        · rw [if_neg w1]
          by_cases w2 : (w : Int) = 2
          · rw [if_pos w2]
            refine ⟨xs, gp3, fun r hr => ⟨xs, Ext.new hr p _ gp3, fun r1 hr1 p1 hp1 => ⟨_, Ext.new hp1 r _ (Ext.new hr1 r _ updD_same), by simp; omega, fun r3 hr3 => ?_⟩⟩⟩
            refine ⟨xs, (((Ext.new hr).trans ((Ext.new hr1).trans (Ext.new hp1))).trans (Ext.new hr3)) p _ gp3, fun r4 hr4 => ⟨_, Ext.new hr4 r3 _ updD_same, by simp; omega, fun r5 hr5 => ?_⟩⟩
            rw [dTuple_ref updD_same]
            refine finX _ _ ((((Ext.new hr).trans ((Ext.new hr1).trans (Ext.new hp1))).trans (Ext.new hr3)).trans ((Ext.new hr4).trans (Ext.new hr5))) (fun x hx => ?_) (by simp; omega)
            simp at hx
            rcases hx with h | h | h
            · exact mt h
            · exact md (List.mem_of_mem_take h)
            · exact md h
          · rw [if_neg w2]
            by_cases w3 : (w : Int) = 3
            · rw [if_pos w3]
              refine h _ _ d3 ?_
              have : m + 1 + k = (m + k) + 1 := by omega
              rw [this]
              exact ⟨xs, by rw [ovr_new hp, hid_ne (Ne.symm hap)]; exact gp3, by omega, fun x hx => (kx3 x hx).mono (by omega)⟩
            · rw [if_neg w3]
              have fin2 : ∀ G' x, Drew a G3 G' → Kf (m + k) a G3 G' x → ∃ xs, G' p = some (.lst xs) ∧ s < xs.length ∧ dTuple [.ref p] (updD G' p (.lst (xs.set s x))) Q := fun G' x d kx' => by
                have gp' : G' p = some (.lst xs) := d.1 p _ (Ne.symm hap) gp3
                refine ⟨xs, gp', hs1, ?_⟩
                rw [dTuple_ref updD_same]
                have dd := d3.trans d
                have eb : ExtB a G (updD G' p (.lst (xs.set s x))) := dd.1.writeN hp
                have sr : Src (updD G' p (.lst (xs.set s x))) a := by
                  obtain ⟨u, v, q1, q2⟩ := dd.2.at_
                  exact ⟨u, v, by rw [updD_ne hap]; exact q1, q2⟩
                refine h _ _ ⟨eb, sr⟩ ?_
                have : m + 1 + k = (m + k) + 1 := by omega
                rw [this]
                refine ⟨by simp; omega, fun y hy => ?_⟩
                rcases List.mem_or_eq_of_mem_set hy with h' | rfl
                · exact ((kv.mem h').ext (ovr_base hV)).mono (by omega)
                · exact Kn.ext (ovr_write d3.1 gp3) kx'
              by_cases w6 : (w : Int) < 6
              · rw [if_pos w6]
                exact ⟨2, rfl, by omega, d2.2, fun G4 x d4 k4 => fin2 G4 x d4 (Kn.mono (by omega) k4)⟩
              · rw [if_neg w6]
                intro p1 hp1 p2 hp2 p3 hp3
                generalize hL1 : ([D.str (Str.ofString "a"), D.str (Str.ofString "b"), D.str (Str.ofString "track"), D.str (Str.ofString "only"), D.str (Str.ofString "keep"), D.str (Str.ofString "drop"), D.str (Str.ofString "set"), D.str (Str.ofString "clear"), D.str (Str.ofString "copy"), D.str (Str.ofString "swap"), D.str (Str.ofString "insert"), D.str (Str.ofString "block"), D.int 6] : List D) = L1 at hp2 hp3 ⊢
                generalize hL2 : ([D.non, D.int 0, D.int 1, D.int 2, D.int 5, D.int 100, D.int 101, D.tup [], D.ref p2] : List D) = L2 at hp3 ⊢
                have e1 : Ext G3 (updD G3 p1 (.lst L1)) := Ext.new hp1
                have e2 : Ext (updD G3 p1 (.lst L1)) (updD (updD G3 p1 (.lst L1)) p2 (.lst [])) := Ext.new hp2
                have e3 : Ext (updD (updD G3 p1 (.lst L1)) p2 (.lst [])) (updD (updD (updD G3 p1 (.lst L1)) p2 (.lst [])) p3 (.lst L2)) := Ext.new hp3
                refine ⟨L1, e3 p1 _ (e2 p1 _ updD_same), by rw [← hL1]; simp, fun r hr => ?_⟩
                have e4 : Ext (updD (updD (updD G3 p1 (.lst L1)) p2 (.lst [])) p3 (.lst L2)) (updD (updD (updD (updD G3 p1 (.lst L1)) p2 (.lst [])) p3 (.lst L2)) r (.lst (L1 ++ L2))) := Ext.new hr
                have ee := e1.trans (e2.trans (e3.trans e4))
                have a2 : a ≠ p2 := (d2.2.ext e1).ne hp2
                have ar : a ≠ r := (d2.2.ext (e1.trans (e2.trans e3))).ne hr
                have g2 : G3 p2 = none := e1.free hp2
                have q2 := e4 p2 _ (e3 p2 _ updD_same)
                refine ⟨L1 ++ L2, items_hid ar, by rw [← hL1]; simp, by rw [← hL1, ← hL2]; simp, d2.2.ext ee, fun G4 x d4 hx => ?_⟩
                refine fin2 G4 x ((d2.2.drew ee).trans d4) (Kf.on (G1 := updD (updD (updD (updD G3 p1 (.lst L1)) p2 (.lst [])) p3 (.lst L2)) r (.lst (L1 ++ L2))) ?_ d4.1)
                generalize updD (updD (updD (updD G3 p1 (.lst L1)) p2 (.lst [])) p3 (.lst L2)) r (.lst (L1 ++ L2)) = G5 at q2 ⊢
                have kr : Kf 1 a G3 G5 (.ref p2) := ⟨[], by rw [hid_ne (Ne.symm a2), fre_at g2]; exact q2, by simp, by simp⟩
                refine Kn.mono (n := 1) (by omega) ?_
                rw [← hL1, ← hL2] at hx
                simp only [List.cons_append, List.nil_append, List.mem_cons, List.not_mem_nil, or_false] at hx
                rcases hx with rfl | rfl | rfl | rfl | rfl | rfl | rfl | rfl | rfl | rfl | rfl | rfl | rfl | rfl | rfl | rfl | rfl | rfl | rfl | rfl | rfl | rfl
                all_goals first
                  | exact kr
                  | exact kn_non
                  | exact kn_int
                  | exact kn_str.mpr (by decide +kernel)
                  | exact ⟨Nat.zero_le _, fun d hd => absurd hd List.not_mem_nil⟩
theorem ok__law_variant_0 : Okb__law_variant noSp (sp__law_variant_n 0) := fun ds G Q E h => variant_core h fun a k m xs V G Q E hk _ _ _ _ _ _ => by omega
theorem ok__law_variant_s (n : Nat) : Okb__law_variant (sp__law_variant_n n) (sp__law_variant_n (n + 1)) := fun ds G Q E h => variant_core h fun a k m xs V G Q E hk hm hmk hs hV kv h' => ⟨a, k, m, xs, V, rfl, rfl, rfl, by omega, hm, hmk, hs, hV, kv, h'⟩
end TC
set_option maxRecDepth 100000
set_option maxHeartbeats 2000000
/-! SG: drawn steps, scripts, shows. -/
namespace TC
open PySem PySem.Spec PyProof.Rows L2

/-- known without a heap -/
abbrev K0 (n : Nat) (d : D) : Prop := Kn n (fun _ => none) d
theorem K0.kn {n : Nat} {d : D} {G : DHp} (h : K0 n d) : Kn n G d := Kn.ext (fun _ _ e => by cases e) h
def StepP (k : Nat) (x : D) : Prop := K0 1 x ∧ (k ≤ 5 → stepB x = true)
abbrev sp__law_step : DSp := sp2 fun s m G Q _ => ∃ (a : Addr) (k : Nat), s = .ref a ∧ m = .int k ∧ 1 ≤ k ∧ k ≤ 1000000 ∧ Src G a ∧ ∀ G' x, Drew a G G' → StepP k x → Q x G'
def b__law_step  (E : DXK) : WS :=
  (wSeq (wPar 2 3 (wCons (wOp dAdd (wC (.int 1)) (wCall sp__law_pick (fun _ => E) (wCons (wVar 0) (wCons (wVar 1) wNil)))) (wCons (wCall sp__law_chosen (fun _ => E) (wCons (wVar 0) (wCons (wLst (wCons (wC (.str "a")) (wCons (wC (.str "a")) (wCons (wC (.str "b")) (wCons (wC (.str "lamp")) wNil))))) wNil))) wNil)))
  (wSeq (wPar 4 5 (wCons (wCall sp__law_pick (fun _ => E) (wCons (wVar 0) (wCons (wC (.int 10)) wNil))) (wCons (wCall sp__law_chosen (fun _ => E) (wCons (wVar 0) (wCons (wLst (wCons (wC (.str "track")) (wCons (wC (.str "only")) wNil))) wNil))) wNil)))
  (wSeq (wIf (wTest (wOp dLt (wVar 4) (wC (.int 2)))) (wSeq (wAsg (wCall sp__law_chosen (fun _ => E) (wCons (wVar 0) (wCons (wLst (wCons (wC (.int 0)) (wCons (wC (.int 50)) (wCons (wC (.int 100)) (wCons (wCall sp__law_pick (fun _ => E) (wCons (wVar 0) (wCons (wC (.int 101)) wNil))) wNil))))) wNil))) (wgName 6))
  (wRet (wTup (wCons (wC (.str "set")) (wCons (wVar 2) (wCons (wVar 3) (wCons (wVar 6) (wCons (wVar 5) wNil)))))))) wNext)
  (wSeq (wIf (wTest (wOp dLt (wVar 4) (wC (.int 4)))) (wRet (wTup (wCons (wC (.str "clear")) (wCons (wVar 2) (wCons (wVar 3) (wCons (wVar 5) wNil)))))) wNext)
  (wSeq (wIf (wTest (wOp dLt (wVar 4) (wC (.int 6)))) (wRet (wTup (wCons (wC (.str "delete")) (wCons (wVar 2) (wCons (wCall sp__law_chosen (fun _ => E) (wCons (wVar 0) (wCons (wLst (wCons (wC (.str "keep")) (wCons (wC (.str "drop")) wNil))) wNil))) wNil))))) wNext)
  (wSeq (wIf (wTest (wOp dEq (wVar 4) (wC (.int 6)))) (wRet (wTup (wCons (wC (.str "copy")) (wCons (wVar 2) (wCons (wOp dAdd (wOp dAdd (wC (.int 1)) (wCB dInt1 (wCons (wOp dEq (wVar 2) (wC (.int 1))) wNil))) (wOp dMul (wOp dMul (wCB dInt1 (wCons (wOp dEq (wVar 2) (wC (.int 2))) wNil)) (wCall sp__law_pick (fun _ => E) (wCons (wVar 0) (wCons (wC (.int 2)) wNil)))) (wC (.int 2)))) wNil))))) wNext)
  (wRet (wTup (wCons (wCall sp__law_chosen (fun _ => E) (wCons (wVar 0) (wCons (wLst (wCons (wC (.str "block")) (wCons (wC (.str "insert")) (wCons (wC (.str "swap")) wNil)))) wNil))) (wCons (wVar 2) wNil))))))))))
abbrev N__law_step : List Str := ["source", "most", "cue", "channel", "way", "mode", "level"]
abbrev Okb__law_step  (sp : DSp) : Prop := ∀ ds G Q E, sp ds G Q E → b__law_step  E { nx := fun _ G' => Q .non G', rt := Q } (startD N__law_step ds) G
/-- a draw from a list just made -/
theorem itemsNew {a p : Addr} {G : DHp} {xs : List D} (hs : Src G a) (hp : G p = none) : itemsD (hid a (updD G p (.lst xs))) (.ref p) = some xs := items_hid (hs.ne hp)
theorem chanB_of {z : Str} (h : z ∈ (["a", "b", "lamp", "z"] : List Str)) : chanB (.str z) = true := by
  simp only [List.mem_cons, List.not_mem_nil, or_false] at h
  rcases h with rfl | rfl | rfl | rfl <;> decide +kernel
theorem k0_lit {z : Str} {n : Nat} (h : (PyData.strOk z && decide (z.length ≤ 1000000)) = true) : K0 n (.str z) := by
  rw [Bool.and_eq_true] at h
  exact kn_str.mpr ⟨h.1, of_decide_eq_true h.2⟩
theorem restB_set {n : Int} {c l m : D} : restB "set" n [c, l, m] = (chanB c && (wholeB 0 100 l && modeB ["track", "only"] m)) := by
  unfold restB; rw [if_pos rfl]
theorem restB_clear {n : Int} {c m : D} : restB "clear" n [c, m] = (chanB c && modeB ["track", "only"] m) := by
  unfold restB; rw [if_neg (by decide), if_pos rfl]
theorem restB_delete {n : Int} {m : D} : restB "delete" n [m] = modeB ["keep", "drop"] m := by
  unfold restB; rw [if_neg (by decide), if_neg (by decide), if_pos rfl]
theorem restB_copy {n k : Int} : restB "copy" n [.int k] = ((decide (1 ≤ k) && decide (k ≤ 5)) && !(k == n)) := by
  unfold restB; rw [if_neg (by decide), if_neg (by decide), if_neg (by decide), if_pos rfl]
theorem restB_block {n : Int} : restB "block" n [] = true := by
  unfold restB; rw [if_neg (by decide), if_neg (by decide), if_neg (by decide), if_neg (by decide)]; decide
theorem restB_insert {n : Int} : restB "insert" n [] = true := by
  unfold restB; rw [if_neg (by decide), if_neg (by decide), if_neg (by decide), if_neg (by decide)]; decide
theorem restB_swap {n : Int} : restB "swap" n [] = true := by
  unfold restB; rw [if_neg (by decide), if_neg (by decide), if_neg (by decide), if_neg (by decide)]; decide
theorem k0_tup {n : Nat} {ds : List D} (h : ds.length ≤ 1000) (h2 : ∀ d ∈ ds, K0 n d) : K0 (n + 1) (.tup ds) := ⟨by omega, h2⟩
theorem ok__law_step : Okb__law_step sp__law_step := by
  intro ds G Q E h
  obtain ⟨s, m, rfl, a, k, rfl, rfl, k1, k2, hs, h⟩ := sp2_inv h
  simp [b__law_step, startD]
  refine ⟨k, rfl, k1, k2, hs, fun G1 r d1 hr p hp => ⟨_, itemsNew d1.2 hp, by simp, by simp, (d1.2.drew (Ext.new hp)).2, fun G2 ch d2 hch => ?_⟩⟩
  have hch' : ∃ z, ch = .str z ∧ z ∈ (["a", "b", "lamp"] : List Str) := by
    simp only [List.mem_cons, List.not_mem_nil, or_false] at hch
    rcases hch with rfl | rfl | rfl | rfl <;> exact ⟨_, rfl, by simp⟩
  obtain ⟨z, rfl, hz⟩ := hch'
  have kz : K0 1 (.str z) := by
    simp only [List.mem_cons, List.not_mem_nil, or_false] at hz
    rcases hz with rfl | rfl | rfl <;> exact k0_lit (by decide +kernel)
  have cz : chanB (.str z) = true := chanB_of (by simp at hz ⊢; rcases hz with h | h | h <;> simp [h])
  have d12 := (d1.ext (Ext.new (o := .lst [.str (Str.ofString "a"), .str (Str.ofString "a"), .str (Str.ofString "b"), .str (Str.ofString "lamp")]) hp)).trans d2
  refine ⟨10, rfl, by omega, by omega, d2.2, fun G3 w d3 hw p2 hp2 => ⟨_, itemsNew d3.2 hp2, by simp, by simp, (d3.2.drew (Ext.new hp2)).2, fun G4 md d4 hmd => ?_⟩⟩
  have hmd' : ∃ z, md = .str z ∧ z ∈ (["track", "only"] : List Str) := by
    simp only [List.mem_cons, List.not_mem_nil, or_false] at hmd
    rcases hmd with rfl | rfl <;> exact ⟨_, rfl, by simp⟩
  obtain ⟨mz, rfl, hmz⟩ := hmd'
  have kmz : K0 1 (.str mz) := by
    simp only [List.mem_cons, List.not_mem_nil, or_false] at hmz
    rcases hmz with rfl | rfl <;> exact k0_lit (by decide +kernel)
  have d14 := d12.trans ((d3.ext (Ext.new (o := .lst [.str (Str.ofString "track"), .str (Str.ofString "only")]) hp2)).trans d4)
  have kmz0 : K0 0 (.str mz) := by
    simp only [List.mem_cons, List.not_mem_nil, or_false] at hmz
    rcases hmz with rfl | rfl <;> exact k0_lit (by decide +kernel)
  have kz0 : K0 0 (.str z) := by
    simp only [List.mem_cons, List.not_mem_nil, or_false] at hz
    rcases hz with rfl | rfl | rfl <;> exact k0_lit (by decide +kernel)
  have mm : modeB ["track", "only"] (.str mz) = true := by simpa [modeB] using hmz
  have step : ∀ (x : Str) (rest : List D), (k ≤ 5 → restB x (1 + (r : Int)) rest = true) → k ≤ 5 → stepB (.tup (.str x :: .int (1 + (r : Int)) :: rest)) = true := fun x rest hr' hk => by
    rw [stepB_at, hr' hk]
    simp; omega
  by_cases w2 : (w : Int) < 2
  · rw [if_pos w2]
    refine ⟨101, rfl, by omega, by omega, d4.2, fun G5 l d5 hl p5 hp5 => ⟨_, itemsNew d5.2 hp5, by simp, by simp, (d5.2.drew (Ext.new hp5)).2, fun G6 x d6 hx => ?_⟩⟩
    have hx' : ∃ i : Int, x = .int i ∧ 0 ≤ i ∧ i ≤ 100 := by
      simp only [List.mem_cons, List.not_mem_nil, or_false] at hx
      rcases hx with rfl | rfl | rfl | rfl
      · exact ⟨_, rfl, by omega, by omega⟩
      · exact ⟨_, rfl, by omega, by omega⟩
      · exact ⟨_, rfl, by omega, by omega⟩
      · exact ⟨_, rfl, by omega, by omega⟩
    obtain ⟨i, rfl, i0, i1⟩ := hx'
    refine h _ _ (d14.trans ((d5.ext (Ext.new hp5)).trans d6)) ⟨k0_tup (by simp) ?_, step _ _ fun _ => by
      rw [restB_set, cz, mm]
      simp [wholeB, i0, i1]⟩
    intro d hd
    simp only [List.mem_cons, List.not_mem_nil, or_false] at hd
    rcases hd with rfl | rfl | rfl | rfl | rfl
    · exact k0_lit (by decide +kernel)
    · exact kn_int
    · exact kz0
    · exact kn_int
    · exact kmz0
  · rw [if_neg w2]
    by_cases w4 : (w : Int) < 4
    · rw [if_pos w4]
      refine h _ _ d14 ⟨k0_tup (by simp) ?_, step _ _ fun _ => by rw [restB_clear, cz, mm]; rfl⟩
      intro d hd
      simp only [List.mem_cons, List.not_mem_nil, or_false] at hd
      rcases hd with rfl | rfl | rfl | rfl
      · exact k0_lit (by decide +kernel)
      · exact kn_int
      · exact kz0
      · exact kmz0
    · rw [if_neg w4]
      by_cases w6 : (w : Int) < 6
      · rw [if_pos w6]
        refine fun p5 hp5 => ⟨_, itemsNew d4.2 hp5, by simp, by simp, (d4.2.drew (Ext.new hp5)).2, fun G6 x d6 hx => ?_⟩
        have d16 := d14.trans ((d4.2.drew (Ext.new (o := .lst [.str (Str.ofString "keep"), .str (Str.ofString "drop")]) hp5)).trans d6)
        simp only [List.mem_cons, List.not_mem_nil, or_false] at hx
        rcases hx with rfl | rfl
        · refine h _ _ d16 ⟨k0_tup (by simp) ?_, step _ _ fun _ => by rw [restB_delete]; decide⟩
          intro d hd
          simp only [List.mem_cons, List.not_mem_nil, or_false] at hd
          rcases hd with rfl | rfl | rfl
          · exact k0_lit (by decide +kernel)
          · exact kn_int
          · exact k0_lit (by decide +kernel)
        · refine h _ _ d16 ⟨k0_tup (by simp) ?_, step _ _ fun _ => by rw [restB_delete]; decide⟩
          intro d hd
          simp only [List.mem_cons, List.not_mem_nil, or_false] at hd
          rcases hd with rfl | rfl | rfl
          · exact k0_lit (by decide +kernel)
          · exact kn_int
          · exact k0_lit (by decide +kernel)
      · rw [if_neg w6]
        by_cases w7 : (w : Int) = 6
        · rw [if_pos w7]
          refine ⟨2, rfl, by omega, by omega, d4.2, fun G5 l d5 hl => ⟨.inl (by split <;> omega), ?_, ?_⟩⟩
          · refine .inr (by omega)
          · refine h _ _ (d14.trans d5) ⟨k0_tup (by simp) ?_, step _ _ fun _ => ?_⟩
            · intro d hd
              simp only [List.mem_cons, List.not_mem_nil, or_false] at hd
              rcases hd with rfl | rfl | rfl
              · exact k0_lit (by decide +kernel)
              · exact kn_int
              · exact kn_int
            · rw [restB_copy]
              have hl2 : l = 0 ∨ l = 1 := by omega
              rcases hl2 with rfl | rfl
              · by_cases r1 : 1 + (r : Int) = 1
                · have r2 : ¬ 1 + (r : Int) = 2 := by omega
                  simp [r1]
                · by_cases r2 : 1 + (r : Int) = 2
                  · simp [r2]
                  · simp [r1, r2]; omega
              · by_cases r1 : 1 + (r : Int) = 1
                · have r2 : ¬ 1 + (r : Int) = 2 := by omega
                  simp [r1]
                · by_cases r2 : 1 + (r : Int) = 2
                  · simp [r2]
                  · simp [r1, r2]; omega
        · rw [if_neg w7]
          refine fun p5 hp5 => ⟨_, itemsNew d4.2 hp5, by simp, by simp, (d4.2.drew (Ext.new hp5)).2, fun G6 x d6 hx => ?_⟩
          have d16 := d14.trans ((d4.2.drew (Ext.new (o := .lst [.str (Str.ofString "block"), .str (Str.ofString "insert"), .str (Str.ofString "swap")]) hp5)).trans d6)
          simp only [List.mem_cons, List.not_mem_nil, or_false] at hx
          have two : ∀ w : Str, K0 0 (.str w) → ∀ d ∈ ([.str w, .int (1 + (r : Int))] : List D), K0 0 d := fun w kw d hd => by
            simp only [List.mem_cons, List.not_mem_nil, or_false] at hd
            rcases hd with rfl | rfl
            · exact kw
            · exact kn_int
          rcases hx with rfl | rfl | rfl
          · exact h _ _ d16 ⟨k0_tup (by simp) (two _ (k0_lit (by decide +kernel))), step _ _ fun _ => restB_block⟩
          · exact h _ _ d16 ⟨k0_tup (by simp) (two _ (k0_lit (by decide +kernel))), step _ _ fun _ => restB_insert⟩
          · exact h _ _ d16 ⟨k0_tup (by simp) (two _ (k0_lit (by decide +kernel))), step _ _ fun _ => restB_swap⟩

def ScriptP (j k : Nat) (x : D) : Prop := ∃ xs, x = .tup xs ∧ xs.length ≤ j ∧ ∀ d ∈ xs, StepP k d
abbrev sp__law_script : DSp := sp3 fun s m c G Q _ => ∃ (a : Addr) (j k : Nat), s = .ref a ∧ m = .int j ∧ c = .int k ∧ j ≤ 999 ∧ 1 ≤ k ∧ k ≤ 1000000 ∧ Src G a ∧ ∀ G' x, Drew a G G' → ScriptP j k x → Q x G'
def b__law_script  (E : DXK) : WS :=
  (wRet (wCB dTuple (wCons (wLc [3] (wiRng1 (wCons (wCall sp__law_pick (fun _ => E) (wCons (wVar 0) (wCons (wOp dAdd (wVar 1) (wC (.int 1))) wNil))) wNil)) (wgName 3) wtYes (wCall sp__law_step (noX) (wCons (wVar 0) (wCons (wVar 2) wNil)))) wNil)))
abbrev N__law_script : List Str := ["source", "most", "number", "turn"]
abbrev Okb__law_script  (sp : DSp) : Prop := ∀ ds G Q E, sp ds G Q E → b__law_script  E { nx := fun _ G' => Q .non G', rt := Q } (startD N__law_script ds) G
theorem ok__law_script : Okb__law_script sp__law_script := by
  intro ds G Q E h
  obtain ⟨s, m, c, rfl, a, j, k, rfl, rfl, rfl, hj, k1, k2, hs, h⟩ := sp3_inv h
  simp [b__law_script, startD]
  refine ⟨j + 1, by simp, by omega, by omega, hs, fun G1 n d1 hn => ⟨by omega, ?_⟩⟩
  refine lc_draw a (fun _ d => StepP k d) d1.2 (fun _ _ _ _ h => h) (by simp; omega) (fun _ _ => trivial) (fun x hx G4 K d4 hK => ?_) fun G4 p4 ys d4 hp4 hl hys => ?_
  · simp
    exact ⟨k, rfl, k1, k2, d4.2, hK⟩
  · rw [dTuple_ref updD_same]
    exact h _ _ ((d1.trans d4).ext (Ext.new hp4)) ⟨ys, rfl, by simp at hl; omega, hys⟩
theorem ScriptP.kn {j k : Nat} {x : D} (h : ScriptP j k x) (hj : j ≤ 999) : K0 2 x := by
  obtain ⟨xs, rfl, hl, hx⟩ := h
  exact k0_tup (by omega) fun d hd => (hx d hd).1
end TC
set_option maxRecDepth 100000
set_option maxHeartbeats 2000000
/-! SH: drawn shows. -/
namespace TC
open PySem PySem.Spec PyProof.Rows L2

def chanLists : List (List Str) := [["a"], ["a", "b"], ["a", "b"], ["b", "lamp"], ["a", "b", "lamp", "z"]]
def CueP (chs : List Str) (u : D) : Prop := ∃ ms, u = .tup ms ∧ ms.all (moveB chs) = true ∧ (ms.map nameOf).Sublist chs
def ShowP (j : Nat) (x : D) : Prop := ∃ chs us, x = .tup [.tup (chs.map .str), .tup us] ∧ chs ∈ chanLists ∧ us.length ≤ j ∧ ∀ u ∈ us, CueP chs u
abbrev StrLt (a b : Str) : Prop := a.cps.toList < b.cps.toList
theorem climbR_of {zs : List Str} (h : zs.Pairwise StrLt) : climbR zs = true := by
  unfold climbR
  rw [List.all_eq_true]
  intro i hi
  have hi' := List.mem_range.mp hi
  have h1 : zs[i]? = some zs[i] := List.getElem?_eq_getElem (by omega)
  have h2 : zs[i + 1]? = some zs[i + 1] := List.getElem?_eq_getElem (by omega)
  unfold ltAt
  rw [h1, h2]
  have := List.pairwise_iff_getElem.mp h i (i + 1) (by omega) (by omega) (by omega)
  simpa using this
theorem chanLists_ok : ∀ chs ∈ chanLists, chs.Pairwise StrLt ∧ (chs.map D.str).all chanB = true ∧ 1 ≤ chs.length ∧ chs.length ≤ 4 ∧ ∀ z ∈ chs, (PyData.strOk z && decide (z.length ≤ 1000000)) = true := by
  intro chs h
  simp only [chanLists, List.mem_cons, List.not_mem_nil, or_false] at h
  have dec : ∀ a b : Str, decide (a.cps.toList < b.cps.toList) = true → StrLt a b := fun a b h => of_decide_eq_true h
  rcases h with rfl | rfl | rfl | rfl | rfl
  · refine ⟨by simp, by decide +kernel, by decide, by decide, ?_⟩
    intro z hz
    simp only [List.mem_cons, List.not_mem_nil, or_false] at hz
    rcases hz with rfl
    decide +kernel
  · refine ⟨?_, by decide +kernel, by decide, by decide, ?_⟩
    · simp only [List.pairwise_cons, List.mem_cons, List.not_mem_nil, or_false, false_implies, implies_true, List.Pairwise.nil, and_true, forall_eq]
      exact dec _ _ (by decide +kernel)
    · intro z hz
      simp only [List.mem_cons, List.not_mem_nil, or_false] at hz
      rcases hz with rfl | rfl <;> decide +kernel
  · refine ⟨?_, by decide +kernel, by decide, by decide, ?_⟩
    · simp only [List.pairwise_cons, List.mem_cons, List.not_mem_nil, or_false, false_implies, implies_true, List.Pairwise.nil, and_true, forall_eq]
      exact dec _ _ (by decide +kernel)
    · intro z hz
      simp only [List.mem_cons, List.not_mem_nil, or_false] at hz
      rcases hz with rfl | rfl <;> decide +kernel
  · refine ⟨?_, by decide +kernel, by decide, by decide, ?_⟩
    · simp only [List.pairwise_cons, List.mem_cons, List.not_mem_nil, or_false, false_implies, implies_true, List.Pairwise.nil, and_true, forall_eq]
      exact dec _ _ (by decide +kernel)
    · intro z hz
      simp only [List.mem_cons, List.not_mem_nil, or_false] at hz
      rcases hz with rfl | rfl <;> decide +kernel
  · refine ⟨?_, by decide +kernel, by decide, by decide, ?_⟩
    · simp only [List.pairwise_cons, List.mem_cons, List.not_mem_nil, or_false, false_implies, implies_true, List.Pairwise.nil, and_true, forall_eq, forall_eq_or_imp]
      exact ⟨⟨dec _ _ (by decide +kernel), dec _ _ (by decide +kernel), dec _ _ (by decide +kernel)⟩, ⟨dec _ _ (by decide +kernel), dec _ _ (by decide +kernel)⟩, dec _ _ (by decide +kernel)⟩
    · intro z hz
      simp only [List.mem_cons, List.not_mem_nil, or_false] at hz
      rcases hz with rfl | rfl | rfl | rfl <;> decide +kernel
theorem CueP.cueB {chs : List Str} {u : D} (h : CueP chs u) (hc : chs.Pairwise StrLt) : cueB chs u = true := by
  obtain ⟨ms, rfl, h1, h2⟩ := h
  simp only [TC.cueB, h1, Bool.true_and]
  exact climbR_of (hc.sublist h2)
theorem CueP.k0 {chs : List Str} {u : D} (h : CueP chs u) (hl : chs.length ≤ 4) (hk : ∀ z ∈ chs, (PyData.strOk z && decide (z.length ≤ 1000000)) = true) : K0 2 u := by
  obtain ⟨ms, rfl, h1, h2⟩ := h
  have := h2.length_le
  simp at this
  refine k0_tup (by omega) fun m hm => ?_
  obtain ⟨z, l, rfl, hz, _⟩ := moveB_true (List.all_eq_true.mp h1 m hm)
  refine k0_tup (by simp) fun d hd => ?_
  simp only [List.mem_cons, List.not_mem_nil, or_false] at hd
  rcases hd with rfl | rfl
  · exact k0_lit (hk z hz)
  · exact kn_int
theorem ShowP.showB {j : Nat} {x : D} (h : ShowP j x) : showB x = true := by
  obtain ⟨chs, us, rfl, hc, hl, hu⟩ := h
  obtain ⟨c1, c2, c3, c4, c5⟩ := chanLists_ok chs hc
  have e : (chs.map D.str).map strOf = chs := by rw [List.map_map]; simp [Function.comp_def, strOf]
  simp only [TC.showB, c2, e, climbR_of c1, Bool.true_and, List.length_map]
  have : us.all (TC.cueB chs) = true := List.all_eq_true.mpr fun u h => (hu u h).cueB c1
  simp [this, c3, c4]
theorem ShowP.k0 {j : Nat} {x : D} (h : ShowP j x) (hj : j ≤ 1000) : K0 4 x := by
  obtain ⟨chs, us, rfl, hc, hl, hu⟩ := h
  obtain ⟨c1, c2, c3, c4, c5⟩ := chanLists_ok chs hc
  refine k0_tup (by simp) fun d hd => ?_
  simp only [List.mem_cons, List.not_mem_nil, or_false] at hd
  rcases hd with rfl | rfl
  · refine k0_tup (by simp; omega) fun d hd => ?_
    obtain ⟨z, hz, rfl⟩ := List.mem_map.mp hd
    exact k0_lit (c5 z hz)
  · exact k0_tup (by omega) fun d hd => (hu d hd).k0 c4 c5

abbrev sp__law_show : DSp := sp2 fun s m G Q _ => ∃ (a : Addr) (j : Nat), s = .ref a ∧ m = .int j ∧ j ≤ 999 ∧ Src G a ∧ ∀ G' x, Drew a G G' → ShowP j x → Q x G'
def b__law_show  (E : DXK) : WS :=
  (wSeq (wAsg (wCall sp__law_chosen (fun _ => E) (wCons (wVar 0) (wCons (wLst (wCons (wTup (wCons (wC (.str "a")) wNil)) (wCons (wTup (wCons (wC (.str "a")) (wCons (wC (.str "b")) wNil))) (wCons (wTup (wCons (wC (.str "a")) (wCons (wC (.str "b")) wNil))) (wCons (wTup (wCons (wC (.str "b")) (wCons (wC (.str "lamp")) wNil))) (wCons (wTup (wCons (wC (.str "a")) (wCons (wC (.str "b")) (wCons (wC (.str "lamp")) (wCons (wC (.str "z")) wNil))))) wNil)))))) wNil))) (wgName 2))
  (wSeq (wAsg (wTup wNil) (wgName 3))
  (wSeq (wFor (wiRng1 (wCons (wCall sp__law_pick (fun _ => E) (wCons (wVar 0) (wCons (wOp dAdd (wVar 1) (wC (.int 1))) wNil))) wNil)) (wgName 4) (wSeq (wAsg (wTup wNil) (wgName 5))
  (wSeq (wFor (wiTup (wVar 2)) (wgName 6) (wSeq (wAsg (wCall sp__law_chosen (fun _ => E) (wCons (wVar 0) (wCons (wLst (wCons (wC (.int 0)) (wCons (wC (.int 50)) (wCons (wC (.int 50)) (wCons (wC (.int 70)) (wCons (wCall sp__law_pick (fun _ => E) (wCons (wVar 0) (wCons (wC (.int 101)) wNil))) wNil)))))) wNil))) (wgName 7))
  (wIf (wTest (wOp dLt (wCall sp__law_pick (fun _ => E) (wCons (wVar 0) (wCons (wC (.int 5)) wNil))) (wC (.int 2)))) (wAsg (wOp dAdd (wVar 5) (wTup (wCons (wTup (wCons (wVar 6) (wCons (wVar 7) wNil))) wNil))) (wgName 5)) wNext)))
  (wAsg (wOp dAdd (wVar 3) (wTup (wCons (wVar 5) wNil))) (wgName 3)))))
  (wRet (wTup (wCons (wVar 2) (wCons (wVar 3) wNil)))))))
abbrev N__law_show : List Str := ["source", "most", "channels", "cues", "turn", "cue", "channel", "level"]
abbrev Okb__law_show  (sp : DSp) : Prop := ∀ ds G Q E, sp ds G Q E → b__law_show  E { nx := fun _ G' => Q .non G', rt := Q } (startD N__law_show ds) G
theorem ok__law_show : Okb__law_show sp__law_show := by
  intro ds G Q E h
  obtain ⟨s, m, rfl, a, j, rfl, rfl, hj, hs, h⟩ := sp2_inv h
  simp [b__law_show, startD]
  intro p hp
  refine ⟨_, itemsNew hs hp, by simp, by simp, (hs.drew (Ext.new hp)).2, fun G1 cc d1 hcc => ?_⟩
  have d01 := (hs.drew (Ext.new (o := .lst [.tup [.str (Str.ofString "a")], .tup [.str (Str.ofString "a"), .str (Str.ofString "b")], .tup [.str (Str.ofString "a"), .str (Str.ofString "b")], .tup [.str (Str.ofString "b"), .str (Str.ofString "lamp")], .tup [.str (Str.ofString "a"), .str (Str.ofString "b"), .str (Str.ofString "lamp"), .str (Str.ofString "z")]]) hp)).trans d1
  have hcc' : ∃ chs, cc = .tup (chs.map .str) ∧ chs ∈ chanLists := by
    simp only [List.mem_cons, List.not_mem_nil, or_false] at hcc
    rcases hcc with rfl | rfl | rfl | rfl | rfl
    · exact ⟨["a"], rfl, by simp [chanLists]⟩
    · exact ⟨["a", "b"], rfl, by simp [chanLists]⟩
    · exact ⟨["a", "b"], rfl, by simp [chanLists]⟩
    · exact ⟨["b", "lamp"], rfl, by simp [chanLists]⟩
    · exact ⟨["a", "b", "lamp", "z"], rfl, by simp [chanLists]⟩
  obtain ⟨chs, rfl, hch⟩ := hcc'
  refine ⟨j + 1, by simp, by omega, by omega, d1.2, fun G2 n d2 hn => ⟨by omega, ?_⟩⟩
  have d02 := d01.trans d2
  refine forW_rule (fun r ρ G3 => ∃ us o4 o5 o6 o7, us.length + r.length = n ∧ (∀ u ∈ us, CueP chs u) ∧ Drew a G G3 ∧ ρ = [some (.ref a), some (.int j), some (.tup (chs.map .str)), some (.tup us), o4, o5, o6, o7]) ?_ ?_ ⟨[], none, none, none, none, by simp, by simp, d02, rfl⟩
  · rintro x r ρ G3 nx ⟨us, o4, o5, o6, o7, hl, hu, d03, rfl⟩ hnx
    refine ⟨trivial, ?_⟩
    simp
    refine forW_rule (fun r2 ρ G4 => ∃ dn ms o6 o7, chs.map .str = dn ++ r2 ∧ ms.all (moveB chs) = true ∧ ((ms.map nameOf).map D.str).Sublist dn ∧ Drew a G G4 ∧ ρ = [some (.ref a), some (.int j), some (.tup (chs.map .str)), some (.tup us), some x, some (.tup ms), o6, o7]) ?_ ?_ ⟨[], [], o6, o7, rfl, rfl, by simp, d03, rfl⟩
    · rintro c r2 ρ G4 nx2 ⟨dn, ms, o6, o7, e1, hm, hsub, d04, rfl⟩ hnx2
      refine ⟨trivial, ?_⟩
      have hcm : c ∈ chs.map D.str := by rw [e1]; simp
      obtain ⟨z, hz, rfl⟩ := List.mem_map.mp hcm
      simp
      refine ⟨101, rfl, by omega, by omega, d04.2, fun G5 l d5 hl5 p5 hp5 => ⟨_, itemsNew d5.2 hp5, by simp, by simp, (d5.2.drew (Ext.new hp5)).2, fun G6 lv d6 hlv => ?_⟩⟩
      have hlv' : ∃ i : Int, lv = .int i ∧ 0 ≤ i ∧ i ≤ 100 := by
        simp only [List.mem_cons, List.not_mem_nil, or_false] at hlv
        rcases hlv with rfl | rfl | rfl | rfl | rfl
        · exact ⟨_, rfl, by omega, by omega⟩
        · exact ⟨_, rfl, by omega, by omega⟩
        · exact ⟨_, rfl, by omega, by omega⟩
        · exact ⟨_, rfl, by omega, by omega⟩
        · exact ⟨_, rfl, by omega, by omega⟩
      obtain ⟨i, rfl, i0, i1⟩ := hlv'
      have d06 := d04.trans ((d5.ext (Ext.new hp5)).trans d6)
      refine ⟨5, rfl, by omega, by omega, d6.2, fun G7 w d7 hw => ?_⟩
      have d07 := d06.trans d7
      have hlen : ms.length ≤ 4 := by
        have := hsub.length_le
        have e2 := congrArg List.length e1
        obtain ⟨_, _, _, c4, _⟩ := chanLists_ok chs hch
        simp at this e2
        omega
      by_cases w2 : (w : Int) < 2
      · rw [if_pos w2]
        refine ⟨by omega, hnx2 _ _ ⟨dn ++ [.str z], ms ++ [.tup [.str z, .int i]], _, _, by simp [e1], ?_, ?_, d07, rfl⟩⟩
        · simp [hm, moveB, hz, i0, i1]
        · simp only [List.map_append, List.map_cons, List.map_nil, nameOf]
          exact hsub.append (List.Sublist.refl _)
      · rw [if_neg w2]
        exact hnx2 _ _ ⟨dn ++ [.str z], ms, _, _, by simp [e1], hm, hsub.trans (List.sublist_append_left _ _), d07, rfl⟩
    · rintro ρ G4 ⟨dn, ms, o6, o7, e1, hm, hsub, d04, rfl⟩
      refine ⟨trivial, ?_⟩
      simp at e1
      subst e1
      have hcue : CueP chs (.tup ms) := by
        refine ⟨ms, rfl, hm, ?_⟩
        have e3 : (chs.map D.str).map strOf = chs := by rw [List.map_map]; simp [Function.comp_def, strOf]
        have e4 : ((ms.map nameOf).map D.str).map strOf = ms.map nameOf := by rw [List.map_map]; simp [Function.comp_def, strOf]
        have := hsub.map strOf
        rwa [e3, e4] at this
      simp
      simp at hl
      refine ⟨by omega, hnx _ _ ⟨us ++ [.tup ms], _, _, _, _, by simp; omega, fun u h => ?_, d04, rfl⟩⟩
      rcases List.mem_append.mp h with h | h
      · exact hu u h
      · rw [List.mem_singleton.mp h]; exact hcue
  · rintro ρ G3 ⟨us, o4, o5, o6, o7, hl, hu, d03, rfl⟩
    refine ⟨trivial, ?_⟩
    simp
    refine h _ _ d03 ⟨chs, us, rfl, hch, by simp at hl; omega, hu⟩
end TC
set_option maxRecDepth 100000
set_option maxHeartbeats 4000000
/-! SI: the law k01. -/
namespace TC
open PySem PySem.Spec PyProof.Rows L2

def PairP (G : DHp) (x : D) : Prop := ∃ v g, x = .tup [v, .bl g] ∧ Kn 3 G v ∧ stepB v = g
def knB : Nat → D → Bool
  | 0, d => match d with
    | .non => true
    | .bl _ => true
    | .int _ => true
    | .str x => PyData.strOk x && decide (x.length ≤ 1000000)
    | _ => false
  | n + 1, d => match d with
    | .non => true
    | .bl _ => true
    | .int _ => true
    | .str x => PyData.strOk x && decide (x.length ≤ 1000000)
    | .tup ds => decide (ds.length ≤ 1000) && ds.all (knB n)
    | _ => false
theorem knB_ok : ∀ {n : Nat} {d : D}, knB n d = true → K0 n d
  | 0, d, h => by
    cases d with
    | str x => exact k0_lit h
    | non => exact kn_non
    | bl b => exact kn_bl
    | int i => exact kn_int
    | _ => cases h
  | n + 1, d, h => by
    cases d with
    | str x => exact k0_lit h
    | non => exact kn_non
    | bl b => exact kn_bl
    | int i => exact kn_int
    | tup ds =>
      have h' : (decide (ds.length ≤ 1000) && ds.all (knB n)) = true := h
      rw [Bool.and_eq_true] at h'
      exact k0_tup (of_decide_eq_true h'.1) fun d hd => knB_ok (List.all_eq_true.mp h'.2 d hd)
    | _ => cases h
def pairB : D → Bool
  | .tup [v, .bl g] => knB 3 v && (stepB v == g)
  | _ => false
theorem pairB_ok {x : D} (h : pairB x = true) {G : DHp} : PairP G x := by
  unfold pairB at h
  split at h
  · rw [Bool.and_eq_true] at h
    exact ⟨_, _, rfl, (knB_ok h.1).kn, beq_iff_eq.mp h.2⟩
  · cases h
theorem PairP.ext {G G' : DHp} {x : D} (h : PairP G x) (e : Ext G G') : PairP G' x := by
  obtain ⟨v, g, rfl, k, s⟩ := h
  exact ⟨v, g, rfl, k.ext e, s⟩
/-- a list of good pairs at p, made since Gs -/
structure LstP (Gs : DHp) (n : Nat) (G : DHp) (p : Addr) : Prop where
  new : Gs p = none
  ext : Ext Gs G
  at_ : ∃ xs, G p = some (.lst xs) ∧ xs.length ≤ n ∧ xs.all pairB = true
theorem steps_new {ws : WA} {rest : WS} {F : DEnds} {o : Option D} {G : DHp} {L : List D} (hw : ∀ (ρ : Ro) (G : DHp) (Q : List D → DHp → Prop), Q L G → ws ρ G Q) (hL : (L.all pairB && decide (L.length ≤ 100)) = true)
    (k : ∀ p G', LstP G 100 G' p → rest F [some (.ref p)] G') : wSeq (wAsg (wLst ws) (wgName 0)) rest F [o] G := by
  rw [Bool.and_eq_true] at hL
  have hl := of_decide_eq_true hL.2
  refine hw _ _ _ ⟨by omega, fun p hp => ?_⟩
  exact k p _ ⟨hp, Ext.new hp, L, updD_same, hl, hL.1⟩
theorem steps_add {Gs : DHp} {ws : WA} {rest : WS} {F : DEnds} {p : Addr} {G : DHp} {L : List D} {n : Nat} (hw : ∀ (ρ : Ro) (G : DHp) (Q : List D → DHp → Prop), Q L G → ws ρ G Q) (hL : (L.all pairB && (decide (L.length ≤ 100) && decide (n ≤ 10000))) = true) (hl : LstP Gs n G p)
    (k : ∀ p G', LstP Gs (n + 100) G' p → rest F [some (.ref p)] G') : wSeq (wAsg (wOp dAdd (wVar 0) (wLst ws)) (wgName 0)) rest F [some (.ref p)] G := by
  rw [Bool.and_eq_true, Bool.and_eq_true] at hL
  have hl1 := of_decide_eq_true hL.2.1
  have hl2 := of_decide_eq_true hL.2.2
  obtain ⟨xs, gp, hn, hx⟩ := hl.at_
  refine hw _ _ _ ⟨by omega, fun q hq => ?_⟩
  show dAdd (.ref p) (.ref q) _ _
  rw [dAdd_ref]
  refine ⟨xs, L, Ext.new hq p _ gp, updD_same, by omega, fun r hr => ?_⟩
  have e := (Ext.new (o := .lst L) hq).trans (Ext.new (o := .lst (xs ++ L)) hr)
  exact k r _ ⟨(hl.ext.trans (Ext.new hq)).free hr, hl.ext.trans e, xs ++ L, updD_same, by simp; omega, by rw [List.all_append, hx, hL.1]; rfl⟩
theorem steps_app {Gs : DHp} {ws : WA} {rest : WS} {F : DEnds} {p : Addr} {G : DHp} {x : D} {n : Nat} (hw : ∀ (ρ : Ro) (G : DHp) (Q : List D → DHp → Prop), Q [x] G → ws ρ G Q) (hL : (pairB x && decide (n ≤ 10000)) = true) (hl : LstP Gs n G p)
    (k : ∀ G', LstP Gs (n + 100) G' p → rest F [some (.ref p)] G') : wSeq (wExpr (wMt dAppend (wVar 0) ws)) rest F [some (.ref p)] G := by
  rw [Bool.and_eq_true] at hL
  have hl2 := of_decide_eq_true hL.2
  obtain ⟨xs, gp, hn, hx⟩ := hl.at_
  refine ⟨⟨p, xs, rfl, gp⟩, hw _ _ _ ⟨xs, gp, by omega, ?_⟩⟩
  refine k _ ⟨hl.new, fun a o e => ?_, _, updD_same, by simp; omega, by rw [List.all_append, hx]; simp [hL.1]⟩
  have : a ≠ p := fun z => by subst z; rw [hl.new] at e; cases e
  rw [updD_ne this]; exact hl.ext a o e
abbrev sp__law_steps : DSp := sp0 fun G Q _ => ∀ p G' xs, Ext G G' → G' p = some (.lst xs) → (∀ x ∈ xs, PairP G' x) → Q (.ref p) G'
def b__law_steps  (E : DXK) : WS :=
  (wSeq (wAsg (wLst (wCons (wTup (wCons (wTup (wCons (wC (.str "set")) (wCons (wC (.int 1)) (wCons (wC (.str "a")) (wCons (wC (.int 0)) (wCons (wC (.str "track")) wNil)))))) (wCons (wC (.bl true)) wNil))) (wCons (wTup (wCons (wTup (wCons (wC (.str "set")) (wCons (wC (.int 5)) (wCons (wC (.str "abcdefgh")) (wCons (wC (.int 100)) (wCons (wC (.str "only")) wNil)))))) (wCons (wC (.bl true)) wNil))) (wCons (wTup (wCons (wTup (wCons (wC (.str "block")) (wCons (wC (.int 1)) wNil))) (wCons (wC (.bl true)) wNil))) wNil)))) (wgName 0))
  (wSeq (wAsg (wOp dAdd (wVar 0) (wLst (wCons (wTup (wCons (wTup (wCons (wC (.str "set")) (wCons (wC (.int 0)) (wCons (wC (.str "a")) (wCons (wC (.int 0)) (wCons (wC (.str "track")) wNil)))))) (wCons (wC (.bl false)) wNil))) (wCons (wTup (wCons (wTup (wCons (wC (.str "set")) (wCons (wC (.int 6)) (wCons (wC (.str "a")) (wCons (wC (.int 0)) (wCons (wC (.str "track")) wNil)))))) (wCons (wC (.bl false)) wNil))) (wCons (wTup (wCons (wTup (wCons (wC (.str "swap")) (wCons (wC (.int 5)) wNil))) (wCons (wC (.bl true)) wNil))) wNil))))) (wgName 0))
  (wSeq (wAsg (wOp dAdd (wVar 0) (wLst (wCons (wTup (wCons (wTup (wCons (wC (.str "set")) (wCons (wC (.int 1)) (wCons (wC (.str "a")) (wCons (wC (.int 101)) (wCons (wC (.str "track")) wNil)))))) (wCons (wC (.bl false)) wNil))) (wCons (wTup (wCons (wTup (wCons (wC (.str "set")) (wCons (wC (.int 1)) (wCons (wC (.str "a")) (wCons (wC (.bl true)) (wCons (wC (.str "track")) wNil)))))) (wCons (wC (.bl false)) wNil))) wNil)))) (wgName 0))
  (wSeq (wAsg (wOp dAdd (wVar 0) (wLst (wCons (wTup (wCons (wTup (wCons (wC (.str "set")) (wCons (wC (.int 1)) (wCons (wC (.str "")) (wCons (wC (.int 5)) (wCons (wC (.str "track")) wNil)))))) (wCons (wC (.bl false)) wNil))) (wCons (wTup (wCons (wTup (wCons (wC (.str "set")) (wCons (wC (.int 1)) (wCons (wC (.str "a")) (wCons (wC (.int 5)) (wCons (wC (.str "keep")) wNil)))))) (wCons (wC (.bl false)) wNil))) wNil)))) (wgName 0))
  (wSeq (wExpr (wMt dAppend (wVar 0) (wCons (wTup (wCons (wTup (wCons (wC (.str "set")) (wCons (wC (.int 1)) (wCons (wC (.str "a")) (wCons (wC (.int 5)) wNil))))) (wCons (wC (.bl false)) wNil))) wNil)))
  (wSeq (wAsg (wOp dAdd (wVar 0) (wLst (wCons (wTup (wCons (wTup (wCons (wC (.str "clear")) (wCons (wC (.int 1)) (wCons (wC (.str "a")) wNil)))) (wCons (wC (.bl false)) wNil))) (wCons (wTup (wCons (wTup (wCons (wC (.str "clear")) (wCons (wC (.int 1)) (wCons (wC (.str "a")) (wCons (wC (.str "only")) wNil))))) (wCons (wC (.bl true)) wNil))) (wCons (wTup (wCons (wTup (wCons (wC (.str "clear")) (wCons (wC (.int 1)) (wCons (wC (.str "a")) (wCons (wC (.str "drop")) wNil))))) (wCons (wC (.bl false)) wNil))) wNil))))) (wgName 0))
  (wSeq (wAsg (wOp dAdd (wVar 0) (wLst (wCons (wTup (wCons (wTup (wCons (wC (.str "delete")) (wCons (wC (.int 1)) wNil))) (wCons (wC (.bl false)) wNil))) (wCons (wTup (wCons (wTup (wCons (wC (.str "delete")) (wCons (wC (.int 1)) (wCons (wC (.str "keep")) wNil)))) (wCons (wC (.bl true)) wNil))) (wCons (wTup (wCons (wTup (wCons (wC (.str "delete")) (wCons (wC (.int 1)) (wCons (wC (.str "only")) wNil)))) (wCons (wC (.bl false)) wNil))) wNil))))) (wgName 0))
  (wSeq (wAsg (wOp dAdd (wVar 0) (wLst (wCons (wTup (wCons (wTup (wCons (wC (.str "copy")) (wCons (wC (.int 1)) (wCons (wC (.int 2)) wNil)))) (wCons (wC (.bl true)) wNil))) (wCons (wTup (wCons (wTup (wCons (wC (.str "copy")) (wCons (wC (.int 2)) (wCons (wC (.int 2)) wNil)))) (wCons (wC (.bl false)) wNil))) (wCons (wTup (wCons (wTup (wCons (wC (.str "copy")) (wCons (wC (.int 1)) (wCons (wC (.int 6)) wNil)))) (wCons (wC (.bl false)) wNil))) (wCons (wTup (wCons (wTup (wCons (wC (.str "copy")) (wCons (wC (.int 1)) wNil))) (wCons (wC (.bl false)) wNil))) wNil)))))) (wgName 0))
  (wSeq (wAsg (wOp dAdd (wVar 0) (wLst (wCons (wTup (wCons (wTup (wCons (wC (.str "insert")) (wCons (wC (.int 5)) wNil))) (wCons (wC (.bl true)) wNil))) (wCons (wTup (wCons (wTup (wCons (wC (.str "insert")) (wCons (wC (.int 1)) (wCons (wC (.int 1)) wNil)))) (wCons (wC (.bl false)) wNil))) (wCons (wTup (wCons (wTup (wCons (wC (.str "block")) (wCons (wC (.bl true)) wNil))) (wCons (wC (.bl false)) wNil))) (wCons (wTup (wCons (wTup (wCons (wC (.str "go")) (wCons (wC (.int 1)) wNil))) (wCons (wC (.bl false)) wNil))) wNil)))))) (wgName 0))
  (wRet (wOp dAdd (wVar 0) (wLst (wCons (wTup (wCons (wLst (wCons (wC (.str "block")) (wCons (wC (.int 1)) wNil))) (wCons (wC (.bl false)) wNil))) (wCons (wTup (wCons (wTup (wCons (wC .non) (wCons (wC (.int 1)) wNil))) (wCons (wC (.bl false)) wNil))) (wCons (wTup (wCons (wTup (wCons (wC (.str "block")) wNil)) (wCons (wC (.bl false)) wNil))) (wCons (wTup (wCons (wC (.str "block")) (wCons (wC (.bl false)) wNil))) wNil))))))))))))))))
abbrev N__law_steps : List Str := ["found"]
abbrev Okb__law_steps  (sp : DSp) : Prop := ∀ ds G Q E, sp ds G Q E → b__law_steps  E { nx := fun _ G' => Q .non G', rt := Q } (startD N__law_steps ds) G
theorem ok__law_steps : Okb__law_steps sp__law_steps := by
  intro ds G Q E h
  obtain ⟨rfl, h⟩ := sp0_inv h
  rw [show startD N__law_steps [] = [none] from rfl]
  unfold b__law_steps
  refine steps_new (L := ([.tup [.tup [.str "set", .int 1, .str "a", .int 0, .str "track"], .bl true], .tup [.tup [.str "set", .int 5, .str "abcdefgh", .int 100, .str "only"], .bl true], .tup [.tup [.str "block", .int 1], .bl true]] : List D)) (by intro ρ G Q h; simpa using h) (by decide +kernel) fun p0 G0 l0 => ?_
  refine steps_add (L := ([.tup [.tup [.str "set", .int 0, .str "a", .int 0, .str "track"], .bl false], .tup [.tup [.str "set", .int 6, .str "a", .int 0, .str "track"], .bl false], .tup [.tup [.str "swap", .int 5], .bl true]] : List D)) (by intro ρ G Q h; simpa using h) (by decide +kernel) l0 fun p1 G1 l1 => ?_
  refine steps_add (L := ([.tup [.tup [.str "set", .int 1, .str "a", .int 101, .str "track"], .bl false], .tup [.tup [.str "set", .int 1, .str "a", .bl true, .str "track"], .bl false]] : List D)) (by intro ρ G Q h; simpa using h) (by decide +kernel) l1 fun p2 G2 l2 => ?_
  refine steps_add (L := ([.tup [.tup [.str "set", .int 1, .str "", .int 5, .str "track"], .bl false], .tup [.tup [.str "set", .int 1, .str "a", .int 5, .str "keep"], .bl false]] : List D)) (by intro ρ G Q h; simpa using h) (by decide +kernel) l2 fun p3 G3 l3 => ?_
  refine steps_app (x := (.tup [.tup [.str "set", .int 1, .str "a", .int 5], .bl false] : D)) (by intro ρ G Q h; simpa using h) (by decide +kernel) l3 fun G4 l4 => ?_
  refine steps_add (L := ([.tup [.tup [.str "clear", .int 1, .str "a"], .bl false], .tup [.tup [.str "clear", .int 1, .str "a", .str "only"], .bl true], .tup [.tup [.str "clear", .int 1, .str "a", .str "drop"], .bl false]] : List D)) (by intro ρ G Q h; simpa using h) (by decide +kernel) l4 fun p5 G5 l5 => ?_
  refine steps_add (L := ([.tup [.tup [.str "delete", .int 1], .bl false], .tup [.tup [.str "delete", .int 1, .str "keep"], .bl true], .tup [.tup [.str "delete", .int 1, .str "only"], .bl false]] : List D)) (by intro ρ G Q h; simpa using h) (by decide +kernel) l5 fun p6 G6 l6 => ?_
  refine steps_add (L := ([.tup [.tup [.str "copy", .int 1, .int 2], .bl true], .tup [.tup [.str "copy", .int 2, .int 2], .bl false], .tup [.tup [.str "copy", .int 1, .int 6], .bl false], .tup [.tup [.str "copy", .int 1], .bl false]] : List D)) (by intro ρ G Q h; simpa using h) (by decide +kernel) l6 fun p7 G7 l7 => ?_
  refine steps_add (L := ([.tup [.tup [.str "insert", .int 5], .bl true], .tup [.tup [.str "insert", .int 1, .int 1], .bl false], .tup [.tup [.str "block", .bl true], .bl false], .tup [.tup [.str "go", .int 1], .bl false]] : List D)) (by intro ρ G Q h; simpa using h) (by decide +kernel) l7 fun p8 G8 l8 => ?_
  obtain ⟨xs, gp, hn, hx⟩ := l8.at_
  simp
  refine fun q hq q2 hq2 => ⟨xs, (Ext.new hq).trans (Ext.new hq2) _ _ gp, by omega, fun r hr => ?_⟩
  refine h _ _ _ (l8.ext.trans (((Ext.new hq).trans (Ext.new hq2)).trans (Ext.new hr))) updD_same fun x h => ?_
  simp only [List.mem_append, List.mem_cons, List.not_mem_nil, or_false] at h
  rcases h with h | rfl | rfl | rfl | rfl
  · exact pairB_ok (List.all_eq_true.mp hx x h)
  · refine ⟨_, _, rfl, Kn.mono (n := 1) (by omega) ⟨_, (Ext.new hr) q _ (Ext.new hq2 q _ updD_same), by simp, fun d hd => ?_⟩, rfl⟩
    simp only [List.mem_cons, List.not_mem_nil, or_false] at hd
    rcases hd with rfl | rfl
    · exact kn_str.mpr (by decide +kernel)
    · exact kn_int
  · exact pairB_ok (by decide +kernel)
  · exact pairB_ok (by decide +kernel)
  · exact pairB_ok (by decide +kernel)

abbrev sp__law_refused_k01 : DSp := sp1 fun v G Q _ => ∃ n, n < 20 ∧ Kn n G v ∧ ∀ G', Ext G G' → Q (.bl (!showB v)) G'
def b__law_refused_k01 (K : W.Frag) (C : ExC) (E : DXK) : WS :=
  (wSeq (wTry1 K (.ref C.InvalidShow) (wRet (wC (.bl true))) (fun _ => E) (fun U1 => (wExpr (wCall (sp_count_moves C.InvalidShow) (U1) (wCons (wVar 0) wNil)))))
  (wRet (wC (.bl false))))
abbrev N__law_refused_k01 : List Str := ["value"]
abbrev Okb__law_refused_k01 (K : W.Frag) (C : ExC) (sp : DSp) : Prop := ∀ ds G Q E, sp ds G Q E → b__law_refused_k01 K C E { nx := fun _ G' => Q .non G', rt := Q } (startD N__law_refused_k01 ds) G
theorem ok__law_refused_k01 {K : PySem.W.Frag} {C : ExC} (hx : PySem.W.exmOne K (.ref C.InvalidShow) (.ref C.InvalidShow) = some true) : Okb__law_refused_k01 K C sp__law_refused_k01 := by
  intro ds G Q E h
  obtain ⟨v, rfl, n, hn, kn, h⟩ := sp1_inv h
  simp [b__law_refused_k01, startD, wTry1]
  refine ⟨n, hn, kn, fun G1 e => ?_⟩
  have := h G1 e
  by_cases hs : showB v = true
  · simpa [hs] using this
  · simpa [hs, hx] using this
end TC
set_option maxRecDepth 100000
set_option maxHeartbeats 4000000
/-! SJ: the law k01. -/
namespace TC
open PySem PySem.Spec PyProof.Rows L2
abbrev sp_law_k01 : DSp := sp1 fun sc G Q _ => ∃ ns : List Int, sc = .rl (ns.map .int) ∧ ∀ G', Q (.bl true) G'
def b_law_k01 (C : ExC) (E : DXK) : WS :=
  (wSeq (wFor (wiLst (wCall0 sp__law_steps (fun _ => E))) (wgTup 2 (wgCons (wgName 2) (wgCons (wgName 3) wgNil))) (wIf (wtOr (wtNot (wTest (wCall sp__law_is_bool (fun _ => E) (wCons (wCall sp_is_step (fun _ => E) (wCons (wVar 2) wNil)) (wCons (wVar 3) wNil))))) (wtNot (wTest (wCall sp__law_is_bool (fun _ => E) (wCons (wCall sp_is_script (fun _ => E) (wCons (wTup (wCons (wVar 2) wNil)) wNil)) (wCons (wVar 3) wNil)))))) (wRet (wC (.bl false))) wNext))
  (wSeq (wFor (wiRng1 (wCons (wCB dMax2 (wCons (wC (.int 6)) (wCons (wCB dMin2 (wCons (wC (.int 20)) (wCons (wCB dLen (wCons (wVar 0) wNil)) wNil))) wNil))) wNil)) (wgName 1) (wSeq (wAsg (wCall sp__law_source (fun _ => E) (wCons (wVar 0) (wCons (wVar 1) wNil))) (wgName 4))
  (wSeq (wPar 7 8 (wCons (wCall sp__law_show (fun _ => E) (wCons (wVar 4) (wCons (wC (.int 12)) wNil))) (wCons (wCall sp__law_script (fun _ => E) (wCons (wVar 4) (wCons (wC (.int 4)) (wCons (wC (.int 5)) wNil)))) wNil)))
  (wSeq (wIf (wTest (wOp dNe (wCall (sp_count_moves C.InvalidShow) (fun _ => E) (wCons (wVar 7) wNil)) (wCall sp__law_size (fun _ => E) (wCons (wVar 7) wNil)))) (wRet (wC (.bl false))) wNext)
  (wSeq (wAsg (wLst (wCons (wVar 7) (wCons (wCB dList (wCons (wVar 7) wNil)) (wCons (wOp dIx (wVar 7) (wC (.int 0))) (wCons (wVar 8) (wCons (wCB dList (wCons (wVar 8) wNil)) (wCons (wC .non) (wCons (wTup wNil) (wCons (wC (.str "a")) wNil))))))))) (wgName 5))
  (wSeq (wAsg (wOp dAdd (wOp dAdd (wVar 5) (wLst (wCons (wCall sp__law_any_value (fun _ => E) (wCons (wVar 4) (wCons (wC (.int 3)) wNil))) wNil))) (wCB dList (wCons (wVar 8) wNil))) (wgName 5))
  (wSeq (wFor (wiRng1 (wCons (wC (.int 14)) wNil)) (wgName 6) (wSeq (wAsg (wCall sp__law_variant (fun _ => E) (wCons (wVar 4) (wCons (wIfE (wTest (wOp dLt (wVar 6) (wC (.int 8)))) (wVar 7) (wVar 8)) (wCons (wC (.int 4)) wNil)))) (wgName 9))
  (wSeq (wExpr (wMt dAppend (wVar 5) (wCons (wVar 9) wNil)))
  (wIf (wtAnd (wTest (wIsi .tup (wVar 9))) (wTest (wOp dEq (wCall sp__law_pick (fun _ => E) (wCons (wVar 4) (wCons (wC (.int 3)) wNil))) (wC (.int 0))))) (wExpr (wMt dAppend (wVar 5) (wCons (wCall sp__law_variant (fun _ => E) (wCons (wVar 4) (wCons (wVar 9) (wCons (wC (.int 4)) wNil)))) wNil))) wNext))))
  (wFor (wiLst (wVar 5)) (wgName 2) (wSeq (wAsg (wCall sp__law_good_show (fun _ => E) (wCons (wVar 2) wNil)) (wgName 3))
  (wSeq (wIf (wtOr (wtNot (wTest (wCall sp__law_is_bool (fun _ => E) (wCons (wCall sp_is_show (fun _ => E) (wCons (wVar 2) wNil)) (wCons (wVar 3) wNil))))) (wTest (wOp dEq (wCall sp__law_refused_k01 (fun _ => E) (wCons (wVar 2) wNil)) (wVar 3)))) (wRet (wC (.bl false))) wNext)
  (wSeq (wIf (wtNot (wTest (wCall sp__law_is_bool (fun _ => E) (wCons (wCall sp_is_step (fun _ => E) (wCons (wVar 2) wNil)) (wCons (wCall sp__law_good_step (fun _ => E) (wCons (wVar 2) wNil)) wNil))))) (wRet (wC (.bl false))) wNext)
  (wIf (wtNot (wTest (wCall sp__law_is_bool (fun _ => E) (wCons (wCall sp_is_script (fun _ => E) (wCons (wVar 2) wNil)) (wCons (wCall sp__law_good_script (fun _ => E) (wCons (wVar 2) wNil)) wNil))))) (wRet (wC (.bl false))) wNext))))))))))))
  (wRet (weAnd (weNot (wCall sp_is_script (fun _ => E) (wCons (wOp dMul (wTup (wCons (wTup (wCons (wC (.str "block")) (wCons (wC (.int 1)) wNil))) wNil)) (wC (.int 5))) wNil))) (wCall sp_is_script (fun _ => E) (wCons (wOp dMul (wTup (wCons (wTup (wCons (wC (.str "block")) (wCons (wC (.int 1)) wNil))) wNil)) (wC (.int 4))) wNil))))))
abbrev N_law_k01 : List Str := ["script", "k", "value", "good", "source", "values", "turn", "show", "steps", "odd"]
abbrev Okb_law_k01 (C : ExC) (sp : DSp) : Prop := ∀ ds G Q E, sp ds G Q E → b_law_k01 C E { nx := fun _ G' => Q .non G', rt := Q } (startD N_law_k01 ds) G
theorem scriptB_one {v : D} : scriptB (.tup [v]) = stepB v := by simp [scriptB]
theorem Kn.one {n : Nat} {G : DHp} {v : D} (h : Kn n G v) : Kn (n + 1) G (.tup [v]) := ⟨by simp; omega, fun d hd => by rw [List.mem_singleton.mp hd]; exact h⟩
/-- the values list: all known without it and without the source -/
def ValP (a p : Addr) (G : DHp) (xs : List D) : Prop := ∀ x ∈ xs, Kn 16 (hid p (hid a G)) x
theorem new_hid {a p : Addr} {G : DHp} {o : DO} (h : G p = none) : Ext (hid a G) (hid p (hid a (updD G p o))) := fun b u e => by
  obtain ⟨hb, e⟩ := hid_some e
  have : b ≠ p := fun z => by subst z; rw [h] at e; cases e
  rw [hid_ne this, hid_ne hb, updD_ne this]; exact e
theorem ext_hid {p : Addr} {G G' : DHp} (e : Ext G G') : Ext (hid p G) (hid p G') := ExtB.hid e.b
theorem ok_law_k01 {C : ExC} : Okb_law_k01 C sp_law_k01 := by
  intro ds G Q E h00
  obtain ⟨sc, rfl, ns, rfl, h⟩ := sp1_inv h00
  clear h00
  unfold b_law_k01
  rw [show startD N_law_k01 [.rl (ns.map .int)] = [some (.rl (ns.map .int)), none, none, none, none, none, none, none, none, none] from rfl]
  refine seq_cut (fun ρ _ => ∃ o2 o3, ρ = [some (.rl (ns.map .int)), none, o2, o3, none, none, none, none, none, none]) (fun nx hnx => ?_) ?_
  · simp only [wFor, wiLst, wCall0, sp0_at]
    intro p G1 xs e1 gp hx
    rw [kLstI_ref]
    refine ⟨xs, gp, ?_⟩
    refine forW_rule (fun r ρ G2 => Ext G1 G2 ∧ (∀ x ∈ r, PairP G1 x) ∧ ∃ o2 o3, ρ = [some (.rl (ns.map .int)), none, o2, o3, none, none, none, none, none, none]) ?_ ?_ ⟨.refl, hx, none, none, rfl⟩
    · rintro x r ρ G2 nx ⟨e2, hr, o2, o3, rfl⟩ hnx
      refine ⟨e2 p _ gp, ?_⟩
      obtain ⟨v, g, rfl, kv, sv⟩ := hr x (by simp)
      have k2 := kv.ext e2
      simp
      refine ⟨3, by omega, k2, fun G3 e3 => ?_⟩
      rw [sv]
      have fin : ∀ G4, Ext G3 G4 → nx [some (.rl (ns.map .int)), none, some v, some (.bl g), none, none, none, none, none, none] G4 := fun G4 e4 => hnx _ _ ⟨e2.trans (e3.trans e4), fun y hy => hr y (by simp [hy]), _, _, rfl⟩
      cases g with
      | true =>
        simp
        refine ⟨4, by omega, (k2.ext e3).one, fun G4 e4 => ?_⟩
        simp [scriptB_one, sv]
        exact fin G4 e4
      | false =>
        simp
        refine ⟨4, by omega, (k2.ext e3).one, fun G4 e4 => ?_⟩
        simp [scriptB_one, sv]
        exact fin G4 e4
    · rintro ρ G2 ⟨e2, _, o2, o3, rfl⟩
      exact ⟨e2 p _ gp, hnx _ _ ⟨o2, o3, rfl⟩⟩
  · rintro ρ G2 ⟨o2, o3, rfl⟩
    refine seq_cut (fun ρ _ => ∃ o1 o2 o3 o4 o5 o6 o7 o8 o9, ρ = [some (.rl (ns.map .int)), o1, o2, o3, o4, o5, o6, o7, o8, o9]) (fun nx0 hnx0 => ?_) ?_
    rotate_left
    · rintro ρ G3 ⟨o1, o2, o3, o4, o5, o6, o7, o8, o9, rfl⟩
      simp
      have k5 : ∀ G, Kn 3 G (.tup [.tup [.str (Str.ofString "block"), .int 1], .tup [.str (Str.ofString "block"), .int 1], .tup [.str (Str.ofString "block"), .int 1], .tup [.str (Str.ofString "block"), .int 1], .tup [.str (Str.ofString "block"), .int 1]]) := fun G => (knB_ok (by decide +kernel)).kn
      have k4 : ∀ G, Kn 3 G (.tup [.tup [.str (Str.ofString "block"), .int 1], .tup [.str (Str.ofString "block"), .int 1], .tup [.str (Str.ofString "block"), .int 1], .tup [.str (Str.ofString "block"), .int 1]]) := fun G => (knB_ok (by decide +kernel)).kn
      refine ⟨3, by omega, k5 _, fun G4 e4 => ?_⟩
      rw [if_neg (by decide +kernel)]
      refine ⟨3, by omega, k4 _, fun G5 e5 => ?_⟩
      rw [show scriptB (.tup [.tup [.str (Str.ofString "block"), .int 1], .tup [.str (Str.ofString "block"), .int 1], .tup [.str (Str.ofString "block"), .int 1], .tup [.str (Str.ofString "block"), .int 1]]) = true by decide +kernel]
      exact h _
    simp only [wFor, wiRng1, wCons, wCB, wC, wVar, wNil, List.getElem?_cons_zero, dLen_rl, dMin2_int, dMax2_int, kRng1_int]
    refine ⟨by split <;> split <;> omega, by split <;> split <;> omega, ?_⟩
    generalize hN : (if (if ((ns.map D.int).length : Int) < 20 then ((ns.map D.int).length : Int) else 20) > 6 then (if ((ns.map D.int).length : Int) < 20 then ((ns.map D.int).length : Int) else 20) else 6).toNat = N
    have hN20 : N ≤ 20 := by rw [← hN]; split <;> split <;> omega
    refine forW_rule (fun r ρ G3 => (∀ x ∈ r, ∃ i : Nat, i ≤ 20 ∧ x = .int i) ∧ ∃ o1 o2 o3 o4 o5 o6 o7 o8 o9, ρ = [some (.rl (ns.map .int)), o1, o2, o3, o4, o5, o6, o7, o8, o9]) ?_ ?_ ⟨fun x hx => ?_, none, o2, o3, none, none, none, none, none, none, rfl⟩
    · rintro x r ρ G3 nx ⟨hr, o1, o2, o3, o4, o5, o6, o7, o8, o9, rfl⟩ hnx
      refine ⟨trivial, ?_⟩
      obtain ⟨i, hi, rfl⟩ := hr x (by simp)
      have hnx' : ∀ o1 o2 o3 o4 o5 o6 o7 o8 o9 G', nx [some (.rl (ns.map .int)), o1, o2, o3, o4, o5, o6, o7, o8, o9] G' := fun _ _ _ _ _ _ _ _ _ G' => hnx _ _ ⟨fun y hy => hr y (by simp [hy]), _, _, _, _, _, _, _, _, _, rfl⟩
      clear hnx hr
      simp only [wSeq, wgName, wAsg, wCall, wVar, wCons, wNil, List.set_cons_zero, List.set_cons_succ, List.getElem?_cons_zero, List.getElem?_cons_succ, sp2_at]
      refine ⟨ns, i, rfl, rfl, by omega, fun a G4 ha e4 hs => ?_⟩
      simp only [wPar_two, wCall, wVar, wCons, wNil, wC, List.set_cons_zero, List.set_cons_succ, List.getElem?_cons_zero, List.getElem?_cons_succ, sp2_at, sp3_at]
      refine ⟨a, 12, rfl, rfl, by omega, hs, fun G5 sh d5 hsh => ⟨a, 4, 5, rfl, rfl, rfl, by omega, by omega, by omega, d5.2, fun G6 st d6 hst => ?_⟩⟩
      have d46 := d5.trans d6
      have kst := hst.kn (by omega)
      have ksh := hsh.k0 (by omega)
      refine seq_cut (fun ρ' G' => ρ' = [some (.rl (ns.map .int)), some (.int i), o2, o3, some (.ref a), o5, o6, some sh, some st, o9] ∧ Drew a G4 G') (fun nx1 hnx1 => ?_) ?_
      · simp
        refine ⟨4, by omega, ksh.kn, fun G7 e7 => ?_⟩
        rw [if_pos hsh.showB]
        refine ⟨4, by omega, ksh.kn, hsh.showB, fun G8 e8 => ?_⟩
        exact hnx1 _ _ ⟨rfl, d46.ext (e7.trans e8)⟩
      rintro ρ' G7 ⟨rfl, d7⟩
      have kn_vis : ∀ (pv : Addr) (G : DHp) (n : Nat) (x : D), K0 n x → n ≤ 16 → Kn 16 (hid pv (hid a G)) x := fun pv G n x h hn => (K0.kn h).mono hn
      refine seq_cut (fun ρ' G' => ∃ l vs, ρ' = [some (.rl (ns.map .int)), some (.int i), o2, o3, some (.ref a), some (.ref l), o6, some sh, some st, o9] ∧ Drew a G4 G' ∧ G' l = some (.lst vs) ∧ l ≠ a ∧ vs.length ≤ 8 ∧ ∀ x ∈ vs, Ks 5 a G' x) (fun nx1 hnx1 => ?_) ?_
      · obtain ⟨chs, us, rfl, hch, hus, hcu⟩ := id hsh
        obtain ⟨sts, rfl, hsl, hsts⟩ := id hst
        simp
        intro p1 hp1 p2 hp2 p3 hp3
        have e1 : Ext G7 (updD G7 p1 (.lst [.tup (chs.map .str), .tup us])) := Ext.new hp1
        have e2 : Ext (updD G7 p1 (.lst [.tup (chs.map .str), .tup us])) (updD (updD G7 p1 (.lst [.tup (chs.map .str), .tup us])) p2 (.lst sts)) := Ext.new hp2
        have a1 := d7.2.ne hp1
        have a2 := (d7.2.ext e1).ne hp2
        have a3 := ((d7.2.ext e1).ext e2).ne hp3
        refine hnx1 _ _ ⟨p3, _, rfl, d7.ext (e1.trans (e2.trans (Ext.new hp3))), updD_same, Ne.symm a3, by simp, fun x hx => ?_⟩
        have g1 : ∀ o, Ext (updD (updD G7 p1 (.lst [.tup (chs.map .str), .tup us])) p2 (.lst sts)) (updD (updD (updD G7 p1 (.lst [.tup (chs.map .str), .tup us])) p2 (.lst sts)) p3 o) := fun o => Ext.new hp3
        have kc : K0 3 (.tup (chs.map .str)) := ksh.2 _ (by simp)
        have ku : K0 3 (.tup us) := ksh.2 _ (by simp)
        simp only [List.mem_cons, List.not_mem_nil, or_false] at hx
        rcases hx with rfl | rfl | rfl | rfl | rfl | rfl | rfl | rfl
        · exact (K0.kn ksh).mono (by omega)
        · refine Kn.mono (n := 4) (by omega) ⟨_, by rw [hid_ne (Ne.symm a1)]; exact g1 _ p1 _ (e2 p1 _ updD_same), by simp, fun d hd => ?_⟩
          simp only [List.mem_cons, List.not_mem_nil, or_false] at hd
          rcases hd with rfl | rfl
          · exact K0.kn kc
          · exact K0.kn ku
        · exact (K0.kn kc).mono (by omega)
        · exact (K0.kn kst).mono (by omega)
        · exact Kn.mono (n := 4) (by omega) ⟨_, by rw [hid_ne (Ne.symm a2)]; exact g1 _ p2 _ updD_same, by omega, fun d hd => Kn.mono (n := 1) (m := 3) (by omega) (K0.kn (hsts d hd).1)⟩
        · exact kn_non
        · exact ⟨Nat.zero_le _, fun d hd => absurd hd List.not_mem_nil⟩
        · exact kn_str.mpr (by decide +kernel)
      rintro ρ' G8 ⟨l, vs, rfl, d8, gl, la, lv, kvs⟩
      refine seq_cut (fun ρ' G' => ∃ pv vs, ρ' = [some (.rl (ns.map .int)), some (.int i), o2, o3, some (.ref a), some (.ref pv), o6, some sh, some st, o9] ∧ Drew a G4 G' ∧ G' pv = some (.lst vs) ∧ pv ≠ a ∧ vs.length ≤ 13 ∧ ValP a pv G' vs) (fun nx1 hnx1 => ?_) ?_
      · obtain ⟨sts, rfl, hsl, hsts⟩ := id hst
        simp
        refine ⟨3, rfl, by omega, d8.2, fun G9 x d9 kx p1 hp1 => ?_⟩
        have e1 : Ext G9 (updD G9 p1 (.lst [x])) := Ext.new hp1
        have gl9 := d9.1 l _ la gl
        refine ⟨vs, e1 l _ gl9, by omega, fun r hr p2 hp2 => ?_⟩
        have e2 : Ext (updD G9 p1 (.lst [x])) (updD (updD G9 p1 (.lst [x])) r (.lst (vs ++ [x]))) := Ext.new hr
        have e3 : Ext (updD (updD G9 p1 (.lst [x])) r (.lst (vs ++ [x]))) (updD (updD (updD G9 p1 (.lst [x])) r (.lst (vs ++ [x]))) p2 (.lst sts)) := Ext.new hp2
        refine ⟨_, e3 r _ updD_same, by simp; omega, fun r2 hr2 => ?_⟩
        have ee := e1.trans (e2.trans e3)
        have ar := ((d9.2.ext ee)).ne hr2
        refine hnx1 _ _ ⟨r2, _, rfl, (d8.trans d9).ext (ee.trans (Ext.new hr2)), updD_same, Ne.symm ar, by simp; omega, fun y hy => ?_⟩
        refine Kn.ext (new_hid hr2) ?_
        have up : Ext (hid a G9) (hid a (updD (updD (updD G9 p1 (.lst [x])) r (.lst (vs ++ [x]))) p2 (.lst sts))) := ext_hid ee
        refine Kn.ext up ?_
        simp only [List.mem_append, List.mem_cons, List.not_mem_nil, or_false] at hy
        rcases hy with (hy | rfl) | hy
        · exact ((kvs y hy).exb d9.1).mono (by omega)
        · exact (Kf.ks kx).mono (by omega)
        · exact (K0.kn (hsts y hy).1).mono (by omega)
      rintro ρ' G9 ⟨pv, vs2, rfl, d9, gv, pa, lv2, kv2⟩
      refine seq_cut (fun ρ' G' => ∃ vs o6 o9, ρ' = [some (.rl (ns.map .int)), some (.int i), o2, o3, some (.ref a), some (.ref pv), o6, some sh, some st, o9] ∧ G' pv = some (.lst vs) ∧ ValP a pv G' vs) (fun nx1 hnx1 => ?_) ?_
      · simp only [wFor, wiRng1, wCons, wC, wNil, kRng1_int]
        refine ⟨by omega, by omega, ?_⟩
        refine forW_rule (fun r ρ' G' => (∀ x ∈ r, ∃ j : Nat, j ≤ 14 ∧ x = .int j) ∧ ∃ vs o6 o9, ρ' = [some (.rl (ns.map .int)), some (.int i), o2, o3, some (.ref a), some (.ref pv), o6, some sh, some st, o9] ∧ vs.length + 2 * r.length ≤ 100 ∧ Src G' a ∧ G' pv = some (.lst vs) ∧ ValP a pv G' vs) ?_ ?_ ⟨fun x hx => ?_, vs2, o6, o9, rfl, by simp; omega, d9.2, gv, kv2⟩
        · rintro x r ρ' G10 nx2 ⟨hr, vs, o6, o9, rfl, hl, d10, gv, kv⟩ hnx2
          refine ⟨trivial, ?_⟩
          obtain ⟨j, hj, rfl⟩ := hr x (by simp)
          obtain ⟨chs, us, rfl, hch, hus, hcu⟩ := id hsh
          obtain ⟨sts, rfl, hsl, hsts⟩ := id hst
          simp at hl
          have next : ∀ vs G' o9, vs.length + 2 * r.length ≤ 100 → Src G' a → G' pv = some (.lst vs) → ValP a pv G' vs → nx2 [some (.rl (ns.map .int)), some (.int i), o2, o3, some (.ref a), some (.ref pv), some (.int j), some (.tup [.tup (chs.map .str), .tup us]), some (.tup sts), o9] G' := fun vs G' o9 h1 h2 h3 h4 =>
            hnx2 _ _ ⟨fun y hy => hr y (by simp [hy]), vs, _, _, rfl, h1, h2, h3, h4⟩
          have core : ∀ ws : List D, Kn 4 (fun _ => none) (.tup ws) → ∀ (Q' : DK), (∀ G' y, Drew a G10 G' → Kn 9 (hid pv (hid a G')) y → Q' y G') → sp__law_variant [.ref a, .tup ws, .int 4] G10 Q' E := fun ws kw Q' hQ =>
            ⟨a, 4, 4, ws, fun _ => none, rfl, rfl, rfl, by omega, by omega, by omega, d10, fun _ _ e => (nomatch e), kw, fun G' y d ky => hQ G' y d (ky.ext fun b o e => by
              cases g : G10 b with
              | none =>
                rw [ovr_new g] at e
                have : b ≠ pv := fun z => by subst z; rw [gv] at g; cases g
                rw [hid_ne this]; exact e
              | some u => rw [ovr_old g] at e; cases e)⟩
          have both : ∀ (c : Prop) [Decidable c] (w1 w2 : List D) (Qc : DK), Kn 4 (fun _ => none) (.tup w1) → Kn 4 (fun _ => none) (.tup w2) → (∀ G' y, Drew a G10 G' → Kn 9 (hid pv (hid a G')) y → Qc y G') → if c then sp__law_variant [.ref a, .tup w1, .int 4] G10 Qc E else sp__law_variant [.ref a, .tup w2, .int 4] G10 Qc E := fun c _ w1 w2 Qc k1 k2 hq => by
            split
            · exact core _ k1 _ hq
            · exact core _ k2 _ hq
          simp only [wSeq, wgName, wAsg, wCall, wVar, wCons, wNil, wC, wIfE, wTest, wOp, List.set_cons_zero, List.set_cons_succ, List.getElem?_cons_zero, List.getElem?_cons_succ, dOrd_int, kB_bl]
          refine both _ _ _ _ ksh (kst.mono (by omega)) fun G11 y d11 ky => ?_
          have gv11 := d11.1 pv _ pa gv
          refine ⟨⟨pv, vs, rfl, gv11⟩, vs, gv11, by omega, ?_⟩
          have wr : ∀ (G : DHp) (o : DO), Ext (hid pv (hid a G)) (hid pv (hid a (updD G pv o))) := fun G o b u e => by
            obtain ⟨hb, e⟩ := hid_some e
            obtain ⟨hb2, e⟩ := hid_some e
            rw [hid_ne hb, hid_ne hb2, updD_ne hb]; exact e
          have sw : ∀ (G : DHp) (o : DO), Src G a → Src (updD G pv o) a := fun G o s => by
            obtain ⟨u, v, q1, q2⟩ := s.at_
            exact ⟨u, v, by rw [updD_ne (Ne.symm pa)]; exact q1, q2⟩
          have vp : ∀ (G' G'' : DHp), ExtB a G' G'' → Ext (hid pv (hid a G')) (hid pv (hid a G'')) := fun G' G'' e => ext_hid e.hid
          have kv11 : ValP a pv (updD G11 pv (.lst (vs ++ [y]))) (vs ++ [y]) := fun z hz => by
            refine Kn.ext (wr G11 _) ?_
            rcases List.mem_append.mp hz with hz | hz
            · exact (kv z hz).ext (vp _ _ d11.1)
            · rw [List.mem_singleton.mp hz]; exact ky.mono (by omega)
          have s11 := sw G11 (.lst (vs ++ [y])) d11.2
          have ky12 : Kn 9 (hid pv (hid a (updD G11 pv (.lst (vs ++ [y]))))) y := ky.ext (wr G11 _)
          have gv12 : updD G11 pv (.lst (vs ++ [y])) pv = some (.lst (vs ++ [y])) := updD_same
          generalize updD G11 pv (.lst (vs ++ [y])) = G12 at kv11 s11 ky12 gv12 ⊢
          have kyr : Kn 9 G12 y := ky12.ext (hid_le.trans hid_le)
          cases y with
          | tup ws =>
            simp [kyr.isK, kindD]
            refine ⟨3, rfl, by omega, by omega, s11, fun G13 w d13 hw => ?_⟩
            have gv13 := d13.1 pv _ pa gv12
            by_cases hw0 : w = 0
            · rw [if_pos hw0]
              refine ⟨⟨pv, _, rfl, gv13⟩, 4, rfl, by omega, 9, by omega, by omega, d13.2, hid pv (hid a G13), hid_le, ky12.ext (vp _ _ d13.1), fun G14 y2 d14 ky2 => ?_⟩
              have gv14 := d14.1 pv _ pa gv13
              have ky14 : Kn 14 (hid pv (hid a G14)) y2 := ky2.ext fun b o e => by
                cases g : G13 b with
                | none =>
                  rw [ovr_new g] at e
                  have : b ≠ pv := fun z => by subst z; rw [gv13] at g; cases g
                  rw [hid_ne this]; exact e
                | some u => rw [ovr_old g] at e; exact vp _ _ d14.1 b o e
              refine ⟨_, gv14, by simp; omega, next _ _ _ (by simp; omega) (sw _ _ d14.2) updD_same fun z hz => ?_⟩
              refine Kn.ext (wr G14 _) ?_
              rcases List.mem_append.mp hz with hz | hz
              · exact (kv11 z hz).ext (vp _ _ (d13.trans d14).1)
              · rw [List.mem_singleton.mp hz]; exact ky14.mono (by omega)
            · rw [if_neg hw0]
              exact next _ _ _ (by simp; omega) d13.2 gv13 fun z hz => (kv11 z hz).ext (vp _ _ d13.1)
          | _ =>
            simp [kyr.isK, kindD]
            exact next _ _ _ (by simp; omega) s11 gv12 kv11
        · rintro ρ' G10 ⟨_, vs, o6, o9, rfl, _, d10, gv, kv⟩
          exact ⟨trivial, hnx1 _ _ ⟨vs, o6, o9, rfl, gv, kv⟩⟩
        · obtain ⟨j, hj, rfl⟩ := intsD_mem hx
          exact ⟨j, by simp at hj; omega, by simp⟩
      rintro ρ' G10 ⟨vs3, o6, o9, rfl, gv3, kv3⟩
      simp only [wFor, wiLst, wVar, List.getElem?_cons_zero, List.getElem?_cons_succ, kLstI_ref]
      refine ⟨vs3, gv3, ?_⟩
      refine forW_rule (fun r ρ' G' => (∀ x ∈ r, Kn 16 G10 x) ∧ Ext G10 G' ∧ ∃ o2 o3, ρ' = [some (.rl (ns.map .int)), some (.int i), o2, o3, some (.ref a), some (.ref pv), o6, some sh, some st, o9]) ?_ ?_ ⟨fun x hx => (kv3 x hx).ext (hid_le.trans hid_le), .refl, o2, o3, rfl⟩
      · rintro x r ρ' G11 nx2 ⟨hr, e11, o2, o3, rfl⟩ hnx2
        refine ⟨e11 pv _ gv3, ?_⟩
        have kx : Kn 16 G10 x := hr x (by simp)
        have next : ∀ G' o3, Ext G10 G' → nx2 [some (.rl (ns.map .int)), some (.int i), some x, o3, some (.ref a), some (.ref pv), o6, some sh, some st, o9] G' := fun G' o3 e => hnx2 _ _ ⟨fun y hy => hr y (by simp [hy]), e, _, _, rfl⟩
        simp
        refine ⟨16, by omega, kx.ext e11, fun G12 e12 => ⟨16, by omega, kx.ext (e11.trans e12), fun G13 e13 => ?_⟩⟩
        have e113 := e11.trans (e12.trans e13)
        refine ⟨16, by omega, kx.ext e113, fun G14 e14 => ?_⟩
        refine ⟨16, by omega, kx.ext (e113.trans e14), fun G15 e15 => ⟨16, by omega, kx.ext (e113.trans (e14.trans e15)), fun G16 e16 => ?_⟩⟩
        refine ⟨16, by omega, kx.ext (e113.trans (e14.trans (e15.trans e16))), fun G17 e17 => ⟨16, by omega, kx.ext (e113.trans (e14.trans (e15.trans (e16.trans e17)))), fun G18 e18 => ?_⟩⟩
        exact next _ _ (e113.trans (e14.trans (e15.trans (e16.trans (e17.trans e18)))))
      · rintro ρ' G11 ⟨_, e11, o2, o3, rfl⟩
        exact ⟨e11 pv _ gv3, hnx' _ _ _ _ _ _ _ _ _ _⟩
    · rintro ρ G3 ⟨_, o1, o2, o3, o4, o5, o6, o7, o8, o9, rfl⟩
      exact ⟨trivial, hnx0 _ _ ⟨o1, o2, o3, o4, o5, o6, o7, o8, o9, rfl⟩⟩
    · obtain ⟨i, hi, rfl⟩ := intsD_mem hx
      exact ⟨i, by omega, by simp⟩
end TC
set_option maxRecDepth 100000
namespace TC
open PySem PySem.Spec PyProof.Rows L2
namespace L_k01
def top (i : Nat) : Stmt := PySem.Challenge.pw_trackedcues_k01_shows_and_scripts_recogn.main.body.getD i (.Pass ⟨0, 0, 0, 0⟩)
abbrev s_is_whole : Stmt := top 10
def d_is_whole : He.DefD := ⟨("is_whole", none), "is_whole", "is_whole", defArgs s_is_whole, defBody s_is_whole, defScope s_is_whole, [], []⟩
abbrev s_is_wide : Stmt := top 11
def d_is_wide : He.DefD := ⟨("is_wide", none), "is_wide", "is_wide", defArgs s_is_wide, defBody s_is_wide, defScope s_is_wide, [], []⟩
abbrev s_is_channel : Stmt := top 12
def d_is_channel : He.DefD := ⟨("is_channel", none), "is_channel", "is_channel", defArgs s_is_channel, defBody s_is_channel, defScope s_is_channel, [], []⟩
abbrev s_climbs : Stmt := top 13
def d_climbs : He.DefD := ⟨("climbs", none), "climbs", "climbs", defArgs s_climbs, defBody s_climbs, defScope s_climbs, [], []⟩
abbrev s_is_cue : Stmt := top 14
def d_is_cue : He.DefD := ⟨("is_cue", none), "is_cue", "is_cue", defArgs s_is_cue, defBody s_is_cue, defScope s_is_cue, [], []⟩
abbrev s_is_right_show : Stmt := top 15
def d_is_right_show : He.DefD := ⟨("is_right_show", none), "is_right_show", "is_right_show", defArgs s_is_right_show, defBody s_is_right_show, defScope s_is_right_show, [], []⟩
abbrev s_is_mode : Stmt := top 16
def d_is_mode : He.DefD := ⟨("is_mode", none), "is_mode", "is_mode", defArgs s_is_mode, defBody s_is_mode, defScope s_is_mode, [], []⟩
abbrev s_is_right_step : Stmt := top 17
def d_is_right_step : He.DefD := ⟨("is_right_step", none), "is_right_step", "is_right_step", defArgs s_is_right_step, defBody s_is_right_step, defScope s_is_right_step, [], []⟩
abbrev s_is_right_script : Stmt := top 18
def d_is_right_script : He.DefD := ⟨("is_right_script", none), "is_right_script", "is_right_script", defArgs s_is_right_script, defBody s_is_right_script, defScope s_is_right_script, [], []⟩
abbrev s_need_show : Stmt := top 19
def d_need_show : He.DefD := ⟨("need_show", none), "need_show", "need_show", defArgs s_need_show, defBody s_need_show, defScope s_need_show, [], []⟩
abbrev s_is_show : Stmt := top 20
def d_is_show : He.DefD := ⟨("is_show", none), "is_show", "is_show", defArgs s_is_show, defBody s_is_show, defScope s_is_show, [], []⟩
abbrev s_is_step : Stmt := top 21
def d_is_step : He.DefD := ⟨("is_step", none), "is_step", "is_step", defArgs s_is_step, defBody s_is_step, defScope s_is_step, [], []⟩
abbrev s_is_script : Stmt := top 22
def d_is_script : He.DefD := ⟨("is_script", none), "is_script", "is_script", defArgs s_is_script, defBody s_is_script, defScope s_is_script, [], []⟩
abbrev s_count_moves : Stmt := top 23
def d_count_moves : He.DefD := ⟨("count_moves", none), "count_moves", "count_moves", defArgs s_count_moves, defBody s_count_moves, defScope s_count_moves, [], []⟩
abbrev s__law_source : Stmt := top 25
def d__law_source : He.DefD := ⟨("_law_source", none), "_law_source", "_law_source", defArgs s__law_source, defBody s__law_source, defScope s__law_source, [], []⟩
abbrev s__law_pick : Stmt := top 26
def d__law_pick : He.DefD := ⟨("_law_pick", none), "_law_pick", "_law_pick", defArgs s__law_pick, defBody s__law_pick, defScope s__law_pick, [], []⟩
abbrev s__law_chosen : Stmt := top 27
def d__law_chosen : He.DefD := ⟨("_law_chosen", none), "_law_chosen", "_law_chosen", defArgs s__law_chosen, defBody s__law_chosen, defScope s__law_chosen, [], []⟩
abbrev s__law_is_bool : Stmt := top 28
def d__law_is_bool : He.DefD := ⟨("_law_is_bool", none), "_law_is_bool", "_law_is_bool", defArgs s__law_is_bool, defBody s__law_is_bool, defScope s__law_is_bool, [], []⟩
abbrev s__law_wide : Stmt := top 29
def d__law_wide : He.DefD := ⟨("_law_wide", none), "_law_wide", "_law_wide", defArgs s__law_wide, defBody s__law_wide, defScope s__law_wide, [], []⟩
abbrev s__law_any_value : Stmt := top 30
def d__law_any_value : He.DefD := ⟨("_law_any_value", none), "_law_any_value", "_law_any_value", defArgs s__law_any_value, defBody s__law_any_value, defScope s__law_any_value, [], []⟩
abbrev s__law_variant : Stmt := top 31
def d__law_variant : He.DefD := ⟨("_law_variant", none), "_law_variant", "_law_variant", defArgs s__law_variant, defBody s__law_variant, defScope s__law_variant, [], []⟩
abbrev s__law_whole : Stmt := top 32
def d__law_whole : He.DefD := ⟨("_law_whole", none), "_law_whole", "_law_whole", defArgs s__law_whole, defBody s__law_whole, defScope s__law_whole, [], []⟩
abbrev s__law_is_channel : Stmt := top 33
def d__law_is_channel : He.DefD := ⟨("_law_is_channel", none), "_law_is_channel", "_law_is_channel", defArgs s__law_is_channel, defBody s__law_is_channel, defScope s__law_is_channel, [], []⟩
abbrev s__law_climbs : Stmt := top 34
def d__law_climbs : He.DefD := ⟨("_law_climbs", none), "_law_climbs", "_law_climbs", defArgs s__law_climbs, defBody s__law_climbs, defScope s__law_climbs, [], []⟩
abbrev s__law_good_cue : Stmt := top 35
def d__law_good_cue : He.DefD := ⟨("_law_good_cue", none), "_law_good_cue", "_law_good_cue", defArgs s__law_good_cue, defBody s__law_good_cue, defScope s__law_good_cue, [], []⟩
abbrev s__law_good_show : Stmt := top 36
def d__law_good_show : He.DefD := ⟨("_law_good_show", none), "_law_good_show", "_law_good_show", defArgs s__law_good_show, defBody s__law_good_show, defScope s__law_good_show, [], []⟩
abbrev s__law_good_step : Stmt := top 37
def d__law_good_step : He.DefD := ⟨("_law_good_step", none), "_law_good_step", "_law_good_step", defArgs s__law_good_step, defBody s__law_good_step, defScope s__law_good_step, [], []⟩
abbrev s__law_good_script : Stmt := top 38
def d__law_good_script : He.DefD := ⟨("_law_good_script", none), "_law_good_script", "_law_good_script", defArgs s__law_good_script, defBody s__law_good_script, defScope s__law_good_script, [], []⟩
abbrev s__law_step : Stmt := top 39
def d__law_step : He.DefD := ⟨("_law_step", none), "_law_step", "_law_step", defArgs s__law_step, defBody s__law_step, defScope s__law_step, [], []⟩
abbrev s__law_script : Stmt := top 40
def d__law_script : He.DefD := ⟨("_law_script", none), "_law_script", "_law_script", defArgs s__law_script, defBody s__law_script, defScope s__law_script, [], []⟩
abbrev s__law_show : Stmt := top 41
def d__law_show : He.DefD := ⟨("_law_show", none), "_law_show", "_law_show", defArgs s__law_show, defBody s__law_show, defScope s__law_show, [], []⟩
abbrev s__law_size : Stmt := top 42
def d__law_size : He.DefD := ⟨("_law_size", none), "_law_size", "_law_size", defArgs s__law_size, defBody s__law_size, defScope s__law_size, [], []⟩
abbrev s__law_steps : Stmt := top 43
def d__law_steps : He.DefD := ⟨("_law_steps", none), "_law_steps", "_law_steps", defArgs s__law_steps, defBody s__law_steps, defScope s__law_steps, [], []⟩
abbrev N__law_refused : List Str := N__law_refused_k01
abbrev s__law_refused : Stmt := top 44
def d__law_refused : He.DefD := ⟨("_law_refused", none), "_law_refused", "_law_refused", defArgs s__law_refused, defBody s__law_refused, defScope s__law_refused, [], []⟩
abbrev N_law : List Str := N_law_k01
abbrev s_law : Stmt := top 45
def d_law : He.DefD := ⟨("law", none), "law", "law", defArgs s_law, defBody s_law, defScope s_law, [], []⟩
def fnL : List He.DefD := [d_is_whole, d_is_wide, d_is_channel, d_climbs, d_is_cue, d_is_right_show, d_is_mode, d_is_right_step, d_is_right_script, d_need_show, d_is_show, d_is_step, d_is_script, d_count_moves, d__law_source, d__law_pick, d__law_chosen, d__law_is_bool, d__law_wide, d__law_any_value, d__law_variant, d__law_whole, d__law_is_channel, d__law_climbs, d__law_good_cue, d__law_good_show, d__law_good_step, d__law_good_script, d__law_step, d__law_script, d__law_show, d__law_size, d__law_steps, d__law_refused, d_law]
def faL : List He.Fa := [.free "isinstance", .free "int", .free "bool", .free "tuple", .free "len", .free "str", .int "MOST_SIGNS" 8, .str "LETTERS" "abcdefghijklmnopqrstuvwxyz", .free "all", .free "range", .glo "is_wide", .int "MOST_LEVEL" 100, .glo "is_whole", .glo "climbs", .int "MOST_CHANNELS" 4, .glo "is_channel", .glo "is_cue", .int "MOST_NUMBER" 5, .glo "is_mode", .int "MOST_STEPS" 4, .glo "is_right_step", .glo "is_right_show", .exc "InvalidShow", .glo "InvalidShow", .glo "is_right_script", .glo "need_show", .free "sum", .glo "_law_pick", .glo "_law_chosen", .glo "_law_any_value", .free "list", .glo "_law_variant", .glo "_law_wide", .glo "_law_whole", .glo "_law_climbs", .glo "_law_is_channel", .glo "_law_good_cue", .free "zip", .glo "_law_good_step", .glo "_law_step", .glo "count_moves", .glo "_law_steps", .glo "is_step", .glo "_law_is_bool", .glo "is_script", .free "min", .free "max", .glo "_law_source", .glo "_law_script", .glo "_law_show", .glo "_law_size", .glo "_law_good_show", .glo "is_show", .glo "_law_refused", .glo "_law_good_script", .exm "InvalidShow" "InvalidShow" true, .glo "law"]
structure Txt (K : PySem.W.Frag) (mg : Str → Option Value) : Prop where
  src : ∃ h : Heap, K.In h ∧ h.Ns mainGlobals mg
  says : He.SaysD faL fnL K
abbrev gaK (K : PySem.W.Frag) (x : Str) : Addr := He.ga K x
section
variable {K : PySem.W.Frag} {mg : Str → Option Value}
theorem Txt.glo (T : Txt K mg) {i : Nat} {x : Str} (h : faL[i]? = some (.glo x)) : mg x = some (.ref (He.ga K x)) := let ⟨_, a, b⟩ := T.src; He.glo_ok a b (T.says.fact i h)
theorem Txt.free (T : Txt K mg) {i : Nat} {x : Str} (h : faL[i]? = some (.free x)) : mg x = none := let ⟨_, a, b⟩ := T.src; He.free_ok a b (T.says.fact i h)
def tokOf (o : Option Value) : Tok := match o with
  | some (.int _ t) => t
  | some (.str _ t) => t
  | _ => 0
theorem Txt.int (T : Txt K mg) {i : Nat} {x : Str} {n : Int} (h : faL[i]? = some (.int x n)) : mg x = some (.int n (tokOf (mg x))) := by
  obtain ⟨_, a, b⟩ := T.src
  obtain ⟨t, e⟩ := He.int_ok a b (T.says.fact i h)
  rw [e] <;> rfl
theorem Txt.str (T : Txt K mg) {i : Nat} {x z : Str} (h : faL[i]? = some (.str x z)) : mg x = some (.str z (tokOf (mg x))) := by
  obtain ⟨_, a, b⟩ := T.src
  obtain ⟨t, e⟩ := He.str_ok a b (T.says.fact i h)
  rw [e] <;> rfl
theorem Txt.exc (T : Txt K mg) {i : Nat} {x : Str} (h : faL[i]? = some (.exc x)) : PySem.W.excIn K (He.ga K x) He.veBase "ValueError.__new__" = true ∧ PySem.W.keepIn K (.ref (He.ga K x)) = true ∧ PySem.W.subIn K (.ref (He.ga K x)) (.type "BaseException") = some true ∧ PySem.W.typeIn K (.ref (He.ga K x)) = some (.type "type") := He.exc_ok (T.says.fact i h)
theorem Txt.exm (T : Txt K mg) {i : Nat} {x y : Str} {b : Bool} (h : faL[i]? = some (.exm x y b)) : PySem.W.exmOne K (.ref (He.ga K x)) (.ref (He.ga K y)) = some b := He.exm_ok (T.says.fact i h)
def fdK (K : PySem.W.Frag) (x : Str) : FuncData := match K.lookup (He.ga K x) with
  | some ⟨_, _, .func fd, _⟩ => fd
  | _ => default
theorem fd_of {x q : Str} {a : Arguments} {b : List Stmt} {s : Scope} {dv : List V} {kw : List (Str × V)} {fd : FuncData} (F : FunD K x q a b s dv kw (He.ga K x) fd) : FunD K x q a b s dv kw (He.ga K x) (fdK K x) := by
  obtain ⟨oc, od, dV, kV, doc, pm, an, cdv, ct, osl, e, lk, _⟩ := id F.ex
  have : fdK K x = fd := by unfold fdK; rw [lk]
  rw [this]; exact F
end
section
variable {P : Program} {w : World} {K : PySem.W.Frag} {mg : Str → Option Value} {base : Heap}
theorem S_is_whole : FnScope N_is_whole ["value", "low", "high"] (defScope s_is_whole) := ⟨rfl, rfl, rfl, by decide +kernel, rfl, by decide +kernel, by decide +kernel⟩
theorem fd_is_whole (T : Txt K mg) : FunD K "is_whole" "is_whole" (defArgs s_is_whole) (defBody s_is_whole) (defScope s_is_whole) [] [] (He.ga K "is_whole") (fdK K "is_whole") := let ⟨_, h⟩ := T.says.def_ 0 (d := d_is_whole) rfl; fd_of h
theorem bn_is_whole (T : Txt K mg) : Binds K (fdK K "is_whole") ["value", "low", "high"] [] := (fd_is_whole T).bindsN fun _ _ _ _ _ _ us hl => match us, hl with | [_, _, _], _ => rfl
theorem fn_is_whole (T : Txt K mg) : DFn P w K mg base 1 (He.ga K "is_whole") (fdK K "is_whole") ["value", "low", "high"] sp_is_whole :=
  def_ok (k := 0) (wb := b_is_whole) (fd_is_whole T) S_is_whole (fun _ _ _ _ h => ArOk.len (n := 3) _ _ _ _ h) (fun cdv A outer s H E G0 ED hr tk po => (
    (dss_one (ds_ret (de_and (de_isi .int (by rfl) (T.free (i := 0) rfl) (dv 0) (by rfl) (T.free (i := 1) rfl) (by decide +kernel)) (de_and (de_not (de_isi .bool (by rfl) (T.free (i := 0) rfl) (dv 0) (by rfl) (T.free (i := 2) rfl) (by decide +kernel))) (de_one (de_chain or_le od_ord or_le od_ord (dv 1) (dv 0) (dv 2)))))))))
    (fun ds G Q E h => ok_is_whole ds G Q E h)
theorem S_is_wide : FnScope N_is_wide ["value", "low", "high"] (defScope s_is_wide) := ⟨rfl, rfl, rfl, by decide +kernel, rfl, by decide +kernel, by decide +kernel⟩
theorem fd_is_wide (T : Txt K mg) : FunD K "is_wide" "is_wide" (defArgs s_is_wide) (defBody s_is_wide) (defScope s_is_wide) [] [] (He.ga K "is_wide") (fdK K "is_wide") := let ⟨_, h⟩ := T.says.def_ 1 (d := d_is_wide) rfl; fd_of h
theorem bn_is_wide (T : Txt K mg) : Binds K (fdK K "is_wide") ["value", "low", "high"] [] := (fd_is_wide T).bindsN fun _ _ _ _ _ _ us hl => match us, hl with | [_, _, _], _ => rfl
theorem fn_is_wide (T : Txt K mg) : DFn P w K mg base 1 (He.ga K "is_wide") (fdK K "is_wide") ["value", "low", "high"] sp_is_wide :=
  def_ok (k := 0) (wb := b_is_wide) (fd_is_wide T) S_is_wide (fun _ _ _ _ h => ArOk.len (n := 3) _ _ _ _ h) (fun cdv A outer s H E G0 ED hr tk po => (
    (dss_one (ds_ret (de_and (de_isi .tup (by rfl) (T.free (i := 0) rfl) (dv 0) (by rfl) (T.free (i := 3) rfl) (by decide +kernel)) (de_one (de_chain or_le od_ord or_le od_ord (dv 1) (de_callB (call_len) cd_len (by rfl) (T.free (i := 4) rfl) (by decide +kernel) (da_cons (dv 0) da_nil)) (dv 2))))))))
    (fun ds G Q E h => ok_is_wide ds G Q E h)
theorem S_is_channel : FnScope N_is_channel ["value"] (defScope s_is_channel) := ⟨rfl, rfl, rfl, by decide +kernel, rfl, by decide +kernel, by decide +kernel⟩
theorem fd_is_channel (T : Txt K mg) : FunD K "is_channel" "is_channel" (defArgs s_is_channel) (defBody s_is_channel) (defScope s_is_channel) [] [] (He.ga K "is_channel") (fdK K "is_channel") := let ⟨_, h⟩ := T.says.def_ 2 (d := d_is_channel) rfl; fd_of h
theorem bn_is_channel (T : Txt K mg) : Binds K (fdK K "is_channel") ["value"] [] := (fd_is_channel T).bindsN fun _ _ _ _ _ _ us hl => match us, hl with | [_], _ => rfl
theorem fn_is_channel (T : Txt K mg) : DFn P w K mg base 1 (He.ga K "is_channel") (fdK K "is_channel") ["value"] sp_is_channel :=
  def_ok (k := 0) (wb := b_is_channel) (fd_is_channel T) S_is_channel (fun _ _ _ _ h => ArOk.len (n := 1) _ _ _ _ h) (fun cdv A outer s H E G0 ED hr tk po => (
    (dss_cons (ds_if (dw_dt (dw_or (dt_not (dt_val (de_isi .str (by rfl) (T.free (i := 0) rfl) (dv 0) (by rfl) (T.free (i := 5) rfl) (by decide +kernel)))) (dw_or1 (dt_not (dt_chain or_le od_ord or_le od_ord de_int (de_callB (call_len) cd_len (by rfl) (T.free (i := 4) rfl) (by decide +kernel) (da_cons (dv 0) da_nil)) (de_gint (by rfl) (T.int (i := 6) rfl))))))) (dss_one (ds_ret de_bl)) dss_nil)
    (dss_one (ds_ret (de_callB (cr_all rfl) cd_all (by rfl) (T.free (i := 8) rfl) (by decide +kernel) (da_cons (de_lc (own := [("sign", 1)]) rfl S_is_channel.nd (di_str (dv 0)) (blkOk_by (N := N_is_channel) (sc := defScope s_is_channel) (by decide +kernel)) (own_name (by decide)) (fun _ _ _ _ _ => pgn 1 S_is_channel.nd) (fun _ _ _ _ _ => dts_nil) (fun _ _ _ _ _ => (de_cmp (or_in hr.units) od_inA (dv 1) (de_gstr (by rfl) (T.str (i := 7) rfl)) (by rfl)))) da_nil)))))))
    (fun ds G Q E h => ok_is_channel ds G Q E h)
theorem S_climbs : FnScope N_climbs ["row"] (defScope s_climbs) := ⟨rfl, rfl, rfl, by decide +kernel, rfl, by decide +kernel, by decide +kernel⟩
theorem fd_climbs (T : Txt K mg) : FunD K "climbs" "climbs" (defArgs s_climbs) (defBody s_climbs) (defScope s_climbs) [] [] (He.ga K "climbs") (fdK K "climbs") := let ⟨_, h⟩ := T.says.def_ 3 (d := d_climbs) rfl; fd_of h
theorem bn_climbs (T : Txt K mg) : Binds K (fdK K "climbs") ["row"] [] := (fd_climbs T).bindsN fun _ _ _ _ _ _ us hl => match us, hl with | [_], _ => rfl
theorem fn_climbs (T : Txt K mg) : DFn P w K mg base 1 (He.ga K "climbs") (fdK K "climbs") ["row"] sp_climbs :=
  def_ok (k := 0) (wb := b_climbs) (fd_climbs T) S_climbs (fun _ _ _ _ h => ArOk.len (n := 1) _ _ _ _ h) (fun cdv A outer s H E G0 ED hr tk po => (
    (dss_one (ds_ret (de_callB (cr_all rfl) cd_all (by rfl) (T.free (i := 8) rfl) (by decide +kernel) (da_cons (de_lc (own := [("at", 1)]) rfl S_climbs.nd (di_rng1 (by rfl) (T.free (i := 9) rfl) (da_cons (de_op op_sub od_sub (de_callB (call_len) cd_len (by rfl) (T.free (i := 4) rfl) (by decide +kernel) (da_cons (dv 0) da_nil)) de_int) da_nil)) (blkOk_by (N := N_climbs) (sc := defScope s_climbs) (by decide +kernel)) (own_name (by decide)) (fun _ _ _ _ _ => pgn 1 S_climbs.nd) (fun _ _ _ _ _ => dts_nil) (fun _ _ _ _ _ => (de_cmp or_lt od_ord (de_ix ix_seq od_ix (dv 0) (dv 1) (fun _ _ => rfl)) (de_ix ix_seq od_ix (dv 0) (de_op or_add od_add (dv 1) de_int) (fun _ _ => rfl)) (nomark _)))) da_nil))))))
    (fun ds G Q E h => ok_climbs ds G Q E h)
theorem S_is_cue : FnScope N_is_cue ["channels", "value"] (defScope s_is_cue) := ⟨rfl, rfl, rfl, by decide +kernel, rfl, by decide +kernel, by decide +kernel⟩
theorem fd_is_cue (T : Txt K mg) : FunD K "is_cue" "is_cue" (defArgs s_is_cue) (defBody s_is_cue) (defScope s_is_cue) [] [] (He.ga K "is_cue") (fdK K "is_cue") := let ⟨_, h⟩ := T.says.def_ 4 (d := d_is_cue) rfl; fd_of h
theorem bn_is_cue (T : Txt K mg) : Binds K (fdK K "is_cue") ["channels", "value"] [] := (fd_is_cue T).bindsN fun _ _ _ _ _ _ us hl => match us, hl with | [_, _], _ => rfl
theorem fn_is_cue (T : Txt K mg) : DFn P w K mg base 2 (He.ga K "is_cue") (fdK K "is_cue") ["channels", "value"] sp_is_cue :=
  def_ok (k := 1) (wb := b_is_cue) (fd_is_cue T) S_is_cue (fun _ _ _ _ h => ArOk.len (n := 2) _ _ _ _ h) (fun cdv A outer s H E G0 ED hr tk po => (
    (dss_cons (ds_if (dt_not (dt_val (de_isi .tup (by rfl) (T.free (i := 0) rfl) (dv 1) (by rfl) (T.free (i := 3) rfl) (by decide +kernel)))) (dss_one (ds_ret de_bl)) dss_nil)
    (dss_cons (ds_for po rfl (di_tup (dv 1)) (dgn 2 S_is_cue.nd) (dss_cons (ds_if (dw_dt (dw_or (dt_not (dt_val (de_call (fn_is_wide T) (hr.mono (by decide)) (by rfl) (T.glo (i := 10) rfl) (fd_is_wide T).kp (bn_is_wide T) tk (da_cons (dv 2) (da_cons de_int (da_cons de_int da_nil)))))) (dw_or (dt_not (dt_val (de_isi .str (by rfl) (T.free (i := 0) rfl) (de_ix ix_seq od_ix (dv 2) de_int (fun _ _ => rfl)) (by rfl) (T.free (i := 5) rfl) (by decide +kernel)))) (dw_or1 (dt_cmp (or_nin hr.units) od_inA (de_ix ix_seq od_ix (dv 2) de_int (fun _ _ => rfl)) (dv 0) (by rfl)))))) (dss_one (ds_ret de_bl)) dss_nil)
    (dss_one (ds_if (dt_not (dt_val (de_call (fn_is_whole T) (hr.mono (by decide)) (by rfl) (T.glo (i := 12) rfl) (fd_is_whole T).kp (bn_is_whole T) tk (da_cons (de_ix ix_seq od_ix (dv 2) de_int (fun _ _ => rfl)) (da_cons de_int (da_cons (de_gint (by rfl) (T.int (i := 11) rfl)) da_nil)))))) (dss_one (ds_ret de_bl)) dss_nil))))
    (dss_one (ds_ret (de_call (fn_climbs T) (hr.mono (by decide)) (by rfl) (T.glo (i := 13) rfl) (fd_climbs T).kp (bn_climbs T) tk (da_cons (de_lc (own := [("move", 2)]) rfl S_is_cue.nd (di_tup (dv 1)) (blkOk_by (N := N_is_cue) (sc := defScope s_is_cue) (by decide +kernel)) (own_name (by decide)) (fun _ _ _ _ _ => pgn 2 S_is_cue.nd) (fun _ _ _ _ _ => dts_nil) (fun _ _ _ _ _ => (de_ix ix_seq od_ix (dv 2) de_int (fun _ _ => rfl)))) da_nil))))))))
    (fun ds G Q E h => ok_is_cue ds G Q E h)
theorem S_is_right_show : FnScope N_is_right_show ["value"] (defScope s_is_right_show) := ⟨rfl, rfl, rfl, by decide +kernel, rfl, by decide +kernel, by decide +kernel⟩
theorem fd_is_right_show (T : Txt K mg) : FunD K "is_right_show" "is_right_show" (defArgs s_is_right_show) (defBody s_is_right_show) (defScope s_is_right_show) [] [] (He.ga K "is_right_show") (fdK K "is_right_show") := let ⟨_, h⟩ := T.says.def_ 5 (d := d_is_right_show) rfl; fd_of h
theorem bn_is_right_show (T : Txt K mg) : Binds K (fdK K "is_right_show") ["value"] [] := (fd_is_right_show T).bindsN fun _ _ _ _ _ _ us hl => match us, hl with | [_], _ => rfl
theorem fn_is_right_show (T : Txt K mg) : DFn P w K mg base 3 (He.ga K "is_right_show") (fdK K "is_right_show") ["value"] sp_is_right_show :=
  def_ok (k := 2) (wb := b_is_right_show) (fd_is_right_show T) S_is_right_show (fun _ _ _ _ h => ArOk.len (n := 1) _ _ _ _ h) (fun cdv A outer s H E G0 ED hr tk po => (
    (dss_cons (ds_if (dw_dt (dw_or (dt_not (dt_val (de_call (fn_is_wide T) (hr.mono (by decide)) (by rfl) (T.glo (i := 10) rfl) (fd_is_wide T).kp (bn_is_wide T) tk (da_cons (dv 0) (da_cons de_int (da_cons de_int da_nil)))))) (dw_or1 (dt_not (dt_val (de_call (fn_is_wide T) (hr.mono (by decide)) (by rfl) (T.glo (i := 10) rfl) (fd_is_wide T).kp (bn_is_wide T) tk (da_cons (de_ix ix_seq od_ix (dv 0) de_int (fun _ _ => rfl)) (da_cons de_int (da_cons (de_gint (by rfl) (T.int (i := 14) rfl)) da_nil))))))))) (dss_one (ds_ret de_bl)) dss_nil)
    (dss_cons (ds_if (dw_dt (dw_or (dt_not (dt_val (de_callB (cr_all rfl) cd_all (by rfl) (T.free (i := 8) rfl) (by decide +kernel) (da_cons (de_lc (own := [("channel", 2)]) rfl S_is_right_show.nd (di_tup (de_ix ix_seq od_ix (dv 0) de_int (fun _ _ => rfl))) (blkOk_by (N := N_is_right_show) (sc := defScope s_is_right_show) (by decide +kernel)) (own_name (by decide)) (fun _ _ _ _ _ => pgn 2 S_is_right_show.nd) (fun _ _ _ _ _ => dts_nil) (fun _ _ _ _ _ => (de_call (fn_is_channel T) (hr.mono (by decide)) (by rfl) (T.glo (i := 15) rfl) (fd_is_channel T).kp (bn_is_channel T) tk_no (da_cons (dv 2) da_nil)))) da_nil)))) (dw_or1 (dt_not (dt_val (de_call (fn_climbs T) (hr.mono (by decide)) (by rfl) (T.glo (i := 13) rfl) (fd_climbs T).kp (bn_climbs T) tk (da_cons (de_ix ix_seq od_ix (dv 0) de_int (fun _ _ => rfl)) da_nil))))))) (dss_one (ds_ret de_bl)) dss_nil)
    (dss_one (ds_ret (de_and (de_isi .tup (by rfl) (T.free (i := 0) rfl) (de_ix ix_seq od_ix (dv 0) de_int (fun _ _ => rfl)) (by rfl) (T.free (i := 3) rfl) (by decide +kernel)) (de_one (de_callB (cr_all rfl) cd_all (by rfl) (T.free (i := 8) rfl) (by decide +kernel) (da_cons (de_lc (own := [("cue", 1)]) rfl S_is_right_show.nd (di_tup (de_ix ix_seq od_ix (dv 0) de_int (fun _ _ => rfl))) (blkOk_by (N := N_is_right_show) (sc := defScope s_is_right_show) (by decide +kernel)) (own_name (by decide)) (fun _ _ _ _ _ => pgn 1 S_is_right_show.nd) (fun _ _ _ _ _ => dts_nil) (fun _ _ _ _ _ => (de_call (fn_is_cue T) (hr.mono (by decide)) (by rfl) (T.glo (i := 16) rfl) (fd_is_cue T).kp (bn_is_cue T) tk_no (da_cons (de_ix ix_seq od_ix (dv 0) de_int (fun _ _ => rfl)) (da_cons (dv 1) da_nil))))) da_nil))))))))))
    (fun ds G Q E h => ok_is_right_show ds G Q E h)
theorem S_is_mode : FnScope N_is_mode ["value", "modes"] (defScope s_is_mode) := ⟨rfl, rfl, rfl, by decide +kernel, rfl, by decide +kernel, by decide +kernel⟩
theorem fd_is_mode (T : Txt K mg) : FunD K "is_mode" "is_mode" (defArgs s_is_mode) (defBody s_is_mode) (defScope s_is_mode) [] [] (He.ga K "is_mode") (fdK K "is_mode") := let ⟨_, h⟩ := T.says.def_ 6 (d := d_is_mode) rfl; fd_of h
theorem bn_is_mode (T : Txt K mg) : Binds K (fdK K "is_mode") ["value", "modes"] [] := (fd_is_mode T).bindsN fun _ _ _ _ _ _ us hl => match us, hl with | [_, _], _ => rfl
theorem fn_is_mode (T : Txt K mg) : DFn P w K mg base 1 (He.ga K "is_mode") (fdK K "is_mode") ["value", "modes"] sp_is_mode :=
  def_ok (k := 0) (wb := b_is_mode) (fd_is_mode T) S_is_mode (fun _ _ _ _ h => ArOk.len (n := 2) _ _ _ _ h) (fun cdv A outer s H E G0 ED hr tk po => (
    (dss_one (ds_ret (de_and (de_isi .str (by rfl) (T.free (i := 0) rfl) (dv 0) (by rfl) (T.free (i := 5) rfl) (by decide +kernel)) (de_one (de_cmp (or_in hr.units) od_inA (dv 0) (dv 1) (by rfl))))))))
    (fun ds G Q E h => ok_is_mode ds G Q E h)
theorem S_is_right_step : FnScope N_is_right_step ["value"] (defScope s_is_right_step) := ⟨rfl, rfl, rfl, by decide +kernel, rfl, by decide +kernel, by decide +kernel⟩
theorem fd_is_right_step (T : Txt K mg) : FunD K "is_right_step" "is_right_step" (defArgs s_is_right_step) (defBody s_is_right_step) (defScope s_is_right_step) [] [] (He.ga K "is_right_step") (fdK K "is_right_step") := let ⟨_, h⟩ := T.says.def_ 7 (d := d_is_right_step) rfl; fd_of h
theorem bn_is_right_step (T : Txt K mg) : Binds K (fdK K "is_right_step") ["value"] [] := (fd_is_right_step T).bindsN fun _ _ _ _ _ _ us hl => match us, hl with | [_], _ => rfl
theorem fn_is_right_step (T : Txt K mg) : DFn P w K mg base 2 (He.ga K "is_right_step") (fdK K "is_right_step") ["value"] sp_is_right_step :=
  def_ok (k := 1) (wb := b_is_right_step) (fd_is_right_step T) S_is_right_step (fun _ _ _ _ h => ArOk.len (n := 1) _ _ _ _ h) (fun cdv A outer s H E G0 ED hr tk po => (
    (dss_cons (ds_if (dw_dt (dw_or (dt_not (dt_val (de_call (fn_is_wide T) (hr.mono (by decide)) (by rfl) (T.glo (i := 10) rfl) (fd_is_wide T).kp (bn_is_wide T) tk (da_cons (dv 0) (da_cons de_int (da_cons de_int da_nil)))))) (dw_or (dt_not (dt_val (de_isi .str (by rfl) (T.free (i := 0) rfl) (de_ix ix_seq od_ix (dv 0) de_int (fun _ _ => rfl)) (by rfl) (T.free (i := 5) rfl) (by decide +kernel)))) (dw_or1 (dt_not (dt_val (de_call (fn_is_whole T) (hr.mono (by decide)) (by rfl) (T.glo (i := 12) rfl) (fd_is_whole T).kp (bn_is_whole T) tk (da_cons (de_ix ix_seq od_ix (dv 0) de_int (fun _ _ => rfl)) (da_cons de_int (da_cons (de_gint (by rfl) (T.int (i := 17) rfl)) da_nil)))))))))) (dss_one (ds_ret de_bl)) dss_nil)
    (dss_cons (ds_par (i := 1) (j := 2) rfl S_is_right_step.nd rfl rfl (by decide) rfl rfl (da_cons (de_ix ix_seq od_ix (dv 0) de_int (fun _ _ => rfl)) (da_cons (de_slice (dv 0) (dp_some de_int) dp_none) da_nil)) (by rfl))
    (dss_cons (ds_if (dt_cmp (or_eq hr.units) od_eq (dv 1) de_str (nomark _)) (dss_cons (ds_if (dw_dt (dw_or (dt_cmp (or_ne hr.units) od_ne (de_callB (call_len) cd_len (by rfl) (T.free (i := 4) rfl) (by decide +kernel) (da_cons (dv 2) da_nil)) de_int (nomark _)) (dw_or (dt_not (dt_val (de_call (fn_is_channel T) (hr.mono (by decide)) (by rfl) (T.glo (i := 15) rfl) (fd_is_channel T).kp (bn_is_channel T) tk (da_cons (de_ix ix_seq od_ix (dv 2) de_int (fun _ _ => rfl)) da_nil)))) (dw_or1 (dt_not (dt_val (de_call (fn_is_whole T) (hr.mono (by decide)) (by rfl) (T.glo (i := 12) rfl) (fd_is_whole T).kp (bn_is_whole T) tk (da_cons (de_ix ix_seq od_ix (dv 2) de_int (fun _ _ => rfl)) (da_cons de_int (da_cons (de_gint (by rfl) (T.int (i := 11) rfl)) da_nil)))))))))) (dss_one (ds_ret de_bl)) dss_nil)
    (dss_one (ds_ret (de_call (fn_is_mode T) (hr.mono (by decide)) (by rfl) (T.glo (i := 18) rfl) (fd_is_mode T).kp (bn_is_mode T) tk (da_cons (de_ix ix_seq od_ix (dv 2) de_int (fun _ _ => rfl)) (da_cons (de_tup (da_cons de_str (da_cons de_str da_nil))) da_nil)))))) dss_nil)
    (dss_cons (ds_if (dt_cmp (or_eq hr.units) od_eq (dv 1) de_str (nomark _)) (dss_one (ds_ret (de_and (de_cmp (or_eq hr.units) od_eq (de_callB (call_len) cd_len (by rfl) (T.free (i := 4) rfl) (by decide +kernel) (da_cons (dv 2) da_nil)) de_int (nomark _)) (de_and (de_call (fn_is_channel T) (hr.mono (by decide)) (by rfl) (T.glo (i := 15) rfl) (fd_is_channel T).kp (bn_is_channel T) tk (da_cons (de_ix ix_seq od_ix (dv 2) de_int (fun _ _ => rfl)) da_nil)) (de_one (de_call (fn_is_mode T) (hr.mono (by decide)) (by rfl) (T.glo (i := 18) rfl) (fd_is_mode T).kp (bn_is_mode T) tk (da_cons (de_ix ix_seq od_ix (dv 2) de_int (fun _ _ => rfl)) (da_cons (de_tup (da_cons de_str (da_cons de_str da_nil))) da_nil)))))))) dss_nil)
    (dss_cons (ds_if (dt_cmp (or_eq hr.units) od_eq (dv 1) de_str (nomark _)) (dss_one (ds_ret (de_and (de_cmp (or_eq hr.units) od_eq (de_callB (call_len) cd_len (by rfl) (T.free (i := 4) rfl) (by decide +kernel) (da_cons (dv 2) da_nil)) de_int (nomark _)) (de_one (de_call (fn_is_mode T) (hr.mono (by decide)) (by rfl) (T.glo (i := 18) rfl) (fd_is_mode T).kp (bn_is_mode T) tk (da_cons (de_ix ix_seq od_ix (dv 2) de_int (fun _ _ => rfl)) (da_cons (de_tup (da_cons de_str (da_cons de_str da_nil))) da_nil))))))) dss_nil)
    (dss_cons (ds_if (dt_cmp (or_eq hr.units) od_eq (dv 1) de_str (nomark _)) (dss_one (ds_ret (de_and (de_cmp (or_eq hr.units) od_eq (de_callB (call_len) cd_len (by rfl) (T.free (i := 4) rfl) (by decide +kernel) (da_cons (dv 2) da_nil)) de_int (nomark _)) (de_and (de_call (fn_is_whole T) (hr.mono (by decide)) (by rfl) (T.glo (i := 12) rfl) (fd_is_whole T).kp (bn_is_whole T) tk (da_cons (de_ix ix_seq od_ix (dv 2) de_int (fun _ _ => rfl)) (da_cons de_int (da_cons (de_gint (by rfl) (T.int (i := 17) rfl)) da_nil)))) (de_one (de_cmp (or_ne hr.units) od_ne (de_ix ix_seq od_ix (dv 2) de_int (fun _ _ => rfl)) (de_ix ix_seq od_ix (dv 0) de_int (fun _ _ => rfl)) (nomark _))))))) dss_nil)
    (dss_one (ds_ret (de_and (de_cmp (or_in hr.units) od_inA (dv 1) (de_tup (da_cons de_str (da_cons de_str (da_cons de_str da_nil)))) (by rfl)) (de_one (de_cmp (or_eq hr.units) od_eq (dv 2) (de_tup da_nil) (nomark _))))))))))))))
    (fun ds G Q E h => ok_is_right_step ds G Q E h)
theorem S_is_right_script : FnScope N_is_right_script ["value"] (defScope s_is_right_script) := ⟨rfl, rfl, rfl, by decide +kernel, rfl, by decide +kernel, by decide +kernel⟩
theorem fd_is_right_script (T : Txt K mg) : FunD K "is_right_script" "is_right_script" (defArgs s_is_right_script) (defBody s_is_right_script) (defScope s_is_right_script) [] [] (He.ga K "is_right_script") (fdK K "is_right_script") := let ⟨_, h⟩ := T.says.def_ 8 (d := d_is_right_script) rfl; fd_of h
theorem bn_is_right_script (T : Txt K mg) : Binds K (fdK K "is_right_script") ["value"] [] := (fd_is_right_script T).bindsN fun _ _ _ _ _ _ us hl => match us, hl with | [_], _ => rfl
theorem fn_is_right_script (T : Txt K mg) : DFn P w K mg base 3 (He.ga K "is_right_script") (fdK K "is_right_script") ["value"] sp_is_right_script :=
  def_ok (k := 2) (wb := b_is_right_script) (fd_is_right_script T) S_is_right_script (fun _ _ _ _ h => ArOk.len (n := 1) _ _ _ _ h) (fun cdv A outer s H E G0 ED hr tk po => (
    (dss_one (ds_ret (de_and (de_call (fn_is_wide T) (hr.mono (by decide)) (by rfl) (T.glo (i := 10) rfl) (fd_is_wide T).kp (bn_is_wide T) tk (da_cons (dv 0) (da_cons de_int (da_cons (de_gint (by rfl) (T.int (i := 19) rfl)) da_nil)))) (de_one (de_callB (cr_all rfl) cd_all (by rfl) (T.free (i := 8) rfl) (by decide +kernel) (da_cons (de_lc (own := [("step", 1)]) rfl S_is_right_script.nd (di_tup (dv 0)) (blkOk_by (N := N_is_right_script) (sc := defScope s_is_right_script) (by decide +kernel)) (own_name (by decide)) (fun _ _ _ _ _ => pgn 1 S_is_right_script.nd) (fun _ _ _ _ _ => dts_nil) (fun _ _ _ _ _ => (de_call (fn_is_right_step T) (hr.mono (by decide)) (by rfl) (T.glo (i := 20) rfl) (fd_is_right_step T).kp (bn_is_right_step T) tk_no (da_cons (dv 1) da_nil)))) da_nil))))))))
    (fun ds G Q E h => ok_is_right_script ds G Q E h)
theorem S_need_show : FnScope N_need_show ["value"] (defScope s_need_show) := ⟨rfl, rfl, rfl, by decide +kernel, rfl, by decide +kernel, by decide +kernel⟩
theorem fd_need_show (T : Txt K mg) : FunD K "need_show" "need_show" (defArgs s_need_show) (defBody s_need_show) (defScope s_need_show) [] [] (He.ga K "need_show") (fdK K "need_show") := let ⟨_, h⟩ := T.says.def_ 9 (d := d_need_show) rfl; fd_of h
theorem bn_need_show (T : Txt K mg) : Binds K (fdK K "need_show") ["value"] [] := (fd_need_show T).bindsN fun _ _ _ _ _ _ us hl => match us, hl with | [_], _ => rfl
theorem fn_need_show (T : Txt K mg) : DFn P w K mg base 4 (He.ga K "need_show") (fdK K "need_show") ["value"] (sp_need_show (exC K).InvalidShow) :=
  def_ok (k := 3) (wb := b_need_show (exC K)) (fd_need_show T) S_need_show (fun _ _ _ _ h => ArOk.len (n := 1) _ _ _ _ h) (fun cdv A outer s H E G0 ED hr tk po => (
    (dss_one (ds_if (dt_not (dt_val (de_call (fn_is_right_show T) (hr.mono (by decide)) (by rfl) (T.glo (i := 21) rfl) (fd_is_right_show T).kp (bn_is_right_show T) tk (da_cons (dv 0) da_nil)))) (dss_one (ds_raise rfl tk PySem.F.excBase_ValueError (T.exc (i := 22) rfl).1 (T.glo (i := 23) rfl) (T.exc (i := 22) rfl).2.1 (raises_own (T.exc (i := 22) rfl).2.2.1 (T.exc (i := 22) rfl).2.2.2) (by rfl))) dss_nil))))
    (fun ds G Q E h => ok_need_show ds G Q E h)
theorem S_is_show : FnScope N_is_show ["value"] (defScope s_is_show) := ⟨rfl, rfl, rfl, by decide +kernel, rfl, by decide +kernel, by decide +kernel⟩
theorem fd_is_show (T : Txt K mg) : FunD K "is_show" "is_show" (defArgs s_is_show) (defBody s_is_show) (defScope s_is_show) [] [] (He.ga K "is_show") (fdK K "is_show") := let ⟨_, h⟩ := T.says.def_ 10 (d := d_is_show) rfl; fd_of h
theorem bn_is_show (T : Txt K mg) : Binds K (fdK K "is_show") ["value"] [] := (fd_is_show T).bindsN fun _ _ _ _ _ _ us hl => match us, hl with | [_], _ => rfl
theorem fn_is_show (T : Txt K mg) : DFn P w K mg base 4 (He.ga K "is_show") (fdK K "is_show") ["value"] sp_is_show :=
  def_ok (k := 3) (wb := b_is_show) (fd_is_show T) S_is_show (fun _ _ _ _ h => ArOk.len (n := 1) _ _ _ _ h) (fun cdv A outer s H E G0 ED hr tk po => (
    (dss_one (ds_ret (de_call (fn_is_right_show T) (hr.mono (by decide)) (by rfl) (T.glo (i := 21) rfl) (fd_is_right_show T).kp (bn_is_right_show T) tk (da_cons (dv 0) da_nil))))))
    (fun ds G Q E h => ok_is_show ds G Q E h)
theorem S_is_step : FnScope N_is_step ["value"] (defScope s_is_step) := ⟨rfl, rfl, rfl, by decide +kernel, rfl, by decide +kernel, by decide +kernel⟩
theorem fd_is_step (T : Txt K mg) : FunD K "is_step" "is_step" (defArgs s_is_step) (defBody s_is_step) (defScope s_is_step) [] [] (He.ga K "is_step") (fdK K "is_step") := let ⟨_, h⟩ := T.says.def_ 11 (d := d_is_step) rfl; fd_of h
theorem bn_is_step (T : Txt K mg) : Binds K (fdK K "is_step") ["value"] [] := (fd_is_step T).bindsN fun _ _ _ _ _ _ us hl => match us, hl with | [_], _ => rfl
theorem fn_is_step (T : Txt K mg) : DFn P w K mg base 3 (He.ga K "is_step") (fdK K "is_step") ["value"] sp_is_step :=
  def_ok (k := 2) (wb := b_is_step) (fd_is_step T) S_is_step (fun _ _ _ _ h => ArOk.len (n := 1) _ _ _ _ h) (fun cdv A outer s H E G0 ED hr tk po => (
    (dss_one (ds_ret (de_call (fn_is_right_step T) (hr.mono (by decide)) (by rfl) (T.glo (i := 20) rfl) (fd_is_right_step T).kp (bn_is_right_step T) tk (da_cons (dv 0) da_nil))))))
    (fun ds G Q E h => ok_is_step ds G Q E h)
theorem S_is_script : FnScope N_is_script ["value"] (defScope s_is_script) := ⟨rfl, rfl, rfl, by decide +kernel, rfl, by decide +kernel, by decide +kernel⟩
theorem fd_is_script (T : Txt K mg) : FunD K "is_script" "is_script" (defArgs s_is_script) (defBody s_is_script) (defScope s_is_script) [] [] (He.ga K "is_script") (fdK K "is_script") := let ⟨_, h⟩ := T.says.def_ 12 (d := d_is_script) rfl; fd_of h
theorem bn_is_script (T : Txt K mg) : Binds K (fdK K "is_script") ["value"] [] := (fd_is_script T).bindsN fun _ _ _ _ _ _ us hl => match us, hl with | [_], _ => rfl
theorem fn_is_script (T : Txt K mg) : DFn P w K mg base 4 (He.ga K "is_script") (fdK K "is_script") ["value"] sp_is_script :=
  def_ok (k := 3) (wb := b_is_script) (fd_is_script T) S_is_script (fun _ _ _ _ h => ArOk.len (n := 1) _ _ _ _ h) (fun cdv A outer s H E G0 ED hr tk po => (
    (dss_one (ds_ret (de_call (fn_is_right_script T) (hr.mono (by decide)) (by rfl) (T.glo (i := 24) rfl) (fd_is_right_script T).kp (bn_is_right_script T) tk (da_cons (dv 0) da_nil))))))
    (fun ds G Q E h => ok_is_script ds G Q E h)
theorem S_count_moves : FnScope N_count_moves ["show"] (defScope s_count_moves) := ⟨rfl, rfl, rfl, by decide +kernel, rfl, by decide +kernel, by decide +kernel⟩
theorem fd_count_moves (T : Txt K mg) : FunD K "count_moves" "count_moves" (defArgs s_count_moves) (defBody s_count_moves) (defScope s_count_moves) [] [] (He.ga K "count_moves") (fdK K "count_moves") := let ⟨_, h⟩ := T.says.def_ 13 (d := d_count_moves) rfl; fd_of h
theorem bn_count_moves (T : Txt K mg) : Binds K (fdK K "count_moves") ["show"] [] := (fd_count_moves T).bindsN fun _ _ _ _ _ _ us hl => match us, hl with | [_], _ => rfl
theorem fn_count_moves (T : Txt K mg) : DFn P w K mg base 5 (He.ga K "count_moves") (fdK K "count_moves") ["show"] (sp_count_moves (exC K).InvalidShow) :=
  def_ok (k := 4) (wb := b_count_moves (exC K)) (fd_count_moves T) S_count_moves (fun _ _ _ _ h => ArOk.len (n := 1) _ _ _ _ h) (fun cdv A outer s H E G0 ED hr tk po => (
    (dss_cons (ds_expr (de_call (fn_need_show T) (hr.mono (by decide)) (by rfl) (T.glo (i := 25) rfl) (fd_need_show T).kp (bn_need_show T) tk (da_cons (dv 0) da_nil)))
    (dss_one (ds_ret (de_callB (cr_sum rfl) cd_sum (by rfl) (T.free (i := 26) rfl) (by decide +kernel) (da_cons (de_lc (own := [("cue", 1)]) rfl S_count_moves.nd (di_tup (de_ix ix_seq od_ix (dv 0) de_int (fun _ _ => rfl))) (blkOk_by (N := N_count_moves) (sc := defScope s_count_moves) (by decide +kernel)) (own_name (by decide)) (fun _ _ _ _ _ => pgn 1 S_count_moves.nd) (fun _ _ _ _ _ => dts_nil) (fun _ _ _ _ _ => (de_callB (call_len) cd_len (by rfl) (T.free (i := 4) rfl) (by decide +kernel) (da_cons (dv 1) da_nil)))) da_nil)))))))
    (fun ds G Q E h => ok_count_moves ds G Q E h)
theorem S__law_source : FnScope N__law_source ["script", "k"] (defScope s__law_source) := ⟨rfl, rfl, rfl, by decide +kernel, rfl, by decide +kernel, by decide +kernel⟩
theorem fd__law_source (T : Txt K mg) : FunD K "_law_source" "_law_source" (defArgs s__law_source) (defBody s__law_source) (defScope s__law_source) [] [] (He.ga K "_law_source") (fdK K "_law_source") := let ⟨_, h⟩ := T.says.def_ 14 (d := d__law_source) rfl; fd_of h
theorem bn__law_source (T : Txt K mg) : Binds K (fdK K "_law_source") ["script", "k"] [] := (fd__law_source T).bindsN fun _ _ _ _ _ _ us hl => match us, hl with | [_, _], _ => rfl
theorem fn__law_source (T : Txt K mg) : DFn P w K mg base 1 (He.ga K "_law_source") (fdK K "_law_source") ["script", "k"] sp__law_source :=
  def_ok (k := 0) (wb := b__law_source) (fd__law_source T) S__law_source (fun _ _ _ _ h => ArOk.len (n := 2) _ _ _ _ h) (fun cdv A outer s H E G0 ED hr tk po => (
    (dss_cons (dsn 2 S__law_source.nd de_int)
    (dss_cons (ds_if (dt_cmp or_gt od_ord (de_callB (call_len) cd_len (by rfl) (T.free (i := 4) rfl) (by decide +kernel) (da_cons (dv 0) da_nil)) (dv 1) (nomark _)) (dss_one (dsn 2 S__law_source.nd (de_callTy (call_int1) cd_int1 (by rfl) (T.free (i := 1) rfl) (by decide +kernel) (da_cons (de_ix ix_seq od_ix (dv 0) (dv 1) (fun _ _ => rfl)) da_nil)))) dss_nil)
    (dss_cons (dsn 3 S__law_source.nd (de_op op_mod od_mod (de_op or_add od_add (de_op or_add od_add (de_op or_mul od_mul (dv 2) de_int) (de_op or_mul od_mul de_int (dv 1))) de_int) de_int))
    (dss_cons (dsn 3 S__law_source.nd (de_op or_add od_add (de_op or_add od_add (de_op op_mod od_mod (de_op or_mul od_mul (dv 3) (dv 3)) de_int) (de_op or_mul od_mul de_int (dv 1))) de_int))
    (dss_one (ds_ret (de_lst (da_cons (de_ifE (dt_cmp or_ge od_ord (dv 2) (de_op op_pow od_pow de_int de_int) (nomark _)) (dv 2) de_int) (da_cons (dv 3) da_nil)))))))))))
    (fun ds G Q E h => ok__law_source ds G Q E h)
theorem S__law_pick : FnScope N__law_pick ["source", "many"] (defScope s__law_pick) := ⟨rfl, rfl, rfl, by decide +kernel, rfl, by decide +kernel, by decide +kernel⟩
theorem fd__law_pick (T : Txt K mg) : FunD K "_law_pick" "_law_pick" (defArgs s__law_pick) (defBody s__law_pick) (defScope s__law_pick) [] [] (He.ga K "_law_pick") (fdK K "_law_pick") := let ⟨_, h⟩ := T.says.def_ 15 (d := d__law_pick) rfl; fd_of h
theorem bn__law_pick (T : Txt K mg) : Binds K (fdK K "_law_pick") ["source", "many"] [] := (fd__law_pick T).bindsN fun _ _ _ _ _ _ us hl => match us, hl with | [_, _], _ => rfl
theorem fn__law_pick (T : Txt K mg) : DFn P w K mg base 1 (He.ga K "_law_pick") (fdK K "_law_pick") ["source", "many"] sp__law_pick :=
  def_ok (k := 0) (wb := b__law_pick) (fd__law_pick T) S__law_pick (fun _ _ _ _ h => ArOk.len (n := 2) _ _ _ _ h) (fun cdv A outer s H E G0 ED hr tk po => (
    (dss_cons (ds_if (dt_cmp or_gt od_ord (de_ix ix_seq od_ix (dv 0) de_int (fun _ _ => rfl)) de_int (nomark _)) (dss_cons (dsn 2 S__law_pick.nd (de_op op_mod od_mod (de_callTy (call_int1) cd_int1 (by rfl) (T.free (i := 1) rfl) (by decide +kernel) (da_cons (de_ix ix_seq od_ix (dv 0) de_int (fun _ _ => rfl)) da_nil)) (dv 1)))
    (dss_cons (ds_asg (de_op op_fdiv od_fdiv (de_callTy (call_int1) cd_int1 (by rfl) (T.free (i := 1) rfl) (by decide +kernel) (da_cons (de_ix ix_seq od_ix (dv 0) de_int (fun _ _ => rfl)) da_nil)) (dv 1)) (dg_sub (dv 0) de_int))
    (dss_one (ds_ret (dv 2))))) dss_nil)
    (dss_cons (ds_asg (de_op op_mod od_mod (de_callTy (call_int1) cd_int1 (by rfl) (T.free (i := 1) rfl) (by decide +kernel) (da_cons (de_op or_add od_add (de_op or_mul od_mul (de_ix ix_seq od_ix (dv 0) de_int (fun _ _ => rfl)) de_int) de_int) da_nil)) de_int) (dg_sub (dv 0) de_int))
    (dss_one (ds_ret (de_op op_mod od_mod (de_op op_fdiv od_fdiv (de_op op_mod od_mod (de_callTy (call_int1) cd_int1 (by rfl) (T.free (i := 1) rfl) (by decide +kernel) (da_cons (de_op or_mul od_mul (de_ix ix_seq od_ix (dv 0) de_int (fun _ _ => rfl)) (de_ix ix_seq od_ix (dv 0) de_int (fun _ _ => rfl))) da_nil)) de_int) de_int) (dv 1))))))))
    (fun ds G Q E h => ok__law_pick ds G Q E h)
theorem S__law_chosen : FnScope N__law_chosen ["source", "things"] (defScope s__law_chosen) := ⟨rfl, rfl, rfl, by decide +kernel, rfl, by decide +kernel, by decide +kernel⟩
theorem fd__law_chosen (T : Txt K mg) : FunD K "_law_chosen" "_law_chosen" (defArgs s__law_chosen) (defBody s__law_chosen) (defScope s__law_chosen) [] [] (He.ga K "_law_chosen") (fdK K "_law_chosen") := let ⟨_, h⟩ := T.says.def_ 16 (d := d__law_chosen) rfl; fd_of h
theorem bn__law_chosen (T : Txt K mg) : Binds K (fdK K "_law_chosen") ["source", "things"] [] := (fd__law_chosen T).bindsN fun _ _ _ _ _ _ us hl => match us, hl with | [_, _], _ => rfl
theorem fn__law_chosen (T : Txt K mg) : DFn P w K mg base 2 (He.ga K "_law_chosen") (fdK K "_law_chosen") ["source", "things"] sp__law_chosen :=
  def_ok (k := 1) (wb := b__law_chosen) (fd__law_chosen T) S__law_chosen (fun _ _ _ _ h => ArOk.len (n := 2) _ _ _ _ h) (fun cdv A outer s H E G0 ED hr tk po => (
    (dss_one (ds_ret (de_ix ix_seq od_ix (dv 1) (de_call (fn__law_pick T) (hr.mono (by decide)) (by rfl) (T.glo (i := 27) rfl) (fd__law_pick T).kp (bn__law_pick T) tk (da_cons (dv 0) (da_cons (de_callB (call_len) cd_len (by rfl) (T.free (i := 4) rfl) (by decide +kernel) (da_cons (dv 1) da_nil)) da_nil))) (fun _ _ => rfl))))))
    (fun ds G Q E h => ok__law_chosen ds G Q E h)
theorem S__law_is_bool : FnScope N__law_is_bool ["told", "due"] (defScope s__law_is_bool) := ⟨rfl, rfl, rfl, by decide +kernel, rfl, by decide +kernel, by decide +kernel⟩
theorem fd__law_is_bool (T : Txt K mg) : FunD K "_law_is_bool" "_law_is_bool" (defArgs s__law_is_bool) (defBody s__law_is_bool) (defScope s__law_is_bool) [] [] (He.ga K "_law_is_bool") (fdK K "_law_is_bool") := let ⟨_, h⟩ := T.says.def_ 17 (d := d__law_is_bool) rfl; fd_of h
theorem bn__law_is_bool (T : Txt K mg) : Binds K (fdK K "_law_is_bool") ["told", "due"] [] := (fd__law_is_bool T).bindsN fun _ _ _ _ _ _ us hl => match us, hl with | [_, _], _ => rfl
theorem fn__law_is_bool (T : Txt K mg) : DFn P w K mg base 1 (He.ga K "_law_is_bool") (fdK K "_law_is_bool") ["told", "due"] sp__law_is_bool :=
  def_ok (k := 0) (wb := b__law_is_bool) (fd__law_is_bool T) S__law_is_bool (fun _ _ _ _ h => ArOk.len (n := 2) _ _ _ _ h) (fun cdv A outer s H E G0 ED hr tk po => (
    (dss_one (ds_ret (de_and (de_isi .bool (by rfl) (T.free (i := 0) rfl) (dv 0) (by rfl) (T.free (i := 2) rfl) (by decide +kernel)) (de_one (de_cmp (or_eq hr.units) od_eq (dv 0) (dv 1) (nomark _))))))))
    (fun ds G Q E h => ok__law_is_bool ds G Q E h)
theorem S__law_wide : FnScope N__law_wide ["value", "low", "high"] (defScope s__law_wide) := ⟨rfl, rfl, rfl, by decide +kernel, rfl, by decide +kernel, by decide +kernel⟩
theorem fd__law_wide (T : Txt K mg) : FunD K "_law_wide" "_law_wide" (defArgs s__law_wide) (defBody s__law_wide) (defScope s__law_wide) [] [] (He.ga K "_law_wide") (fdK K "_law_wide") := let ⟨_, h⟩ := T.says.def_ 18 (d := d__law_wide) rfl; fd_of h
theorem bn__law_wide (T : Txt K mg) : Binds K (fdK K "_law_wide") ["value", "low", "high"] [] := (fd__law_wide T).bindsN fun _ _ _ _ _ _ us hl => match us, hl with | [_, _, _], _ => rfl
theorem fn__law_wide (T : Txt K mg) : DFn P w K mg base 1 (He.ga K "_law_wide") (fdK K "_law_wide") ["value", "low", "high"] sp__law_wide :=
  def_ok (k := 0) (wb := b__law_wide) (fd__law_wide T) S__law_wide (fun _ _ _ _ h => ArOk.len (n := 3) _ _ _ _ h) (fun cdv A outer s H E G0 ED hr tk po => (
    (dss_one (ds_ret (de_and (de_isi .tup (by rfl) (T.free (i := 0) rfl) (dv 0) (by rfl) (T.free (i := 3) rfl) (by decide +kernel)) (de_one (de_chain or_le od_ord or_le od_ord (dv 1) (de_callB (call_len) cd_len (by rfl) (T.free (i := 4) rfl) (by decide +kernel) (da_cons (dv 0) da_nil)) (dv 2))))))))
    (fun ds G Q E h => ok__law_wide ds G Q E h)
theorem S__law_any_value : FnScope N__law_any_value ["source", "deep"] (defScope s__law_any_value) := ⟨rfl, rfl, rfl, by decide +kernel, rfl, by decide +kernel, by decide +kernel⟩
theorem fd__law_any_value (T : Txt K mg) : FunD K "_law_any_value" "_law_any_value" (defArgs s__law_any_value) (defBody s__law_any_value) (defScope s__law_any_value) [] [] (He.ga K "_law_any_value") (fdK K "_law_any_value") := let ⟨_, h⟩ := T.says.def_ 19 (d := d__law_any_value) rfl; fd_of h
theorem bn__law_any_value (T : Txt K mg) : Binds K (fdK K "_law_any_value") ["source", "deep"] [] := (fd__law_any_value T).bindsN fun _ _ _ _ _ _ us hl => match us, hl with | [_, _], _ => rfl
theorem st__law_any_value (T : Txt K mg) {R sp : DSp} {k : Nat} (hk : 2 ≤ k) (F : DFn P w K mg base k (He.ga K "_law_any_value") (fdK K "_law_any_value") ["source", "deep"] R) (hl : ∀ ds G Q E, sp ds G Q E → ds.length = 2) (hs : ∀ ds G Q E, sp ds G Q E → b__law_any_value R E { nx := fun _ G' => Q .non G', rt := Q } (startD N__law_any_value ds) G) : DFn P w K mg base (k + 1) (He.ga K "_law_any_value") (fdK K "_law_any_value") ["source", "deep"] sp :=
  def_ok (k := k) (wb := b__law_any_value R) (fd__law_any_value T) S__law_any_value hl (fun cdv A outer s H E G0 ED hr tk po => (
    (dss_cons (dsn 2 S__law_any_value.nd (de_lst (da_cons de_non (da_cons de_bl (da_cons de_bl (da_cons de_int (da_cons de_int (da_cons de_int (da_cons de_int (da_cons (de_un un_neg ud_neg de_int) (da_cons (de_op op_pow od_pow de_int de_int) (da_cons de_str (da_cons de_str (da_cons de_str (da_cons de_str (da_cons de_str (da_cons de_str (da_cons de_str (da_cons (de_tup da_nil) (da_cons (de_lst da_nil) (da_cons (de_tup (da_cons de_str da_nil)) da_nil)))))))))))))))))))))
    (dss_cons (dsn 3 S__law_any_value.nd (de_call (fn__law_pick T) (hr.mono (Nat.le_trans (by decide) hk)) (by rfl) (T.glo (i := 27) rfl) (fd__law_pick T).kp (bn__law_pick T) tk (da_cons (dv 0) (da_cons de_int da_nil))))
    (dss_cons (ds_if (dw_dt (dw_or (dt_cmp or_lt od_ord (dv 1) de_int (nomark _)) (dw_or1 (dt_cmp or_lt od_ord (dv 3) de_int (nomark _))))) (dss_one (ds_ret (de_call (fn__law_chosen T) (hr.mono (Nat.le_trans (by decide) hk)) (by rfl) (T.glo (i := 28) rfl) (fd__law_chosen T).kp (bn__law_chosen T) tk (da_cons (dv 0) (da_cons (dv 2) da_nil))))) dss_nil)
    (dss_cons (ds_setLc (i := 4) (own := [("turn", 5)]) rfl S__law_any_value.nd rfl rfl (sw_true rfl rfl rfl (by decide +kernel)) (di_rng1 (by rfl) (T.free (i := 9) rfl) (da_cons (de_call (fn__law_pick T) (hr.mono (Nat.le_trans (by decide) hk)) (by rfl) (T.glo (i := 27) rfl) (fd__law_pick T).kp (bn__law_pick T) tk (da_cons (dv 0) (da_cons de_int da_nil))) da_nil)) (blkOk_by (N := N__law_any_value) (sc := defScope s__law_any_value) (by decide +kernel)) (own_name (by decide)) (fun _ _ _ _ _ => pgn 5 S__law_any_value.nd) (fun _ _ _ _ _ => dts_nil) (fun _ _ _ _ _ => (de_call F (hr.mono (Nat.le_refl _)) (by rfl) (T.glo (i := 29) rfl) (fd__law_any_value T).kp (bn__law_any_value T) tk_no (da_cons (dv 0) (da_cons (de_op op_sub od_sub (dv 1) de_int) da_nil)))))
    (dss_one (ds_ret (de_ifE (dt_cmp (or_eq hr.units) od_eq (dv 3) de_int (nomark _)) (dv 4) (de_callTy (call_tuple_of) cd_tuple (by rfl) (T.free (i := 3) rfl) (by decide +kernel) (da_cons (dv 4) da_nil))))))))))) hs
theorem fr__law_any_value (T : Txt K mg) : ∀ n : Nat, DFn P w K mg base (3 + n) (He.ga K "_law_any_value") (fdK K "_law_any_value") ["source", "deep"] (sp__law_any_value_n n)
  | 0 => st__law_any_value T (by decide) DFn.none (fun _ _ _ _ h => ArOk.len (n := 2) _ _ _ _ h) (fun ds G Q E h => ok__law_any_value_0 ds G Q E h)
  | n + 1 => st__law_any_value T (Nat.le_trans (by decide) (Nat.le_add_right _ n)) (fr__law_any_value T n) (fun _ _ _ _ h => ArOk.len (n := 2) _ _ _ _ h) (fun ds G Q E h => ok__law_any_value_s n ds G Q E h)
theorem fn__law_any_value (T : Txt K mg) : DFn P w K mg base 6 (He.ga K "_law_any_value") (fdK K "_law_any_value") ["source", "deep"] sp__law_any_value := fr__law_any_value T 3
theorem S__law_variant : FnScope N__law_variant ["source", "value", "deep"] (defScope s__law_variant) := ⟨rfl, rfl, rfl, by decide +kernel, rfl, by decide +kernel, by decide +kernel⟩
theorem fd__law_variant (T : Txt K mg) : FunD K "_law_variant" "_law_variant" (defArgs s__law_variant) (defBody s__law_variant) (defScope s__law_variant) [] [] (He.ga K "_law_variant") (fdK K "_law_variant") := let ⟨_, h⟩ := T.says.def_ 20 (d := d__law_variant) rfl; fd_of h
theorem bn__law_variant (T : Txt K mg) : Binds K (fdK K "_law_variant") ["source", "value", "deep"] [] := (fd__law_variant T).bindsN fun _ _ _ _ _ _ us hl => match us, hl with | [_, _, _], _ => rfl
theorem st__law_variant (T : Txt K mg) {R sp : DSp} {k : Nat} (hk : 6 ≤ k) (F : DFn P w K mg base k (He.ga K "_law_variant") (fdK K "_law_variant") ["source", "value", "deep"] R) (hl : ∀ ds G Q E, sp ds G Q E → ds.length = 3) (hs : ∀ ds G Q E, sp ds G Q E → b__law_variant R E { nx := fun _ G' => Q .non G', rt := Q } (startD N__law_variant ds) G) : DFn P w K mg base (k + 1) (He.ga K "_law_variant") (fdK K "_law_variant") ["source", "value", "deep"] sp :=
  def_ok (k := k) (wb := b__law_variant R) (fd__law_variant T) S__law_variant hl (fun cdv A outer s H E G0 ED hr tk po => (
    (dss_cons (dsn 3 S__law_variant.nd (de_callTy (call_list_of) cd_list (by rfl) (T.free (i := 30) rfl) (by decide +kernel) (da_cons (dv 1) da_nil)))
    (dss_cons (ds_if (dt_cmp (or_eq hr.units) od_eq (dv 3) (de_lst da_nil) (nomark _)) (dss_one (ds_ret (de_tup (da_cons (de_call (fn__law_any_value T) (hr.mono (Nat.le_trans (by decide) hk)) (by rfl) (T.glo (i := 29) rfl) (fd__law_any_value T).kp (bn__law_any_value T) tk (da_cons (dv 0) (da_cons de_int da_nil))) da_nil)))) dss_nil)
    (dss_cons (ds_par (i := 5) (j := 6) rfl S__law_variant.nd rfl rfl (by decide) rfl rfl (da_cons (de_call (fn__law_pick T) (hr.mono (Nat.le_trans (by decide) hk)) (by rfl) (T.glo (i := 27) rfl) (fd__law_pick T).kp (bn__law_pick T) tk (da_cons (dv 0) (da_cons (de_callB (call_len) cd_len (by rfl) (T.free (i := 4) rfl) (by decide +kernel) (da_cons (dv 3) da_nil)) da_nil))) (da_cons (de_call (fn__law_pick T) (hr.mono (Nat.le_trans (by decide) hk)) (by rfl) (T.glo (i := 27) rfl) (fd__law_pick T).kp (bn__law_pick T) tk (da_cons (dv 0) (da_cons de_int da_nil))) da_nil)) (by rfl))
    (dss_cons (dsn 4 S__law_variant.nd (de_ix ix_seq od_ix (dv 3) (dv 5) (fun _ _ => rfl)))
    (dss_cons (ds_if (dw_dt (dw_and (dt_val (de_isi .tup (by rfl) (T.free (i := 0) rfl) (dv 4) (by rfl) (T.free (i := 3) rfl) (by decide +kernel))) (dw_and (dt_cmp or_gt od_ord (dv 2) de_int (nomark _)) (dw_and1 (dt_cmp or_gt od_ord (dv 6) de_int (nomark _)))))) (dss_one (ds_ret (de_op or_add od_add (de_op or_add od_add (de_callTy (call_tuple_of) cd_tuple (by rfl) (T.free (i := 3) rfl) (by decide +kernel) (da_cons (de_slice (dv 3) dp_none (dp_some (dv 5))) da_nil)) (de_tup (da_cons (de_call F (hr.mono (Nat.le_refl _)) (by rfl) (T.glo (i := 31) rfl) (fd__law_variant T).kp (bn__law_variant T) tk (da_cons (dv 0) (da_cons (dv 4) (da_cons (de_op op_sub od_sub (dv 2) de_int) da_nil)))) da_nil))) (de_callTy (call_tuple_of) cd_tuple (by rfl) (T.free (i := 3) rfl) (by decide +kernel) (da_cons (de_slice (dv 3) (dp_some (de_op or_add od_add (dv 5) de_int)) dp_none) da_nil))))) dss_nil)
    (dss_cons (ds_if (dt_cmp (or_eq hr.units) od_eq (dv 6) de_int (nomark _)) (dss_one (ds_ret (de_callTy (call_tuple_of) cd_tuple (by rfl) (T.free (i := 3) rfl) (by decide +kernel) (da_cons (de_op or_add od_add (de_slice (dv 3) dp_none (dp_some (dv 5))) (de_slice (dv 3) (dp_some (de_op or_add od_add (dv 5) de_int)) dp_none)) da_nil)))) dss_nil)
    (dss_cons (ds_if (dt_cmp (or_eq hr.units) od_eq (dv 6) de_int (nomark _)) (dss_one (ds_ret (de_callTy (call_tuple_of) cd_tuple (by rfl) (T.free (i := 3) rfl) (by decide +kernel) (da_cons (de_op or_add od_add (de_slice (dv 3) dp_none (dp_some (de_op or_add od_add (dv 5) de_int))) (de_slice (dv 3) (dp_some (dv 5)) dp_none)) da_nil)))) dss_nil)
    (dss_cons (ds_if (dt_cmp (or_eq hr.units) od_eq (dv 6) de_int (nomark _)) (dss_one (ds_ret (de_callTy (call_tuple_of) cd_tuple (by rfl) (T.free (i := 3) rfl) (by decide +kernel) (da_cons (de_op or_add od_add (de_op or_add od_add (de_slice (dv 3) dp_none (dp_some (dv 5))) (de_rev (de_slice (dv 3) (dp_some (dv 5)) (dp_some (de_op or_add od_add (dv 5) de_int))))) (de_slice (dv 3) (dp_some (de_op or_add od_add (dv 5) de_int)) dp_none)) da_nil)))) dss_nil)
    (dss_cons (ds_if (dt_cmp (or_eq hr.units) od_eq (dv 6) de_int (nomark _)) (dss_one (ds_ret (dv 3))) dss_nil)
    (dss_cons (ds_if (dt_cmp or_lt od_ord (dv 6) de_int (nomark _)) (dss_one (ds_asg (de_call (fn__law_any_value T) (hr.mono (Nat.le_trans (by decide) hk)) (by rfl) (T.glo (i := 29) rfl) (fd__law_any_value T).kp (bn__law_any_value T) tk (da_cons (dv 0) (da_cons de_int da_nil))) (dg_sub (dv 3) (dv 5)))) (dss_cons (dsn 7 S__law_variant.nd (de_lst (da_cons de_str (da_cons de_str (da_cons de_str (da_cons de_str (da_cons de_str (da_cons de_str (da_cons de_str (da_cons de_str (da_cons de_str (da_cons de_str (da_cons de_str (da_cons de_str (da_cons de_int da_nil)))))))))))))))
    (dss_one (ds_asg (de_call (fn__law_chosen T) (hr.mono (Nat.le_trans (by decide) hk)) (by rfl) (T.glo (i := 28) rfl) (fd__law_chosen T).kp (bn__law_chosen T) tk (da_cons (dv 0) (da_cons (de_op or_add od_add (dv 7) (de_lst (da_cons de_non (da_cons de_int (da_cons de_int (da_cons de_int (da_cons de_int (da_cons de_int (da_cons de_int (da_cons (de_tup da_nil) (da_cons (de_lst da_nil) da_nil))))))))))) da_nil))) (dg_sub (dv 3) (dv 5))))))
    (dss_one (ds_ret (de_callTy (call_tuple_of) cd_tuple (by rfl) (T.free (i := 3) rfl) (by decide +kernel) (da_cons (dv 3) da_nil)))))))))))))))) hs
theorem fr__law_variant (T : Txt K mg) : ∀ n : Nat, DFn P w K mg base (7 + n) (He.ga K "_law_variant") (fdK K "_law_variant") ["source", "value", "deep"] (sp__law_variant_n n)
  | 0 => st__law_variant T (by decide) DFn.none (fun _ _ _ _ h => ArOk.len (n := 3) _ _ _ _ h) (fun ds G Q E h => ok__law_variant_0 ds G Q E h)
  | n + 1 => st__law_variant T (Nat.le_trans (by decide) (Nat.le_add_right _ n)) (fr__law_variant T n) (fun _ _ _ _ h => ArOk.len (n := 3) _ _ _ _ h) (fun ds G Q E h => ok__law_variant_s n ds G Q E h)
theorem fn__law_variant (T : Txt K mg) : DFn P w K mg base 11 (He.ga K "_law_variant") (fdK K "_law_variant") ["source", "value", "deep"] sp__law_variant := fr__law_variant T 4
theorem S__law_whole : FnScope N__law_whole ["value", "low", "high"] (defScope s__law_whole) := ⟨rfl, rfl, rfl, by decide +kernel, rfl, by decide +kernel, by decide +kernel⟩
theorem fd__law_whole (T : Txt K mg) : FunD K "_law_whole" "_law_whole" (defArgs s__law_whole) (defBody s__law_whole) (defScope s__law_whole) [] [] (He.ga K "_law_whole") (fdK K "_law_whole") := let ⟨_, h⟩ := T.says.def_ 21 (d := d__law_whole) rfl; fd_of h
theorem bn__law_whole (T : Txt K mg) : Binds K (fdK K "_law_whole") ["value", "low", "high"] [] := (fd__law_whole T).bindsN fun _ _ _ _ _ _ us hl => match us, hl with | [_, _, _], _ => rfl
theorem fn__law_whole (T : Txt K mg) : DFn P w K mg base 1 (He.ga K "_law_whole") (fdK K "_law_whole") ["value", "low", "high"] sp__law_whole :=
  def_ok (k := 0) (wb := b__law_whole) (fd__law_whole T) S__law_whole (fun _ _ _ _ h => ArOk.len (n := 3) _ _ _ _ h) (fun cdv A outer s H E G0 ED hr tk po => (
    (dss_one (ds_ret (de_and (de_isi .int (by rfl) (T.free (i := 0) rfl) (dv 0) (by rfl) (T.free (i := 1) rfl) (by decide +kernel)) (de_and (de_not (de_isi .bool (by rfl) (T.free (i := 0) rfl) (dv 0) (by rfl) (T.free (i := 2) rfl) (by decide +kernel))) (de_one (de_chain or_le od_ord or_le od_ord (dv 1) (dv 0) (dv 2)))))))))
    (fun ds G Q E h => ok__law_whole ds G Q E h)
theorem S__law_is_channel : FnScope N__law_is_channel ["value"] (defScope s__law_is_channel) := ⟨rfl, rfl, rfl, by decide +kernel, rfl, by decide +kernel, by decide +kernel⟩
theorem fd__law_is_channel (T : Txt K mg) : FunD K "_law_is_channel" "_law_is_channel" (defArgs s__law_is_channel) (defBody s__law_is_channel) (defScope s__law_is_channel) [] [] (He.ga K "_law_is_channel") (fdK K "_law_is_channel") := let ⟨_, h⟩ := T.says.def_ 22 (d := d__law_is_channel) rfl; fd_of h
theorem bn__law_is_channel (T : Txt K mg) : Binds K (fdK K "_law_is_channel") ["value"] [] := (fd__law_is_channel T).bindsN fun _ _ _ _ _ _ us hl => match us, hl with | [_], _ => rfl
theorem fn__law_is_channel (T : Txt K mg) : DFn P w K mg base 1 (He.ga K "_law_is_channel") (fdK K "_law_is_channel") ["value"] sp__law_is_channel :=
  def_ok (k := 0) (wb := b__law_is_channel) (fd__law_is_channel T) S__law_is_channel (fun _ _ _ _ h => ArOk.len (n := 1) _ _ _ _ h) (fun cdv A outer s H E G0 ED hr tk po => (
    (dss_cons (ds_if (dw_dt (dw_or (dt_not (dt_val (de_isi .str (by rfl) (T.free (i := 0) rfl) (dv 0) (by rfl) (T.free (i := 5) rfl) (by decide +kernel)))) (dw_or1 (dt_not (dt_chain or_le od_ord or_le od_ord de_int (de_callB (call_len) cd_len (by rfl) (T.free (i := 4) rfl) (by decide +kernel) (da_cons (dv 0) da_nil)) de_int))))) (dss_one (ds_ret de_bl)) dss_nil)
    (dss_one (ds_ret (de_cmp (or_eq hr.units) od_eq (de_lc (own := [("sign", 1)]) rfl S__law_is_channel.nd (di_str (dv 0)) (blkOk_by (N := N__law_is_channel) (sc := defScope s__law_is_channel) (by decide +kernel)) (own_name (by decide)) (fun _ _ _ _ _ => pgn 1 S__law_is_channel.nd) (fun _ _ _ _ _ => (dts_one (dt_cmp (or_nin hr.units) od_inA (dv 1) de_str (by rfl)))) (fun _ _ _ _ _ => (dv 1))) (de_lst da_nil) (nomark _)))))))
    (fun ds G Q E h => ok__law_is_channel ds G Q E h)
theorem S__law_climbs : FnScope N__law_climbs ["row"] (defScope s__law_climbs) := ⟨rfl, rfl, rfl, by decide +kernel, rfl, by decide +kernel, by decide +kernel⟩
theorem fd__law_climbs (T : Txt K mg) : FunD K "_law_climbs" "_law_climbs" (defArgs s__law_climbs) (defBody s__law_climbs) (defScope s__law_climbs) [] [] (He.ga K "_law_climbs") (fdK K "_law_climbs") := let ⟨_, h⟩ := T.says.def_ 23 (d := d__law_climbs) rfl; fd_of h
theorem bn__law_climbs (T : Txt K mg) : Binds K (fdK K "_law_climbs") ["row"] [] := (fd__law_climbs T).bindsN fun _ _ _ _ _ _ us hl => match us, hl with | [_], _ => rfl
theorem fn__law_climbs (T : Txt K mg) : DFn P w K mg base 1 (He.ga K "_law_climbs") (fdK K "_law_climbs") ["row"] sp__law_climbs :=
  def_ok (k := 0) (wb := b__law_climbs) (fd__law_climbs T) S__law_climbs (fun _ _ _ _ h => ArOk.len (n := 1) _ _ _ _ h) (fun cdv A outer s H E G0 ED hr tk po => (
    (dss_one (ds_ret (de_cmp (or_eq hr.units) od_eq (de_lc (own := [("at", 1)]) rfl S__law_climbs.nd (di_rng1 (by rfl) (T.free (i := 9) rfl) (da_cons (de_op op_sub od_sub (de_callB (call_len) cd_len (by rfl) (T.free (i := 4) rfl) (by decide +kernel) (da_cons (dv 0) da_nil)) de_int) da_nil)) (blkOk_by (N := N__law_climbs) (sc := defScope s__law_climbs) (by decide +kernel)) (own_name (by decide)) (fun _ _ _ _ _ => pgn 1 S__law_climbs.nd) (fun _ _ _ _ _ => (dts_one (dt_cmp or_ge od_ord (de_ix ix_seq od_ix (dv 0) (dv 1) (fun _ _ => rfl)) (de_ix ix_seq od_ix (dv 0) (de_op or_add od_add (dv 1) de_int) (fun _ _ => rfl)) (nomark _)))) (fun _ _ _ _ _ => (dv 1))) (de_lst da_nil) (nomark _))))))
    (fun ds G Q E h => ok__law_climbs ds G Q E h)
theorem S__law_good_cue : FnScope N__law_good_cue ["channels", "value"] (defScope s__law_good_cue) := ⟨rfl, rfl, rfl, by decide +kernel, rfl, by decide +kernel, by decide +kernel⟩
theorem fd__law_good_cue (T : Txt K mg) : FunD K "_law_good_cue" "_law_good_cue" (defArgs s__law_good_cue) (defBody s__law_good_cue) (defScope s__law_good_cue) [] [] (He.ga K "_law_good_cue") (fdK K "_law_good_cue") := let ⟨_, h⟩ := T.says.def_ 24 (d := d__law_good_cue) rfl; fd_of h
theorem bn__law_good_cue (T : Txt K mg) : Binds K (fdK K "_law_good_cue") ["channels", "value"] [] := (fd__law_good_cue T).bindsN fun _ _ _ _ _ _ us hl => match us, hl with | [_, _], _ => rfl
theorem fn__law_good_cue (T : Txt K mg) : DFn P w K mg base 2 (He.ga K "_law_good_cue") (fdK K "_law_good_cue") ["channels", "value"] sp__law_good_cue :=
  def_ok (k := 1) (wb := b__law_good_cue) (fd__law_good_cue T) S__law_good_cue (fun _ _ _ _ h => ArOk.len (n := 2) _ _ _ _ h) (fun cdv A outer s H E G0 ED hr tk po => (
    (dss_cons (ds_if (dt_not (dt_val (de_isi .tup (by rfl) (T.free (i := 0) rfl) (dv 1) (by rfl) (T.free (i := 3) rfl) (by decide +kernel)))) (dss_one (ds_ret de_bl)) dss_nil)
    (dss_cons (ds_for po rfl (di_tup (dv 1)) (dgn 2 S__law_good_cue.nd) (dss_cons (ds_if (dw_dt (dw_or (dt_not (dt_val (de_call (fn__law_wide T) (hr.mono (by decide)) (by rfl) (T.glo (i := 32) rfl) (fd__law_wide T).kp (bn__law_wide T) tk (da_cons (dv 2) (da_cons de_int (da_cons de_int da_nil)))))) (dw_or (dt_not (dt_val (de_isi .str (by rfl) (T.free (i := 0) rfl) (de_ix ix_seq od_ix (dv 2) de_int (fun _ _ => rfl)) (by rfl) (T.free (i := 5) rfl) (by decide +kernel)))) (dw_or1 (dt_cmp (or_nin hr.units) od_inA (de_ix ix_seq od_ix (dv 2) de_int (fun _ _ => rfl)) (dv 0) (by rfl)))))) (dss_one (ds_ret de_bl)) dss_nil)
    (dss_one (ds_if (dt_not (dt_val (de_call (fn__law_whole T) (hr.mono (by decide)) (by rfl) (T.glo (i := 33) rfl) (fd__law_whole T).kp (bn__law_whole T) tk (da_cons (de_ix ix_seq od_ix (dv 2) de_int (fun _ _ => rfl)) (da_cons de_int (da_cons de_int da_nil)))))) (dss_one (ds_ret de_bl)) dss_nil))))
    (dss_one (ds_ret (de_call (fn__law_climbs T) (hr.mono (by decide)) (by rfl) (T.glo (i := 34) rfl) (fd__law_climbs T).kp (bn__law_climbs T) tk (da_cons (de_lc (own := [("move", 2)]) rfl S__law_good_cue.nd (di_tup (dv 1)) (blkOk_by (N := N__law_good_cue) (sc := defScope s__law_good_cue) (by decide +kernel)) (own_name (by decide)) (fun _ _ _ _ _ => pgn 2 S__law_good_cue.nd) (fun _ _ _ _ _ => dts_nil) (fun _ _ _ _ _ => (de_ix ix_seq od_ix (dv 2) de_int (fun _ _ => rfl)))) da_nil))))))))
    (fun ds G Q E h => ok__law_good_cue ds G Q E h)
theorem S__law_good_show : FnScope N__law_good_show ["value"] (defScope s__law_good_show) := ⟨rfl, rfl, rfl, by decide +kernel, rfl, by decide +kernel, by decide +kernel⟩
theorem fd__law_good_show (T : Txt K mg) : FunD K "_law_good_show" "_law_good_show" (defArgs s__law_good_show) (defBody s__law_good_show) (defScope s__law_good_show) [] [] (He.ga K "_law_good_show") (fdK K "_law_good_show") := let ⟨_, h⟩ := T.says.def_ 25 (d := d__law_good_show) rfl; fd_of h
theorem bn__law_good_show (T : Txt K mg) : Binds K (fdK K "_law_good_show") ["value"] [] := (fd__law_good_show T).bindsN fun _ _ _ _ _ _ us hl => match us, hl with | [_], _ => rfl
theorem fn__law_good_show (T : Txt K mg) : DFn P w K mg base 3 (He.ga K "_law_good_show") (fdK K "_law_good_show") ["value"] sp__law_good_show :=
  def_ok (k := 2) (wb := b__law_good_show) (fd__law_good_show T) S__law_good_show (fun _ _ _ _ h => ArOk.len (n := 1) _ _ _ _ h) (fun cdv A outer s H E G0 ED hr tk po => (
    (dss_cons (ds_if (dw_dt (dw_or (dt_not (dt_val (de_call (fn__law_wide T) (hr.mono (by decide)) (by rfl) (T.glo (i := 32) rfl) (fd__law_wide T).kp (bn__law_wide T) tk (da_cons (dv 0) (da_cons de_int (da_cons de_int da_nil)))))) (dw_or (dt_not (dt_val (de_call (fn__law_wide T) (hr.mono (by decide)) (by rfl) (T.glo (i := 32) rfl) (fd__law_wide T).kp (bn__law_wide T) tk (da_cons (de_ix ix_seq od_ix (dv 0) de_int (fun _ _ => rfl)) (da_cons de_int (da_cons de_int da_nil)))))) (dw_or1 (dt_not (dt_val (de_isi .tup (by rfl) (T.free (i := 0) rfl) (de_ix ix_seq od_ix (dv 0) de_int (fun _ _ => rfl)) (by rfl) (T.free (i := 3) rfl) (by decide +kernel)))))))) (dss_one (ds_ret de_bl)) dss_nil)
    (dss_cons (ds_if (dw_dt (dw_or (dt_cmp (or_ne hr.units) od_ne (de_lc (own := [("one", 2)]) rfl S__law_good_show.nd (di_tup (de_ix ix_seq od_ix (dv 0) de_int (fun _ _ => rfl))) (blkOk_by (N := N__law_good_show) (sc := defScope s__law_good_show) (by decide +kernel)) (own_name (by decide)) (fun _ _ _ _ _ => pgn 2 S__law_good_show.nd) (fun _ _ _ _ _ => (dts_one (dt_not (dt_val (de_call (fn__law_is_channel T) (hr.mono (by decide)) (by rfl) (T.glo (i := 35) rfl) (fd__law_is_channel T).kp (bn__law_is_channel T) tk_no (da_cons (dv 2) da_nil)))))) (fun _ _ _ _ _ => (dv 2))) (de_lst da_nil) (nomark _)) (dw_or1 (dt_not (dt_val (de_call (fn__law_climbs T) (hr.mono (by decide)) (by rfl) (T.glo (i := 34) rfl) (fd__law_climbs T).kp (bn__law_climbs T) tk (da_cons (de_ix ix_seq od_ix (dv 0) de_int (fun _ _ => rfl)) da_nil))))))) (dss_one (ds_ret de_bl)) dss_nil)
    (dss_one (ds_ret (de_cmp (or_eq hr.units) od_eq (de_lc (own := [("cue", 1)]) rfl S__law_good_show.nd (di_tup (de_ix ix_seq od_ix (dv 0) de_int (fun _ _ => rfl))) (blkOk_by (N := N__law_good_show) (sc := defScope s__law_good_show) (by decide +kernel)) (own_name (by decide)) (fun _ _ _ _ _ => pgn 1 S__law_good_show.nd) (fun _ _ _ _ _ => (dts_one (dt_not (dt_val (de_call (fn__law_good_cue T) (hr.mono (by decide)) (by rfl) (T.glo (i := 36) rfl) (fd__law_good_cue T).kp (bn__law_good_cue T) tk_no (da_cons (de_ix ix_seq od_ix (dv 0) de_int (fun _ _ => rfl)) (da_cons (dv 1) da_nil))))))) (fun _ _ _ _ _ => (dv 1))) (de_lst da_nil) (nomark _))))))))
    (fun ds G Q E h => ok__law_good_show ds G Q E h)
theorem S__law_good_step : FnScope N__law_good_step ["value"] (defScope s__law_good_step) := ⟨rfl, rfl, rfl, by decide +kernel, rfl, by decide +kernel, by decide +kernel⟩
theorem fd__law_good_step (T : Txt K mg) : FunD K "_law_good_step" "_law_good_step" (defArgs s__law_good_step) (defBody s__law_good_step) (defScope s__law_good_step) [] [] (He.ga K "_law_good_step") (fdK K "_law_good_step") := let ⟨_, h⟩ := T.says.def_ 26 (d := d__law_good_step) rfl; fd_of h
theorem bn__law_good_step (T : Txt K mg) : Binds K (fdK K "_law_good_step") ["value"] [] := (fd__law_good_step T).bindsN fun _ _ _ _ _ _ us hl => match us, hl with | [_], _ => rfl
theorem fn__law_good_step (T : Txt K mg) : DFn P w K mg base 2 (He.ga K "_law_good_step") (fdK K "_law_good_step") ["value"] sp__law_good_step :=
  def_ok (k := 1) (wb := b__law_good_step) (fd__law_good_step T) S__law_good_step (fun _ _ _ _ h => ArOk.len (n := 1) _ _ _ _ h) (fun cdv A outer s H E G0 ED hr tk po => (
    (dss_cons (ds_if (dw_dt (dw_or (dt_not (dt_val (de_isi .tup (by rfl) (T.free (i := 0) rfl) (dv 0) (by rfl) (T.free (i := 3) rfl) (by decide +kernel)))) (dw_or (dt_cmp or_lt od_ord (de_callB (call_len) cd_len (by rfl) (T.free (i := 4) rfl) (by decide +kernel) (da_cons (dv 0) da_nil)) de_int (nomark _)) (dw_or1 (dt_not (dt_val (de_isi .str (by rfl) (T.free (i := 0) rfl) (de_ix ix_seq od_ix (dv 0) de_int (fun _ _ => rfl)) (by rfl) (T.free (i := 5) rfl) (by decide +kernel)))))))) (dss_one (ds_ret de_bl)) dss_nil)
    (dss_cons (ds_if (dt_not (dt_val (de_call (fn__law_whole T) (hr.mono (by decide)) (by rfl) (T.glo (i := 33) rfl) (fd__law_whole T).kp (bn__law_whole T) tk (da_cons (de_ix ix_seq od_ix (dv 0) de_int (fun _ _ => rfl)) (da_cons de_int (da_cons de_int da_nil)))))) (dss_one (ds_ret de_bl)) dss_nil)
    (dss_cons (dsn 1 S__law_good_step.nd (de_dict (dd_cons de_str de_str (dd_cons de_str de_str (dd_cons de_str de_str (dd_cons de_str de_str (dd_cons de_str de_str (dd_cons de_str de_str (dd_cons de_str de_str dd_nil))))))) (by rfl) rfl (by simp) (by decide)))
    (dss_cons (dsn 2 S__law_good_step.nd (de_dget hr.units (dv 1) (de_ix ix_seq od_ix (dv 0) de_int (fun _ _ => rfl)) de_str ⟨rfl, rfl, rfl, rfl⟩))
    (dss_cons (ds_if (dw_dt (dw_or (dt_cmp (or_ne hr.units) od_ne (de_callB (call_len) cd_len (by rfl) (T.free (i := 4) rfl) (by decide +kernel) (da_cons (dv 0) da_nil)) (de_op or_add od_add de_int (de_callB (call_len) cd_len (by rfl) (T.free (i := 4) rfl) (by decide +kernel) (da_cons (dv 2) da_nil))) (nomark _)) (dw_or1 (dt_cmp (or_eq hr.units) od_eq (dv 2) de_str (nomark _))))) (dss_one (ds_ret de_bl)) dss_nil)
    (dss_cons (ds_for po rfl (di_zip (by rfl) (T.free (i := 37) rfl) (da_cons (dv 2) (da_cons (de_slice (dv 0) (dp_some de_int) dp_none) da_nil))) (dg_tup rfl (dgs_cons (dgn 3 S__law_good_step.nd) (dgs_cons (dgn 4 S__law_good_step.nd) dgs_nil))) (dss_cons (dsn 5 S__law_good_step.nd (de_or (de_and (de_cmp (or_eq hr.units) od_eq (dv 3) de_str (nomark _)) (de_one (de_call (fn__law_is_channel T) (hr.mono (by decide)) (by rfl) (T.glo (i := 35) rfl) (fd__law_is_channel T).kp (bn__law_is_channel T) tk (da_cons (dv 4) da_nil)))) (de_one (de_and (de_cmp (or_eq hr.units) od_eq (dv 3) de_str (nomark _)) (de_one (de_call (fn__law_whole T) (hr.mono (by decide)) (by rfl) (T.glo (i := 33) rfl) (fd__law_whole T).kp (bn__law_whole T) tk (da_cons (dv 4) (da_cons de_int (da_cons de_int da_nil)))))))))
    (dss_cons (dsn 5 S__law_good_step.nd (de_or (dv 5) (de_one (de_and (de_cmp (or_eq hr.units) od_eq (dv 3) de_str (nomark _)) (de_and (de_call (fn__law_whole T) (hr.mono (by decide)) (by rfl) (T.glo (i := 33) rfl) (fd__law_whole T).kp (bn__law_whole T) tk (da_cons (dv 4) (da_cons de_int (da_cons de_int da_nil)))) (de_one (de_cmp (or_ne hr.units) od_ne (dv 4) (de_ix ix_seq od_ix (dv 0) de_int (fun _ _ => rfl)) (nomark _))))))))
    (dss_cons (ds_if (dw_dt (dw_and (dt_cmp (or_in hr.units) od_inA (dv 3) de_str (by rfl)) (dw_and1 (dt_val (de_isi .str (by rfl) (T.free (i := 0) rfl) (dv 4) (by rfl) (T.free (i := 5) rfl) (by decide +kernel)))))) (dss_one (dsn 5 S__law_good_step.nd (de_cmp (or_in hr.units) od_inA (dv 4) (de_ifE (dt_cmp (or_eq hr.units) od_eq (dv 3) de_str (nomark _)) (de_lst (da_cons de_str (da_cons de_str da_nil))) (de_lst (da_cons de_str (da_cons de_str da_nil)))) (by rfl)))) dss_nil)
    (dss_one (ds_if (dt_not (dt_val (dv 5))) (dss_one (ds_ret de_bl)) dss_nil))))))
    (dss_one (ds_ret de_bl))))))))))
    (fun ds G Q E h => ok__law_good_step ds G Q E h)
theorem S__law_good_script : FnScope N__law_good_script ["value"] (defScope s__law_good_script) := ⟨rfl, rfl, rfl, by decide +kernel, rfl, by decide +kernel, by decide +kernel⟩
theorem fd__law_good_script (T : Txt K mg) : FunD K "_law_good_script" "_law_good_script" (defArgs s__law_good_script) (defBody s__law_good_script) (defScope s__law_good_script) [] [] (He.ga K "_law_good_script") (fdK K "_law_good_script") := let ⟨_, h⟩ := T.says.def_ 27 (d := d__law_good_script) rfl; fd_of h
theorem bn__law_good_script (T : Txt K mg) : Binds K (fdK K "_law_good_script") ["value"] [] := (fd__law_good_script T).bindsN fun _ _ _ _ _ _ us hl => match us, hl with | [_], _ => rfl
theorem fn__law_good_script (T : Txt K mg) : DFn P w K mg base 3 (He.ga K "_law_good_script") (fdK K "_law_good_script") ["value"] sp__law_good_script :=
  def_ok (k := 2) (wb := b__law_good_script) (fd__law_good_script T) S__law_good_script (fun _ _ _ _ h => ArOk.len (n := 1) _ _ _ _ h) (fun cdv A outer s H E G0 ED hr tk po => (
    (dss_one (ds_ret (de_and (de_call (fn__law_wide T) (hr.mono (by decide)) (by rfl) (T.glo (i := 32) rfl) (fd__law_wide T).kp (bn__law_wide T) tk (da_cons (dv 0) (da_cons de_int (da_cons de_int da_nil)))) (de_one (de_cmp (or_eq hr.units) od_eq (de_lc (own := [("one", 1)]) rfl S__law_good_script.nd (di_tup (dv 0)) (blkOk_by (N := N__law_good_script) (sc := defScope s__law_good_script) (by decide +kernel)) (own_name (by decide)) (fun _ _ _ _ _ => pgn 1 S__law_good_script.nd) (fun _ _ _ _ _ => (dts_one (dt_not (dt_val (de_call (fn__law_good_step T) (hr.mono (by decide)) (by rfl) (T.glo (i := 38) rfl) (fd__law_good_step T).kp (bn__law_good_step T) tk_no (da_cons (dv 1) da_nil)))))) (fun _ _ _ _ _ => (dv 1))) (de_lst da_nil) (nomark _))))))))
    (fun ds G Q E h => ok__law_good_script ds G Q E h)
theorem S__law_step : FnScope N__law_step ["source", "most"] (defScope s__law_step) := ⟨rfl, rfl, rfl, by decide +kernel, rfl, by decide +kernel, by decide +kernel⟩
theorem fd__law_step (T : Txt K mg) : FunD K "_law_step" "_law_step" (defArgs s__law_step) (defBody s__law_step) (defScope s__law_step) [] [] (He.ga K "_law_step") (fdK K "_law_step") := let ⟨_, h⟩ := T.says.def_ 28 (d := d__law_step) rfl; fd_of h
theorem bn__law_step (T : Txt K mg) : Binds K (fdK K "_law_step") ["source", "most"] [] := (fd__law_step T).bindsN fun _ _ _ _ _ _ us hl => match us, hl with | [_, _], _ => rfl
theorem fn__law_step (T : Txt K mg) : DFn P w K mg base 3 (He.ga K "_law_step") (fdK K "_law_step") ["source", "most"] sp__law_step :=
  def_ok (k := 2) (wb := b__law_step) (fd__law_step T) S__law_step (fun _ _ _ _ h => ArOk.len (n := 2) _ _ _ _ h) (fun cdv A outer s H E G0 ED hr tk po => (
    (dss_cons (ds_par (i := 2) (j := 3) rfl S__law_step.nd rfl rfl (by decide) rfl rfl (da_cons (de_op or_add od_add de_int (de_call (fn__law_pick T) (hr.mono (by decide)) (by rfl) (T.glo (i := 27) rfl) (fd__law_pick T).kp (bn__law_pick T) tk (da_cons (dv 0) (da_cons (dv 1) da_nil)))) (da_cons (de_call (fn__law_chosen T) (hr.mono (by decide)) (by rfl) (T.glo (i := 28) rfl) (fd__law_chosen T).kp (bn__law_chosen T) tk (da_cons (dv 0) (da_cons (de_lst (da_cons de_str (da_cons de_str (da_cons de_str (da_cons de_str da_nil))))) da_nil))) da_nil)) (by rfl))
    (dss_cons (ds_par (i := 4) (j := 5) rfl S__law_step.nd rfl rfl (by decide) rfl rfl (da_cons (de_call (fn__law_pick T) (hr.mono (by decide)) (by rfl) (T.glo (i := 27) rfl) (fd__law_pick T).kp (bn__law_pick T) tk (da_cons (dv 0) (da_cons de_int da_nil))) (da_cons (de_call (fn__law_chosen T) (hr.mono (by decide)) (by rfl) (T.glo (i := 28) rfl) (fd__law_chosen T).kp (bn__law_chosen T) tk (da_cons (dv 0) (da_cons (de_lst (da_cons de_str (da_cons de_str da_nil))) da_nil))) da_nil)) (by rfl))
    (dss_cons (ds_if (dt_cmp or_lt od_ord (dv 4) de_int (nomark _)) (dss_cons (dsn 6 S__law_step.nd (de_call (fn__law_chosen T) (hr.mono (by decide)) (by rfl) (T.glo (i := 28) rfl) (fd__law_chosen T).kp (bn__law_chosen T) tk (da_cons (dv 0) (da_cons (de_lst (da_cons de_int (da_cons de_int (da_cons de_int (da_cons (de_call (fn__law_pick T) (hr.mono (by decide)) (by rfl) (T.glo (i := 27) rfl) (fd__law_pick T).kp (bn__law_pick T) tk (da_cons (dv 0) (da_cons de_int da_nil))) da_nil))))) da_nil))))
    (dss_one (ds_ret (de_tup (da_cons de_str (da_cons (dv 2) (da_cons (dv 3) (da_cons (dv 6) (da_cons (dv 5) da_nil))))))))) dss_nil)
    (dss_cons (ds_if (dt_cmp or_lt od_ord (dv 4) de_int (nomark _)) (dss_one (ds_ret (de_tup (da_cons de_str (da_cons (dv 2) (da_cons (dv 3) (da_cons (dv 5) da_nil))))))) dss_nil)
    (dss_cons (ds_if (dt_cmp or_lt od_ord (dv 4) de_int (nomark _)) (dss_one (ds_ret (de_tup (da_cons de_str (da_cons (dv 2) (da_cons (de_call (fn__law_chosen T) (hr.mono (by decide)) (by rfl) (T.glo (i := 28) rfl) (fd__law_chosen T).kp (bn__law_chosen T) tk (da_cons (dv 0) (da_cons (de_lst (da_cons de_str (da_cons de_str da_nil))) da_nil))) da_nil)))))) dss_nil)
    (dss_cons (ds_if (dt_cmp (or_eq hr.units) od_eq (dv 4) de_int (nomark _)) (dss_one (ds_ret (de_tup (da_cons de_str (da_cons (dv 2) (da_cons (de_op or_add od_add (de_op or_add od_add de_int (de_callTy (call_int1) cd_int1 (by rfl) (T.free (i := 1) rfl) (by decide +kernel) (da_cons (de_cmp (or_eq hr.units) od_eq (dv 2) de_int (nomark _)) da_nil))) (de_op or_mul od_mul (de_op or_mul od_mul (de_callTy (call_int1) cd_int1 (by rfl) (T.free (i := 1) rfl) (by decide +kernel) (da_cons (de_cmp (or_eq hr.units) od_eq (dv 2) de_int (nomark _)) da_nil)) (de_call (fn__law_pick T) (hr.mono (by decide)) (by rfl) (T.glo (i := 27) rfl) (fd__law_pick T).kp (bn__law_pick T) tk (da_cons (dv 0) (da_cons de_int da_nil)))) de_int)) da_nil)))))) dss_nil)
    (dss_one (ds_ret (de_tup (da_cons (de_call (fn__law_chosen T) (hr.mono (by decide)) (by rfl) (T.glo (i := 28) rfl) (fd__law_chosen T).kp (bn__law_chosen T) tk (da_cons (dv 0) (da_cons (de_lst (da_cons de_str (da_cons de_str (da_cons de_str da_nil)))) da_nil))) (da_cons (dv 2) da_nil)))))))))))))
    (fun ds G Q E h => ok__law_step ds G Q E h)
theorem S__law_script : FnScope N__law_script ["source", "most", "number"] (defScope s__law_script) := ⟨rfl, rfl, rfl, by decide +kernel, rfl, by decide +kernel, by decide +kernel⟩
theorem fd__law_script (T : Txt K mg) : FunD K "_law_script" "_law_script" (defArgs s__law_script) (defBody s__law_script) (defScope s__law_script) [] [] (He.ga K "_law_script") (fdK K "_law_script") := let ⟨_, h⟩ := T.says.def_ 29 (d := d__law_script) rfl; fd_of h
theorem bn__law_script (T : Txt K mg) : Binds K (fdK K "_law_script") ["source", "most", "number"] [] := (fd__law_script T).bindsN fun _ _ _ _ _ _ us hl => match us, hl with | [_, _, _], _ => rfl
theorem fn__law_script (T : Txt K mg) : DFn P w K mg base 4 (He.ga K "_law_script") (fdK K "_law_script") ["source", "most", "number"] sp__law_script :=
  def_ok (k := 3) (wb := b__law_script) (fd__law_script T) S__law_script (fun _ _ _ _ h => ArOk.len (n := 3) _ _ _ _ h) (fun cdv A outer s H E G0 ED hr tk po => (
    (dss_one (ds_ret (de_callTy (call_tuple_of) cd_tuple (by rfl) (T.free (i := 3) rfl) (by decide +kernel) (da_cons (de_lc (own := [("turn", 3)]) rfl S__law_script.nd (di_rng1 (by rfl) (T.free (i := 9) rfl) (da_cons (de_call (fn__law_pick T) (hr.mono (by decide)) (by rfl) (T.glo (i := 27) rfl) (fd__law_pick T).kp (bn__law_pick T) tk (da_cons (dv 0) (da_cons (de_op or_add od_add (dv 1) de_int) da_nil))) da_nil)) (blkOk_by (N := N__law_script) (sc := defScope s__law_script) (by decide +kernel)) (own_name (by decide)) (fun _ _ _ _ _ => pgn 3 S__law_script.nd) (fun _ _ _ _ _ => dts_nil) (fun _ _ _ _ _ => (de_call (fn__law_step T) (hr.mono (by decide)) (by rfl) (T.glo (i := 39) rfl) (fd__law_step T).kp (bn__law_step T) tk_no (da_cons (dv 0) (da_cons (dv 2) da_nil))))) da_nil))))))
    (fun ds G Q E h => ok__law_script ds G Q E h)
theorem S__law_show : FnScope N__law_show ["source", "most"] (defScope s__law_show) := ⟨rfl, rfl, rfl, by decide +kernel, rfl, by decide +kernel, by decide +kernel⟩
theorem fd__law_show (T : Txt K mg) : FunD K "_law_show" "_law_show" (defArgs s__law_show) (defBody s__law_show) (defScope s__law_show) [] [] (He.ga K "_law_show") (fdK K "_law_show") := let ⟨_, h⟩ := T.says.def_ 30 (d := d__law_show) rfl; fd_of h
theorem bn__law_show (T : Txt K mg) : Binds K (fdK K "_law_show") ["source", "most"] [] := (fd__law_show T).bindsN fun _ _ _ _ _ _ us hl => match us, hl with | [_, _], _ => rfl
theorem fn__law_show (T : Txt K mg) : DFn P w K mg base 3 (He.ga K "_law_show") (fdK K "_law_show") ["source", "most"] sp__law_show :=
  def_ok (k := 2) (wb := b__law_show) (fd__law_show T) S__law_show (fun _ _ _ _ h => ArOk.len (n := 2) _ _ _ _ h) (fun cdv A outer s H E G0 ED hr tk po => (
    (dss_cons (dsn 2 S__law_show.nd (de_call (fn__law_chosen T) (hr.mono (by decide)) (by rfl) (T.glo (i := 28) rfl) (fd__law_chosen T).kp (bn__law_chosen T) tk (da_cons (dv 0) (da_cons (de_lst (da_cons (de_tup (da_cons de_str da_nil)) (da_cons (de_tup (da_cons de_str (da_cons de_str da_nil))) (da_cons (de_tup (da_cons de_str (da_cons de_str da_nil))) (da_cons (de_tup (da_cons de_str (da_cons de_str da_nil))) (da_cons (de_tup (da_cons de_str (da_cons de_str (da_cons de_str (da_cons de_str da_nil))))) da_nil)))))) da_nil))))
    (dss_cons (dsn 3 S__law_show.nd (de_tup da_nil))
    (dss_cons (ds_for po rfl (di_rng1 (by rfl) (T.free (i := 9) rfl) (da_cons (de_call (fn__law_pick T) (hr.mono (by decide)) (by rfl) (T.glo (i := 27) rfl) (fd__law_pick T).kp (bn__law_pick T) tk (da_cons (dv 0) (da_cons (de_op or_add od_add (dv 1) de_int) da_nil))) da_nil)) (dgn 4 S__law_show.nd) (dss_cons (dsn 5 S__law_show.nd (de_tup da_nil))
    (dss_cons (ds_for po rfl (di_tup (dv 2)) (dgn 6 S__law_show.nd) (dss_cons (dsn 7 S__law_show.nd (de_call (fn__law_chosen T) (hr.mono (by decide)) (by rfl) (T.glo (i := 28) rfl) (fd__law_chosen T).kp (bn__law_chosen T) tk (da_cons (dv 0) (da_cons (de_lst (da_cons de_int (da_cons de_int (da_cons de_int (da_cons de_int (da_cons (de_call (fn__law_pick T) (hr.mono (by decide)) (by rfl) (T.glo (i := 27) rfl) (fd__law_pick T).kp (bn__law_pick T) tk (da_cons (dv 0) (da_cons de_int da_nil))) da_nil)))))) da_nil))))
    (dss_one (ds_if (dt_cmp or_lt od_ord (de_call (fn__law_pick T) (hr.mono (by decide)) (by rfl) (T.glo (i := 27) rfl) (fd__law_pick T).kp (bn__law_pick T) tk (da_cons (dv 0) (da_cons de_int da_nil))) de_int (nomark _)) (dss_one (dsn 5 S__law_show.nd (de_op or_add od_add (dv 5) (de_tup (da_cons (de_tup (da_cons (dv 6) (da_cons (dv 7) da_nil))) da_nil))))) dss_nil))))
    (dss_one (dsn 3 S__law_show.nd (de_op or_add od_add (dv 3) (de_tup (da_cons (dv 5) da_nil))))))))
    (dss_one (ds_ret (de_tup (da_cons (dv 2) (da_cons (dv 3) da_nil))))))))))
    (fun ds G Q E h => ok__law_show ds G Q E h)
theorem S__law_size : FnScope N__law_size ["show"] (defScope s__law_size) := ⟨rfl, rfl, rfl, by decide +kernel, rfl, by decide +kernel, by decide +kernel⟩
theorem fd__law_size (T : Txt K mg) : FunD K "_law_size" "_law_size" (defArgs s__law_size) (defBody s__law_size) (defScope s__law_size) [] [] (He.ga K "_law_size") (fdK K "_law_size") := let ⟨_, h⟩ := T.says.def_ 31 (d := d__law_size) rfl; fd_of h
theorem bn__law_size (T : Txt K mg) : Binds K (fdK K "_law_size") ["show"] [] := (fd__law_size T).bindsN fun _ _ _ _ _ _ us hl => match us, hl with | [_], _ => rfl
theorem fn__law_size (T : Txt K mg) : DFn P w K mg base 1 (He.ga K "_law_size") (fdK K "_law_size") ["show"] sp__law_size :=
  def_ok (k := 0) (wb := b__law_size) (fd__law_size T) S__law_size (fun _ _ _ _ h => ArOk.len (n := 1) _ _ _ _ h) (fun cdv A outer s H E G0 ED hr tk po => (
    (dss_one (ds_ret (de_callB (cr_sum rfl) cd_sum (by rfl) (T.free (i := 26) rfl) (by decide +kernel) (da_cons (de_lc (own := [("cue", 1)]) rfl S__law_size.nd (di_tup (de_ix ix_seq od_ix (dv 0) de_int (fun _ _ => rfl))) (blkOk_by (N := N__law_size) (sc := defScope s__law_size) (by decide +kernel)) (own_name (by decide)) (fun _ _ _ _ _ => pgn 1 S__law_size.nd) (fun _ _ _ _ _ => dts_nil) (fun _ _ _ _ _ => (de_callB (call_len) cd_len (by rfl) (T.free (i := 4) rfl) (by decide +kernel) (da_cons (dv 1) da_nil)))) da_nil))))))
    (fun ds G Q E h => ok__law_size ds G Q E h)
theorem S__law_steps : FnScope N__law_steps [] (defScope s__law_steps) := ⟨rfl, rfl, rfl, by decide +kernel, rfl, by decide +kernel, by decide +kernel⟩
theorem fd__law_steps (T : Txt K mg) : FunD K "_law_steps" "_law_steps" (defArgs s__law_steps) (defBody s__law_steps) (defScope s__law_steps) [] [] (He.ga K "_law_steps") (fdK K "_law_steps") := let ⟨_, h⟩ := T.says.def_ 32 (d := d__law_steps) rfl; fd_of h
theorem bn__law_steps (T : Txt K mg) : Binds K (fdK K "_law_steps") [] [] := (fd__law_steps T).bindsN fun _ _ _ _ _ _ us hl => match us, hl with | [], _ => rfl
theorem fn__law_steps (T : Txt K mg) : DFn P w K mg base 1 (He.ga K "_law_steps") (fdK K "_law_steps") [] sp__law_steps :=
  def_ok (k := 0) (wb := b__law_steps) (fd__law_steps T) S__law_steps (fun _ _ _ _ h => ArOk.len (n := 0) _ _ _ _ h) (fun cdv A outer s H E G0 ED hr tk po => (
    (dss_cons (dsn 0 S__law_steps.nd (de_lst (da_cons (de_tup (da_cons (de_tup (da_cons de_str (da_cons de_int (da_cons de_str (da_cons de_int (da_cons de_str da_nil)))))) (da_cons de_bl da_nil))) (da_cons (de_tup (da_cons (de_tup (da_cons de_str (da_cons de_int (da_cons de_str (da_cons de_int (da_cons de_str da_nil)))))) (da_cons de_bl da_nil))) (da_cons (de_tup (da_cons (de_tup (da_cons de_str (da_cons de_int da_nil))) (da_cons de_bl da_nil))) da_nil)))))
    (dss_cons (dsn 0 S__law_steps.nd (de_op or_add od_add (dv 0) (de_lst (da_cons (de_tup (da_cons (de_tup (da_cons de_str (da_cons de_int (da_cons de_str (da_cons de_int (da_cons de_str da_nil)))))) (da_cons de_bl da_nil))) (da_cons (de_tup (da_cons (de_tup (da_cons de_str (da_cons de_int (da_cons de_str (da_cons de_int (da_cons de_str da_nil)))))) (da_cons de_bl da_nil))) (da_cons (de_tup (da_cons (de_tup (da_cons de_str (da_cons de_int da_nil))) (da_cons de_bl da_nil))) da_nil))))))
    (dss_cons (dsn 0 S__law_steps.nd (de_op or_add od_add (dv 0) (de_lst (da_cons (de_tup (da_cons (de_tup (da_cons de_str (da_cons de_int (da_cons de_str (da_cons de_int (da_cons de_str da_nil)))))) (da_cons de_bl da_nil))) (da_cons (de_tup (da_cons (de_tup (da_cons de_str (da_cons de_int (da_cons de_str (da_cons de_bl (da_cons de_str da_nil)))))) (da_cons de_bl da_nil))) da_nil)))))
    (dss_cons (dsn 0 S__law_steps.nd (de_op or_add od_add (dv 0) (de_lst (da_cons (de_tup (da_cons (de_tup (da_cons de_str (da_cons de_int (da_cons de_str (da_cons de_int (da_cons de_str da_nil)))))) (da_cons de_bl da_nil))) (da_cons (de_tup (da_cons (de_tup (da_cons de_str (da_cons de_int (da_cons de_str (da_cons de_int (da_cons de_str da_nil)))))) (da_cons de_bl da_nil))) da_nil)))))
    (dss_cons (ds_expr (de_bm PySem.F.plainAttrs_list PySem.F.slot_list_append PySem.F.type_list_append mt_append md_append (dv 0) (da_cons (de_tup (da_cons (de_tup (da_cons de_str (da_cons de_int (da_cons de_str (da_cons de_int da_nil))))) (da_cons de_bl da_nil))) da_nil)))
    (dss_cons (dsn 0 S__law_steps.nd (de_op or_add od_add (dv 0) (de_lst (da_cons (de_tup (da_cons (de_tup (da_cons de_str (da_cons de_int (da_cons de_str da_nil)))) (da_cons de_bl da_nil))) (da_cons (de_tup (da_cons (de_tup (da_cons de_str (da_cons de_int (da_cons de_str (da_cons de_str da_nil))))) (da_cons de_bl da_nil))) (da_cons (de_tup (da_cons (de_tup (da_cons de_str (da_cons de_int (da_cons de_str (da_cons de_str da_nil))))) (da_cons de_bl da_nil))) da_nil))))))
    (dss_cons (dsn 0 S__law_steps.nd (de_op or_add od_add (dv 0) (de_lst (da_cons (de_tup (da_cons (de_tup (da_cons de_str (da_cons de_int da_nil))) (da_cons de_bl da_nil))) (da_cons (de_tup (da_cons (de_tup (da_cons de_str (da_cons de_int (da_cons de_str da_nil)))) (da_cons de_bl da_nil))) (da_cons (de_tup (da_cons (de_tup (da_cons de_str (da_cons de_int (da_cons de_str da_nil)))) (da_cons de_bl da_nil))) da_nil))))))
    (dss_cons (dsn 0 S__law_steps.nd (de_op or_add od_add (dv 0) (de_lst (da_cons (de_tup (da_cons (de_tup (da_cons de_str (da_cons de_int (da_cons de_int da_nil)))) (da_cons de_bl da_nil))) (da_cons (de_tup (da_cons (de_tup (da_cons de_str (da_cons de_int (da_cons de_int da_nil)))) (da_cons de_bl da_nil))) (da_cons (de_tup (da_cons (de_tup (da_cons de_str (da_cons de_int (da_cons de_int da_nil)))) (da_cons de_bl da_nil))) (da_cons (de_tup (da_cons (de_tup (da_cons de_str (da_cons de_int da_nil))) (da_cons de_bl da_nil))) da_nil)))))))
    (dss_cons (dsn 0 S__law_steps.nd (de_op or_add od_add (dv 0) (de_lst (da_cons (de_tup (da_cons (de_tup (da_cons de_str (da_cons de_int da_nil))) (da_cons de_bl da_nil))) (da_cons (de_tup (da_cons (de_tup (da_cons de_str (da_cons de_int (da_cons de_int da_nil)))) (da_cons de_bl da_nil))) (da_cons (de_tup (da_cons (de_tup (da_cons de_str (da_cons de_bl da_nil))) (da_cons de_bl da_nil))) (da_cons (de_tup (da_cons (de_tup (da_cons de_str (da_cons de_int da_nil))) (da_cons de_bl da_nil))) da_nil)))))))
    (dss_one (ds_ret (de_op or_add od_add (dv 0) (de_lst (da_cons (de_tup (da_cons (de_lst (da_cons de_str (da_cons de_int da_nil))) (da_cons de_bl da_nil))) (da_cons (de_tup (da_cons (de_tup (da_cons de_non (da_cons de_int da_nil))) (da_cons de_bl da_nil))) (da_cons (de_tup (da_cons (de_tup (da_cons de_str da_nil)) (da_cons de_bl da_nil))) (da_cons (de_tup (da_cons de_str (da_cons de_bl da_nil))) da_nil)))))))))))))))))))
    (fun ds G Q E h => ok__law_steps ds G Q E h)
theorem S__law_refused : FnScope N__law_refused ["value"] (defScope s__law_refused) := ⟨rfl, rfl, rfl, by decide +kernel, rfl, by decide +kernel, by decide +kernel⟩
theorem fd__law_refused (T : Txt K mg) : FunD K "_law_refused" "_law_refused" (defArgs s__law_refused) (defBody s__law_refused) (defScope s__law_refused) [] [] (He.ga K "_law_refused") (fdK K "_law_refused") := let ⟨_, h⟩ := T.says.def_ 33 (d := d__law_refused) rfl; fd_of h
theorem bn__law_refused (T : Txt K mg) : Binds K (fdK K "_law_refused") ["value"] [] := (fd__law_refused T).bindsN fun _ _ _ _ _ _ us hl => match us, hl with | [_], _ => rfl
theorem fn__law_refused (T : Txt K mg) : DFn P w K mg base 6 (He.ga K "_law_refused") (fdK K "_law_refused") ["value"] sp__law_refused_k01 :=
  def_ok (k := 5) (wb := b__law_refused_k01 K (exC K)) (fd__law_refused T) S__law_refused (fun _ _ _ _ h => ArOk.len (n := 1) _ _ _ _ h) (fun cdv A outer s H E G0 ED hr tk po => (
    (dss_cons (ds_try1 rfl rfl ⟨rfl, by decide, .inl (T.glo (i := 23) rfl)⟩ tk (fun _ _ U1 pn xe tk1 po => (dss_one (ds_expr (de_call (fn_count_moves T) (hr.mono (by decide)) (by rfl) (T.glo (i := 40) rfl) (fd_count_moves T).kp (bn_count_moves T) tk1 (da_cons (dv 0) da_nil))))) (fun a pn => (dss_one (ds_ret de_bl))))
    (dss_one (ds_ret de_bl)))))
    (fun ds G Q E h => ok__law_refused_k01 (T.exm (i := 55) rfl) ds G Q E h)
theorem S_law : FnScope N_law ["script"] (defScope s_law) := ⟨rfl, rfl, rfl, by decide +kernel, rfl, by decide +kernel, by decide +kernel⟩
theorem fd_law (T : Txt K mg) : FunD K "law" "law" (defArgs s_law) (defBody s_law) (defScope s_law) [] [] (He.ga K "law") (fdK K "law") := let ⟨_, h⟩ := T.says.def_ 34 (d := d_law) rfl; fd_of h
theorem bn_law (T : Txt K mg) : Binds K (fdK K "law") ["script"] [] := (fd_law T).bindsN fun _ _ _ _ _ _ us hl => match us, hl with | [_], _ => rfl
theorem fn_law (T : Txt K mg) : DFn P w K mg base 12 (He.ga K "law") (fdK K "law") ["script"] sp_law_k01 :=
  def_ok (k := 11) (wb := b_law_k01 (exC K)) (fd_law T) S_law (fun _ _ _ _ h => ArOk.len (n := 1) _ _ _ _ h) (fun cdv A outer s H E G0 ED hr tk po => (
    (dss_cons (ds_for po rfl (di_lst (de_call0 (fn__law_steps T) (hr.mono (by decide)) (by rfl) (T.glo (i := 41) rfl) (fd__law_steps T).kp (bn__law_steps T) tk)) (dg_tup rfl (dgs_cons (dgn 2 S_law.nd) (dgs_cons (dgn 3 S_law.nd) dgs_nil))) (dss_one (ds_if (dw_dt (dw_or (dt_not (dt_val (de_call (fn__law_is_bool T) (hr.mono (by decide)) (by rfl) (T.glo (i := 43) rfl) (fd__law_is_bool T).kp (bn__law_is_bool T) tk (da_cons (de_call (fn_is_step T) (hr.mono (by decide)) (by rfl) (T.glo (i := 42) rfl) (fd_is_step T).kp (bn_is_step T) tk (da_cons (dv 2) da_nil)) (da_cons (dv 3) da_nil))))) (dw_or1 (dt_not (dt_val (de_call (fn__law_is_bool T) (hr.mono (by decide)) (by rfl) (T.glo (i := 43) rfl) (fd__law_is_bool T).kp (bn__law_is_bool T) tk (da_cons (de_call (fn_is_script T) (hr.mono (by decide)) (by rfl) (T.glo (i := 44) rfl) (fd_is_script T).kp (bn_is_script T) tk (da_cons (de_tup (da_cons (dv 2) da_nil)) da_nil)) (da_cons (dv 3) da_nil)))))))) (dss_one (ds_ret de_bl)) dss_nil)))
    (dss_cons (ds_for po rfl (di_rng1 (by rfl) (T.free (i := 9) rfl) (da_cons (de_callB (call_max2 rfl) cd_max2 (by rfl) (T.free (i := 46) rfl) (by decide +kernel) (da_cons de_int (da_cons (de_callB (call_min2 rfl) cd_min2 (by rfl) (T.free (i := 45) rfl) (by decide +kernel) (da_cons de_int (da_cons (de_callB (call_len) cd_len (by rfl) (T.free (i := 4) rfl) (by decide +kernel) (da_cons (dv 0) da_nil)) da_nil))) da_nil))) da_nil)) (dgn 1 S_law.nd) (dss_cons (dsn 4 S_law.nd (de_call (fn__law_source T) (hr.mono (by decide)) (by rfl) (T.glo (i := 47) rfl) (fd__law_source T).kp (bn__law_source T) tk (da_cons (dv 0) (da_cons (dv 1) da_nil))))
    (dss_cons (ds_par (i := 7) (j := 8) rfl S_law.nd rfl rfl (by decide) rfl rfl (da_cons (de_call (fn__law_show T) (hr.mono (by decide)) (by rfl) (T.glo (i := 49) rfl) (fd__law_show T).kp (bn__law_show T) tk (da_cons (dv 4) (da_cons de_int da_nil))) (da_cons (de_call (fn__law_script T) (hr.mono (by decide)) (by rfl) (T.glo (i := 48) rfl) (fd__law_script T).kp (bn__law_script T) tk (da_cons (dv 4) (da_cons de_int (da_cons de_int da_nil)))) da_nil)) (by rfl))
    (dss_cons (ds_if (dt_cmp (or_ne hr.units) od_ne (de_call (fn_count_moves T) (hr.mono (by decide)) (by rfl) (T.glo (i := 40) rfl) (fd_count_moves T).kp (bn_count_moves T) tk (da_cons (dv 7) da_nil)) (de_call (fn__law_size T) (hr.mono (by decide)) (by rfl) (T.glo (i := 50) rfl) (fd__law_size T).kp (bn__law_size T) tk (da_cons (dv 7) da_nil)) (nomark _)) (dss_one (ds_ret de_bl)) dss_nil)
    (dss_cons (dsn 5 S_law.nd (de_lst (da_cons (dv 7) (da_cons (de_callTy (call_list_of) cd_list (by rfl) (T.free (i := 30) rfl) (by decide +kernel) (da_cons (dv 7) da_nil)) (da_cons (de_ix ix_seq od_ix (dv 7) de_int (fun _ _ => rfl)) (da_cons (dv 8) (da_cons (de_callTy (call_list_of) cd_list (by rfl) (T.free (i := 30) rfl) (by decide +kernel) (da_cons (dv 8) da_nil)) (da_cons de_non (da_cons (de_tup da_nil) (da_cons de_str da_nil))))))))))
    (dss_cons (dsn 5 S_law.nd (de_op or_add od_add (de_op or_add od_add (dv 5) (de_lst (da_cons (de_call (fn__law_any_value T) (hr.mono (by decide)) (by rfl) (T.glo (i := 29) rfl) (fd__law_any_value T).kp (bn__law_any_value T) tk (da_cons (dv 4) (da_cons de_int da_nil))) da_nil))) (de_callTy (call_list_of) cd_list (by rfl) (T.free (i := 30) rfl) (by decide +kernel) (da_cons (dv 8) da_nil))))
    (dss_cons (ds_for po rfl (di_rng1 (by rfl) (T.free (i := 9) rfl) (da_cons de_int da_nil)) (dgn 6 S_law.nd) (dss_cons (dsn 9 S_law.nd (de_call (fn__law_variant T) (hr.mono (by decide)) (by rfl) (T.glo (i := 31) rfl) (fd__law_variant T).kp (bn__law_variant T) tk (da_cons (dv 4) (da_cons (de_ifE (dt_cmp or_lt od_ord (dv 6) de_int (nomark _)) (dv 7) (dv 8)) (da_cons de_int da_nil)))))
    (dss_cons (ds_expr (de_bm PySem.F.plainAttrs_list PySem.F.slot_list_append PySem.F.type_list_append mt_append md_append (dv 5) (da_cons (dv 9) da_nil)))
    (dss_one (ds_if (dw_dt (dw_and (dt_val (de_isi .tup (by rfl) (T.free (i := 0) rfl) (dv 9) (by rfl) (T.free (i := 3) rfl) (by decide +kernel))) (dw_and1 (dt_cmp (or_eq hr.units) od_eq (de_call (fn__law_pick T) (hr.mono (by decide)) (by rfl) (T.glo (i := 27) rfl) (fd__law_pick T).kp (bn__law_pick T) tk (da_cons (dv 4) (da_cons de_int da_nil))) de_int (nomark _))))) (dss_one (ds_expr (de_bm PySem.F.plainAttrs_list PySem.F.slot_list_append PySem.F.type_list_append mt_append md_append (dv 5) (da_cons (de_call (fn__law_variant T) (hr.mono (by decide)) (by rfl) (T.glo (i := 31) rfl) (fd__law_variant T).kp (bn__law_variant T) tk (da_cons (dv 4) (da_cons (dv 9) (da_cons de_int da_nil)))) da_nil)))) dss_nil)))))
    (dss_one (ds_for po rfl (di_lst (dv 5)) (dgn 2 S_law.nd) (dss_cons (dsn 3 S_law.nd (de_call (fn__law_good_show T) (hr.mono (by decide)) (by rfl) (T.glo (i := 51) rfl) (fd__law_good_show T).kp (bn__law_good_show T) tk (da_cons (dv 2) da_nil)))
    (dss_cons (ds_if (dw_dt (dw_or (dt_not (dt_val (de_call (fn__law_is_bool T) (hr.mono (by decide)) (by rfl) (T.glo (i := 43) rfl) (fd__law_is_bool T).kp (bn__law_is_bool T) tk (da_cons (de_call (fn_is_show T) (hr.mono (by decide)) (by rfl) (T.glo (i := 52) rfl) (fd_is_show T).kp (bn_is_show T) tk (da_cons (dv 2) da_nil)) (da_cons (dv 3) da_nil))))) (dw_or1 (dt_cmp (or_eq hr.units) od_eq (de_call (fn__law_refused T) (hr.mono (by decide)) (by rfl) (T.glo (i := 53) rfl) (fd__law_refused T).kp (bn__law_refused T) tk (da_cons (dv 2) da_nil)) (dv 3) (nomark _))))) (dss_one (ds_ret de_bl)) dss_nil)
    (dss_cons (ds_if (dt_not (dt_val (de_call (fn__law_is_bool T) (hr.mono (by decide)) (by rfl) (T.glo (i := 43) rfl) (fd__law_is_bool T).kp (bn__law_is_bool T) tk (da_cons (de_call (fn_is_step T) (hr.mono (by decide)) (by rfl) (T.glo (i := 42) rfl) (fd_is_step T).kp (bn_is_step T) tk (da_cons (dv 2) da_nil)) (da_cons (de_call (fn__law_good_step T) (hr.mono (by decide)) (by rfl) (T.glo (i := 38) rfl) (fd__law_good_step T).kp (bn__law_good_step T) tk (da_cons (dv 2) da_nil)) da_nil))))) (dss_one (ds_ret de_bl)) dss_nil)
    (dss_one (ds_if (dt_not (dt_val (de_call (fn__law_is_bool T) (hr.mono (by decide)) (by rfl) (T.glo (i := 43) rfl) (fd__law_is_bool T).kp (bn__law_is_bool T) tk (da_cons (de_call (fn_is_script T) (hr.mono (by decide)) (by rfl) (T.glo (i := 44) rfl) (fd_is_script T).kp (bn_is_script T) tk (da_cons (dv 2) da_nil)) (da_cons (de_call (fn__law_good_script T) (hr.mono (by decide)) (by rfl) (T.glo (i := 54) rfl) (fd__law_good_script T).kp (bn__law_good_script T) tk (da_cons (dv 2) da_nil)) da_nil))))) (dss_one (ds_ret de_bl)) dss_nil))))))))))))))
    (dss_one (ds_ret (de_and (de_not (de_call (fn_is_script T) (hr.mono (by decide)) (by rfl) (T.glo (i := 44) rfl) (fd_is_script T).kp (bn_is_script T) tk (da_cons (de_op or_mul od_mul (de_tup (da_cons (de_tup (da_cons de_str (da_cons de_int da_nil))) da_nil)) de_int) da_nil))) (de_one (de_call (fn_is_script T) (hr.mono (by decide)) (by rfl) (T.glo (i := 44) rfl) (fd_is_script T).kp (bn_is_script T) tk (da_cons (de_op or_mul od_mul (de_tup (da_cons (de_tup (da_cons de_str (da_cons de_int da_nil))) da_nil)) de_int) da_nil))))))))))
    (fun ds G Q E h => ok_law_k01 ds G Q E h)
end
def loose0 : List Str := ["LETTERS", "MOST_SIGNS", "MOST_LEVEL", "MOST_CHANNELS", "MOST_NUMBER", "MOST_STEPS", "CueError", "InvalidShow", "is_whole", "is_wide", "is_channel", "climbs", "is_cue", "is_right_show", "is_mode", "is_right_step", "is_right_script", "need_show", "is_show", "is_step", "is_script", "count_moves", "_law_source", "_law_pick", "_law_chosen", "_law_is_bool", "_law_wide", "_law_any_value", "_law_variant", "_law_whole"]
def loose1 : List Str := ["_law_is_channel", "_law_climbs", "_law_good_cue", "_law_good_show", "_law_good_step", "_law_good_script", "_law_step", "_law_script", "_law_show", "_law_size", "_law_steps", "_law_refused"]
def loose : List Str := loose0 ++ loose1
abbrev RR : PySem.W.OpenRow := PySem.W.OpenLaw.row PySem.Challenge.rw_trackedcues_k01_shows_and_scripts_recogn
abbrev hook : PySem.W.Hook := He.hookD 6 faL fnL
def obs (s : PySem.W.SharedT) : He.AlD := He.obsDG 6 faL fnL (HandSHeadRun.getT s)
theorem obs_eq (s : PySem.W.SharedT) : obs s = hook.obs s.abs := He.obsDG_eq (HandSHeadRun.getT_eq s)
theorem topRun (w : World) : HandSHeadRun.RunEq RR (PySem.W.view RR.prog [45]) hook obs 6000 loose w := fun os => by kernel_rfl
theorem law_bind {K : PySem.W.Frag} {mg : Str → Option Value} (T : Txt K mg) (s : Shared) (u : Value) : BindsTo s (fdK K "law") ⟨[u], []⟩ [("script", u)] :=
  FunD.bindsA (ps := ["script"]) (fd_law T) (fun _ _ _ _ _ _ us hl => match us, hl with | [_], _ => rfl) s [u] rfl
end L_k01
end TC
open PySem PySem.W PySem.Calls PyProof.Rows in
theorem PySem.Challenge.cw_trackedcues_k01_shows_and_scripts_recogn_holds : PySem.Challenge.rw_trackedcues_k01_shows_and_scripts_recogn.Holds := by
  w_on; o_law
  refine HandSHeadRun.head_any (r := TC.L_k01.RR) (q := view TC.L_k01.RR.prog [45]) (H := TC.L_k01.hook) (ob := TC.L_k01.obs) (M := 6000) (loose := TC.L_k01.loose) (d := HandSHeadRun.topDef TC.L_k01.RR.prog 45) (kwd := []) TC.L_k01.obs_eq
    (by kernel_rfl) (fun s => by kernel_rfl) TC.L_k01.topRun (by kernel_rfl) (by kernel_rfl) (by kernel_rfl) (by rfl) (by first | assumption | decide +kernel) (by decide +kernel) ⟨rfl, rfl, rfl, rfl, rfl, by decide +kernel⟩ ?hw ?hc
  case hw => w_witness2
  case hc =>
    refine TC.law_end (l := PySem.Challenge.rw_trackedcues_k01_shows_and_scripts_recogn) (n := 63) (k := 12) (x := "script") rfl (by decide) (by kernel_rfl) ⟨rfl, by decide, by decide⟩ ?F
    intro w mg fa h Y G hmg0
    obtain ⟨K, KX, c⟩ := Y
    have hmg : mg ("law" : PySem.Str) = some (.ref fa) := by
      have e : (HandSHeadRun.topDef TC.L_k01.RR.prog 45).name = ("law" : PySem.Str) := by kernel_rfl
      rw [← e]; exact hmg0
    have T : TC.L_k01.Txt K mg := ⟨⟨h, KX, G⟩, c⟩
    have ef := hmg.symm.trans (T.glo (i := 56) rfl)
    cases ef
    exact ⟨K, _, _, KX, TC.L_k01.law_bind T, fun ns hl => ⟨ns, rfl, fun _ => rfl⟩, fun base _ _ => TC.L_k01.fn_law T⟩

