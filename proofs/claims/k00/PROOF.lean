import PyProof.Rows.All
import PySem.Challenge.RW_fadinginks_k00_whole_boards
import Wide.All
import OpenK.AllK
import Wide.FinOn
import HandS.ForMost
import HandS.Exc
import HandS.HeadHook1
import HandS.TupAny
import HandS.TupMul
import HandS.Style
import HandS.IsInst
import HandS.Iter
import HandS.Walk
import KE.GoesNew
import KE.GoesMore
import KE.GoesEnum
import HandS.SortInts
import HandS.RaiseMore
import HandS.HeadWalk
import HandS.ExcOwn
import PyProof.ExcBaseAll.ValueError
import HandS.Defaults
import HandS.HeadHook2
import HandS.Words
import HandS.Head2
import KE.KStateDown
set_option Elab.async false
set_option linter.all false
set_option maxRecDepth 100000
set_option maxHeartbeats 4000000
/-! Ink, part A: values as data (D), the objects that change (GH), and how both stand in the layer's abstract heap. -/
namespace Ink
open PySem PySem.Spec PyProof.Rows L2

/-- a value: tuples by what they hold; rol: a list that nobody changes (the script); ref: an object that may change, a def, a class -/
inductive D where
  | non | bl (b : Bool) | int (i : Int) | str (x : Str) | tup (xs : List D) | rol (xs : List D) | ref (a : Addr)

/-- what stands at an address -/
inductive GO where
  | lst (xs : List D)
  | dK (kvs : List (Key × D))
  | dT (kvs : List (List Key × D))
  | ins (C : Str) (fs : List (Str × D))

abbrev GH := Addr → Option GO
def gup (G : GH) (a : Addr) (o : GO) : GH := fun b => if b = a then some o else G b
theorem gup_same {G : GH} {a : Addr} {o : GO} : gup G a o a = some o := if_pos rfl
theorem gup_ne {G : GH} {a b : Addr} {o : GO} (h : b ≠ a) : gup G a o b = G b := if_neg h
theorem gup_gup {G : GH} {a : Addr} {o u : GO} : gup (gup G a o) a u = gup G a u := by
  funext b; unfold gup; split <;> rfl
theorem gne_none {G : GH} {a b : Addr} {o : GO} (h : G a = some o) (h' : G b = none) : a ≠ b := by
  intro e; subst e; rw [h] at h'; cases h'

/-- a list that nobody changes -/
def SqF (K : PySem.W.Frag) (H : Hp) (a : Addr) (vs : List V) : Prop :=
  (∃ o, H a = some (.frz o (.lst vs))) ∨ ∃ (o : Obj) (its : Array Value) (n : Nat), K.lookup a = some o ∧ o.cls = .type "list" ∧ o.dict = none ∧ o.data = .seq its n ∧ its.size ≤ sizeLine ∧ Vals vs its.toList
theorem SqF.sq {K : PySem.W.Frag} {H : Hp} {a : Addr} {vs : List V} (h : SqF K H a vs) : SqL K H a vs := by
  rcases h with ⟨o, h⟩ | h
  · exact .inl (.inr ⟨o, h⟩)
  · exact .inr h

mutual
/-- the value v is the datum -/
def Rep (K : PySem.W.Frag) (H : Hp) : D → V → Prop
  | .non, v => v = .non
  | .bl b, v => v = .bl b
  | .int i, v => v = .int i
  | .str x, v => v = .str x
  | .tup ds, v => ∃ a vs, v = .ref a ∧ SqT K H a vs ∧ Reps K H ds vs
  | .rol ds, v => ∃ a vs, v = .ref a ∧ SqF K H a vs ∧ Reps K H ds vs
  | .ref a, v => v = .ref a
def Reps (K : PySem.W.Frag) (H : Hp) : List D → List V → Prop
  | [], vs => vs = []
  | d :: ds, vs => ∃ v r, vs = v :: r ∧ Rep K H d v ∧ Reps K H ds r
end

/-- tuples and what is locked stand as they stood -/
def Stab (H H' : Hp) : Prop := (∀ a xs, H a = some (.tup xs) → H' a = some (.tup xs)) ∧ ∀ a o u, H a = some (.frz o u) → H' a = some (.frz o u)
theorem Stab.refl (H : Hp) : Stab H H := ⟨fun _ _ h => h, fun _ _ _ h => h⟩
theorem Stab.trans {H H1 H2 : Hp} (a : Stab H H1) (b : Stab H1 H2) : Stab H H2 := ⟨fun c x h => b.1 c x (a.1 c x h), fun c o u h => b.2 c o u (a.2 c o u h)⟩
theorem Stab.new {H : Hp} {p : Addr} {o : HO} (h : H p = none) : Stab H (upd H p o) :=
  ⟨fun a xs e => by rw [upd_ne (ne_of_none e h)]; exact e, fun a o u e => by rw [upd_ne (ne_of_none e h)]; exact e⟩
theorem Stab.mut {H : Hp} {p : Addr} {o o' : HO} (h : H p = some o) (h1 : ∀ xs, o ≠ .tup xs) (h2 : ∀ q u, o ≠ .frz q u) : Stab H (upd H p o') :=
  ⟨fun a xs e => by rw [upd_ne (ne_of e h (fun z => h1 _ z.symm))]; exact e, fun a q u e => by rw [upd_ne (ne_of e h (fun z => h2 _ _ z.symm))]; exact e⟩
theorem Stab.sqT {K : PySem.W.Frag} {H H' : Hp} {a : Addr} {xs : List V} (e : Stab H H') (h : SqT K H a xs) : SqT K H' a xs := by
  rcases h with (h | ⟨o, h⟩) | h
  · exact .inl (.inl (e.1 _ _ h))
  · exact .inl (.inr ⟨o, e.2 _ _ _ h⟩)
  · exact .inr h
theorem Stab.sqF {K : PySem.W.Frag} {H H' : Hp} {a : Addr} {xs : List V} (e : Stab H H') (h : SqF K H a xs) : SqF K H' a xs := by
  rcases h with ⟨o, h⟩ | h
  · exact .inl ⟨o, e.2 _ _ _ h⟩
  · exact .inr h
mutual
theorem Rep.stab {K : PySem.W.Frag} {H H' : Hp} (e : Stab H H') : ∀ {d : D} {v : V}, Rep K H d v → Rep K H' d v
  | .non, _, h => by unfold Rep at *; exact h
  | .bl _, _, h => by unfold Rep at *; exact h
  | .int _, _, h => by unfold Rep at *; exact h
  | .str _, _, h => by unfold Rep at *; exact h
  | .tup ds, _, h => by
    unfold Rep at *
    obtain ⟨a, vs, e1, e2, e3⟩ := h
    exact ⟨a, vs, e1, e.sqT e2, Reps.stab e e3⟩
  | .rol ds, _, h => by
    unfold Rep at *
    obtain ⟨a, vs, e1, e2, e3⟩ := h
    exact ⟨a, vs, e1, e.sqF e2, Reps.stab e e3⟩
  | .ref _, _, h => by unfold Rep at *; exact h
theorem Reps.stab {K : PySem.W.Frag} {H H' : Hp} (e : Stab H H') : ∀ {ds : List D} {vs : List V}, Reps K H ds vs → Reps K H' ds vs
  | [], _, h => by unfold Reps at *; exact h
  | d :: ds, _, h => by
    unfold Reps at *
    obtain ⟨v, r, e1, e2, e3⟩ := h
    exact ⟨v, r, e1, Rep.stab e e2, Reps.stab e e3⟩
end
section
variable {K : PySem.W.Frag} {H : Hp}
theorem Reps.nil : Reps K H [] [] := by unfold Reps; rfl
theorem Reps.cons {d : D} {ds : List D} {v : V} {vs : List V} (h : Rep K H d v) (t : Reps K H ds vs) : Reps K H (d :: ds) (v :: vs) := by
  unfold Reps; exact ⟨v, vs, rfl, h, t⟩
theorem Reps.length : ∀ {ds : List D} {vs : List V}, Reps K H ds vs → vs.length = ds.length
  | [], _, h => by unfold Reps at h; subst h; rfl
  | d :: ds, _, h => by
    unfold Reps at h
    obtain ⟨v, r, e1, _, e3⟩ := h
    subst e1
    simp [Reps.length e3]
theorem Reps.get : ∀ {ds : List D} {vs : List V} {i : Nat} {d : D}, Reps K H ds vs → ds[i]? = some d → ∃ v, vs[i]? = some v ∧ Rep K H d v
  | [], _, _, _, _, e => by simp at e
  | d :: ds, _, 0, d', h, e => by
    unfold Reps at h
    obtain ⟨v, r, e1, e2, e3⟩ := h
    subst e1
    simp at e; subst e
    exact ⟨v, rfl, e2⟩
  | d :: ds, _, i + 1, d', h, e => by
    unfold Reps at h
    obtain ⟨v, r, e1, e2, e3⟩ := h
    subst e1
    obtain ⟨w, h1, h2⟩ := Reps.get (i := i) e3 (by simpa using e)
    exact ⟨w, by simpa using h1, h2⟩
theorem Reps.getv : ∀ {ds : List D} {vs : List V} {i : Nat} {v : V}, Reps K H ds vs → vs[i]? = some v → ∃ d, ds[i]? = some d ∧ Rep K H d v
  | [], _, _, _, h, e => by unfold Reps at h; subst h; simp at e
  | d :: ds, _, 0, v', h, e => by
    unfold Reps at h
    obtain ⟨v, r, e1, e2, e3⟩ := h
    subst e1
    simp at e; subst e
    exact ⟨d, rfl, e2⟩
  | d :: ds, _, i + 1, v', h, e => by
    unfold Reps at h
    obtain ⟨v, r, e1, e2, e3⟩ := h
    subst e1
    obtain ⟨w, h1, h2⟩ := Reps.getv (i := i) e3 (by simpa using e)
    exact ⟨w, by simpa using h1, h2⟩
theorem Reps.append : ∀ {ds es : List D} {vs ws : List V}, Reps K H ds vs → Reps K H es ws → Reps K H (ds ++ es) (vs ++ ws)
  | [], _, _, _, h, h' => by unfold Reps at h; subst h; exact h'
  | d :: ds, _, _, _, h, h' => by
    unfold Reps at h
    obtain ⟨v, r, e1, e2, e3⟩ := h
    subst e1
    exact .cons e2 (Reps.append e3 h')
theorem Reps.take : ∀ {ds : List D} {vs : List V} (n : Nat), Reps K H ds vs → Reps K H (ds.take n) (vs.take n)
  | _, _, 0, _ => .nil
  | [], _, n + 1, h => by unfold Reps at h; subst h; exact .nil
  | d :: ds, _, n + 1, h => by
    unfold Reps at h
    obtain ⟨v, r, e1, e2, e3⟩ := h
    subst e1
    exact .cons e2 (Reps.take n e3)
theorem Reps.drop : ∀ {ds : List D} {vs : List V} (n : Nat), Reps K H ds vs → Reps K H (ds.drop n) (vs.drop n)
  | _, _, 0, h => h
  | [], _, n + 1, h => by unfold Reps at h; subst h; exact .nil
  | d :: ds, _, n + 1, h => by
    unfold Reps at h
    obtain ⟨v, r, e1, e2, e3⟩ := h
    subst e1
    exact Reps.drop n e3
theorem Reps.set : ∀ {ds : List D} {vs : List V} {d : D} {v : V} (n : Nat), Reps K H ds vs → Rep K H d v → Reps K H (ds.set n d) (vs.set n v)
  | [], _, _, _, _, h, _ => by unfold Reps at h; subst h; exact .nil
  | d :: ds, _, _, _, 0, h, r => by
    unfold Reps at h
    obtain ⟨v, w, e1, e2, e3⟩ := h
    subst e1
    exact .cons r e3
  | d :: ds, _, _, _, n + 1, h, r => by
    unfold Reps at h
    obtain ⟨v, w, e1, e2, e3⟩ := h
    subst e1
    exact .cons e2 (Reps.set n e3 r)
theorem Reps.eraseIdx : ∀ {ds : List D} {vs : List V} (n : Nat), Reps K H ds vs → Reps K H (ds.eraseIdx n) (vs.eraseIdx n)
  | [], _, _, h => by unfold Reps at h; subst h; exact .nil
  | d :: ds, _, 0, h => by
    unfold Reps at h
    obtain ⟨v, w, e1, e2, e3⟩ := h
    subst e1
    exact e3
  | d :: ds, _, n + 1, h => by
    unfold Reps at h
    obtain ⟨v, w, e1, e2, e3⟩ := h
    subst e1
    exact .cons e2 (Reps.eraseIdx n e3)
theorem Reps.dropLast {ds : List D} {vs : List V} (h : Reps K H ds vs) : Reps K H ds.dropLast vs.dropLast := by
  rw [List.dropLast_eq_take, List.dropLast_eq_take, h.length]
  exact h.take _
theorem Reps.reverse : ∀ {ds : List D} {vs : List V}, Reps K H ds vs → Reps K H ds.reverse vs.reverse
  | [], _, h => by unfold Reps at h; subst h; exact .nil
  | d :: ds, _, h => by
    unfold Reps at h
    obtain ⟨v, w, e1, e2, e3⟩ := h
    subst e1
    rw [List.reverse_cons, List.reverse_cons]
    exact (Reps.reverse e3).append (.cons e2 .nil)
theorem Reps.rep {ds : List D} {vs : List V} (h : Reps K H ds vs) : ∀ k : Nat, Reps K H (List.replicate k ds).flatten (List.replicate k vs).flatten
  | 0 => .nil
  | k + 1 => by
    rw [List.replicate_succ, List.replicate_succ, List.flatten_cons, List.flatten_cons]
    exact h.append (Reps.rep h k)
theorem Rep.intv {i : Int} {v : V} (h : Rep K H (.int i) v) : v = .int i := by unfold Rep at h; exact h
theorem Rep.blv {i : Bool} {v : V} (h : Rep K H (.bl i) v) : v = .bl i := by unfold Rep at h; exact h
theorem Rep.strv {i : Str} {v : V} (h : Rep K H (.str i) v) : v = .str i := by unfold Rep at h; exact h
theorem Rep.nonv {v : V} (h : Rep K H .non v) : v = .non := by unfold Rep at h; exact h
theorem Rep.refv {a : Addr} {v : V} (h : Rep K H (.ref a) v) : v = .ref a := by unfold Rep at h; exact h
theorem Rep.tupv {ds : List D} {v : V} (h : Rep K H (.tup ds) v) : ∃ a vs, v = .ref a ∧ SqT K H a vs ∧ Reps K H ds vs := by unfold Rep at h; exact h
theorem Rep.rolv {ds : List D} {v : V} (h : Rep K H (.rol ds) v) : ∃ a vs, v = .ref a ∧ SqF K H a vs ∧ Reps K H ds vs := by unfold Rep at h; exact h
theorem Rep.int {i : Int} : Rep K H (.int i) (.int i) := by unfold Rep; rfl
theorem Rep.bl {i : Bool} : Rep K H (.bl i) (.bl i) := by unfold Rep; rfl
theorem Rep.str {i : Str} : Rep K H (.str i) (.str i) := by unfold Rep; rfl
theorem Rep.non : Rep K H .non .non := by unfold Rep; rfl
theorem Rep.ref {a : Addr} : Rep K H (.ref a) (.ref a) := by unfold Rep; rfl
theorem Rep.tup {ds : List D} {a : Addr} {vs : List V} (h : SqT K H a vs) (r : Reps K H ds vs) : Rep K H (.tup ds) (.ref a) := by unfold Rep; exact ⟨a, vs, rfl, h, r⟩
theorem Rep.rol {ds : List D} {a : Addr} {vs : List V} (h : SqF K H a vs) (r : Reps K H ds vs) : Rep K H (.rol ds) (.ref a) := by unfold Rep; exact ⟨a, vs, rfl, h, r⟩
theorem Reps.ints : ∀ ns : List Int, Reps K H (ns.map D.int) (ns.map V.int)
  | [] => .nil
  | _ :: r => .cons .int (Reps.ints r)
theorem Reps.strs : ∀ ns : List Str, Reps K H (ns.map D.str) (ns.map V.str)
  | [] => .nil
  | _ :: r => .cons .str (Reps.strs r)
theorem Reps.intsv : ∀ {ns : List Int} {vs : List V}, Reps K H (ns.map D.int) vs → vs = ns.map V.int
  | [], _, h => by unfold Reps at h; exact h
  | n :: r, _, h => by
    rw [List.map_cons] at h
    unfold Reps at h
    obtain ⟨v, w, e1, e2, e3⟩ := h
    subst e1
    rw [e2.intv, Reps.intsv e3, List.map_cons]
theorem Reps.strsv : ∀ {ns : List Str} {vs : List V}, Reps K H (ns.map D.str) vs → vs = ns.map V.str
  | [], _, h => by unfold Reps at h; exact h
  | n :: r, _, h => by
    rw [List.map_cons] at h
    unfold Reps at h
    obtain ⟨v, w, e1, e2, e3⟩ := h
    subst e1
    rw [e2.strv, Reps.strsv e3, List.map_cons]
end

/-- pairs of keys and values -/
def RepKV {κ : Type} (K : PySem.W.Frag) (H : Hp) : List (κ × D) → List (κ × V) → Prop := Paired fun p q => p.1 = q.1 ∧ Rep K H p.2 q.2
theorem RepKV.stab {κ : Type} {K : PySem.W.Frag} {H H' : Hp} (e : Stab H H') : ∀ {ds : List (κ × D)} {vs : List (κ × V)}, RepKV K H ds vs → RepKV K H' ds vs
  | _, _, .nil => .nil
  | _, _, .cons r t => .cons ⟨r.1, r.2.stab e⟩ (RepKV.stab e t)
def RepO (K : PySem.W.Frag) (H : Hp) (a : Addr) : GO → Prop
  | .lst ds => ∃ vs, H a = some (.lst vs) ∧ Reps K H ds vs
  | .dK kvs => ∃ vs, H a = some (.dK vs) ∧ RepKV K H kvs vs
  | .dT kvs => ∃ vs, H a = some (.dT vs) ∧ RepKV K H kvs vs
  | .ins C fs => ∃ dx vs, H a = some (.ins (He.ga K C) dx vs) ∧ RepKV K H fs vs
def SimG (K : PySem.W.Frag) (H : Hp) (G : GH) : Prop := ∀ a o, G a = some o → RepO K H a o
theorem RepO.at {K : PySem.W.Frag} {H H' : Hp} {a : Addr} {o : GO} (h : RepO K H a o) (e : Stab H H') (k : H' a = H a) : RepO K H' a o := by
  cases o with
  | lst ds => obtain ⟨vs, h1, h2⟩ := h; exact ⟨vs, k.trans h1, h2.stab e⟩
  | dK ds => obtain ⟨vs, h1, h2⟩ := h; exact ⟨vs, k.trans h1, h2.stab e⟩
  | dT ds => obtain ⟨vs, h1, h2⟩ := h; exact ⟨vs, k.trans h1, h2.stab e⟩
  | ins C ds => obtain ⟨dx, vs, h1, h2⟩ := h; exact ⟨dx, vs, k.trans h1, h2.stab e⟩
theorem RepO.some {K : PySem.W.Frag} {H : Hp} {a : Addr} {o : GO} (h : RepO K H a o) : ∃ u, H a = Option.some u ∧ (∀ xs, u ≠ .tup xs) ∧ (∀ q w, u ≠ .frz q w) := by
  cases o with
  | lst ds => obtain ⟨vs, h1, h2⟩ := h; exact ⟨_, h1, fun _ z => (nomatch z), fun _ _ z => (nomatch z)⟩
  | dK ds => obtain ⟨vs, h1, h2⟩ := h; exact ⟨_, h1, fun _ z => (nomatch z), fun _ _ z => (nomatch z)⟩
  | dT ds => obtain ⟨vs, h1, h2⟩ := h; exact ⟨_, h1, fun _ z => (nomatch z), fun _ _ z => (nomatch z)⟩
  | ins C ds => obtain ⟨dx, vs, h1, h2⟩ := h; exact ⟨_, h1, fun _ z => (nomatch z), fun _ _ z => (nomatch z)⟩
section
variable {K : PySem.W.Frag} {H : Hp} {G : GH}
theorem SimG.fresh (s : SimG K H G) {p : Addr} (h : H p = none) : G p = none := by
  cases e : G p with
  | none => rfl
  | some o =>
    obtain ⟨u, z, _⟩ := (s p o e).some
    rw [h] at z; cases z
/-- a new thing that is not in G -/
theorem SimG.grow (s : SimG K H G) {p : Addr} {u : HO} (h : H p = none) : SimG K (upd H p u) G := fun a o e => by
  obtain ⟨w, z, _⟩ := (s a o e).some
  exact (s a o e).at (Stab.new h) (upd_ne (ne_of_none z h))
/-- a new thing that is in G -/
theorem SimG.new (s : SimG K H G) {p : Addr} {u : HO} {o : GO} (h : H p = none) (r : RepO K (upd H p u) p o) : SimG K (upd H p u) (gup G p o) := fun a o' e => by
  by_cases z : a = p
  · subst z
    rw [gup_same] at e; cases e
    exact r
  · rw [gup_ne z] at e
    exact s.grow h a o' e
theorem SimG.newL (s : SimG K H G) {p : Addr} {ds : List D} {vs : List V} (h : H p = none) (r : Reps K H ds vs) : SimG K (upd H p (.lst vs)) (gup G p (.lst ds)) := by
  refine s.new h ?_
  show ∃ ws, upd H p (.lst vs) p = some (.lst ws) ∧ Reps K (upd H p (.lst vs)) ds ws
  exact ⟨vs, upd_same, r.stab (Stab.new h)⟩
theorem SimG.set (s : SimG K H G) {p : Addr} {u : HO} {o o1 : GO} (h : G p = some o1) (r : RepO K (upd H p u) p o) : SimG K (upd H p u) (gup G p o) ∧ Stab H (upd H p u) := by
  obtain ⟨w, z, z1, z2⟩ := (s p o1 h).some
  have st : Stab H (upd H p u) := Stab.mut z z1 z2
  refine ⟨fun a o' e => ?_, st⟩
  by_cases q : a = p
  · subst q
    rw [gup_same] at e; cases e
    exact r
  · rw [gup_ne q] at e
    exact (s a o' e).at st (upd_ne q)
theorem SimG.setL (s : SimG K H G) {p : Addr} {es ds : List D} {vs : List V} (h : G p = some (.lst es)) (r : Reps K H ds vs) : SimG K (upd H p (.lst vs)) (gup G p (.lst ds)) ∧ Stab H (upd H p (.lst vs)) := by
  obtain ⟨w, z, z1, z2⟩ := (s p _ h).some
  refine s.set h ?_
  show ∃ ws, upd H p (.lst vs) p = some (.lst ws) ∧ Reps K (upd H p (.lst vs)) ds ws
  exact ⟨vs, upd_same, r.stab (Stab.mut z z1 z2)⟩
theorem SimG.lst (s : SimG K H G) {a : Addr} {xs : List D} (h : G a = some (.lst xs)) : ∃ vs, H a = some (.lst vs) ∧ Reps K H xs vs := s a _ h
theorem SimG.dK (s : SimG K H G) {a : Addr} {xs : List (Key × D)} (h : G a = some (.dK xs)) : ∃ vs, H a = some (.dK vs) ∧ RepKV K H xs vs := s a _ h
theorem SimG.dT (s : SimG K H G) {a : Addr} {xs : List (List Key × D)} (h : G a = some (.dT xs)) : ∃ vs, H a = some (.dT vs) ∧ RepKV K H xs vs := s a _ h
theorem SimG.ins (s : SimG K H G) {a : Addr} {C : Str} {xs : List (Str × D)} (h : G a = some (.ins C xs)) : ∃ dx vs, H a = some (.ins (He.ga K C) dx vs) ∧ RepKV K H xs vs := s a _ h
end

/-- the names' values -/
abbrev DSt := List (Option D)
def Slots (K : PySem.W.Frag) (H : Hp) (ds : DSt) (σ : L2.St) : Prop := ds.length = σ.length ∧ ∀ (i : Nat) (d : D), ds[i]? = some (some d) → ∃ v, σ[i]? = some (some v) ∧ Rep K H d v
section
variable {K : PySem.W.Frag} {H H' : Hp} {ds : DSt} {σ : L2.St}
theorem Slots.stab (s : Slots K H ds σ) (e : Stab H H') : Slots K H' ds σ := ⟨s.1, fun i d h => let ⟨v, h1, h2⟩ := s.2 i d h; ⟨v, h1, h2.stab e⟩⟩
theorem Slots.set (s : Slots K H ds σ) {d : D} {v : V} (r : Rep K H d v) (i : Nat) : Slots K H (ds.set i (some d)) (σ.set i (some v)) := by
  refine ⟨by simp [s.1], fun j e h => ?_⟩
  by_cases q : j = i
  · subst q
    by_cases hl : j < ds.length
    · rw [List.getElem?_set_self hl] at h
      cases h
      exact ⟨v, List.getElem?_set_self (by rw [← s.1]; exact hl), r⟩
    · rw [List.getElem?_eq_none (by simpa using hl)] at h; cases h
  · rw [List.getElem?_set_ne (Ne.symm q)] at h ⊢
    exact s.2 j e h
/-- .. forgotten -/
def dwipe (ds : DSt) : List Nat → DSt
  | [] => ds
  | v :: vs => (dwipe ds vs).set v none
theorem Slots.drop (s : Slots K H ds σ) (i : Nat) : Slots K H (ds.set i none) (σ.set i none) := by
  refine ⟨by simp [s.1], fun j e h => ?_⟩
  by_cases q : j = i
  · subst q
    by_cases hl : j < ds.length
    · rw [List.getElem?_set_self hl] at h; cases h
    · rw [List.getElem?_eq_none (by simpa using hl)] at h; cases h
  · rw [List.getElem?_set_ne (Ne.symm q)] at h ⊢
    exact s.2 j e h
theorem Slots.wipe (s : Slots K H ds σ) : ∀ vs : List Nat, Slots K H (dwipe ds vs) (L2.wipe σ vs)
  | [] => s
  | v :: vs => (Slots.wipe s vs).drop v
end
end Ink
set_option Elab.async false
set_option linter.all false
set_option maxRecDepth 100000
set_option maxHeartbeats 4000000
/-! Ink, part B: a small language without places in the text, and what it asks (weakest preconditions over data). -/
namespace Ink
open PySem PySem.Spec PyProof.Rows L2

inductive BOp where | add | sub | mul | fdiv | mod | pow
  deriving DecidableEq
inductive COp where | eq | ne | lt | le | gt | ge | is | isnot | inn | notin
  deriving DecidableEq
inductive Ty where | int | bool | str | tuple | list | dict
  deriving DecidableEq
inductive Bi where | len | all | int | str | tuple | list | sorted | sum | max | min | dict | max2 | min2
  deriving DecidableEq
inductive Bm where | append | extend | pop | pop1 | get | index | join
  deriving DecidableEq

mutual
inductive Ex where
  | var (i : Nat)
  | non | bl (b : Bool) | int (i : Int) | str (x : Str)
  | gi (x : Str) (i : Int) | gs (x : Str) (s : Str)
  | bin (op : BOp) (a b : Ex)
  | neg (a : Ex) | nt (a : Ex)
  | an (a b : Ex) | or (a b : Ex)
  | ite (c a b : Ex)
  | cmp (op : COp) (a b : Ex)
  | chain (op op' : COp) (a b c : Ex)
  | isin (a : Ex) (ts : List Ty)
  | sub (a i : Ex)
  | sl (a : Ex) (lo hi : Ox)
  | fld (C : Str) (a : Ex) (f : Str)
  | tup (es : Exs) | lst (es : Exs)
  | dnewK | dnewT
  | call (f : Nat) (es : Exs)
  | mk (C : Str) (f : Nat) (es : Exs)
  | meth (C m : Str) (f : Nat) (a : Ex) (es : Exs)
  | bi (f : Bi) (es : Exs)
  | bm (m : Bm) (a : Ex) (es : Exs)
  | comp (own : List (Str × Nat)) (it : Ir) (tg : Tg) (c e : Ex)
  | never
inductive Exs where | nil | cons (e : Ex) (es : Exs)
inductive Ox where | no | yes (e : Ex)
inductive Ir where | seq (e : Ex) | range1 (a : Ex) | range2 (a b : Ex) | enum (e : Ex) | zip (a b : Ex)
inductive Tg where | nm (i : Nat) | tp (ts : Tgs) | sb (a i : Ex) | at (C : Str) (a : Ex) (f : Str)
inductive Tgs where | nil | cons (t : Tg) (ts : Tgs)
end
mutual
inductive Sm where
  | expr (e : Ex)
  | asg (t : Tg) (e : Ex)
  | par (i j : Nat) (a b : Ex)
  | aug (i : Nat) (op : BOp) (e : Ex)
  | augA (C : Str) (a : Ex) (f : Str) (op : BOp) (e : Ex)
  | ite (c : Ex) (a b : Sms)
  | for (t : Tg) (it : Ir) (b : Sms)
  | while (c : Ex) (b : Sms)
  | ret (e : Ex) | retN
  | raise (C : Str)
  | pass | brk | cont | never
inductive Sms where | nil | cons (s : Sm) (ss : Sms)
end

/-! ### what is wanted -/
abbrev KD := D → GH → Prop
/-- an exception: its class's name, its fields -/
structure Exc where
  cls : Str
  fs : List (Str × D)
abbrev WE := Exc → GH → Prop
/-- a def's promise over data -/
abbrev DSp := List D → GH → WE → KD → Prop

/-! ### operations -/
/-! data as the equality of the library takes them -/
mutual
inductive IsP (G : GH) : D → PyData → Prop where
  | non : IsP G .non .none
  | bl (b : Bool) : IsP G (.bl b) (.bool b)
  | int (i : Int) : IsP G (.int i) (.int i)
  | str (x : Str) : IsP G (.str x) (.str x)
  | tup {ds : List D} {ps : List PyData} : IsPs G ds ps → IsP G (.tup ds) (.tuple ps)
  | rol {ds : List D} {ps : List PyData} : IsPs G ds ps → IsP G (.rol ds) (.list ps)
  | lst {a : Addr} {ds : List D} {ps : List PyData} : G a = some (.lst ds) → IsPs G ds ps → IsP G (.ref a) (.list ps)
inductive IsPs (G : GH) : List D → List PyData → Prop where
  | nil : IsPs G [] []
  | cons {d : D} {ds : List D} {p : PyData} {ps : List PyData} : IsP G d p → IsPs G ds ps → IsPs G (d :: ds) (p :: ps)
end
def eqDeep (x y : D) (G : GH) (Q : Bool → Prop) : Prop := ∃ p q, IsP G x p ∧ IsP G y q ∧ SeqAt.shaped p = true ∧ SeqAt.shaped q = true ∧ Q (PyData.eqv p q)
def eqQ : D → D → GH → (Bool → Prop) → Prop
  | .non, .non, _, Q => Q true
  | .non, .int _, _, Q => Q false | .int _, .non, _, Q => Q false
  | .non, .bl _, _, Q => Q false | .bl _, .non, _, Q => Q false
  | .non, .str _, _, Q => Q false | .str _, .non, _, Q => Q false
  | .int i, .int j, _, Q => Q (decide (i = j))
  | .bl i, .bl j, _, Q => Q (decide (i = j))
  | .str i, .str j, _, Q => Q (decide (i = j))
  | .int _, .str _, _, Q => Q false | .str _, .int _, _, Q => Q false
  | .bl _, .str _, _, Q => Q false | .str _, .bl _, _, Q => Q false
  | x, y, G, Q => eqDeep x y G Q
def isNonD : D → Bool
  | .non => true | _ => false
def isQ : D → D → (Bool → Prop) → Prop
  | x, .non, Q => Q (isNonD x)
  | .bl a, .bl b, Q => Q (decide (a = b))
  | _, _, _ => False
/-- flat values, equal as in works -/
def flatD : D → Bool
  | .non => true | .bl _ => true | .int _ => true | .str _ => true | _ => false
def vOf : D → V
  | .non => .non | .bl b => .bl b | .int i => .int i | .str x => .str x | .ref a => .ref a | _ => .non
def inFlat (x : D) (xs : List D) : Bool := xs.any fun y => eqV (vOf y) (vOf x)
def inQ : D → D → GH → (Bool → Prop) → Prop
  | .str x, .str z, _, Q => Q (!(Builtin.Str.occurrences z x 0 z.length 1).isEmpty)
  | x, .tup xs, _, Q => flatD x = true ∧ xs.all flatD = true ∧ Q (inFlat x xs)
  | x, .rol xs, _, Q => flatD x = true ∧ xs.all flatD = true ∧ Q (inFlat x xs)
  | x, .ref a, G, Q => ∃ xs, G a = some (.lst xs) ∧ flatD x = true ∧ xs.all flatD = true ∧ Q (inFlat x xs)
  | _, _, _, _ => False
def ordQ (op : COp) : D → D → (Bool → Prop) → Prop
  | .int i, .int j, Q => Q (match op with | .lt => decide (i < j) | .le => decide (i ≤ j) | .gt => decide (j < i) | _ => decide (j ≤ i))
  | _, _, _ => False
def cmpQ (op : COp) (x y : D) (G : GH) (Q : Bool → Prop) : Prop :=
  match op with
  | .eq => eqQ x y G Q
  | .ne => eqQ x y G fun b => Q (!b)
  | .is => isQ x y Q
  | .isnot => isQ x y fun b => Q (!b)
  | .inn => inQ x y G Q
  | .notin => inQ x y G fun b => Q (!b)
  | op => ordQ op x y Q
def binQ : BOp → D → D → GH → KD → Prop
  | .add, .int i, .int j, G, Q => Q (.int (i + j)) G
  | .add, .str x, .str y, G, Q => x.length + y.length ≤ sizeLine ∧ Q (.str (x ++ y)) G
  | .add, .tup x, .tup y, G, Q => x.length + y.length ≤ sizeLine ∧ Q (.tup (x ++ y)) G
  | .add, .ref a, .ref b, G, Q => ∃ xs ys, G a = some (.lst xs) ∧ G b = some (.lst ys) ∧ xs.length + ys.length ≤ sizeLine ∧ ∀ p, G p = none → Q (.ref p) (gup G p (.lst (xs ++ ys)))
  | .sub, .int i, .int j, G, Q => Q (.int (i - j)) G
  | .mul, .int i, .int j, G, Q => CMul i j ∧ Q (.int (i * j)) G
  | .mul, .tup x, .int j, G, Q => x ≠ [] ∧ 2 ≤ j ∧ j ≤ 1000 ∧ x.length ≤ 1000 ∧ Q (.tup (List.replicate j.toNat x).flatten) G
  | .mul, .ref a, .int k, G, Q => ∃ xs, G a = some (.lst xs) ∧ -(2 ^ 63) ≤ k ∧ k < 2 ^ 63 ∧ xs.length * k.toNat ≤ sizeLine ∧ ∀ p, G p = none → Q (.ref p) (gup G p (.lst (List.replicate k.toNat xs).flatten))
  | .fdiv, .int i, .int j, G, Q => CDiv i j ∧ Q (.int (i / j)) G
  | .mod, .int i, .int j, G, Q => 0 < j ∧ Q (.int (i % j)) G
  | .pow, .int i, .int j, G, Q => CPow i j ∧ Q (.int (i ^ j.toNat)) G
  | _, _, _, _, _ => False
/-- op= on ints -/
def augQ : BOp → D → D → GH → KD → Prop
  | .add, .int i, .int j, G, Q => Q (.int (i + j)) G
  | .sub, .int i, .int j, G, Q => Q (.int (i - j)) G
  | _, _, _, _, _ => False
/-- the type of a value -/
def tyG : Option GO → Option Ty
  | some (.lst _) => some .list
  | some (.dK _) => some .dict
  | some (.dT _) => some .dict
  | _ => none
def tyD (G : GH) : D → Option Ty
  | .int _ => some .int | .bl _ => some .bool | .str _ => some .str | .tup _ => some .tuple | .rol _ => some .list
  | .ref a => tyG (G a)
  | .non => none
def isInst (t : Option Ty) (ts : List Ty) : Bool := match t with
  | some .bool => ts.contains .bool || ts.contains .int
  | some t => ts.contains t
  | none => false
/-- is a value's kind known -/
def knG : Option GO → Prop
  | some (.lst _) => True
  | some (.dK _) => True
  | some (.dT _) => True
  | _ => False
def known (G : GH) : D → Prop
  | .ref a => knG (G a)
  | _ => True
def atD (xs : List D) (i : Int) : Option D := atI xs i
def subQ : D → D → GH → KD → Prop
  | .tup xs, .int i, G, Q => ∃ d, atI xs i = some d ∧ Q d G
  | .rol xs, .int i, G, Q => ∃ d, atI xs i = some d ∧ Q d G
  | .str z, .int i, G, Q => z.length ≤ sizeLine ∧ ∃ c, atI z.cps.toList i = some c ∧ Q (.str ⟨#[c]⟩) G
  | .ref a, .int i, G, Q => ∃ xs d, G a = some (.lst xs) ∧ atI xs i = some d ∧ Q d G
  | _, _, _, _ => False
def cutD (xs : List D) (lo hi : Option Int) : List D := (xs.drop (HT.sIx xs.length 0 lo)).take (HT.sIx xs.length xs.length hi - HT.sIx xs.length 0 lo)
def slQ : D → Option Int → Option Int → GH → KD → Prop
  | .tup xs, lo, hi, G, Q => Q (.tup (cutD xs lo hi)) G
  | .ref a, lo, hi, G, Q => ∃ xs, G a = some (.lst xs) ∧ ∀ p, G p = none → Q (.ref p) (gup G p (.lst (cutD xs lo hi)))
  | _, _, _, _, _ => False
/-- o[i] = v -/
def setQ : D → D → D → GH → (GH → Prop) → Prop
  | .ref a, .int k, v, G, Q => ∃ xs j, G a = some (.lst xs) ∧ ixN xs.length k = some j ∧ Q (gup G a (.lst (xs.set j v)))
  | _, _, _, _, _ => False
def putFs (f : Str) (v : D) : List (Str × D) → List (Str × D)
  | [] => [(f, v)]
  | (g, x) :: r => if g = f then (g, v) :: r else (g, x) :: putFs f v r
def fldQ (C f : Str) : D → GH → KD → Prop
  | .ref a, G, Q => ∃ fs d, G a = some (.ins C fs) ∧ fs.lookup f = some d ∧ Q d G
  | _, _, _ => False
def setF (C f : Str) : D → D → GH → (GH → Prop) → Prop
  | .ref a, v, G, Q => ∃ fs, G a = some (.ins C fs) ∧ fs.length < 1000 ∧ Q (gup G a (.ins C (putFs f v fs)))
  | _, _, _, _ => False
/-- the list or tuple that a value is -/
def seqQ : D → GH → (List D → Prop) → Prop
  | .tup xs, _, Q => Q xs
  | .rol xs, _, Q => Q xs
  | .ref a, G, Q => ∃ xs, G a = some (.lst xs) ∧ Q xs
  | _, _, _ => False
def biQ : Bi → List D → GH → KD → Prop
  | .len, [.str x], G, Q => x.length ≤ sizeLine ∧ Q (.int x.length) G
  | .len, [.tup xs], G, Q => Q (.int xs.length) G
  | .len, [.rol xs], G, Q => Q (.int xs.length) G
  | .len, [.ref a], G, Q => ∃ xs, G a = some (.lst xs) ∧ Q (.int xs.length) G
  | .all, [.ref a], G, Q => ∃ bs : List Bool, G a = some (.lst (bs.map D.bl)) ∧ Q (.bl (bs.all id)) G
  | .int, [.int i], G, Q => Q (.int i) G
  | .int, [.bl b], G, Q => Q (.int (if b then 1 else 0)) G
  | .tuple, [.ref a], G, Q => ∃ xs, G a = some (.lst xs) ∧ Q (.tup xs) G
  | .tuple, [.tup xs], G, Q => Q (.tup xs) G
  | .list, [x], G, Q => seqQ x G fun xs => ∀ p, G p = none → Q (.ref p) (gup G p (.lst xs))
  | .sum, [.ref a], G, Q => ∃ ns : List Int, G a = some (.lst (ns.map D.int)) ∧ Q (.int ns.sum) G
  | .max, [.ref a], G, Q => ∃ ns : List Int, G a = some (.lst (ns.map D.int)) ∧ 0 < ns.length ∧ ∀ m, m ∈ ns → (∀ y ∈ ns, y ≤ m) → Q (.int m) G
  | .min, [.ref a], G, Q => ∃ ns : List Int, G a = some (.lst (ns.map D.int)) ∧ 0 < ns.length ∧ ∀ m, m ∈ ns → (∀ y ∈ ns, m ≤ y) → Q (.int m) G
  | .sorted, [.ref a], G, Q => ∃ ns : List Int, G a = some (.lst (ns.map D.int)) ∧ ∀ (ns' : List Int) p, ns'.Perm ns → ns'.Pairwise (· ≤ ·) → G p = none → Q (.ref p) (gup G p (.lst (ns'.map D.int)))
  | .str, [.int i], G, Q => i.natAbs.log2 < 1920 ∧ Q (.str (toString i)) G
  | .str, [.str x], G, Q => Q (.str x) G
  | .max2, [.int i, .int j], G, Q => Q (.int (if j > i then j else i)) G
  | .min2, [.int i, .int j], G, Q => Q (.int (if j < i then j else i)) G
  | _, _, _, _ => False
def bmQ : Bm → D → List D → GH → KD → Prop
  | .append, .ref a, [d], G, Q => ∃ xs, G a = some (.lst xs) ∧ xs.length < sizeLine ∧ Q .non (gup G a (.lst (xs ++ [d])))
  | .extend, .ref a, [.ref b], G, Q => ∃ xs ys, G a = some (.lst xs) ∧ G b = some (.lst ys) ∧ xs.length + ys.length ≤ sizeLine ∧ Q .non (gup G a (.lst (xs ++ ys)))
  | .pop, .ref a, [], G, Q => ∃ xs d, G a = some (.lst xs) ∧ xs[xs.length - 1]? = some d ∧ Q d (gup G a (.lst xs.dropLast))
  | .join, .str z, [.tup xs], G, Q => ∃ ys : List Str, xs = ys.map D.str ∧ (ys.map (·.length)).sum + ys.length * z.length ≤ 16777216 ∧ Q (.str (Txt.join z ys)) G
  | .join, .str z, [.ref a], G, Q => ∃ ys : List Str, G a = some (.lst (ys.map D.str)) ∧ (ys.map (·.length)).sum + ys.length * z.length ≤ 16777216 ∧ Q (.str (Txt.join z ys)) G
  | _, _, _, _, _ => False
/-- what the object of a method is, ahead of the arguments -/
def bmT : Bm → D → GH → Prop
  | .join, .str _, _ => True
  | .get, .ref a, G => (∃ kvs, G a = some (.dK kvs)) ∨ ∃ kvs, G a = some (.dT kvs)
  | .append, .ref a, G => ∃ xs, G a = some (.lst xs)
  | .extend, .ref a, G => ∃ xs, G a = some (.lst xs)
  | .pop, .ref a, G => ∃ xs, G a = some (.lst xs)
  | .pop1, .ref a, G => ∃ xs, G a = some (.lst xs)
  | .index, .ref a, G => ∃ xs, G a = some (.lst xs)
  | _, _, _ => False
def boolQ (v : D) (Q : Bool → Prop) : Prop := match v with | .bl b => Q b | _ => False

/-! ### loops over data -/
structure DEnds where
  nx : DSt → GH → Prop
  rt : KD
  bk : DSt → GH → Prop := fun _ _ => False
  ct : DSt → GH → Prop := fun _ _ => False
def compL (ok : GH → Prop) (p : Addr) (σ : DSt) (own : List Nat) (asg : D → DSt → GH → (DSt → GH → Prop) → Prop) (cond : DSt → GH → (Bool → GH → Prop) → Prop) (elt : DSt → GH → KD → Prop) (Q : GH → Prop) : List D → GH → Prop
  | [], G => ok G ∧ Q G
  | d :: ds, G => ok G ∧ asg d (dwipe σ own) G fun σ1 G1 => cond σ1 G1 fun b G2 =>
      if b = true then elt σ1 G2 fun v G3 => ∃ acc, G3 p = some (.lst acc) ∧ acc.length < sizeLine ∧ compL ok p σ own asg cond elt Q ds (gup G3 p (.lst (acc ++ [v])))
      else compL ok p σ own asg cond elt Q ds G2
def forL (ok : GH → Prop) (asg : D → DSt → GH → (DSt → GH → Prop) → Prop) (body : DEnds → DSt → GH → Prop) (E : DEnds) : List D → DSt → GH → Prop
  | [], σ, G => ok G ∧ E.nx σ G
  | d :: ds, σ, G => ok G ∧ asg d σ G fun σ1 G1 => body { E with nx := forL ok asg body E ds, ct := forL ok asg body E ds, bk := E.nx } σ1 G1
def whileN (cond : DSt → GH → (Bool → GH → Prop) → Prop) (body : DEnds → DSt → GH → Prop) (E : DEnds) : Nat → DSt → GH → Prop
  | 0, _, _ => False
  | n + 1, σ, G => cond σ G fun b G1 => if b = true then body { E with nx := whileN cond body E n, ct := whileN cond body E n, bk := E.nx } σ G1 else E.nx σ G1
def enumD (xs : List D) : List D := xs.zipIdx.map fun p => .tup [.int (p.2 : Nat), p.1]
def zipD (xs ys : List D) : List D := List.zipWith (fun u v => .tup [u, v]) xs ys
/-- the items that are walked, and what must hold of the objects while they are -/
def seqI : D → GH → (List D → (GH → Prop) → GH → Prop) → Prop
  | .str z, G, Q => Q (z.cps.toList.map fun c => .str ⟨#[c]⟩) (fun _ => True) G
  | .tup xs, G, Q => Q xs (fun _ => True) G
  | .rol xs, G, Q => Q xs (fun _ => True) G
  | .ref a, G, Q => ∃ xs, G a = some (.lst xs) ∧ Q xs (fun G' => G' a = some (.lst xs)) G
  | _, _, _ => False
def seqJ : D → GH → (List D → (GH → Prop) → GH → Prop) → Prop
  | .tup xs, G, Q => Q xs (fun _ => True) G
  | .rol xs, G, Q => Q xs (fun _ => True) G
  | .ref a, G, Q => ∃ xs, G a = some (.lst xs) ∧ Q xs (fun G' => G' a = some (.lst xs)) G
  | _, _, _ => False
def rangeL (lo : Int) (n : Nat) : List D := (List.range n).map fun i : Nat => D.int (lo + i)

/-- how many targets -/
def tgLen : Tgs → Nat
  | .nil => 0
  | .cons _ ts => tgLen ts + 1
/-! ### what a piece asks -/
/-- nothing is raised -/
def WE0 : WE := fun _ _ => False
section
variable (Φ : Nat → DSp)
mutual
def ev : Ex → WE → DSt → GH → KD → Prop
  | .var i, _, σ, G, Q => ∃ d, σ[i]? = some (some d) ∧ Q d G
  | .non, _, _, G, Q => Q .non G
  | .bl b, _, _, G, Q => Q (.bl b) G
  | .int i, _, _, G, Q => Q (.int i) G
  | .str x, _, _, G, Q => Q (.str x) G
  | .gi _ i, _, _, G, Q => Q (.int i) G
  | .gs _ x, _, _, G, Q => Q (.str x) G
  | .bin op a b, W, σ, G, Q => ev a W σ G fun x G1 => ev b W σ G1 fun y G2 => binQ op x y G2 Q
  | .neg a, W, σ, G, Q => ev a W σ G fun x G1 => ∃ i, x = .int i ∧ Q (.int (-i)) G1
  | .nt a, W, σ, G, Q => ev a W σ G fun x G1 => boolQ x fun b => Q (.bl (!b)) G1
  | .an a b, W, σ, G, Q => ev a W σ G fun x G1 => boolQ x fun c => if c = true then ev b W σ G1 Q else Q (.bl false) G1
  | .or a b, W, σ, G, Q => ev a W σ G fun x G1 => boolQ x fun c => if c = true then Q (.bl true) G1 else ev b W σ G1 Q
  | .ite c a b, W, σ, G, Q => ev c W σ G fun x G1 => boolQ x fun k => if k = true then ev a W σ G1 Q else ev b W σ G1 Q
  | .cmp op a b, W, σ, G, Q => ev a W σ G fun x G1 => ev b W σ G1 fun y G2 => cmpQ op x y G2 fun k => Q (.bl k) G2
  | .chain op op' a b c, W, σ, G, Q => ev a W σ G fun x G1 => ev b W σ G1 fun y G2 => cmpQ op x y G2 fun k =>
      if k = true then ev c W σ G2 fun z G3 => cmpQ op' y z G3 fun k' => Q (.bl k') G3 else Q (.bl false) G2
  | .isin a ts, W, σ, G, Q => ev a W σ G fun x G1 => known G1 x ∧ Q (.bl (isInst (tyD G1 x) ts)) G1
  | .sub a i, W, σ, G, Q => ev a W σ G fun x G1 => ev i W σ G1 fun y G2 => subQ x y G2 Q
  | .sl a lo hi, W, σ, G, Q => ev a W σ G fun x G1 => evO lo W σ G1 fun l G2 => evO hi W σ G2 fun h G3 => slQ x l h G3 Q
  | .fld C a f, W, σ, G, Q => ev a W σ G fun x G1 => fldQ C f x G1 Q
  | .tup es, W, σ, G, Q => evs es W σ G fun ds G1 => Q (.tup ds) G1
  | .lst es, W, σ, G, Q => evs es W σ G fun ds G1 => ∀ p, G1 p = none → Q (.ref p) (gup G1 p (.lst ds))
  | .dnewK, _, _, G, Q => ∀ p, G p = none → Q (.ref p) (gup G p (.dK []))
  | .dnewT, _, _, G, Q => ∀ p, G p = none → Q (.ref p) (gup G p (.dT []))
  | .call f es, W, σ, G, Q => evs es W σ G fun ds G1 => Φ f ds G1 W Q
  | .mk C f es, W, σ, G, Q => evs es W σ G fun ds G1 => ∀ p, G1 p = none → Φ f (.ref p :: ds) (gup G1 p (.ins C [])) W fun v G2 => v = .non ∧ Q (.ref p) G2
  | .meth C m f a es, W, σ, G, Q => ev a W σ G fun x G1 => ∃ p fs, x = .ref p ∧ G1 p = some (.ins C fs) ∧ fs.lookup m = none ∧ evs es W σ G1 fun ds G2 => Φ f (x :: ds) G2 W Q
  | .bi f es, W, σ, G, Q => evs es W σ G fun ds G1 => biQ f ds G1 Q
  | .bm m a es, W, σ, G, Q => ev a W σ G fun x G1 => bmT m x G1 ∧ evs es W σ G1 fun ds G2 => bmQ m x ds G2 Q
  | .comp own it tg c e, W, σ, G, Q => evI it W σ G fun ds ok G1 => ∀ p, G1 p = none →
      compL ok p σ (own.map (·.2)) (fun d σ1 G2 K => evT tg d WE0 σ1 G2 K) (fun σ1 G2 K => ev c WE0 σ1 G2 fun v G3 => boolQ v fun b => K b G3) (fun σ1 G2 K => ev e WE0 σ1 G2 K) (fun G2 => Q (.ref p) G2) ds (gup G1 p (.lst []))
  | .never, _, _, _, _ => False
def evs : Exs → WE → DSt → GH → (List D → GH → Prop) → Prop
  | .nil, _, _, G, Q => Q [] G
  | .cons e es, W, σ, G, Q => ev e W σ G fun d G1 => evs es W σ G1 fun ds G2 => Q (d :: ds) G2
def evO : Ox → WE → DSt → GH → (Option Int → GH → Prop) → Prop
  | .no, _, _, G, Q => Q none G
  | .yes e, W, σ, G, Q => ev e W σ G fun x G1 => ∃ i, x = .int i ∧ Q (some i) G1
def evI : Ir → WE → DSt → GH → (List D → (GH → Prop) → GH → Prop) → Prop
  | .seq e, W, σ, G, Q => ev e W σ G fun x G1 => seqI x G1 Q
  | .range1 a, W, σ, G, Q => ev a W σ G fun x G1 => ∃ n : Int, x = .int n ∧ -(2 ^ 62) ≤ n ∧ n < 2 ^ 62 ∧ Q (rangeL 0 n.toNat) (fun _ => True) G1
  | .range2 a b, W, σ, G, Q => ev a W σ G fun x G1 => ev b W σ G1 fun y G2 => ∃ i j : Int, x = .int i ∧ y = .int j ∧ (-(2 ^ 62) ≤ i ∧ i < 2 ^ 62 ∧ -(2 ^ 62) ≤ j ∧ j < 2 ^ 62) ∧ Q (rangeL i (j - i).toNat) (fun _ => True) G2
  | .enum e, W, σ, G, Q => ev e W σ G fun x G1 => seqJ x G1 fun xs ok G2 => Q (enumD xs) ok G2
  | .zip a b, W, σ, G, Q => ev a W σ G fun x G1 => ev b W σ G1 fun y G2 => seqJ x G2 fun xs ok G3 => seqJ y G3 fun ys ok' G4 => Q (zipD xs ys) (fun G' => ok G' ∧ ok' G') G4
def evT : Tg → D → WE → DSt → GH → (DSt → GH → Prop) → Prop
  | .nm i, d, _, σ, G, Q => Q (σ.set i (some d)) G
  | .tp ts, d, W, σ, G, Q => ∃ xs, d = .tup xs ∧ xs.length = tgLen ts ∧ evTs ts xs W σ G Q
  | .sb a i, d, W, σ, G, Q => ev a W σ G fun x G1 => ev i W σ G1 fun y G2 => setQ x y d G2 fun G3 => Q σ G3
  | .at C a f, d, W, σ, G, Q => ev a W σ G fun x G1 => setF C f x d G1 fun G2 => Q σ G2
def evTs : Tgs → List D → WE → DSt → GH → (DSt → GH → Prop) → Prop
  | .nil, xs, _, σ, G, Q => xs = [] ∧ Q σ G
  | .cons t ts, xs, W, σ, G, Q => ∃ x r, xs = x :: r ∧ evT t x W σ G fun σ1 G1 => evTs ts r W σ1 G1 Q
end
variable (W : WE)
mutual
def ex : Sm → DEnds → DSt → GH → Prop
  | .expr e, E, σ, G => ev Φ e W σ G fun _ G1 => E.nx σ G1
  | .asg t e, E, σ, G => ev Φ e W σ G fun d G1 => evT Φ t d W σ G1 E.nx
  | .par i j a b, E, σ, G => ev Φ a W σ G fun x G1 => ev Φ b W σ G1 fun y G2 => E.nx ((σ.set i (some x)).set j (some y)) G2
  | .aug i op e, E, σ, G => ∃ x, σ[i]? = some (some x) ∧ ev Φ e W σ G fun y G1 => augQ op x y G1 fun z G2 => E.nx (σ.set i (some z)) G2
  | .augA C a f op e, E, σ, G => ev Φ a W σ G fun x G1 => fldQ C f x G1 fun u G2 => ev Φ e W σ G2 fun y G3 => augQ op u y G3 fun z G4 => setF C f x z G4 fun G5 => E.nx σ G5
  | .ite c a b, E, σ, G => ev Φ c W σ G fun v G1 => boolQ v fun k => if k = true then exs a E σ G1 else exs b E σ G1
  | .for t it b, E, σ, G => evI Φ it W σ G fun ds ok G1 => forL ok (fun d σ1 G2 K => evT Φ t d W σ1 G2 K) (fun E' σ1 G2 => exs b E' σ1 G2) E ds σ G1
  | .while c b, E, σ, G => ∃ n, whileN (fun σ1 G2 K => ev Φ c W σ1 G2 fun v G3 => boolQ v fun k => K k G3) (fun E' σ1 G2 => exs b E' σ1 G2) E n σ G
  | .ret e, E, σ, G => ev Φ e W σ G E.rt
  | .retN, E, _, G => E.rt .non G
  | .raise C, _, _, G => W ⟨C, []⟩ G
  | .pass, E, σ, G => E.nx σ G
  | .brk, E, σ, G => E.bk σ G
  | .cont, E, σ, G => E.ct σ G
  | .never, _, _, _ => False
def exs : Sms → DEnds → DSt → GH → Prop
  | .nil, E, σ, G => E.nx σ G
  | .cons s ss, E, σ, G => ex s { E with nx := fun σ1 G1 => exs ss E σ1 G1 } σ G
end
/-- a def's body run at its arguments; n names in all -/
def run (n : Nat) (b : Sms) (ds : List D) (G : GH) (Q : KD) : Prop := exs Φ W b { nx := fun _ G1 => Q .non G1, rt := Q } (ds.map some ++ List.replicate (n - ds.length) none) G
end
end Ink
set_option Elab.async false
set_option linter.all false
set_option maxRecDepth 100000
set_option maxHeartbeats 4000000
/-! Ink, part C: from the layer's judgements to data: expressions. -/
namespace Ink
open PySem PySem.Spec PyProof.Rows L2

/-! ### the strongest readings -/
section
variable (X : Cx)
def twE (e : Expr) : TE := fun σ H Q => ∀ pins s, Inv X pins σ H s → wpAny (model X.prog X.w) X.A (eval e X.env) (EP X pins σ Q) X.xe s
def twT (e : Expr) : TT := fun σ H Q => ∀ pins s, Inv X pins σ H s → wpAny (model X.prog X.w) X.A (isTrue e X.env (eval e X.env)) (TP X pins σ Q) X.xe s
def twA (es : List Expr) : TA := fun σ H Q => ∀ pos pins s, Inv X pins σ H s → wpAny (model X.prog X.w) X.A (spliced (backTo pos (starEach es X.env))) (AP X pins σ Q) X.xe s
def twO (f : Value → Value → Sem Value) : R2 := fun x y H Q => ∀ pins s σ v u, Inv X pins σ H s → RelV x v → RelV y u → wpAny (model X.prog X.w) X.A (f v u) (EP X pins σ Q) X.xe s
def twP (e : Option Expr) : TO := fun σ H Q => ∀ pins s, Inv X pins σ H s → wpAny (model X.prog X.w) X.A (evalPart e X.env) (fun u s' => ∃ o H', Inv X pins σ H' s' ∧ IsPart u o ∧ Q o H') X.xe s
end
section
variable {X : Cx} {e : Expr} {es : List Expr} {σ : L2.St} {H : Hp}
theorem pe_tw : PE X e (twE X e) := ⟨fun pins s σ H Q I h => h pins s I⟩
theorem pt_tw : PT X e (twT X e) := ⟨fun pins s σ H Q I h => h pins s I⟩
theorem pa_tw : PA X es (twA X es) := ⟨fun pos pins s σ H Q I h => h pos pins s I⟩
theorem po_tw {o : Option Expr} : PO X o (twP X o) := ⟨fun pins s σ H Q I h => h pins s I⟩
theorem op_tw {f : Value → Value → Sem Value} : OpR X f (twO X f) := fun pins s σ H x y v u Q I r1 r2 h => h pins s σ v u I r1 r2
theorem tw_pe {t : TE} {Q : VK} (h : PE X e t) (q : t σ H Q) : twE X e σ H Q := fun pins s I => h.run pins s σ H Q I q
theorem tw_pt {t : TT} {Q : Bool → Hp → Prop} (h : PT X e t) (q : t σ H Q) : twT X e σ H Q := fun pins s I => h.run pins s σ H Q I q
theorem tw_pa {t : TA} {Q : List V → Hp → Prop} (h : PA X es t) (q : t σ H Q) : twA X es σ H Q := fun pos pins s I => h.run pos pins s σ H Q I q
theorem tw_po {t : TO} {o : Option Expr} {Q : Option Int → Hp → Prop} (h : PO X o t) (q : t σ H Q) : twP X o σ H Q := fun pins s I => h.run pins s σ H Q I q
theorem tw_op {f : Value → Value → Sem Value} {r : R2} {x y : V} {Q : VK} (h : OpR X f r) (q : r x y H Q) : twO X f x y H Q := fun pins s σ v u I r1 r2 => h pins s σ H x y v u Q I r1 r2 q
end

/-! ### the judgements over data; H0: the heap at the def's entry -/
/-- what is wanted holds behind: of every datum that stands for the value -/
def Back (K : PySem.W.Frag) (H : Hp) (Qd : KD) (R : VK) : Prop := ∀ d v G' H', Rep K H' d v → SimG K H' G' → Stab H H' → Qd d G' → R v H'
def DE (X : Cx) (H0 : Hp) (e : Expr) (f : DSt → GH → KD → Prop) : Prop :=
  ∀ σ H σd G Qd R, Slots X.K H σd σ → SimG X.K H G → Stab H0 H → f σd G Qd → Back X.K H Qd R → twE X e σ H R
def BackT (K : PySem.W.Frag) (H : Hp) (Qd : Bool → GH → Prop) (R : Bool → Hp → Prop) : Prop := ∀ b G' H', SimG K H' G' → Stab H H' → Qd b G' → R b H'
def DT (X : Cx) (H0 : Hp) (e : Expr) (f : DSt → GH → (Bool → GH → Prop) → Prop) : Prop :=
  ∀ σ H σd G Qd R, Slots X.K H σd σ → SimG X.K H G → Stab H0 H → f σd G Qd → BackT X.K H Qd R → twT X e σ H R
def BackA (K : PySem.W.Frag) (H : Hp) (n : Nat) (Qd : List D → GH → Prop) (R : List V → Hp → Prop) : Prop := ∀ ds vs G' H', ds.length = n → Reps K H' ds vs → SimG K H' G' → Stab H H' → Qd ds G' → R vs H'
def DA (X : Cx) (H0 : Hp) (es : List Expr) (f : DSt → GH → (List D → GH → Prop) → Prop) : Prop :=
  ∀ σ H σd G Qd R, Slots X.K H σd σ → SimG X.K H G → Stab H0 H → f σd G Qd → BackA X.K H es.length Qd R → twA X es σ H R
def DO (X : Cx) (H0 : Hp) (o : Option Expr) (f : DSt → GH → (Option Int → GH → Prop) → Prop) : Prop :=
  ∀ σ H σd G Qd R, Slots X.K H σd σ → SimG X.K H G → Stab H0 H → f σd G Qd → (∀ (i : Option Int) G' H', SimG X.K H' G' → Stab H H' → Qd i G' → R i H') → twP X o σ H R
/-- an operation on two values -/
def DOp (X : Cx) (f : Value → Value → Sem Value) (q : D → D → GH → KD → Prop) : Prop :=
  ∀ x y vx vy H G Qd R, Rep X.K H x vx → Rep X.K H y vy → SimG X.K H G → q x y G Qd → Back X.K H Qd R → twO X f vx vy H R
theorem Back.here {K : PySem.W.Frag} {H : Hp} {Qd : KD} {R : VK} (k : Back K H Qd R) {d : D} {v : V} {G : GH} (r : Rep K H d v) (s : SimG K H G) (q : Qd d G) : R v H := k d v G H r s (Stab.refl _) q
theorem Back.from {K : PySem.W.Frag} {H H1 : Hp} {Qd : KD} {R : VK} (k : Back K H Qd R) (st : Stab H H1) : Back K H1 Qd R := fun d v G' H' r s st' q => k d v G' H' r s (st.trans st') q
theorem BackT.from {K : PySem.W.Frag} {H H1 : Hp} {Qd : Bool → GH → Prop} {R : Bool → Hp → Prop} (k : BackT K H Qd R) (st : Stab H H1) : BackT K H1 Qd R := fun b G' H' s st' q => k b G' H' s (st.trans st') q
theorem BackA.from {K : PySem.W.Frag} {H H1 : Hp} {Qd : List D → GH → Prop} {R : List V → Hp → Prop} {n : Nat} (k : BackA K H n Qd R) (st : Stab H H1) : BackA K H1 n Qd R := fun b vs G' H' l r s st' q => k b vs G' H' l r s (st.trans st') q

section
variable {X : Cx} {H0 : Hp} {a b c e : Expr} {es : List Expr} {pos : Pos} {fa fb fc : DSt → GH → KD → Prop}

theorem DE.weak {f f' : DSt → GH → KD → Prop} (h : DE X H0 e f) (w : ∀ σ G Q, f' σ G Q → f σ G Q) : DE X H0 e f' := fun σ H σd G Qd R S s st q k => h σ H σd G Qd R S s st (w _ _ _ q) k
theorem DT.weak {f f' : DSt → GH → (Bool → GH → Prop) → Prop} (h : DT X H0 e f) (w : ∀ σ G Q, f' σ G Q → f σ G Q) : DT X H0 e f' := fun σ H σd G Qd R S s st q k => h σ H σd G Qd R S s st (w _ _ _ q) k

theorem de_var {i : Nat} {x : Str} (hN : X.N[i]? = some x) (hv : Vis X.env.scope x) (hd : (x == ("__debug__" : Str)) = false) (hcd : (x == ("__classdict__" : Str)) = false) :
    DE X H0 (.Name x pos) (fun σ G Q => ∃ d, σ[i]? = some (some d) ∧ Q d G) := fun σ H σd G Qd R S s st h k => by
  obtain ⟨d, h1, h2⟩ := h
  obtain ⟨v, e1, e2⟩ := S.2 i d h1
  exact tw_pe (pe_var hN hv hd hcd) ⟨v, e1, k.here e2 s h2⟩
theorem de_const {d : D} {v : V} (h : PE X e (tC v)) (r : ∀ H, Rep X.K H d v) : DE X H0 e (fun _ G Q => Q d G) := fun σ H σd G Qd R S s st q k => tw_pe h (k.here (r H) s q)
theorem de_op {f : Operator} {q : D → D → GH → KD → Prop} (ho : DOp X (binaryOp f) q) (ha : DE X H0 a fa) (hb : DE X H0 b fb) :
    DE X H0 (.BinOp a f b pos) (fun σ G Q => fa σ G fun x G1 => fb σ G1 fun y G2 => q x y G2 Q) := fun σ H σd G Qd R S s st h k =>
  tw_pe (pe_op op_tw pe_tw pe_tw) (ha σ H σd G _ _ S s st h fun x vx G1 H1 rx s1 st1 h1 =>
    hb σ H1 σd G1 _ _ (S.stab st1) s1 (st.trans st1) h1 fun y vy G2 H2 ry s2 st2 h2 => ho x y vx vy H2 G2 Qd R (rx.stab st2) ry s2 h2 (k.from (st1.trans st2)))
theorem de_neg (ha : DE X H0 a fa) : DE X H0 (.UnaryOp .USub a pos) (fun σ G Q => fa σ G fun x G1 => ∃ i, x = .int i ∧ Q (.int (-i)) G1) := fun σ H σd G Qd R S s st h k =>
  tw_pe (pe_un un_neg pe_tw) (ha σ H σd G _ _ S s st h fun x vx G1 H1 rx s1 st1 h1 => by
    obtain ⟨i, rfl, q⟩ := h1
    rw [rx.intv]
    exact ⟨i, rfl, k.from st1 |>.here .int s1 q⟩)
/-- a comparison on two values: the answer -/
def DCp (X : Cx) (op : CmpOp) (q : D → D → GH → (Bool → Prop) → Prop) : Prop :=
  ∀ (x y : D) (vx vy : V) (H : Hp) (G : GH) (Qd R : Bool → Prop), Rep X.K H x vx → Rep X.K H y vy → SimG X.K H G → q x y G Qd → (∀ b, Qd b → R b) → twO X (compareOp op) vx vy H fun v H' => ∃ k, v = .bl k ∧ H' = H ∧ R k
theorem de_cmp {op : CmpOp} {q : D → D → GH → (Bool → Prop) → Prop} (ho : DCp X op q) (hm : behindInMarks op b = false) (ha : DE X H0 a fa) (hb : DE X H0 b fb) :
    DE X H0 (.Compare a [op] [b] pos) (fun σ G Q => fa σ G fun x G1 => fb σ G1 fun y G2 => q x y G2 fun k => Q (.bl k) G2) := fun σ H σd G Qd R S s st h k =>
  tw_pe (pe_cmpR op_tw pe_tw pe_tw hm) (ha σ H σd G _ _ S s st h fun x vx G1 H1 rx s1 st1 h1 =>
    hb σ H1 σd G1 _ _ (S.stab st1) s1 (st.trans st1) h1 fun y vy G2 H2 ry s2 st2 h2 => fun pins s' σ' v u I r1 r2 =>
      thn (ho x y vx vy H2 G2 _ (fun c => Qd (.bl c) G2) (rx.stab st2) ry s2 h2 (fun _ q => q) pins s' σ' v u I r1 r2) fun z s3 ⟨zv, H3, I3, r3, c, e1, e2, q⟩ => by
        subst e1 e2
        exact ⟨.bl c, H3, I3, r3, (k.from (st1.trans st2)).here .bl s2 q⟩)
theorem dt_cmp {op : CmpOp} {q : D → D → GH → (Bool → Prop) → Prop} (ho : DCp X op q) (hm : behindInMarks op b = false) (ha : DE X H0 a fa) (hb : DE X H0 b fb) :
    DT X H0 (.Compare a [op] [b] pos) (fun σ G Q => fa σ G fun x G1 => fb σ G1 fun y G2 => q x y G2 fun k => Q k G2) := fun σ H σd G Qd R S s st h k =>
  tw_pt (pt_cmpR op_tw pe_tw pe_tw hm) (ha σ H σd G _ _ S s st h fun x vx G1 H1 rx s1 st1 h1 =>
    hb σ H1 σd G1 _ _ (S.stab st1) s1 (st.trans st1) h1 fun y vy G2 H2 ry s2 st2 h2 => fun pins s' σ' v u I r1 r2 =>
      thn (ho x y vx vy H2 G2 _ (fun c => Qd c G2) (rx.stab st2) ry s2 h2 (fun _ q => q) pins s' σ' v u I r1 r2) fun z s3 ⟨zv, H3, I3, r3, c, e1, e2, q⟩ => by
        subst e1 e2
        exact ⟨.bl c, H3, I3, r3, c, rfl, k _ _ _ s2 (st1.trans st2) q⟩)
theorem de_chain {op op' : CmpOp} {q q' : D → D → GH → (Bool → Prop) → Prop} (ho : DCp X op q) (ho' : DCp X op' q') (hm : lastMarks [op, op'] [b, c] = false) (ha : DE X H0 a fa) (hb : DE X H0 b fb) (hc : DE X H0 c fc) :
    DE X H0 (.Compare a [op, op'] [b, c] pos) (fun σ G Q => fa σ G fun x G1 => fb σ G1 fun y G2 => q x y G2 fun k =>
      if k = true then fc σ G2 fun z G3 => q' y z G3 fun k' => Q (.bl k') G3 else Q (.bl false) G2) := fun σ H σd G Qd R S s st h k =>
  tw_pe (pe_chain op_tw op_tw pe_tw pe_tw pe_tw hm) (ha σ H σd G _ _ S s st h fun x vx G1 H1 rx s1 st1 h1 =>
    hb σ H1 σd G1 _ _ (S.stab st1) s1 (st.trans st1) h1 fun y vy G2 H2 ry s2 st2 h2 => fun pins s' σ' v u I r1 r2 =>
      thn (ho x y vx vy H2 G2 _ _ (rx.stab st2) ry s2 h2 (fun _ q => q) pins s' σ' v u I r1 r2) fun z s3 ⟨zv, H3, I3, r3, c0, e1, e2, q⟩ => by
        subst e1 e2
        refine ⟨.bl c0, H3, I3, r3, c0, rfl, ?_⟩
        cases c0 with
        | false =>
          rw [if_neg Bool.false_ne_true] at q ⊢
          exact (k.from (st1.trans st2)).here .bl s2 q
        | true =>
          rw [if_pos rfl] at q ⊢
          exact hc σ H3 σd G2 _ _ (S.stab (st1.trans st2)) s2 (st.trans (st1.trans st2)) q fun z vz G3 H4 rz s4 st4 h4 => fun pins s' σ' v u I r1 r2 =>
            thn (ho' y z vy vz H4 G3 _ (fun c => Qd (.bl c) G3) (ry.stab st4) rz s4 h4 (fun _ q => q) pins s' σ' v u I r1 r2) fun w s5 ⟨wv, H5, I5, r5, c1, e1, e2, q⟩ => by
              subst e1 e2
              exact ⟨.bl c1, H5, I5, r5, (k.from ((st1.trans st2).trans st4)).here .bl s4 q⟩)
theorem dt_chain {op op' : CmpOp} {q q' : D → D → GH → (Bool → Prop) → Prop} (ho : DCp X op q) (ho' : DCp X op' q') (hm : lastMarks [op, op'] [b, c] = false) (ha : DE X H0 a fa) (hb : DE X H0 b fb) (hc : DE X H0 c fc) :
    DT X H0 (.Compare a [op, op'] [b, c] pos) (fun σ G Q => fa σ G fun x G1 => fb σ G1 fun y G2 => q x y G2 fun k =>
      if k = true then fc σ G2 fun z G3 => q' y z G3 fun k' => Q k' G3 else Q false G2) := fun σ H σd G Qd R S s st h k =>
  tw_pt (pt_chain op_tw op_tw pe_tw pe_tw pe_tw hm) (ha σ H σd G _ _ S s st h fun x vx G1 H1 rx s1 st1 h1 =>
    hb σ H1 σd G1 _ _ (S.stab st1) s1 (st.trans st1) h1 fun y vy G2 H2 ry s2 st2 h2 => fun pins s' σ' v u I r1 r2 =>
      thn (ho x y vx vy H2 G2 _ _ (rx.stab st2) ry s2 h2 (fun _ q => q) pins s' σ' v u I r1 r2) fun z s3 ⟨zv, H3, I3, r3, c0, e1, e2, q⟩ => by
        subst e1 e2
        refine ⟨.bl c0, H3, I3, r3, c0, rfl, ?_⟩
        cases c0 with
        | false =>
          rw [if_neg Bool.false_ne_true] at q ⊢
          exact ⟨false, rfl, k _ _ _ s2 (st1.trans st2) q⟩
        | true =>
          rw [if_pos rfl] at q ⊢
          exact hc σ H3 σd G2 _ _ (S.stab (st1.trans st2)) s2 (st.trans (st1.trans st2)) q fun z vz G3 H4 rz s4 st4 h4 => fun pins s' σ' v u I r1 r2 =>
            thn (ho' y z vy vz H4 G3 _ (fun c => Qd c G3) (ry.stab st4) rz s4 h4 (fun _ q => q) pins s' σ' v u I r1 r2) fun w s5 ⟨wv, H5, I5, r5, c1, e1, e2, q⟩ => by
              subst e1 e2
              exact ⟨.bl c1, H5, I5, r5, c1, rfl, k _ _ _ s4 ((st1.trans st2).trans st4) q⟩)

theorem boolQ_inv {v : D} {Q : Bool → Prop} (h : boolQ v Q) : ∃ b, v = .bl b ∧ Q b := by
  cases v <;> first | exact h.elim | exact ⟨_, rfl, h⟩
/-- from an expression to a test -/
theorem dt_of (he : ∀ whole, isTrue e X.env whole = (do let v ← whole; standAt e.pos; holding [v] (truthy v))) (h : DE X H0 e fa) : DT X H0 e (fun σ G Q => fa σ G fun v G1 => boolQ v fun b => Q b G1) := fun σ H σd G Qd R S s st q k =>
  tw_pt (pt_val pe_tw he) (h σ H σd G _ _ S s st q fun d v G1 H1 r s1 st1 h1 => by
    obtain ⟨b, rfl, h1⟩ := boolQ_inv h1
    rw [r.blv]
    exact ⟨b, rfl, k _ _ _ s1 st1 h1⟩)
theorem de_not (ha : DE X H0 a fa) : DE X H0 (.UnaryOp .Not a pos) (fun σ G Q => fa σ G fun x G1 => boolQ x fun b => Q (.bl (!b)) G1) := fun σ H σd G Qd R S s st h k =>
  tw_pe (pe_not pe_tw) (ha σ H σd G _ _ S s st h fun x vx G1 H1 rx s1 st1 h1 => by
    obtain ⟨b, rfl, h1⟩ := boolQ_inv h1
    rw [rx.blv]
    exact ⟨b, rfl, (k.from st1).here .bl s1 h1⟩)
theorem dt_not {ta : DSt → GH → (Bool → GH → Prop) → Prop} (ha : DT X H0 a ta) : DT X H0 (.UnaryOp .Not a pos) (fun σ G Q => ta σ G fun b G1 => Q (!b) G1) := fun σ H σd G Qd R S s st h k =>
  tw_pt (pt_not pt_tw) (ha σ H σd G _ _ S s st h fun b G1 H1 s1 st1 h1 => k _ _ _ s1 st1 h1)
theorem de_ite {tc : DSt → GH → (Bool → GH → Prop) → Prop} (hc : DT X H0 c tc) (ha : DE X H0 a fa) (hb : DE X H0 b fb) :
    DE X H0 (.IfExp c a b pos) (fun σ G Q => tc σ G fun k G1 => if k = true then fa σ G1 Q else fb σ G1 Q) := fun σ H σd G Qd R S s st h k =>
  tw_pe (pe_ifExp pt_tw pe_tw pe_tw) (hc σ H σd G _ _ S s st h fun b G1 H1 s1 st1 h1 => by
    cases b with
    | true =>
      rw [if_pos rfl] at h1 ⊢
      exact ha σ H1 σd G1 _ _ (S.stab st1) s1 (st.trans st1) h1 (k.from st1)
    | false =>
      rw [if_neg Bool.false_ne_true] at h1 ⊢
      exact hb σ H1 σd G1 _ _ (S.stab st1) s1 (st.trans st1) h1 (k.from st1))
theorem de_one {op : BoolOp} (ha : DE X H0 a fa) : DE X H0 (.BoolOp op [a] pos) fa := fun σ H σd G Qd R S s st h k => tw_pe (pe_one pe_tw) (ha σ H σd G _ _ S s st h k)
theorem de_and {rest : List Expr} (ha : DE X H0 a fa) (hb : DE X H0 (.BoolOp .And (b :: rest) pos) fb) :
    DE X H0 (.BoolOp .And (a :: b :: rest) pos) (fun σ G Q => fa σ G fun x G1 => boolQ x fun c => if c = true then fb σ G1 Q else Q (.bl false) G1) := fun σ H σd G Qd R S s st h k =>
  tw_pe (pe_and pe_tw pe_tw) (ha σ H σd G _ _ S s st h fun x vx G1 H1 rx s1 st1 h1 => by
    obtain ⟨c, rfl, q1⟩ := boolQ_inv h1
    rw [rx.blv]
    refine ⟨c, rfl, ?_⟩
    cases c with
    | true =>
      rw [if_pos rfl] at q1 ⊢
      exact hb σ H1 σd G1 _ _ (S.stab st1) s1 (st.trans st1) q1 (k.from st1)
    | false =>
      rw [if_neg Bool.false_ne_true] at q1 ⊢
      exact (k.from st1).here .bl s1 q1)
theorem de_or {rest : List Expr} (ha : DE X H0 a fa) (hb : DE X H0 (.BoolOp .Or (b :: rest) pos) fb) :
    DE X H0 (.BoolOp .Or (a :: b :: rest) pos) (fun σ G Q => fa σ G fun x G1 => boolQ x fun c => if c = true then Q (.bl true) G1 else fb σ G1 Q) := fun σ H σd G Qd R S s st h k =>
  tw_pe (pe_or pe_tw pe_tw) (ha σ H σd G _ _ S s st h fun x vx G1 H1 rx s1 st1 h1 => by
    obtain ⟨c, rfl, q1⟩ := boolQ_inv h1
    rw [rx.blv]
    refine ⟨c, rfl, ?_⟩
    cases c with
    | true =>
      rw [if_pos rfl] at q1 ⊢
      exact (k.from st1).here .bl s1 q1
    | false =>
      rw [if_neg Bool.false_ne_true] at q1 ⊢
      exact hb σ H1 σd G1 _ _ (S.stab st1) s1 (st.trans st1) q1 (k.from st1))
/-- a test whatever its whole is -/
def DW (X : Cx) (H0 : Hp) (e : Expr) (f : DSt → GH → (Bool → GH → Prop) → Prop) : Prop :=
  ∀ σ H σd G Qd R, Slots X.K H σd σ → SimG X.K H G → Stab H0 H → f σd G Qd → BackT X.K H Qd R → ∀ whole pins s, Inv X pins σ H s → wpAny (model X.prog X.w) X.A (isTrue e X.env whole) (TP X pins σ R) X.xe s
def twW (X : Cx) (e : Expr) : TT := fun σ H Q => ∀ whole pins s, Inv X pins σ H s → wpAny (model X.prog X.w) X.A (isTrue e X.env whole) (TP X pins σ Q) X.xe s
theorem pw_tw : PW X e (twW X e) := ⟨fun wh pins s σ H Q I h => h wh pins s I⟩
theorem DW.dt {f : DSt → GH → (Bool → GH → Prop) → Prop} (h : DW X H0 e f) : DT X H0 e f := fun σ H σd G Qd R S s st q k => h σ H σd G Qd R S s st q k _
variable {ta tb : DSt → GH → (Bool → GH → Prop) → Prop}
theorem dw_one {op : BoolOp} (ha : DT X H0 a ta) : DW X H0 (.BoolOp op [a] pos) ta := fun σ H σd G Qd R S s st h k => by
  cases op with
  | And => exact fun wh pins s' I => (pw_and1 (pt_tw (e := a))).run wh pins s' σ H R I (ha σ H σd G Qd R S s st h k)
  | Or => exact fun wh pins s' I => (pw_or1 (pt_tw (e := a))).run wh pins s' σ H R I (ha σ H σd G Qd R S s st h k)
theorem dw_and {rest : List Expr} (ha : DT X H0 a ta) (hb : DW X H0 (.BoolOp .And (b :: rest) pos) tb) :
    DW X H0 (.BoolOp .And (a :: b :: rest) pos) (fun σ G Q => ta σ G fun c G1 => if c = true then tb σ G1 Q else Q false G1) := fun σ H σd G Qd R S s st h k wh pins s' I =>
  (pw_and pt_tw pw_tw).run wh pins s' σ H R I (ha σ H σd G _ _ S s st h fun c G1 H1 s1 st1 h1 => by
    cases c with
    | true =>
      rw [if_pos rfl] at h1 ⊢
      exact hb σ H1 σd G1 _ _ (S.stab st1) s1 (st.trans st1) h1 (k.from st1)
    | false =>
      rw [if_neg Bool.false_ne_true] at h1 ⊢
      exact k _ _ _ s1 st1 h1)
theorem dw_or {rest : List Expr} (ha : DT X H0 a ta) (hb : DW X H0 (.BoolOp .Or (b :: rest) pos) tb) :
    DW X H0 (.BoolOp .Or (a :: b :: rest) pos) (fun σ G Q => ta σ G fun c G1 => if c = true then Q true G1 else tb σ G1 Q) := fun σ H σd G Qd R S s st h k wh pins s' I =>
  (pw_or pt_tw pw_tw).run wh pins s' σ H R I (ha σ H σd G _ _ S s st h fun c G1 H1 s1 st1 h1 => by
    cases c with
    | true =>
      rw [if_pos rfl] at h1 ⊢
      exact k _ _ _ s1 st1 h1
    | false =>
      rw [if_neg Bool.false_ne_true] at h1 ⊢
      exact hb σ H1 σd G1 _ _ (S.stab st1) s1 (st.trans st1) h1 (k.from st1))

/-! ### argument lists, displays -/
theorem da_nil : DA X H0 [] (fun _ G Q => Q [] G) := fun σ H σd G Qd R S s st h k => tw_pa pa_nil (k [] [] G H rfl .nil s (Stab.refl _) h)
variable {fs : DSt → GH → (List D → GH → Prop) → Prop}
theorem da_cons (hs : starEach (e :: es) X.env = (false, eval e X.env) :: starEach es X.env) (ha : DE X H0 e fa) (hr : DA X H0 es fs) :
    DA X H0 (e :: es) (fun σ G Q => fa σ G fun d G1 => fs σ G1 fun ds G2 => Q (d :: ds) G2) := fun σ H σd G Qd R S s st h k =>
  tw_pa (pa_cons pe_tw pa_tw hs) (ha σ H σd G _ _ S s st h fun x vx G1 H1 rx s1 st1 h1 =>
    hr σ H1 σd G1 _ _ (S.stab st1) s1 (st.trans st1) h1 fun ds vs G2 H2 l2 r2 s2 st2 h2 => k _ _ _ _ (by simp [l2]) (.cons (rx.stab st2) r2) s2 (st1.trans st2) h2)
theorem de_tup {n : Nat} (hl : es.length ≤ 1000) (h : DA X H0 es fs) : DE X H0 (.Tuple es n pos) (fun σ G Q => fs σ G fun ds G1 => Q (.tup ds) G1) := fun σ H σd G Qd R S s st q k =>
  tw_pe (pe_tup pa_tw) (h σ H σd G _ _ S s st q fun ds vs G1 H1 hn r s1 st1 h1 => by
    refine ⟨?_, fun p hp => ?_⟩
    · rw [r.length, hn]
      exact Nat.le_of_lt (small1000 hl)
    · exact k _ _ G1 _ (.tup (SqT.of upd_same) (r.stab (Stab.new hp))) (s1.grow hp) (st1.trans (Stab.new hp)) h1)
theorem de_lst (hl : es.length ≤ 1000) (h : DA X H0 es fs) :
    DE X H0 (.List es pos) (fun σ G Q => fs σ G fun ds G1 => ∀ p, G1 p = none → Q (.ref p) (gup G1 p (.lst ds))) := fun σ H σd G Qd R S s st q k =>
  tw_pe (pe_lst pa_tw) (h σ H σd G _ _ S s st q fun ds vs G1 H1 hn r s1 st1 h1 => by
    refine ⟨?_, fun p hp => ?_⟩
    · rw [r.length, hn]
      exact Nat.le_of_lt (small1000 hl)
    · exact k _ _ _ _ .ref (s1.newL hp r) (st1.trans (Stab.new hp)) (h1 p (s1.fresh hp)))

/-! ### subscripts, slices, attributes -/
theorem de_sub (hs : PlainIx b) (ha : DE X H0 a fa) (hb : DE X H0 b fb) : DE X H0 (.Subscript a b pos) (fun σ G Q => fa σ G fun x G1 => fb σ G1 fun y G2 => subQ x y G2 Q) := fun σ H σd G Qd R S s st h k =>
  tw_pe (pe_ix ix_seq pe_tw pe_tw hs) (ha σ H σd G _ _ S s st h fun x vx G1 H1 rx s1 st1 h1 =>
    hb σ H1 σd G1 _ _ (S.stab st1) s1 (st.trans st1) h1 fun y vy G2 H2 ry s2 st2 h2 => by
      have rx2 := rx.stab st2
      have k2 := k.from (st1.trans st2)
      have get : ∀ {xs : List D} {vs : List V} {i : Int} {d : D}, Reps X.K H2 xs vs → atI xs i = some d → ∃ v, atI vs i = some v ∧ Rep X.K H2 d v := fun {xs vs i d} r e => by
        unfold atI at e ⊢
        rw [r.length]
        cases q : ixN xs.length i with
        | none => rw [q] at e; cases e
        | some j =>
          rw [q] at e
          exact r.get e
      cases x with
      | tup xs =>
        cases y with
        | int i =>
          obtain ⟨d, e1, q⟩ := h2
          obtain ⟨p, vs, rfl, hq, r⟩ := rx2.tupv
          rw [ry.intv]
          obtain ⟨v, e2, r2⟩ := get r e1
          exact .inr (.inl ⟨p, vs, i, v, rfl, rfl, hq, e2, k2.here r2 s2 q⟩)
        | _ => exact (show False from h2).elim
      | rol xs =>
        cases y with
        | int i =>
          obtain ⟨d, e1, q⟩ := h2
          obtain ⟨p, vs, rfl, hq, r⟩ := rx2.rolv
          rw [ry.intv]
          obtain ⟨v, e2, r2⟩ := get r e1
          exact .inl ⟨p, vs, i, v, rfl, rfl, hq.sq, e2, k2.here r2 s2 q⟩
        | _ => exact (show False from h2).elim
      | str z =>
        cases y with
        | int i =>
          obtain ⟨hz, c, e1, q⟩ := h2
          rw [rx2.strv, ry.intv]
          exact .inr (.inr ⟨z, i, c, rfl, rfl, hz, e1, k2.here .str s2 q⟩)
        | _ => exact (show False from h2).elim
      | ref p =>
        cases y with
        | int i =>
          obtain ⟨xs, d, e0, e1, q⟩ := h2
          obtain ⟨vs, hq, r⟩ := s2.lst e0
          rw [rx2.refv, ry.intv]
          obtain ⟨v, e2, r2⟩ := get r e1
          exact .inl ⟨p, vs, i, v, rfl, rfl, SqL.of hq, e2, k2.here r2 s2 q⟩
        | _ => exact (show False from h2).elim
      | _ => cases y <;> exact (show False from h2).elim)
theorem do_no : DO X H0 none (fun _ G Q => Q none G) := fun σ H σd G Qd R S s st h k => tw_po po_none (k _ _ _ s (Stab.refl _) h)
theorem do_yes (ha : DE X H0 a fa) : DO X H0 (some a) (fun σ G Q => fa σ G fun x G1 => ∃ i, x = .int i ∧ Q (some i) G1) := fun σ H σd G Qd R S s st h k =>
  tw_po (po_some pe_tw) (ha σ H σd G _ _ S s st h fun x vx G1 H1 rx s1 st1 h1 => by
    obtain ⟨i, rfl, q⟩ := h1
    rw [rx.intv]
    exact ⟨i, rfl, k _ _ _ s1 st1 q⟩)
theorem Reps.cut {K : PySem.W.Frag} {H : Hp} {xs : List D} {vs : List V} (r : Reps K H xs vs) (lo hi : Option Int) : Reps K H (cutD xs lo hi) (cutV vs lo hi) := by
  unfold cutD cutV
  rw [r.length]
  exact (r.drop _).take _
theorem de_sl {lo hi : Option Expr} {p2 : Pos} {tl th : DSt → GH → (Option Int → GH → Prop) → Prop} (ha : DE X H0 a fa) (hl : DO X H0 lo tl) (hh : DO X H0 hi th) :
    DE X H0 (.Subscript a (.Slice lo hi none p2) pos) (fun σ G Q => fa σ G fun x G1 => tl σ G1 fun l G2 => th σ G2 fun h G3 => slQ x l h G3 Q) := fun σ H σd G Qd R S s st h k =>
  tw_pe (pe_slice (SlR.or sl_tupA sl_list) pe_tw po_tw po_tw) (ha σ H σd G _ _ S s st h fun x vx G1 H1 rx s1 st1 h1 =>
    hl σ H1 σd G1 _ _ (S.stab st1) s1 (st.trans st1) h1 fun l G2 H2 s2 st2 h2 => hh σ H2 σd G2 _ _ (S.stab (st1.trans st2)) s2 (st.trans (st1.trans st2)) h2 fun u G3 H3 s3 st3 h3 => by
      have rx3 := rx.stab (st2.trans st3)
      have k3 := k.from (st1.trans (st2.trans st3))
      cases x with
      | tup xs =>
        obtain ⟨p, vs, rfl, hq, r⟩ := rx3.tupv
        refine .inl ⟨p, vs, rfl, hq, fun hw => ?_, fun _ q hn => ?_⟩
        · have e : cutD xs l u = xs := by
            unfold cutD
            rw [← r.length, hw.1, hw.2]
            simp [r.length]
          refine k3.here (d := .tup (cutD xs l u)) ?_ s3 h3
          rw [e]
          exact .tup hq r
        · exact k3 _ _ _ _ (.tup (SqT.of upd_same) ((r.cut l u).stab (Stab.new hn))) (s3.grow hn) (Stab.new hn) h3
      | ref p =>
        obtain ⟨xs, e0, q⟩ := h3
        obtain ⟨vs, hq, r⟩ := s3.lst e0
        rw [rx3.refv]
        exact .inr ⟨p, vs, rfl, SqL.of hq, fun z hn => k3 _ _ _ _ .ref (s3.newL hn (r.cut l u)) (Stab.new hn) (q z (s3.fresh hn))⟩
      | _ => exact (show False from h3).elim)
end
end Ink
set_option Elab.async false
set_option linter.all false
set_option maxRecDepth 100000
set_option maxHeartbeats 4000000
/-! Ink, part D: operations, calls of built-ins. -/
namespace Ink
open PySem PySem.Spec PyProof.Rows L2
section
variable {X : Cx}
theorem dop_add : DOp X (binaryOp .Add) (binQ .add) := by
  intro x y vx vy H G Qd R rx ry s h k
  cases x with
  | int i =>
    cases y with
    | int j => rw [rx.intv, ry.intv]; exact tw_op op_add ⟨i, j, rfl, rfl, k.here .int s h⟩
    | _ => exact (show False from h).elim
  | str i =>
    cases y with
    | str j => rw [rx.strv, ry.strv]; exact tw_op op_add_str ⟨i, j, rfl, rfl, h.1, k.here .str s h.2⟩
    | _ => exact (show False from h).elim
  | tup xs =>
    cases y with
    | tup ys =>
      obtain ⟨hz, q⟩ := h
      obtain ⟨a, vs, rfl, ha, ra⟩ := rx.tupv
      obtain ⟨b, ws, rfl, hb, rb⟩ := ry.tupv
      refine tw_op op_catA ⟨a, b, vs, ws, rfl, rfl, ha, hb, by rw [ra.length, rb.length]; exact hz, fun e => ?_, fun _ e => ?_, fun _ _ p hp => ?_⟩
      · have e2 : xs = [] := List.eq_nil_of_length_eq_zero (by rw [← ra.length, e]; rfl)
        subst e2
        exact k.here (.tup hb (by simpa using rb)) s q
      · have e2 : ys = [] := List.eq_nil_of_length_eq_zero (by rw [← rb.length, e]; rfl)
        subst e2
        exact k.here (.tup ha (by simpa using ra)) s q
      · exact k _ _ _ _ (.tup (SqT.of upd_same) ((ra.append rb).stab (Stab.new hp))) (s.grow hp) (Stab.new hp) q
    | _ => exact (show False from h).elim
  | ref a =>
    cases y with
    | ref b =>
      obtain ⟨xs, ys, ea, eb, hz, q⟩ := h
      rw [rx.refv, ry.refv]
      obtain ⟨vs, ha, ra⟩ := s.lst ea
      obtain ⟨ws, hb, rb⟩ := s.lst eb
      exact tw_op op_cat ⟨a, b, vs, ws, rfl, rfl, ha, hb, by rw [ra.length, rb.length]; exact hz, fun p hp => k _ _ _ _ .ref (s.newL hp (ra.append rb)) (Stab.new hp) (q p (s.fresh hp))⟩
    | _ => exact (show False from h).elim
  | _ => cases y <;> exact (show False from h).elim
theorem dop_sub : DOp X (binaryOp .Sub) (binQ .sub) := by
  intro x y vx vy H G Qd R rx ry s h k
  cases x with
  | int i =>
    cases y with
    | int j => rw [rx.intv, ry.intv]; exact tw_op op_sub ⟨i, j, rfl, rfl, k.here .int s h⟩
    | _ => exact (show False from h).elim
  | _ => cases y <;> exact (show False from h).elim
theorem dop_mul : DOp X (binaryOp .Mult) (binQ .mul) := by
  intro x y vx vy H G Qd R rx ry s h k
  cases x with
  | int i =>
    cases y with
    | int j => rw [rx.intv, ry.intv]; exact tw_op op_mul ⟨i, j, rfl, rfl, h.1, k.here .int s h.2⟩
    | _ => exact (show False from h).elim
  | tup xs =>
    cases y with
    | int j =>
      obtain ⟨h1, h2, h3, h4, q⟩ := h
      obtain ⟨a, vs, rfl, ha, ra⟩ := rx.tupv
      rw [ry.intv]
      refine tw_op op_repT ⟨a, j, vs, rfl, rfl, ha, fun e => h1 (List.eq_nil_of_length_eq_zero (by rw [← ra.length, e]; rfl)), h2, h3, by rw [ra.length]; exact h4, fun p hp => ?_⟩
      exact k _ _ _ _ (.tup (SqT.of upd_same) ((ra.rep j.toNat).stab (Stab.new hp))) (s.grow hp) (Stab.new hp) q
    | _ => exact (show False from h).elim
  | ref a =>
    cases y with
    | int j =>
      obtain ⟨xs, ea, h1, h2, h3, q⟩ := h
      rw [rx.refv, ry.intv]
      obtain ⟨vs, ha, ra⟩ := s.lst ea
      exact tw_op op_rep ⟨a, j, vs, rfl, rfl, ha, h1, h2, by rw [ra.length]; exact h3, fun p hp => k _ _ _ _ .ref (s.newL hp (ra.rep j.toNat)) (Stab.new hp) (q p (s.fresh hp))⟩
    | _ => exact (show False from h).elim
  | _ => cases y <;> exact (show False from h).elim
theorem dop_fdiv : DOp X (binaryOp .FloorDiv) (binQ .fdiv) := by
  intro x y vx vy H G Qd R rx ry s h k
  cases x with
  | int i =>
    cases y with
    | int j => rw [rx.intv, ry.intv]; exact tw_op op_fdiv ⟨i, j, rfl, rfl, h.1, k.here .int s h.2⟩
    | _ => exact (show False from h).elim
  | _ => cases y <;> exact (show False from h).elim
theorem dop_mod : DOp X (binaryOp .Mod) (binQ .mod) := by
  intro x y vx vy H G Qd R rx ry s h k
  cases x with
  | int i =>
    cases y with
    | int j => rw [rx.intv, ry.intv]; exact tw_op op_mod ⟨i, j, rfl, rfl, h.1, k.here .int s h.2⟩
    | _ => exact (show False from h).elim
  | _ => cases y <;> exact (show False from h).elim
theorem dop_pow : DOp X (binaryOp .Pow) (binQ .pow) := by
  intro x y vx vy H G Qd R rx ry s h k
  cases x with
  | int i =>
    cases y with
    | int j => rw [rx.intv, ry.intv]; exact tw_op op_pow ⟨i, j, rfl, rfl, h.1, k.here .int s h.2⟩
    | _ => exact (show False from h).elim
  | _ => cases y <;> exact (show False from h).elim
/-- op= on values -/
def opOf : BOp → Operator
  | .add => .Add | .sub => .Sub | .mul => .Mult | .fdiv => .FloorDiv | .mod => .Mod | .pow => .Pow
theorem dop (o : BOp) : DOp X (binaryOp (opOf o)) (binQ o) := by
  cases o
  · exact dop_add
  · exact dop_sub
  · exact dop_mul
  · exact dop_fdiv
  · exact dop_mod
  · exact dop_pow

/-! ### comparisons -/
mutual
theorem IsP.dp {K : PySem.W.Frag} {H : Hp} {G : GH} (s : SimG K H G) : ∀ {p : PyData} {d : D} {v : V}, IsP G d p → Rep K H d v → Dp K H v p
  | .none, _, _, .non, r => by rw [r.nonv]; exact .non
  | .bool b, _, _, .bl _, r => by rw [r.blv]; exact .bl b
  | .int b, _, _, .int _, r => by rw [r.intv]; exact .int b
  | .str b, _, _, .str _, r => by rw [r.strv]; exact .str b
  | .tuple ps, _, _, .tup h, r => by
    obtain ⟨a, vs, e, hq, rr⟩ := r.tupv
    subst e
    exact .tup hq (IsP.dps s h rr)
  | .list ps, _, _, .rol h, r => by
    obtain ⟨a, vs, e, hq, rr⟩ := r.rolv
    subst e
    exact .lst hq.sq (IsP.dps s h rr)
  | .list ps, _, _, .lst e0 h, r => by
    rw [r.refv]
    obtain ⟨vs, hq, rr⟩ := s.lst e0
    exact .lst (SqL.of hq) (IsP.dps s h rr)
theorem IsP.dps {K : PySem.W.Frag} {H : Hp} {G : GH} (s : SimG K H G) : ∀ {ps : List PyData} {ds : List D} {vs : List V}, IsPs G ds ps → Reps K H ds vs → DpAll K H vs ps
  | [], _, _, .nil, r => by
    unfold Reps at r
    subst r
    exact .nil
  | p :: ps, _, _, .cons h t, r => by
    unfold Reps at r
    obtain ⟨v, w, e, r1, r2⟩ := r
    subst e
    exact .cons (IsP.dp s h r1) (IsP.dps s t r2)
end
theorem fin_k {H : Hp} {R : Bool → Prop} {k k' : Bool} (e : k = k') (q : R k) : ∃ j, V.bl k' = .bl j ∧ H = H ∧ R j := by
  subst e
  exact ⟨k, rfl, rfl, q⟩
theorem tw_eqS {x y : V} {H : Hp} {R : Bool → Prop} {b : Bool} (hs : scal x y = true) (e : decide (x = y) = b) (q : R b) : twO X (compareOp .Eq) x y H fun v H' => ∃ k, v = .bl k ∧ H' = H ∧ R k :=
  tw_op op_eq ⟨hs, b, by rw [e], rfl, q⟩
theorem tw_neS {x y : V} {H : Hp} {R : Bool → Prop} {b : Bool} (hs : scal x y = true) (e : decide (x = y) = b) (q : R (!b)) : twO X (compareOp .NotEq) x y H fun v H' => ∃ k, v = .bl k ∧ H' = H ∧ R k :=
  tw_op op_ne ⟨hs, !b, by rw [e], rfl, q⟩
theorem tw_eqP (hu : X.A.units + 64 < cLine) {x y : D} {vx vy : V} {H : Hp} {G : GH} {R : Bool → Prop} (rx : Rep X.K H x vx) (ry : Rep X.K H y vy) (s : SimG X.K H G) (h : eqDeep x y G R) : twO X (compareOp .Eq) vx vy H fun v H' => ∃ k, v = .bl k ∧ H' = H ∧ R k := by
  obtain ⟨p, q, hp, hq, sp, sq, r⟩ := h
  exact tw_op (op_eqD hu) ⟨p, q, hp.dp s rx, hq.dp s ry, sp, sq, _, rfl, rfl, r⟩
theorem tw_neP (hu : X.A.units + 64 < cLine) {x y : D} {vx vy : V} {H : Hp} {G : GH} {R : Bool → Prop} (rx : Rep X.K H x vx) (ry : Rep X.K H y vy) (s : SimG X.K H G) (h : eqDeep x y G fun b => R (!b)) : twO X (compareOp .NotEq) vx vy H fun v H' => ∃ k, v = .bl k ∧ H' = H ∧ R k := by
  obtain ⟨p, q, hp, hq, sp, sq, r⟩ := h
  exact tw_op (op_neD hu) ⟨p, q, hp.dp s rx, hq.dp s ry, sp, sq, _, rfl, rfl, r⟩
theorem dcp_eq (hu : X.A.units + 64 < cLine) : DCp X .Eq (fun x y G Q => eqQ x y G Q) := by
  intro x y vx vy H G Qd R rx ry s h k
  have k' : eqQ x y G R := by
    unfold eqQ at h ⊢
    split at h <;> first
      | exact k _ h
      | (obtain ⟨p, q, h1, h2, h3, h4, h5⟩ := h; exact ⟨p, q, h1, h2, h3, h4, k _ h5⟩)
  clear h k
  cases x <;> cases y <;> first
    | exact tw_eqP hu rx ry s k'
    | (rw [rx.nonv, ry.nonv]; exact tw_eqS rfl (by simp) k')
    | (rw [rx.nonv, ry.intv]; exact tw_eqS rfl (by simp) k')
    | (rw [rx.intv, ry.nonv]; exact tw_eqS rfl (by simp) k')
    | (rw [rx.nonv, ry.blv]; exact tw_eqS rfl (by simp) k')
    | (rw [rx.blv, ry.nonv]; exact tw_eqS rfl (by simp) k')
    | (rw [rx.nonv, ry.strv]; exact tw_eqS rfl (by simp) k')
    | (rw [rx.strv, ry.nonv]; exact tw_eqS rfl (by simp) k')
    | (rw [rx.intv, ry.intv]; exact tw_eqS rfl (by simp) k')
    | (rw [rx.blv, ry.blv]; exact tw_eqS rfl (by simp) k')
    | (rw [rx.strv, ry.strv]; exact tw_eqS rfl (by simp) k')
    | (rw [rx.intv, ry.strv]; exact tw_eqS rfl (by simp) k')
    | (rw [rx.strv, ry.intv]; exact tw_eqS rfl (by simp) k')
    | (rw [rx.blv, ry.strv]; exact tw_eqS rfl (by simp) k')
    | (rw [rx.strv, ry.blv]; exact tw_eqS rfl (by simp) k')
theorem dcp_ne (hu : X.A.units + 64 < cLine) : DCp X .NotEq (fun x y G Q => eqQ x y G fun b => Q (!b)) := by
  intro x y vx vy H G Qd R rx ry s h k
  have k' : eqQ x y G fun b => R (!b) := by
    unfold eqQ at h ⊢
    split at h <;> first
      | exact k _ h
      | (obtain ⟨p, q, h1, h2, h3, h4, h5⟩ := h; exact ⟨p, q, h1, h2, h3, h4, k _ h5⟩)
  clear h k
  cases x <;> cases y <;> first
    | exact tw_neP hu rx ry s k'
    | (rw [rx.nonv, ry.nonv]; exact tw_neS (b := true) rfl (by simp) k')
    | (rw [rx.nonv, ry.intv]; exact tw_neS (b := false) rfl (by simp) k')
    | (rw [rx.intv, ry.nonv]; exact tw_neS (b := false) rfl (by simp) k')
    | (rw [rx.nonv, ry.blv]; exact tw_neS (b := false) rfl (by simp) k')
    | (rw [rx.blv, ry.nonv]; exact tw_neS (b := false) rfl (by simp) k')
    | (rw [rx.nonv, ry.strv]; exact tw_neS (b := false) rfl (by simp) k')
    | (rw [rx.strv, ry.nonv]; exact tw_neS (b := false) rfl (by simp) k')
    | (rw [rx.intv, ry.intv]; exact tw_neS rfl (by simp) k')
    | (rw [rx.blv, ry.blv]; exact tw_neS rfl (by simp) k')
    | (rw [rx.strv, ry.strv]; exact tw_neS rfl (by simp) k')
    | (rw [rx.intv, ry.strv]; exact tw_neS (b := false) rfl (by simp) k')
    | (rw [rx.strv, ry.intv]; exact tw_neS (b := false) rfl (by simp) k')
    | (rw [rx.blv, ry.strv]; exact tw_neS (b := false) rfl (by simp) k')
    | (rw [rx.strv, ry.blv]; exact tw_neS (b := false) rfl (by simp) k')
theorem Rep.nonIff {K : PySem.W.Frag} {H : Hp} {d : D} {v : V} (r : Rep K H d v) : decide (v = .non) = isNonD d := by
  cases d with
  | non => rw [r.nonv]; rfl
  | bl b => rw [r.blv]; rfl
  | int b => rw [r.intv]; rfl
  | str b => rw [r.strv]; rfl
  | ref b => rw [r.refv]; rfl
  | tup b => obtain ⟨a, _, e, _⟩ := r.tupv; rw [e]; rfl
  | rol b => obtain ⟨a, _, e, _⟩ := r.rolv; rw [e]; rfl
theorem dcp_is : DCp X .Is (fun x y _ Q => isQ x y Q) := by
  intro x y vx vy H G Qd R rx ry s h k
  cases y with
  | non =>
    rw [ry.nonv]
    exact tw_op op_isN ⟨rfl, _, by rw [rx.nonIff], rfl, k _ h⟩
  | bl b =>
    cases x with
    | bl a => rw [rx.blv, ry.blv]; exact tw_op op_isBl ⟨a, b, rfl, rfl, _, rfl, rfl, k _ h⟩
    | _ => exact (show False from h).elim
  | _ => cases x <;> exact (show False from h).elim
theorem dcp_isnot : DCp X .IsNot (fun x y _ Q => isQ x y fun b => Q (!b)) := by
  intro x y vx vy H G Qd R rx ry s h k
  cases y with
  | non =>
    rw [ry.nonv]
    exact tw_op op_notN ⟨rfl, _, by rw [rx.nonIff], rfl, k _ h⟩
  | bl b =>
    cases x with
    | bl a => rw [rx.blv, ry.blv]; exact tw_op op_notBl ⟨a, b, rfl, rfl, _, rfl, rfl, k _ h⟩
    | _ => exact (show False from h).elim
  | _ => cases x <;> exact (show False from h).elim
theorem dcp_lt : DCp X .Lt (fun x y _ Q => ordQ .lt x y Q) := by
  intro x y vx vy H G Qd R rx ry s h k
  cases x with
  | int i =>
    cases y with
    | int j => rw [rx.intv, ry.intv]; exact tw_op op_lt ⟨i, j, rfl, rfl, _, rfl, rfl, k _ h⟩
    | _ => exact (show False from h).elim
  | _ => cases y <;> exact (show False from h).elim
theorem dcp_le : DCp X .LtE (fun x y _ Q => ordQ .le x y Q) := by
  intro x y vx vy H G Qd R rx ry s h k
  cases x with
  | int i =>
    cases y with
    | int j => rw [rx.intv, ry.intv]; exact tw_op op_le ⟨i, j, rfl, rfl, _, rfl, rfl, k _ h⟩
    | _ => exact (show False from h).elim
  | _ => cases y <;> exact (show False from h).elim
theorem dcp_gt : DCp X .Gt (fun x y _ Q => ordQ .gt x y Q) := by
  intro x y vx vy H G Qd R rx ry s h k
  cases x with
  | int i =>
    cases y with
    | int j => rw [rx.intv, ry.intv]; exact tw_op op_gt ⟨i, j, rfl, rfl, _, rfl, rfl, k _ h⟩
    | _ => exact (show False from h).elim
  | _ => cases y <;> exact (show False from h).elim
theorem dcp_ge : DCp X .GtE (fun x y _ Q => ordQ .ge x y Q) := by
  intro x y vx vy H G Qd R rx ry s h k
  cases x with
  | int i =>
    cases y with
    | int j => rw [rx.intv, ry.intv]; exact tw_op op_ge ⟨i, j, rfl, rfl, _, rfl, rfl, k _ h⟩
    | _ => exact (show False from h).elim
  | _ => cases y <;> exact (show False from h).elim
theorem Rep.flat {K : PySem.W.Frag} {H : Hp} {d : D} {v : V} (r : Rep K H d v) (f : flatD d = true) : v = vOf d ∧ flatV v = true := by
  cases d with
  | non => rw [r.nonv]; exact ⟨rfl, rfl⟩
  | bl b => rw [r.blv]; exact ⟨rfl, rfl⟩
  | int b => rw [r.intv]; exact ⟨rfl, rfl⟩
  | str b => rw [r.strv]; exact ⟨rfl, rfl⟩
  | _ => exact (Bool.false_ne_true f).elim
theorem Reps.flat {K : PySem.W.Frag} {H : Hp} : ∀ {ds : List D} {vs : List V}, Reps K H ds vs → ds.all flatD = true → vs = ds.map vOf ∧ vs.all flatV = true
  | [], _, r, _ => by unfold Reps at r; subst r; exact ⟨rfl, rfl⟩
  | d :: ds, _, r, f => by
    unfold Reps at r
    obtain ⟨v, w, e, r1, r2⟩ := r
    subst e
    rw [List.all_cons, Bool.and_eq_true] at f
    obtain ⟨e1, f1⟩ := r1.flat f.1
    obtain ⟨e2, f2⟩ := Reps.flat r2 f.2
    exact ⟨by rw [List.map_cons, ← e1, ← e2], by rw [List.all_cons, f1, f2]; rfl⟩
theorem inFlat_eq {K : PySem.W.Frag} {H : Hp} {d : D} {v : V} {ds : List D} {vs : List V} (r : Rep K H d v) (f : flatD d = true) (rs : Reps K H ds vs) (fs : ds.all flatD = true) : inV v vs = inFlat d ds := by
  obtain ⟨e1, _⟩ := r.flat f
  obtain ⟨e2, _⟩ := rs.flat fs
  unfold inV inFlat
  rw [e1, e2, List.any_map]
  rfl
theorem dcp_in : DCp X .In (fun x y G Q => inQ x y G Q) := by
  intro x y vx vy H G Qd R rx ry s h k
  cases y with
  | str z =>
    cases x with
    | str x => rw [rx.strv, ry.strv]; exact tw_op op_in_str ⟨x, z, rfl, rfl, _, rfl, rfl, k _ h⟩
    | _ => exact (show False from h).elim
  | tup xs =>
    have h' : flatD x = true ∧ xs.all flatD = true ∧ Qd (inFlat x xs) := by cases x <;> exact h
    obtain ⟨f, fs, q⟩ := h'
    obtain ⟨a, vs, rfl, hq, rr⟩ := ry.tupv
    exact tw_op op_in_seq ⟨a, vs, rfl, .inr hq, (rx.flat f).2, (rr.flat fs).2, _, rfl, rfl, by rw [if_neg Bool.false_ne_true, inFlat_eq rx f rr fs]; exact k _ q⟩
  | rol xs =>
    have h' : flatD x = true ∧ xs.all flatD = true ∧ Qd (inFlat x xs) := by cases x <;> exact h
    obtain ⟨f, fs, q⟩ := h'
    obtain ⟨a, vs, rfl, hq, rr⟩ := ry.rolv
    exact tw_op op_in_seq ⟨a, vs, rfl, .inl hq.sq, (rx.flat f).2, (rr.flat fs).2, _, rfl, rfl, by rw [if_neg Bool.false_ne_true, inFlat_eq rx f rr fs]; exact k _ q⟩
  | ref a =>
    have h' : ∃ xs, G a = some (.lst xs) ∧ flatD x = true ∧ xs.all flatD = true ∧ Qd (inFlat x xs) := by cases x <;> exact h
    obtain ⟨xs, e, f, fs, q⟩ := h'
    rw [ry.refv]
    obtain ⟨vs, hq, rr⟩ := s.lst e
    exact tw_op op_in_seq ⟨a, vs, rfl, .inl (SqL.of hq), (rx.flat f).2, (rr.flat fs).2, _, rfl, rfl, by rw [if_neg Bool.false_ne_true, inFlat_eq rx f rr fs]; exact k _ q⟩
  | _ => cases x <;> exact (show False from h).elim
theorem dcp_notin : DCp X .NotIn (fun x y G Q => inQ x y G fun b => Q (!b)) := by
  intro x y vx vy H G Qd R rx ry s h k
  cases y with
  | str z =>
    cases x with
    | str x => rw [rx.strv, ry.strv]; exact tw_op op_notin_str ⟨x, z, rfl, rfl, _, rfl, rfl, k _ h⟩
    | _ => exact (show False from h).elim
  | tup xs =>
    have h' : flatD x = true ∧ xs.all flatD = true ∧ Qd (!inFlat x xs) := by cases x <;> exact h
    obtain ⟨f, fs, q⟩ := h'
    obtain ⟨a, vs, rfl, hq, rr⟩ := ry.tupv
    exact tw_op op_notIn_seq ⟨a, vs, rfl, .inr hq, (rx.flat f).2, (rr.flat fs).2, _, rfl, rfl, by rw [if_pos rfl, inFlat_eq rx f rr fs]; exact k _ q⟩
  | rol xs =>
    have h' : flatD x = true ∧ xs.all flatD = true ∧ Qd (!inFlat x xs) := by cases x <;> exact h
    obtain ⟨f, fs, q⟩ := h'
    obtain ⟨a, vs, rfl, hq, rr⟩ := ry.rolv
    exact tw_op op_notIn_seq ⟨a, vs, rfl, .inl hq.sq, (rx.flat f).2, (rr.flat fs).2, _, rfl, rfl, by rw [if_pos rfl, inFlat_eq rx f rr fs]; exact k _ q⟩
  | ref a =>
    have h' : ∃ xs, G a = some (.lst xs) ∧ flatD x = true ∧ xs.all flatD = true ∧ Qd (!inFlat x xs) := by cases x <;> exact h
    obtain ⟨xs, e, f, fs, q⟩ := h'
    rw [ry.refv]
    obtain ⟨vs, hq, rr⟩ := s.lst e
    exact tw_op op_notIn_seq ⟨a, vs, rfl, .inl (SqL.of hq), (rx.flat f).2, (rr.flat fs).2, _, rfl, rfl, by rw [if_pos rfl, inFlat_eq rx f rr fs]; exact k _ q⟩
  | _ => cases x <;> exact (show False from h).elim
def copOf : COp → CmpOp
  | .eq => .Eq | .ne => .NotEq | .lt => .Lt | .le => .LtE | .gt => .Gt | .ge => .GtE | .is => .Is | .isnot => .IsNot | .inn => .In | .notin => .NotIn
theorem dcp (hu : X.A.units + 64 < cLine) (o : COp) : DCp X (copOf o) (cmpQ o) := by
  cases o
  · exact dcp_eq hu
  · exact dcp_ne hu
  · exact dcp_lt
  · exact dcp_le
  · exact dcp_gt
  · exact dcp_ge
  · exact dcp_is
  · exact dcp_isnot
  · exact dcp_in
  · exact dcp_notin

/-! ### isinstance -/
def tyN : Ty → String
  | .int => "int" | .bool => "bool" | .str => "str" | .tuple => "tuple" | .list => "list" | .dict => "dict"
def tyNo : Option Ty → String
  | some t => tyN t
  | none => "NoneType"
def isOne (t : Option Ty) (u : Ty) : Bool := isInst t [u]
theorem kit_tab (K : PySem.W.Frag) (t : Option Ty) (u : Ty) : PySem.W.kitOne K (.type (tyNo t)) (.type (tyN u)) = some (isOne t u) := by
  cases t with
  | none => cases u <;> exact kit_ty (by decide +kernel)
  | some t => cases t <;> cases u <;> exact kit_ty (by decide +kernel)
theorem Rep.tyX {K : PySem.W.Frag} {H : Hp} {G : GH} {d : D} {v : V} (r : Rep K H d v) (s : SimG K H G) (kn : known G d) : TyX K H v (.type (tyNo (tyD G d))) := by
  cases d with
  | non => rw [r.nonv]; exact .base .non
  | bl b => rw [r.blv]; exact .base (.bl b)
  | int b => rw [r.intv]; exact .base (.int b)
  | str b => rw [r.strv]; exact .base (.str b)
  | tup b =>
    obtain ⟨a, vs, e, hq, _⟩ := r.tupv
    rw [e]
    rcases hq with (h | ⟨o, h⟩) | ⟨o, its, n, h, c, _⟩
    · exact .base (.tup h)
    · exact .fTuple h
    · exact .kTuple h c
  | rol b =>
    obtain ⟨a, vs, e, hq, _⟩ := r.rolv
    rw [e]
    rcases hq with ⟨o, h⟩ | ⟨o, its, n, h, c, _⟩
    · exact .base (.frz h)
    · exact .kList h c
  | ref a =>
    rw [r.refv]
    have kn : knG (G a) := kn
    show TyX K H (.ref a) (.type (tyNo (tyG (G a))))
    cases e : G a with
    | none => rw [e] at kn; exact kn.elim
    | some o =>
      rw [e] at kn
      cases o with
      | lst xs => obtain ⟨vs, h, _⟩ := s.lst e; exact .base (.lst h)
      | dK xs => obtain ⟨vs, h, _⟩ := s.dK e; exact .base (.dK h)
      | dT xs => obtain ⟨vs, h, _⟩ := s.dT e; exact .base (.dT h)
      | ins C fs => exact kn.elim
theorem kit_any (K : PySem.W.Frag) (t : Option Ty) : ∀ us : List Ty, PySem.W.kitAny K (.type (tyNo t)) (us.map fun u => .type (tyN u)) = some (isInst t us)
  | [] => by
    show some false = some (isInst t [])
    cases t with
    | none => rfl
    | some t => cases t <;> rfl
  | u :: us => by
    have ih := kit_any K t us
    rw [List.map_cons]
    unfold PySem.W.kitAny
    rw [kit_tab K t u]
    have e : isInst t (u :: us) = (isOne t u || isInst t us) := by
      unfold isOne isInst
      cases t with
      | none => rfl
      | some t => cases t <;> simp [Bool.or_assoc, Bool.or_comm, Bool.or_left_comm]
    rw [e]
    cases isOne t u with
    | true => rfl
    | false => simpa using ih
end
end Ink
set_option Elab.async false
set_option linter.all false
set_option maxRecDepth 100000
set_option maxHeartbeats 4000000
/-! Ink, part E: what is walked. -/
namespace Ink
open PySem PySem.Spec PyProof.Rows L2

/-! ### a list (k) or a tuple -/
def SqK (k : Bool) (K : PySem.W.Frag) (H : Hp) (a : Addr) (xs : List V) : Prop := if k = true then SqL K H a xs else SqT K H a xs
def SeqK (k : Bool) (h : Heap) (a : Addr) (its : List Value) : Prop := if k = true then h.IsList a its.toArray else h.IsTuple a its.toArray
def ItK (k : Bool) (h : Heap) (it a : Addr) (i : Nat) : Prop := if k = true then h.IsListIter it a i else h.IsTupleIter it a i
def obK (k : Bool) (a : Addr) : Obj := if k = true then { cls := .type "list_iterator", data := .fields #[.ref a, .int 0 0] } else { cls := .type "tuple_iterator", data := .fields #[.ref a, .int 0 0] }
section
variable {X : Cx} {pins : List (Addr × Obj)} {σ : L2.St} {H : Hp} {s : Shared}
theorem Inv.seqK {k : Bool} {a : Addr} {xs : List V} (I : Inv X pins σ H s) (h : SqK k X.K H a xs) : ∃ its : List Value, Vals xs its ∧ SeqK k s.heap a its ∧ xs.length ≤ sizeLine := by
  cases k with
  | true =>
    obtain ⟨its, r, p, z⟩ := I.list h
    exact ⟨its, r, p.isList, z⟩
  | false =>
    obtain ⟨its, r, p, z⟩ := I.tuple h
    exact ⟨its, r, p, z⟩
theorem SeqK.lt {k : Bool} {h : Heap} {a : Addr} {its : List Value} (p : SeqK k h a its) : a < h.objs.size := by
  cases k with
  | true =>
    obtain ⟨o, e, _⟩ := (show h.IsList a its.toArray from p)
    exact Heap.lt_size e
  | false =>
    obtain ⟨o, e, _⟩ := (show h.IsTuple a its.toArray from p)
    exact Heap.lt_size e
theorem Inv.seqK_inj {k : Bool} {a : Addr} {xs ys : List V} (I : Inv X pins σ H s) (h : SqK k X.K H a xs) (h' : SqK k X.K H a ys) : xs = ys := by
  cases k with
  | true => exact I.list_inj h h'
  | false => exact I.tuple_inj h h'
theorem draws_k {prog : Program} {w : World} {A : Around} (k : Bool) (hh : A.handled = none) (it a : Addr) (hne : a ≠ it) (its : List Value) :
    Draws prog w A it [it, a] its.length (fun i v => its[i]? = some v) (fun i h => ItK k h it a i ∧ SeqK k h a its) := by
  have e : its.toArray.size = its.length := List.size_toArray ..
  cases k with
  | true =>
    have d := Draws.list (prog := prog) (w := w) hh it a hne its.toArray
    rw [e] at d
    simpa [ItK, SeqK] using d
  | false =>
    have d := Draws.tuple (prog := prog) (w := w) hh it a hne its.toArray
    rw [e] at d
    simpa [ItK, SeqK] using d
theorem begins_k (k : Bool) (a : Addr) (its : List Value) : Begins (.ref a) (obK k a) fun h => SeqK k h a its := by
  cases k with
  | true => exact begins_list a its.toArray
  | false => exact begins_tuple a its.toArray
theorem itK_0 {k : Bool} {h : Heap} {it a : Addr} (e : h.get? it = some (obK k a)) : ItK k h it a 0 := by
  cases k with
  | true => exact ⟨_, e, rfl, rfl⟩
  | false => exact ⟨_, e, rfl, rfl⟩
theorem ItK.obj {k : Bool} {h : Heap} {it a : Addr} {i : Nat} (p : ItK k h it a i) : ∃ o, h.get? it = some o ∧ ∀ v, o.data ≠ .cell v := by
  cases k with
  | true =>
    obtain ⟨o, e, _, d⟩ := (show h.IsListIter it a i from p)
    exact ⟨o, e, fun v q => by rw [d] at q; cases q⟩
  | false =>
    obtain ⟨o, e, _, d⟩ := (show h.IsTupleIter it a i from p)
    exact ⟨o, e, fun v q => by rw [d] at q; cases q⟩
theorem ItK.at {k : Bool} {h h' : Heap} {it a : Addr} {i : Nat} (p : ItK k h it a i) (e : ∀ o, h.get? it = some o → h'.get? it = some o) : ItK k h' it a i := by
  cases k with
  | true => exact Heap.IsListIter.at (show h.IsListIter it a i from p) e
  | false => exact Heap.IsTupleIter.at (show h.IsTupleIter it a i from p) e
end
/-- for a, b in zip(v1, v2) -/
def ItzK (K : PySem.W.Frag) (k1 k2 : Bool) (a b : Addr) : It :=
  ⟨fun i H => ∃ (xs ys : List V) (x y : V), SqK k1 K H a xs ∧ SqK k2 K H b ys ∧ xs[i]? = some x ∧ ys[i]? = some y,
    fun i H v H' => ∃ T x y, v = .ref T ∧ H T = none ∧ H' = upd H T (.tup [x, y]) ∧ (∀ xs, SqK k1 K H a xs → xs[i]? = some x) ∧ ∀ ys, SqK k2 K H b ys → ys[i]? = some y,
    fun i H => ∃ xs ys : List V, SqK k1 K H a xs ∧ SqK k2 K H b ys ∧ i = min xs.length ys.length⟩
theorem turn_zipK {P : Program} {w : World} {K : PySem.W.Frag} {elts : List Expr} {kk : Nat} {tpos : Pos} {k1 k2 : Bool} {a b z TI TO i1 i2 : Addr} (D : ZipSep2 z TI TO i1 i2 [i1, a] [i2, b]) :
    Turn P w K (.Tuple elts kk tpos) (ItzK K k1 k2 a b) [z, TI, TO, i1, i2] z (fun i h => IsZip h z TI TO .none ∧ IsTupOf2 h TI (.ref i1) (.ref i2) ∧ (∃ x y, IsTupOf2 h TO x y) ∧ ItK k1 h i1 a i ∧ ItK k2 h i2 b i) where
  mem := by simp
  obj := fun i h st c hc => by
    obtain ⟨hz, hTI, ⟨x, y, hTO⟩, h1, h2⟩ := st
    have e' : c = z ∨ c = TI ∨ c = TO ∨ c = i1 ∨ c = i2 := by simpa using hc
    rcases e' with q | q | q | q | q
    · rw [q]; exact ⟨_, hz, fun v q => nomatch q⟩
    · rw [q]; exact ⟨_, hTI, fun v q => nomatch q⟩
    · rw [q]; exact ⟨_, hTO, fun v q => nomatch q⟩
    · rw [q]; exact h1.obj
    · rw [q]; exact h2.obj
  keep := fun i h h' st k => by
    obtain ⟨hz, hTI, ⟨x, y, hTO⟩, h1, h2⟩ := st
    exact ⟨k z (by simp) _ hz, k TI (by simp) _ hTI, ⟨x, y, k TO (by simp) _ hTO⟩, h1.at fun o q => k i1 (by simp) o q, h2.at fun o q => k i2 (by simp) o q⟩
  item := by
    intro X hP hw hK hc i pins s σ H E I hf st hg
    subst hP hw hK
    obtain ⟨hz, hTI, ⟨x0, y0, hTO⟩, h1, h2⟩ := id st
    obtain ⟨xs, ys, x, y, hqx, hqy, hx, hy⟩ := hg
    obtain ⟨its, rv, p1, _⟩ := Inv.seqK I hqx
    obtain ⟨its2, rv2, p2, _⟩ := Inv.seqK I hqy
    obtain ⟨u, hu, ru⟩ := rv.get hx
    obtain ⟨u2, hu2, ru2⟩ := rv2.get hy
    have hh : X.A.in1.handled = none := I.ok.hd hc
    have ne1 : a ≠ i1 := fun e => by
      have q1 := p1.lt
      obtain ⟨o, e1, _⟩ := h1.obj
      rw [e] at p1
      cases k1 with
      | true =>
        obtain ⟨o1, e2, c1, d1⟩ := (show s.heap.IsListIter i1 a i from h1)
        obtain ⟨o2, e3, c2, d2⟩ := (show s.heap.IsList i1 its.toArray from p1)
        rw [e2] at e3; cases e3
        obtain ⟨n, d2⟩ := d2
        rw [d1] at d2; cases d2
      | false =>
        obtain ⟨o1, e2, c1, d1⟩ := (show s.heap.IsTupleIter i1 a i from h1)
        obtain ⟨o2, e3, c2, n, d2⟩ := (show s.heap.IsTuple i1 its.toArray from p1)
        rw [e2] at e3; cases e3
        rw [d1] at d2; cases d2
    have ne2 : b ≠ i2 := fun e => by
      rw [e] at p2
      cases k2 with
      | true =>
        obtain ⟨o1, e2, c1, d1⟩ := (show s.heap.IsListIter i2 b i from h2)
        obtain ⟨o2, e3, c2, d2⟩ := (show s.heap.IsList i2 its2.toArray from p2)
        rw [e2] at e3; cases e3
        obtain ⟨n, d2⟩ := d2
        rw [d1] at d2; cases d2
      | false =>
        obtain ⟨o1, e2, c1, d1⟩ := (show s.heap.IsTupleIter i2 b i from h2)
        obtain ⟨o2, e3, c2, n, d2⟩ := (show s.heap.IsTuple i2 its2.toArray from p2)
        rw [e2] at e3; cases e3
        rw [d1] at d2; cases d2
    have W := GoesN.zip2 (prog := X.prog) (w := X.w) (A := X.A) (elts := elts) (x1 := kk) (pos := tpos) D (draws_k k1 hh i1 a ne1 its) (draws_k k2 hh i2 b ne2 its2)
    have l1 : i < its.length := (List.getElem?_eq_some_iff.mp hu).1
    have l2 : i < its2.length := (List.getElem?_eq_some_iff.mp hu2).1
    have inFp : ∀ c, c ∈ [z, TI, TO, i1, i2] → c < s.heap.objs.size := fun c hcm => by
      have e' : c = z ∨ c = TI ∨ c = TO ∨ c = i1 ∨ c = i2 := by simpa using hcm
      rcases e' with q | q | q | q | q
      · rw [q]; exact Heap.lt_size hz
      · rw [q]; exact Heap.lt_size hTI
      · rw [q]; exact Heap.lt_size hTO
      · rw [q]; obtain ⟨_, e1, _⟩ := h1.obj; exact Heap.lt_size e1
      · rw [q]; obtain ⟨_, e2, _⟩ := h2.obj; exact Heap.lt_size e2
    refine W.goes i s _ E (by omega) ⟨hz, hTI, ⟨x0, y0, hTO⟩, ⟨h1, p1⟩, ⟨h2, p2⟩⟩ fun v h' tk hY st' hk _ => ?_
    obtain ⟨T, v1, v2, rfl, hn, e1, e2, hT⟩ := hY
    have e1' : v1 = u := Option.some.inj (e1.symm.trans hu)
    have e2' : v2 = u2 := Option.some.inj (e2.symm.trans hu2)
    subst e1' e2'
    obtain ⟨hz', hTI', hTO', ⟨h1', _⟩, ⟨h2', _⟩⟩ := st'
    have new : ObjOk X.prog X.w (upd H T (.tup [x, y])) h' T (.tup [x, y]) := ⟨by show 2 ≤ sizeLine; decide, [v1, v2], .cons ru (.cons ru2 .nil), hT⟩
    have I1 : Inv X pins σ (upd H T (.tup [x, y])) { s with heap := h', toks := tk } :=
      I.turnedNew (ch := [z, TI, TO, i1, i2]) (fun c o hb q => hk c o (fun hm => hb (by
        have e' : c = z ∨ c = TO ∨ c = i1 ∨ c = i2 := by simpa using hm
        rcases e' with q | q | q | q <;> simp [q])) q) hf hn new
    refine ⟨.ref T, _, I1, rfl, ⟨T, x, y, rfl, I.hok.fresh hn, rfl, fun l hl => by rw [Inv.seqK_inj I hl hqx]; exact hx, fun l hl => by rw [Inv.seqK_inj I hl hqy]; exact hy⟩, ⟨hz', hTI', hTO', h1', h2'⟩, fun c hcm => ?_⟩
    rw [upd_ne (Nat.ne_of_lt (Nat.lt_of_lt_of_le (inFp c hcm) hn))]
    exact (hf c hcm).1
  done := by
    intro X hP hw hK hc i pins s σ H E I hf st hg
    subst hP hw hK
    obtain ⟨hz, hTI, ⟨x0, y0, hTO⟩, h1, h2⟩ := id st
    obtain ⟨xs, ys, hqx, hqy, hend⟩ := hg
    obtain ⟨its, rv, p1, _⟩ := Inv.seqK I hqx
    obtain ⟨its2, rv2, p2, _⟩ := Inv.seqK I hqy
    have hh : X.A.in1.handled = none := I.ok.hd hc
    have ne1 : a ≠ i1 := fun e => by
      rw [e] at p1
      cases k1 with
      | true =>
        obtain ⟨o1, e2, c1, d1⟩ := (show s.heap.IsListIter i1 a i from h1)
        obtain ⟨o2, e3, c2, d2⟩ := (show s.heap.IsList i1 its.toArray from p1)
        rw [e2] at e3; cases e3
        obtain ⟨n, d2⟩ := d2
        rw [d1] at d2; cases d2
      | false =>
        obtain ⟨o1, e2, c1, d1⟩ := (show s.heap.IsTupleIter i1 a i from h1)
        obtain ⟨o2, e3, c2, n, d2⟩ := (show s.heap.IsTuple i1 its.toArray from p1)
        rw [e2] at e3; cases e3
        rw [d1] at d2; cases d2
    have ne2 : b ≠ i2 := fun e => by
      rw [e] at p2
      cases k2 with
      | true =>
        obtain ⟨o1, e2, c1, d1⟩ := (show s.heap.IsListIter i2 b i from h2)
        obtain ⟨o2, e3, c2, d2⟩ := (show s.heap.IsList i2 its2.toArray from p2)
        rw [e2] at e3; cases e3
        obtain ⟨n, d2⟩ := d2
        rw [d1] at d2; cases d2
      | false =>
        obtain ⟨o1, e2, c1, d1⟩ := (show s.heap.IsTupleIter i2 b i from h2)
        obtain ⟨o2, e3, c2, n, d2⟩ := (show s.heap.IsTuple i2 its2.toArray from p2)
        rw [e2] at e3; cases e3
        rw [d1] at d2; cases d2
    have W := GoesN.zip2 (prog := X.prog) (w := X.w) (A := X.A) (elts := elts) (x1 := kk) (pos := tpos) D (draws_k k1 hh i1 a ne1 its) (draws_k k2 hh i2 b ne2 its2)
    have hi : i = min its.length its2.length := by rw [hend, rv.length, rv2.length]
    subst hi
    refine W.stops s _ E ⟨hz, hTI, ⟨x0, y0, hTO⟩, ⟨h1, p1⟩, ⟨h2, p2⟩⟩ fun h' tk hk _ => ?_
    exact I.turnedL (ch := [z, TI, TO, i1, i2]) (fun c o hb q => hk c o (fun hm => hb (by
        have e' : c = z ∨ c = TO ∨ c = i1 ∨ c = i2 := by simpa using hm
        rcases e' with q | q | q | q <;> simp [q])) q) hf
  self := fun A i s Q E st h => wpAny_pyIter_zip st.1 h
/-- for i, a in enumerate(v) -/
def IteK (K : PySem.W.Frag) (k : Bool) (a : Addr) : It :=
  ⟨fun i H => ∃ (xs : List V) (x : V), SqK k K H a xs ∧ xs[i]? = some x, fun i H v H' => ∃ T x, v = .ref T ∧ H T = none ∧ H' = upd H T (.tup [.int (i : Nat), x]) ∧ ∀ xs, SqK k K H a xs → xs[i]? = some x,
    fun i H => ∃ xs : List V, SqK k K H a xs ∧ xs.length = i⟩
theorem turn_enumK {P : Program} {w : World} {K : PySem.W.Frag} {elts : List Expr} {kk : Nat} {tpos : Pos} {k : Bool} {a e it : Addr} (ne : e ≠ it) (nea : a ≠ it) (nee : e ≠ a) :
    Turn P w K (.Tuple elts kk tpos) (IteK K k a) [e, it] e (fun i h => (∃ old, IsEnum h e it ((i : Nat) : Int) old) ∧ ItK k h it a i) where
  mem := by simp
  obj := fun i h st c hc => by
    obtain ⟨⟨old, he⟩, h1⟩ := st
    have e' : c = e ∨ c = it := by simpa using hc
    rcases e' with q | q
    · rw [q]; exact ⟨_, he, fun v q => nomatch q⟩
    · rw [q]; exact h1.obj
  keep := fun i h h' st k => let ⟨⟨old, he⟩, hi⟩ := st; ⟨⟨old, k e (by simp) _ he⟩, hi.at fun o q => k it (by simp) o q⟩
  item := by
    intro X hP hw hK hc i pins s σ H E I hf st hg
    subst hP hw hK
    obtain ⟨⟨old, he⟩, h1⟩ := id st
    obtain ⟨xs, x, hqx, hx⟩ := hg
    obtain ⟨its, rv, p1, _⟩ := Inv.seqK I hqx
    obtain ⟨u, hu, ru⟩ := rv.get hx
    have hh : X.A.in1.handled = none := I.ok.hd hc
    have W := GoesN.enumFrom (prog := X.prog) (w := X.w) (A := X.A) (elts := elts) (x1 := kk) (pos := tpos) 0 (draws_k k hh it a nea its) e ne (by simp [ne, nee]) (by simp)
    have l1 : i < its.length := (List.getElem?_eq_some_iff.mp hu).1
    have inFp : ∀ c, c ∈ [e, it] → c < s.heap.objs.size := fun c hcm => by
      have e' : c = e ∨ c = it := by simpa using hcm
      rcases e' with q | q
      · rw [q]; exact Heap.lt_size he
      · rw [q]; obtain ⟨_, e1, _⟩ := h1.obj; exact Heap.lt_size e1
    have z0 : ∀ j : Nat, (0 : Int) + (j : Int) = (j : Int) := fun j => by omega
    refine W.goes i s _ E l1 ⟨⟨old, by rw [z0]; exact he⟩, h1, p1⟩ fun v h' tk hY st' hk _ => ?_
    obtain ⟨T, t, v1, rfl, hn, e1, hT⟩ := hY
    have e1' : v1 = u := Option.some.inj (e1.symm.trans hu)
    subst e1'
    obtain ⟨⟨old', he'⟩, h1', _⟩ := st'
    rw [z0] at hT he'
    have new : ObjOk X.prog X.w (upd H T (.tup [.int (i : Nat), x])) h' T (.tup [.int (i : Nat), x]) := ⟨by show 2 ≤ sizeLine; decide, [.int (i : Nat) t, v1], .cons ⟨_, rfl⟩ (.cons ru .nil), hT⟩
    have I1 : Inv X pins σ (upd H T (.tup [.int (i : Nat), x])) { s with heap := h', toks := tk } :=
      I.turnedNew (ch := [e, it]) (fun c o hb q => hk c o (fun hm => hb (by simpa using hm)) q) hf hn new
    refine ⟨.ref T, _, I1, rfl, ⟨T, x, rfl, I.hok.fresh hn, rfl, fun l hl => by rw [Inv.seqK_inj I hl hqx]; exact hx⟩, ⟨⟨old', he'⟩, h1'⟩, fun c hcm => ?_⟩
    rw [upd_ne (Nat.ne_of_lt (Nat.lt_of_lt_of_le (inFp c hcm) hn))]
    exact (hf c hcm).1
  done := by
    intro X hP hw hK hc i pins s σ H E I hf st hg
    subst hP hw hK
    obtain ⟨⟨old, he⟩, h1⟩ := id st
    obtain ⟨xs, hqx, hend⟩ := hg
    obtain ⟨its, rv, p1, _⟩ := Inv.seqK I hqx
    have hh : X.A.in1.handled = none := I.ok.hd hc
    have W := GoesN.enumFrom (prog := X.prog) (w := X.w) (A := X.A) (elts := elts) (x1 := kk) (pos := tpos) 0 (draws_k k hh it a nea its) e ne (by simp [ne, nee]) (by simp)
    have z0 : ∀ j : Nat, (0 : Int) + (j : Int) = (j : Int) := fun j => by omega
    have hi : i = its.length := by rw [← hend, rv.length]
    subst hi
    refine W.stops s _ E ⟨⟨old, by rw [z0]; exact he⟩, h1, p1⟩ fun h' tk hk _ => ?_
    exact I.turnedL (ch := [e, it]) (fun c o hb q => hk c o (fun hm => hb (by simpa using hm)) q) hf
  self := fun A i s Q E st h => let ⟨⟨_, he⟩, _⟩ := st; wpAny_pyIter_enum he h


theorem meets_enum1 {v : Value} {o : Obj} {H : Heap → Prop} (B : Begins v o H) :
    Meets (Builtin.«enumerate.__new__» ⟨[.type "enumerate", v], []⟩) (fun _ R s => H s.heap ∧
      R (.ok (.ret (.ref (s.heap.push o).objs.size))) { s with heap := (s.heap.push o).push { cls := .type "enumerate", data := .fields #[.none, .bool false, .ref s.heap.objs.size, rawInt 0, .none, .none] } }) :=
  .of_wp fun prog w A R s h => by
    obtain ⟨hp, g, d, tk, os⟩ := s; obtain ⟨h1, h⟩ := h
    have hsub := sub_enumerate
    have q1 : ∀ {A' : Around} {E : Value → Shared → Prop} {Q : Value → Shared → Prop}, Q (.ref hp.objs.size) ⟨hp.push o, g, d, tk, os⟩ → wpAny (model prog w) A' (pyIter v) Q E ⟨hp, g, d, tk, os⟩ :=
      fun q => B.iter prog w _ _ ⟨hp, g, d, tk, os⟩ _ h1 q
    wp_walk using q1
    refine wpAny_stack_any fun st => wpAny_pure ?_
    split
    · rename_i c _ _ _ _ _
      cases (c == Value.type "enumerate")
      · wp_walk using q1
        exact ⟨_, rfl, h⟩
      · wp_walk using q1
        exact ⟨_, rfl, h⟩
    · wp_walk using q1
      exact ⟨_, rfl, h⟩
theorem enum_begins1 {prog : Program} {w : World} {A : Around} {E : Value → Shared → Prop} {s : Shared} {v : Value} {o : Obj} {H : Heap → Prop} {Q : Value → Shared → Prop} (B : Begins v o H) (h1 : H s.heap)
    (h : ∀ h', IsEnum h' (s.heap.objs.size + 1) s.heap.objs.size 0 .none → h'.get? s.heap.objs.size = some o → h'.objs.size = s.heap.objs.size + 2 →
      (∀ b o, s.heap.get? b = some o → h'.get? b = some o) → Q (.ref (s.heap.objs.size + 1)) { s with heap := h' }) :
    wpAny (model prog w) A (call (.type "enumerate") [v]) Q E s := by
  refine callType_new F.called_enumerate (by decide) (F.typeCall_enumerate_1 _) (F.newCall_enumerate_1 _) (fun obj => F.args_object_init_2 obj _) F.entry_enumerate_new
    (meets_enum1 B) ⟨h1, ?_⟩
  have hz : (s.heap.push o).objs.size = s.heap.objs.size + 1 := Heap.size_push ..
  show _ ∧ _
  rw [hz]
  have he : IsEnum ((s.heap.push o).push { cls := .type "enumerate", data := .fields #[.none, .bool false, .ref s.heap.objs.size, rawInt 0, .none, .none] }) (s.heap.objs.size + 1) s.heap.objs.size 0 .none := by
    have := Heap.get?_push_size (s.heap.push o) (o := { cls := .type "enumerate", data := .fields #[.none, .bool false, .ref s.heap.objs.size, rawInt 0, .none, .none] }) rfl
    rw [hz] at this; exact this
  refine ⟨⟨_, he, rfl⟩, h _ he (Heap.get?_push_of_some _ (Heap.get?_push_size _ B.free)) (by rw [Heap.size_push, hz]) fun b o x => Heap.get?_push_of_some _ (Heap.get?_push_of_some _ x)⟩
def iZipK (K : PySem.W.Frag) (ta : TA) : TI := fun σ H R => ta σ H fun vs H1 => ∃ k1 k2 a b xs ys, vs = [.ref a, .ref b] ∧ SqK k1 K H1 a xs ∧ SqK k2 K H1 b ys ∧ R (ItzK K k1 k2 a b) H1
theorem pi_zipK {X : Cx} {e e2 : Expr} {ta : TA} {p pos tpos : Pos} {elts : List Expr} {kk : Nat} (hg : Gl X "zip") (hm : X.mg "zip" = none) (ha : PA X [e, e2] ta)
    (hs : starEach [e, e2] X.env = (false, eval e X.env) :: starEach [e2] X.env) (hpl : (backTo pos (starEach [e2] X.env)).any (·.1) = false) :
    PI X (.Tuple elts kk tpos) (.Call (.Name "zip" p) [e, e2] [] pos) (iZipK X.K ta) := by
  refine ⟨fun pins s σ H R I h => ?_⟩
  refine Call_ (ld_blt I hg hm PyProof.Rows.boot_zip (PyProof.Rows.callWith_type1 (thn (ha.run pos pins s σ H _ I h) fun us s1 ⟨vs, H1, I1, r1, q1⟩ => ?_) hs hpl))
  obtain ⟨k1, k2, a, b, xs, ys, ex, hqx, hqy, q⟩ := q1
  subst ex
  cases r1 with
  | cons r rr =>
    cases rr with
    | cons r' rr =>
      cases rr
      cases r
      cases r'
      have fresh5 : ∀ c, c ∈ [s1.heap.objs.size + 4, s1.heap.objs.size + 2, s1.heap.objs.size + 3, s1.heap.objs.size, s1.heap.objs.size + 1] → FpOk X pins H1 c := fun c hcm => by
        have e' : c = s1.heap.objs.size + 4 ∨ c = s1.heap.objs.size + 2 ∨ c = s1.heap.objs.size + 3 ∨ c = s1.heap.objs.size ∨ c = s1.heap.objs.size + 1 := by simpa using hcm
        have hle : s1.heap.objs.size ≤ c := by
          rcases e' with z | z | z | z | z
          · rw [z]; exact Nat.le_add_right _ _
          · rw [z]; exact Nat.le_add_right _ _
          · rw [z]; exact Nat.le_add_right _ _
          · rw [z]; exact Nat.le_refl _
          · rw [z]; exact Nat.le_add_right _ _
        exact I1.fpOk hle (I1.hok.fresh hle)
      obtain ⟨its, rv, p1, _⟩ := Inv.seqK I1 hqx
      obtain ⟨its2, rv2, p2, _⟩ := Inv.seqK I1 hqy
      refine zip_begins2 (begins_k k1 a its) (begins_k k2 b its2) p1 p2 fun h' hz hTI hTO h1 h2 hsz hk => wpAny_pyIter_zip hz ?_
      have I2 : Inv X pins σ H1 { s1 with heap := h' } := I1.kept (t' := s1.toks) hk
      exact ⟨s1.heap.objs.size + 4, [s1.heap.objs.size + 4, s1.heap.objs.size + 2, s1.heap.objs.size + 3, s1.heap.objs.size, s1.heap.objs.size + 1], _, _, H1, rfl, I2,
        turn_zipK (zip_sep2 (fp1 := [a]) (fp2 := [b]) (fun c hc => by rw [List.mem_singleton.mp hc]; exact p1.lt) (fun c hc => by rw [List.mem_singleton.mp hc]; exact p2.lt)), ⟨hz, hTI, ⟨_, _, hTO⟩, itK_0 h1, itK_0 h2⟩, fresh5, q⟩
def iEnumK (K : PySem.W.Frag) (ta : TA) : TI := fun σ H R => ta σ H fun vs H1 => ∃ k a xs, vs = [.ref a] ∧ SqK k K H1 a xs ∧ R (IteK K k a) H1
theorem pi_enumK {X : Cx} {e : Expr} {ta : TA} {p pos tpos : Pos} {elts : List Expr} {kk : Nat} (hg : Gl X "enumerate") (hm : X.mg "enumerate" = none) (ha : PA X [e] ta) (hs : starEach [e] X.env = [(false, eval e X.env)]) :
    PI X (.Tuple elts kk tpos) (.Call (.Name "enumerate" p) [e] [] pos) (iEnumK X.K ta) := by
  refine ⟨fun pins s σ H R I h => ?_⟩
  refine Call_ (ld_blt I hg hm boot_enumerate (PyProof.Rows.callWith_type1 (thn (ha.run pos pins s σ H _ I h) fun us s1 ⟨vs, H1, I1, r1, q1⟩ => ?_) hs rfl))
  obtain ⟨k, a, xs, ex, hqx, q⟩ := q1
  subst ex
  cases r1 with
  | cons r rr =>
    cases rr
    cases r
    obtain ⟨its, rv, p1, _⟩ := Inv.seqK I1 hqx
    refine enum_begins1 (begins_k k a its) p1 fun h' he h1 hsz hk => wpAny_pyIter_enum he ?_
    have I2 : Inv X pins σ H1 { s1 with heap := h' } := I1.kept (t' := s1.toks) hk
    have al := p1.lt
    refine ⟨s1.heap.objs.size + 1, [s1.heap.objs.size + 1, s1.heap.objs.size], _, _, H1, rfl, I2, turn_enumK (Nat.succ_ne_self _) (Nat.ne_of_lt al) (Nat.ne_of_gt (Nat.lt_succ_of_lt al)), ⟨⟨.none, he⟩, itK_0 h1⟩, fun b hb => ?_, q⟩
    have e' : b = s1.heap.objs.size + 1 ∨ b = s1.heap.objs.size := by simpa using hb
    have hle : s1.heap.objs.size ≤ b := by
      rcases e' with z | z
      · rw [z]; exact Nat.le_add_right _ _
      · rw [z]; exact Nat.le_refl _
    exact I1.fpOk hle (I1.hok.fresh hle)
end Ink
set_option Elab.async false
set_option linter.all false
set_option maxRecDepth 100000
set_option maxHeartbeats 4000000
/-! Ink, part F: walks, targets, comprehensions, statements. -/
namespace Ink
open PySem PySem.Spec PyProof.Rows L2

/-! ### walks over data -/
structure WalkD (K : PySem.W.Frag) (H1 : Hp) (J : It) (ds : List D) (ok : GH → Prop) : Prop where
  goes : ∀ i H G, i < ds.length → Stab H1 H → SimG K H G → ok G → J.go i H
  stops : ∀ H G, Stab H1 H → SimG K H G → ok G → J.stop ds.length H
  yields : ∀ i H G x H' d, ds[i]? = some d → Stab H1 H → SimG K H G → ok G → J.yld i H x H' → Rep K H' d x ∧ SimG K H' G ∧ Stab H H'
def twI (X : Cx) (tg iter : Expr) : TI := fun σ H R => ∀ pins s, Inv X pins σ H s → wpAny (model X.prog X.w) X.A (eval iter X.env) (fun v s1 => wpAny (model X.prog X.w) X.A (pyIter v) (PIE X pins σ tg R) X.xe s1) X.xe s
def DI (X : Cx) (H0 : Hp) (tg iter : Expr) (f : DSt → GH → (List D → (GH → Prop) → GH → Prop) → Prop) : Prop :=
  ∀ σ H σd G Qd (R : It → Hp → Prop), Slots X.K H σd σ → SimG X.K H G → Stab H0 H → f σd G Qd → (∀ J ds ok G' H', WalkD X.K H' J ds ok → SimG X.K H' G' → Stab H H' → Qd ds ok G' → R J H') → twI X tg iter σ H R
section
variable {X : Cx} {H0 : Hp} {tg e a b : Expr} {fe fa fb : DSt → GH → KD → Prop} {σ : L2.St} {H : Hp}
theorem pi_tw : PI X tg e (twI X tg e) := ⟨fun pins s σ H R I h => h pins s I⟩
theorem tw_pi {w : TI} {R : It → Hp → Prop} (h : PI X tg e w) (q : w σ H R) : twI X tg e σ H R := fun pins s I => h.run pins s σ H R I q

theorem walk_tupD {K : PySem.W.Frag} {H1 : Hp} {p : Addr} {xs : List D} {vs : List V} (hq : SqT K H1 p vs) (r : Reps K H1 xs vs) (ok : GH → Prop) : WalkD K H1 (Itt K p) xs ok where
  goes := fun i H G hi st s o => by
    obtain ⟨v, e1, _⟩ := r.get (List.getElem?_eq_getElem hi)
    exact ⟨vs, v, st.sqT hq, e1⟩
  stops := fun H G st s o => ⟨vs, st.sqT hq, by rw [r.length]; exact Nat.le_refl _⟩
  yields := fun i H G x H' d e st s o y => by
    obtain ⟨rfl, y⟩ := y
    obtain ⟨v, e1, r1⟩ := (r.stab st).get e
    have e2 := y vs (st.sqT hq)
    rw [e1] at e2; cases e2
    exact ⟨r1, s, Stab.refl _⟩
theorem walk_rolD {K : PySem.W.Frag} {H1 : Hp} {p : Addr} {xs : List D} {vs : List V} (hq : SqF K H1 p vs) (r : Reps K H1 xs vs) (ok : GH → Prop) : WalkD K H1 (Itl K p) xs ok where
  goes := fun i H G hi st s o => by
    obtain ⟨v, e1, _⟩ := r.get (List.getElem?_eq_getElem hi)
    exact ⟨vs, v, (st.sqF hq).sq, e1⟩
  stops := fun H G st s o => ⟨vs, (st.sqF hq).sq, by rw [r.length]; exact Nat.le_refl _⟩
  yields := fun i H G x H' d e st s o y => by
    obtain ⟨rfl, y⟩ := y
    obtain ⟨v, e1, r1⟩ := (r.stab st).get e
    have e2 := y vs (st.sqF hq).sq
    rw [e1] at e2; cases e2
    exact ⟨r1, s, Stab.refl _⟩
theorem walk_lstD {K : PySem.W.Frag} {H1 : Hp} {p : Addr} {xs : List D} : WalkD K H1 (Itl K p) xs (fun G' => G' p = some (.lst xs)) where
  goes := fun i H G hi st s o => by
    obtain ⟨vs, hq, r⟩ := s.lst o
    obtain ⟨v, e1, _⟩ := r.get (List.getElem?_eq_getElem hi)
    exact ⟨vs, v, SqL.of hq, e1⟩
  stops := fun H G st s o => by
    obtain ⟨vs, hq, r⟩ := s.lst o
    exact ⟨vs, SqL.of hq, by rw [r.length]; exact Nat.le_refl _⟩
  yields := fun i H G x H' d e st s o y => by
    obtain ⟨rfl, y⟩ := y
    obtain ⟨vs, hq, r⟩ := s.lst o
    obtain ⟨v, e1, r1⟩ := r.get e
    have e2 := y vs (SqL.of hq)
    rw [e1] at e2; cases e2
    exact ⟨r1, s, Stab.refl _⟩
theorem walk_rangeD {K : PySem.W.Frag} {H1 : Hp} {lo : Int} {n : Nat} (ok : GH → Prop) : WalkD K H1 (Itr lo n) (rangeL lo n) ok where
  goes := fun i H G hi st s o => by
    show i < n
    simpa [rangeL] using hi
  stops := fun H G st s o => by
    show n ≤ (rangeL lo n).length
    simp [rangeL]
  yields := fun i H G x H' d e st s o y => by
    obtain ⟨rfl, rfl⟩ := y
    have hi : i < n := by
      have := (List.getElem?_eq_some_iff.mp e).1
      simpa [rangeL] using this
    have e2 : (rangeL lo n)[i]? = some (.int (lo + i)) := by simp [rangeL, hi]
    rw [e2] at e; cases e
    exact ⟨.int, s, Stab.refl _⟩
theorem walk_strD {K : PySem.W.Frag} {H1 : Hp} {z : Str} (ok : GH → Prop) : WalkD K H1 (Its z) (z.cps.toList.map fun c => .str ⟨#[c]⟩) ok where
  goes := fun i H G hi st s o => by
    show i < z.cps.size
    simpa using hi
  stops := fun H G st s o => by
    show z.cps.size ≤ _
    simp
  yields := fun i H G x H' d e st s o y => by
    obtain ⟨rfl, c, e1, rfl⟩ := y
    have e2 : d = .str ⟨#[c]⟩ := by
      rw [List.getElem?_map, Array.getElem?_toList, e1] at e
      exact (Option.some.inj e).symm
    rw [e2]
    exact ⟨.str, s, Stab.refl _⟩
def iAny (K : PySem.W.Frag) (tl : TE) : TI := fun σ H R => tl σ H fun x H1 => (∃ a xs, x = .ref a ∧ SqL K H1 a xs ∧ R (Itl K a) H1) ∨ (∃ a xs, x = .ref a ∧ SqT K H1 a xs ∧ R (Itt K a) H1) ∨ ∃ z, x = .str z ∧ R (Its z) H1
theorem pi_any {l : Expr} {tl : TE} (hl : PE X l tl) : PI X tg l (iAny X.K tl) := by
  refine ⟨fun pins s σ H R I h => ?_⟩
  refine thn (hl.run pins s σ H _ I h) fun v s1 ⟨x, H1, I1, r1, q1⟩ => ?_
  have run1 : ∀ {w : TI}, PI X tg l w → True := fun _ => trivial
  rcases q1 with ⟨a, xs, rfl, hq, q⟩ | ⟨a, xs, rfl, hq, q⟩ | ⟨z, rfl, q⟩
  · cases r1
    obtain ⟨its, rv, p, hz⟩ := I1.list hq
    refine wpAny_pyIter_list p.isList ?_
    refine ⟨s1.heap.objs.size, [s1.heap.objs.size], _, _, H1, rfl, I1.kept (t' := s1.toks) fun b o e => Heap.get?_push_of_some _ e, turn_list a _, ⟨_, Heap.get?_push_size _ rfl, rfl, rfl⟩, fun b hb => ?_, q⟩
    have e : b = s1.heap.objs.size := by simpa using hb
    subst e
    exact I1.fpOk (Nat.le_refl _) (I1.hok.fresh (Nat.le_refl _))
  · cases r1
    obtain ⟨its, rv, p, hz⟩ := I1.tuple hq
    refine wpAny_pyIter_tuple (show s1.heap.IsTuple a its.toArray from p) ?_
    refine ⟨s1.heap.objs.size, [s1.heap.objs.size], _, _, H1, rfl, I1.kept (t' := s1.toks) fun b o e => Heap.get?_push_of_some _ e, turn_tuple a _, ⟨_, Heap.get?_push_size _ rfl, rfl, rfl⟩, fun b hb => ?_, q⟩
    have e : b = s1.heap.objs.size := by simpa using hb
    subst e
    exact I1.fpOk (Nat.le_refl _) (I1.hok.fresh (Nat.le_refl _))
  · have hc : PE { X with } l (fun σ' H' Q' => True ∧ Q' (.str z) H') → True := fun _ => trivial
    obtain ⟨t, rfl⟩ := r1
    refine wpAny_pyIter_strU ?_
    refine ⟨s1.heap.objs.size, [s1.heap.objs.size], _, _, H1, rfl, I1.kept (t' := s1.toks) fun b o e => Heap.get?_push_of_some _ e, turn_str _ z t _ (by unfold strIterType; split <;> simp), ⟨_, Heap.get?_push_size _ rfl, rfl, rfl⟩, fun b hb => ?_, q⟩
    have e : b = s1.heap.objs.size := by simpa using hb
    subst e
    exact I1.fpOk (Nat.le_refl _) (I1.hok.fresh (Nat.le_refl _))
theorem di_seq (he : DE X H0 e fe) : DI X H0 tg e (fun σ G Q => fe σ G fun x G1 => seqI x G1 Q) := fun σ H σd G Qd R S s st h k =>
  tw_pi (pi_any pe_tw) (he σ H σd G _ _ S s st h fun x vx G1 H1 rx s1 st1 h1 => by
    cases x with
    | str z => rw [rx.strv]; exact .inr (.inr ⟨z, rfl, k _ _ _ _ _ (walk_strD _) s1 st1 h1⟩)
    | tup xs =>
      obtain ⟨p, vs, rfl, hq, r⟩ := rx.tupv
      exact .inr (.inl ⟨p, vs, rfl, hq, k _ _ _ _ _ (walk_tupD hq r _) s1 st1 h1⟩)
    | rol xs =>
      obtain ⟨p, vs, rfl, hq, r⟩ := rx.rolv
      exact .inl ⟨p, vs, rfl, hq.sq, k _ _ _ _ _ (walk_rolD hq r _) s1 st1 h1⟩
    | ref p =>
      obtain ⟨xs, e0, q⟩ := h1
      obtain ⟨vs, hq, r⟩ := s1.lst e0
      rw [rx.refv]
      exact .inl ⟨p, vs, rfl, SqL.of hq, k _ _ _ _ _ walk_lstD s1 st1 q⟩
    | _ => exact (show False from h1).elim)
theorem di_range1 {p pos : Pos} (hg : Gl X "range") (hm : X.mg "range" = none) (hs : starEach [a] X.env = [(false, eval a X.env)]) (ha : DA X H0 [a] (fun σ G Q => fa σ G fun d G1 => Q [d] G1)) :
    DI X H0 tg (.Call (.Name "range" p) [a] [] pos) (fun σ G Q => fa σ G fun x G1 => ∃ n : Int, x = .int n ∧ -(2 ^ 62) ≤ n ∧ n < 2 ^ 62 ∧ Q (rangeL 0 n.toNat) (fun _ => True) G1) := fun σ H σd G Qd R S s st h k =>
  tw_pi (pi_range1 hg hm pa_tw hs) (ha σ H σd G (fun ds G1 => ∃ n : Int, ds = [.int n] ∧ -(2 ^ 62) ≤ n ∧ n < 2 ^ 62 ∧ Qd (rangeL 0 n.toNat) (fun _ => True) G1) _ S s st (by
      show fa σd G _
      have e : (fun (d : D) (G1 : GH) => ∃ n : Int, [d] = [D.int n] ∧ -(2 ^ 62) ≤ n ∧ n < 2 ^ 62 ∧ Qd (rangeL 0 n.toNat) (fun _ => True) G1) = fun x G1 => ∃ n : Int, x = .int n ∧ -(2 ^ 62) ≤ n ∧ n < 2 ^ 62 ∧ Qd (rangeL 0 n.toNat) (fun _ => True) G1 := by
        funext d G1
        simp
      rw [e]
      exact h) fun ds vs G1 H1 ln r s1 st1 ⟨n, e, h1, h2, q⟩ => by
    subst e
    have e2 := Reps.intsv (ns := [n]) r
    subst e2
    exact ⟨n, rfl, h1, h2, k _ _ _ _ _ (walk_rangeD _) s1 st1 q⟩)
theorem di_range2 {p pos : Pos} (hg : Gl X "range") (hm : X.mg "range" = none) (hs : starEach [a, b] X.env = [(false, eval a X.env), (false, eval b X.env)]) (hs2 : starEach [b] X.env = [(false, eval b X.env)]) (ha : DA X H0 [a, b] (fun σ G Q => fa σ G fun d G1 => fb σ G1 fun d' G2 => Q [d, d'] G2)) :
    DI X H0 tg (.Call (.Name "range" p) [a, b] [] pos) (fun σ G Q => fa σ G fun x G1 => fb σ G1 fun y G2 => ∃ i j : Int, x = .int i ∧ y = .int j ∧ (-(2 ^ 62) ≤ i ∧ i < 2 ^ 62 ∧ -(2 ^ 62) ≤ j ∧ j < 2 ^ 62) ∧ Q (rangeL i (j - i).toNat) (fun _ => True) G2) := fun σ H σd G Qd R S s st h k =>
  tw_pi (pi_range2 hg hm pa_tw hs hs2) (ha σ H σd G (fun ds G2 => ∃ i j : Int, ds = [.int i, .int j] ∧ (-(2 ^ 62) ≤ i ∧ i < 2 ^ 62 ∧ -(2 ^ 62) ≤ j ∧ j < 2 ^ 62) ∧ Qd (rangeL i (j - i).toNat) (fun _ => True) G2) _ S s st (by
      refine Eq.mp (congrArg (fun z : D → D → GH → Prop => fa σd G fun x G1 => fb σd G1 fun y G2 => z x y G2) (?_ : (fun (x : D) (y : D) (G2 : GH) => ∃ i j : Int, x = .int i ∧ y = .int j ∧ (-(2 ^ 62) ≤ i ∧ i < 2 ^ 62 ∧ -(2 ^ 62) ≤ j ∧ j < 2 ^ 62) ∧ Qd (rangeL i (j - i).toNat) (fun _ => True) G2) = fun (x : D) (y : D) (G2 : GH) => ∃ i j : Int, [x, y] = [D.int i, D.int j] ∧ (-(2 ^ 62) ≤ i ∧ i < 2 ^ 62 ∧ -(2 ^ 62) ≤ j ∧ j < 2 ^ 62) ∧ Qd (rangeL i (j - i).toNat) (fun _ => True) G2)) h
      funext x y G2
      simp [and_assoc]) fun ds vs G1 H1 ln r s1 st1 ⟨i, j, e, h1, q⟩ => by
    subst e
    have e2 := Reps.intsv (ns := [i, j]) r
    subst e2
    exact ⟨i, j, rfl, h1, k _ _ _ _ _ (walk_rangeD _) s1 st1 q⟩)
end

/-! pairs -/
section
variable {X : Cx} {H0 : Hp} {e a b : Expr} {fe fa fb : DSt → GH → KD → Prop}
/-- a list or a tuple that stands while it is walked -/
structure SrcD (K : PySem.W.Frag) (H1 : Hp) (k : Bool) (p : Addr) (ds : List D) (ok : GH → Prop) : Prop where
  src : ∀ H G, Stab H1 H → SimG K H G → ok G → ∃ vs, SqK k K H p vs ∧ Reps K H ds vs
theorem seqJ_src {K : PySem.W.Frag} {H1 : Hp} {G : GH} {x : D} {vx : V} {Q : List D → (GH → Prop) → GH → Prop} (s : SimG K H1 G) (rx : Rep K H1 x vx) (h : seqJ x G Q) :
    ∃ k p ds ok, vx = .ref p ∧ SrcD K H1 k p ds ok ∧ ok G ∧ Q ds ok G := by
  cases x with
  | tup xs =>
    obtain ⟨p, vs, rfl, hq, r⟩ := rx.tupv
    exact ⟨false, p, xs, _, rfl, ⟨fun H G st s o => ⟨vs, st.sqT hq, r.stab st⟩⟩, trivial, h⟩
  | rol xs =>
    obtain ⟨p, vs, rfl, hq, r⟩ := rx.rolv
    exact ⟨true, p, xs, _, rfl, ⟨fun H G st s o => ⟨vs, (st.sqF hq).sq, r.stab st⟩⟩, trivial, h⟩
  | ref p =>
    obtain ⟨xs, e0, q⟩ := h
    exact ⟨true, p, xs, _, rx.refv, ⟨fun H G st s o => by
      obtain ⟨vs, hq, r⟩ := s.lst o
      exact ⟨vs, SqL.of hq, r⟩⟩, e0, q⟩
  | _ => exact (show False from h).elim
theorem zipD_get {xs ys : List D} {i : Nat} {d : D} (h : (zipD xs ys)[i]? = some d) : ∃ x y, xs[i]? = some x ∧ ys[i]? = some y ∧ d = .tup [x, y] := by
  unfold zipD at h
  rw [List.getElem?_zipWith] at h
  cases e1 : xs[i]? with
  | none => rw [e1] at h; simp at h
  | some x =>
    cases e2 : ys[i]? with
    | none => rw [e1, e2] at h; simp at h
    | some y => rw [e1, e2] at h; exact ⟨x, y, rfl, rfl, by simpa using h.symm⟩
theorem walk_zipD {K : PySem.W.Frag} {H1 : Hp} {k1 k2 : Bool} {p q : Addr} {xs ys : List D} {ok ok' : GH → Prop} (s1 : SrcD K H1 k1 p xs ok) (s2 : SrcD K H1 k2 q ys ok') :
    WalkD K H1 (ItzK K k1 k2 p q) (zipD xs ys) (fun G => ok G ∧ ok' G) where
  goes := fun i H G hi st s o => by
    obtain ⟨vs, hq1, r1⟩ := s1.src H G st s o.1
    obtain ⟨ws, hq2, r2⟩ := s2.src H G st s o.2
    obtain ⟨x, y, e1, e2, _⟩ := zipD_get (List.getElem?_eq_getElem hi)
    obtain ⟨v, e3, _⟩ := r1.get e1
    obtain ⟨w, e4, _⟩ := r2.get e2
    exact ⟨vs, ws, v, w, hq1, hq2, e3, e4⟩
  stops := fun H G st s o => by
    obtain ⟨vs, hq1, r1⟩ := s1.src H G st s o.1
    obtain ⟨ws, hq2, r2⟩ := s2.src H G st s o.2
    exact ⟨vs, ws, hq1, hq2, by unfold zipD; rw [List.length_zipWith, r1.length, r2.length]⟩
  yields := fun i H G x H' d e st s o y => by
    obtain ⟨vs, hq1, r1⟩ := s1.src H G st s o.1
    obtain ⟨ws, hq2, r2⟩ := s2.src H G st s o.2
    obtain ⟨u, u', e1, e2, rfl⟩ := zipD_get e
    obtain ⟨T, v, w, rfl, hT, rfl, f1, f2⟩ := y
    obtain ⟨v', e3, q1⟩ := r1.get e1
    obtain ⟨w', e4, q2⟩ := r2.get e2
    have e5 := (f1 _ hq1).symm.trans e3
    have e6 := (f2 _ hq2).symm.trans e4
    cases e5; cases e6
    have n := Stab.new (o := .tup [v, w]) hT
    exact ⟨.tup (SqT.of upd_same) (.cons (q1.stab n) (.cons (q2.stab n) .nil)), s.grow hT, n⟩
theorem enumD_get {xs : List D} {i : Nat} {d : D} (h : (enumD xs)[i]? = some d) : ∃ x, xs[i]? = some x ∧ d = .tup [.int (i : Nat), x] := by
  unfold enumD at h
  rw [List.getElem?_map, List.getElem?_zipIdx] at h
  cases e1 : xs[i]? with
  | none => rw [e1] at h; simp at h
  | some x => rw [e1] at h; exact ⟨x, rfl, by simpa using h.symm⟩
theorem walk_enumD {K : PySem.W.Frag} {H1 : Hp} {k : Bool} {p : Addr} {xs : List D} {ok : GH → Prop} (s1 : SrcD K H1 k p xs ok) : WalkD K H1 (IteK K k p) (enumD xs) ok where
  goes := fun i H G hi st s o => by
    obtain ⟨vs, hq1, r1⟩ := s1.src H G st s o
    obtain ⟨x, e1, _⟩ := enumD_get (List.getElem?_eq_getElem hi)
    obtain ⟨v, e3, _⟩ := r1.get e1
    exact ⟨vs, v, hq1, e3⟩
  stops := fun H G st s o => by
    obtain ⟨vs, hq1, r1⟩ := s1.src H G st s o
    exact ⟨vs, hq1, by unfold enumD; rw [List.length_map, List.length_zipIdx, r1.length]⟩
  yields := fun i H G x H' d e st s o y => by
    obtain ⟨vs, hq1, r1⟩ := s1.src H G st s o
    obtain ⟨u, e1, rfl⟩ := enumD_get e
    obtain ⟨T, v, rfl, hT, rfl, f1⟩ := y
    obtain ⟨v', e3, q1⟩ := r1.get e1
    have e5 := (f1 _ hq1).symm.trans e3
    cases e5
    have n := Stab.new (o := .tup [.int (i : Nat), v]) hT
    exact ⟨.tup (SqT.of upd_same) (.cons .int (.cons (q1.stab n) .nil)), s.grow hT, n⟩
theorem SrcD.on {K : PySem.W.Frag} {H1 H2 : Hp} {k : Bool} {p : Addr} {ds : List D} {ok : GH → Prop} (s : SrcD K H1 k p ds ok) (e : Stab H1 H2) : SrcD K H2 k p ds ok := ⟨fun H G st => s.src H G (e.trans st)⟩
theorem di_enum {elts : List Expr} {kk : Nat} {p pos tpos : Pos} (hg : Gl X "enumerate") (hm : X.mg "enumerate" = none) (hs : starEach [a] X.env = [(false, eval a X.env)]) (ha : DE X H0 a fa) :
    DI X H0 (.Tuple elts kk tpos) (.Call (.Name "enumerate" p) [a] [] pos) (fun σ G Q => fa σ G fun x G1 => seqJ x G1 fun xs ok G2 => Q (enumD xs) ok G2) := fun σ H σd G Qd R S s st h k =>
  tw_pi (pi_enumK hg hm (pa_cons pe_tw pa_nil (by rw [hs]; rfl)) hs) (ha σ H σd G _ _ S s st h fun x vx G1 H1 rx s1 st1 h1 => by
    obtain ⟨b, q, ds, ok, rfl, src, o, h2⟩ := seqJ_src s1 rx h1
    obtain ⟨vs, hq, r⟩ := src.src H1 G1 (Stab.refl _) s1 o
    exact ⟨b, q, vs, rfl, hq, k _ _ _ _ _ (walk_enumD src) s1 st1 h2⟩)
theorem di_zip {elts : List Expr} {kk : Nat} {p pos tpos : Pos} (hg : Gl X "zip") (hm : X.mg "zip" = none) (hs : starEach [a, b] X.env = [(false, eval a X.env), (false, eval b X.env)]) (hs2 : starEach [b] X.env = [(false, eval b X.env)]) (ha : DE X H0 a fa) (hb : DE X H0 b fb) :
    DI X H0 (.Tuple elts kk tpos) (.Call (.Name "zip" p) [a, b] [] pos) (fun σ G Q => fa σ G fun x G1 => fb σ G1 fun y G2 => seqJ x G2 fun xs ok G3 => seqJ y G3 fun ys ok' G4 => Q (zipD xs ys) (fun G' => ok G' ∧ ok' G') G4) := fun σ H σd G Qd R S s st h k =>
  tw_pi (pi_zipK hg hm (pa_cons pe_tw (pa_cons pe_tw pa_nil (by rw [hs2]; rfl)) (by rw [hs, hs2])) (by rw [hs, hs2]) (by rw [hs2]; rfl)) (ha σ H σd G _ _ S s st h fun x vx G1 H1 rx s1 st1 h1 =>
    hb σ H1 σd G1 _ _ (S.stab st1) s1 (st.trans st1) h1 fun y vy G2 H2 ry s2 st2 h2 => by
      obtain ⟨k1, q1, ds, ok, rfl, src, o, h3⟩ := seqJ_src s2 (rx.stab st2) h2
      obtain ⟨k2, q2, ds', ok', rfl, src', o', h4⟩ := seqJ_src s2 ry h3
      obtain ⟨vs, hq, r⟩ := src.src H2 G2 (Stab.refl _) s2 o
      obtain ⟨ws, hq', r'⟩ := src'.src H2 G2 (Stab.refl _) s2 o'
      exact ⟨k1, k2, q1, q2, vs, ws, rfl, hq, hq', k _ _ _ _ _ (walk_zipD src src') s2 (st1.trans st2) h4⟩)
end

/-! ### targets -/
def twG (X : Cx) (tg : Expr) : TG := fun v σ H Q => ∀ pins s u, Inv X pins σ H s → RelV v u → wpAny (model X.prog X.w) X.A (assign tg X.env u) (fun _ s' => ∃ σ' H', Inv X pins σ' H' s' ∧ Q σ' H') X.xe s
def twGs (X : Cx) (ts : List Expr) : TGs := fun vs σ H Q => ∀ pins s us, Inv X pins σ H s → Vals vs us → wpAny (model X.prog X.w) X.A (assignInOrder ((assignEach ts X.env).map (·.2)) us) (fun _ s' => ∃ σ' H', Inv X pins σ' H' s' ∧ Q σ' H') X.xe s
/-- but for the slots L all is as it was -/
def But (L : List Nat) (σ σ' : L2.St) : Prop := σ'.length = σ.length ∧ ∀ j, j ∉ L → σ'[j]? = σ[j]?
def DG (X : Cx) (H0 : Hp) (tg : Expr) (L : List Nat) (f : D → DSt → GH → (DSt → GH → Prop) → Prop) : Prop :=
  ∀ d v σ H σd G Qd (R : L2.St → Hp → Prop), Rep X.K H d v → Slots X.K H σd σ → SimG X.K H G → Stab H0 H → f d σd G Qd →
    (∀ σd' σ' G' H', Slots X.K H' σd' σ' → SimG X.K H' G' → Stab H H' → But L σ σ' → Qd σd' G' → R σ' H') → twG X tg v σ H R
def DGs (X : Cx) (H0 : Hp) (ts : List Expr) (L : List Nat) (f : List D → DSt → GH → (DSt → GH → Prop) → Prop) : Prop :=
  ∀ ds vs σ H σd G Qd (R : L2.St → Hp → Prop), Reps X.K H ds vs → Slots X.K H σd σ → SimG X.K H G → Stab H0 H → f ds σd G Qd →
    (∀ σd' σ' G' H', Slots X.K H' σd' σ' → SimG X.K H' G' → Stab H H' → But L σ σ' → Qd σd' G' → R σ' H') → twGs X ts vs σ H R
section
variable {X : Cx} {H0 : Hp} {tg : Expr} {σ : L2.St} {H : Hp} {pos : Pos}
theorem pg_tw : PG X tg (twG X tg) := ⟨fun pins s σ H v u Q I r h => h pins s u I r⟩
theorem pgs_tw {ts : List Expr} : PGs X ts (twGs X ts) := ⟨fun pins s σ H v u Q I r h => h pins s u I r⟩
theorem tw_pg {t : TG} {v : V} {Q : L2.St → Hp → Prop} (h : PG X tg t) (q : t v σ H Q) : twG X tg v σ H Q := fun pins s u I r => h.run pins s σ H v u Q I r q
theorem tw_pgs {ts : List Expr} {t : TGs} {v : List V} {Q : L2.St → Hp → Prop} (h : PGs X ts t) (q : t v σ H Q) : twGs X ts v σ H Q := fun pins s u I r => h.run pins s σ H v u Q I r q
theorem But.refl (L : List Nat) (σ : L2.St) : But L σ σ := ⟨rfl, fun _ _ => rfl⟩
theorem But.set {i : Nat} {L : List Nat} (h : i ∈ L) (σ : L2.St) (v : Option V) : But L σ (σ.set i v) := ⟨by simp, fun j hj => by
  rw [List.getElem?_set_ne]
  intro e
  subst e
  exact hj h⟩
theorem But.trans {L : List Nat} {σ σ1 σ2 : L2.St} (a : But L σ σ1) (b : But L σ1 σ2) : But L σ σ2 := ⟨b.1.trans a.1, fun j hj => (b.2 j hj).trans (a.2 j hj)⟩
theorem But.mono {L L' : List Nat} {σ σ1 : L2.St} (a : But L σ σ1) (h : ∀ j ∈ L, j ∈ L') : But L' σ σ1 := ⟨a.1, fun j hj => a.2 j fun z => hj (h j z)⟩
theorem wipe_get (σ : L2.St) : ∀ (vs : List Nat) (j : Nat), (wipe σ vs)[j]? = if j ∈ vs ∧ j < σ.length then some none else σ[j]?
  | [], j => by simp [wipe]
  | v :: vs, j => by
    unfold wipe
    have ih := wipe_get σ vs j
    by_cases e : v = j
    · subst e
      by_cases hl : v < σ.length
      · rw [List.getElem?_set_self (by rw [wipe_length]; exact hl)]
        simp [hl]
      · rw [List.getElem?_eq_none (by simpa [wipe_length] using hl)]
        simp [hl]
    · rw [List.getElem?_set_ne e, ih]
      have ne : ¬ j = v := fun q => e q.symm
      simp [ne]
theorem wipe_but {σ σ' : L2.St} {vs : List Nat} (b : But vs σ σ') : wipe σ' vs = wipe σ vs := by
  apply List.ext_getElem?
  intro j
  rw [wipe_get, wipe_get, b.1]
  by_cases h : j ∈ vs
  · by_cases hl : j < σ.length
    · simp [h, hl]
    · rw [if_neg (by simp [hl]), if_neg (by simp [hl]), List.getElem?_eq_none (by rw [b.1]; omega), List.getElem?_eq_none (by omega)]
  · rw [b.2 j h]
theorem wipe_wipe (σ : L2.St) (vs : List Nat) : wipe (wipe σ vs) vs = wipe σ vs := wipe_but ⟨wipe_length σ vs, fun j hj => by rw [wipe_get]; simp [hj]⟩
theorem dg_name {i : Nat} {x : Str} {L : List Nat} (hN : X.N.Nodup) (hi : X.N[i]? = some x) (hx : Loc X.env.scope x) (hf : X.fn x = true ∨ X.env.scope.names.lookup x = some .local) (hL : i ∈ L) :
    DG X H0 (.Name x pos) L (fun d σ G Q => Q (σ.set i (some d)) G) := fun d v σ H σd G Qd R r S s st h k =>
  tw_pg (pg_name hN hi hx hf) (k _ _ _ _ (S.set r i) s (Stab.refl _) (But.set hL σ _) h)
theorem dgs_nil {L : List Nat} : DGs X H0 [] L (fun ds σ G Q => ds = [] ∧ Q σ G) := fun ds vs σ H σd G Qd R r S s st h k => by
  obtain ⟨rfl, h⟩ := h
  unfold Reps at r
  subst r
  exact tw_pgs pgs_nil ⟨rfl, k _ _ _ _ S s (Stab.refl _) (But.refl _ _) h⟩
theorem dgs_cons {e : Expr} {es : List Expr} {L : List Nat} {f : D → DSt → GH → (DSt → GH → Prop) → Prop} {g : List D → DSt → GH → (DSt → GH → Prop) → Prop} (hs : (assignEach (e :: es) X.env).map (·.2) = assign e X.env :: (assignEach es X.env).map (·.2)) (h1 : DG X H0 e L f) (h2 : DGs X H0 es L g) :
    DGs X H0 (e :: es) L (fun xs σ G Q => ∃ x r, xs = x :: r ∧ f x σ G fun σ1 G1 => g r σ1 G1 Q) := fun ds vs σ H σd G Qd R r S s st h k => by
  obtain ⟨x, rr, rfl, h⟩ := h
  unfold Reps at r
  obtain ⟨v, w, e1, r1, r2⟩ := r
  subst e1
  exact tw_pgs (pgs_cons pg_tw pgs_tw hs) ⟨v, w, rfl, h1 x v σ H σd G _ _ r1 S s st h fun σd' σ' G' H' S' s' st' b' h' =>
    h2 rr w σ' H' σd' G' _ _ (r2.stab st') S' s' (st.trans st') h' fun σd2 σ2 G2 H2 S2 s2 st2 b2 h2 => k _ _ _ _ S2 s2 (st'.trans st2) (b'.trans b2) h2⟩
theorem dg_tup {es : List Expr} {kk : Nat} {L : List Nat} {g : List D → DSt → GH → (DSt → GH → Prop) → Prop} (hc : X.calm = true) (hn : (assignEach es X.env).length = es.length) (hst : (assignEach es X.env).findIdx? (·.1) = none) {n : Nat} (hg : n = es.length) (h : DGs X H0 es L g) :
    DG X H0 (.Tuple es kk pos) L (fun d σ G Q => ∃ xs, d = .tup xs ∧ xs.length = n ∧ g xs σ G Q) := fun d v σ H σd G Qd R r S s st q k => by
  obtain ⟨xs, rfl, hln, q⟩ := q
  obtain ⟨p, vs, rfl, hq, rr⟩ := r.tupv
  exact tw_pg (pg_tup hc pgs_tw hn hst) ⟨p, vs, rfl, hq, by rw [rr.length, hln, hg], h xs vs σ H σd G _ _ rr S s st q k⟩
/-- o[i] = v -/
def twSet (X : Cx) : TSet := fun o i v H Q => ∀ pins s σ ov iv u, Inv X pins σ H s → RelV o ov → RelV i iv → RelV v u → wpAny (model X.prog X.w) X.A (setItem ov iv u) (fun _ s' => ∃ H', Inv X pins σ H' s' ∧ Q H') X.xe s
theorem set_tw : PSet X (twSet X) := fun pins s σ H o i v ov iv u Q I r1 r2 r3 h => h pins s σ ov iv u I r1 r2 r3
def DSet (X : Cx) (q : D → D → D → GH → (GH → Prop) → Prop) : Prop :=
  ∀ o i v vo vi vv H G Qd R, Rep X.K H o vo → Rep X.K H i vi → Rep X.K H v vv → SimG X.K H G → q o i v G Qd → (∀ G' H', SimG X.K H' G' → Stab H H' → Qd G' → R H') → twSet X vo vi vv H R
theorem dg_sub {o i : Expr} {fo fi : DSt → GH → KD → Prop} {q : D → D → D → GH → (GH → Prop) → Prop} {L : List Nat} (hq : DSet X q) (ho : DE X H0 o fo) (hi : DE X H0 i fi)
    (ha : ∀ v, assign (.Subscript o i pos) X.env v = (do
      let ov ← holding [v] (eval o X.env)
      let iv ← holding [v, ov] (eval i X.env)
      standAt pos
      holding [v, ov, iv] (setItem ov iv v)
      release [v, ov, iv] [])) : DG X H0 (.Subscript o i pos) L (fun d σ G Q => fo σ G fun x G1 => fi σ G1 fun y G2 => q x y d G2 fun G3 => Q σ G3) := fun d v σ H σd G Qd R r S s st h k =>
  tw_pg (pg_sub pe_tw pe_tw set_tw ha) (ho σ H σd G _ _ S s st h fun x vx G1 H1 rx s1 st1 h1 => hi σ H1 σd G1 _ _ (S.stab st1) s1 (st.trans st1) h1 fun y vy G2 H2 ry s2 st2 h2 =>
    hq x y d vx vy v H2 G2 _ _ (rx.stab st2) ry (r.stab (st1.trans st2)) s2 h2 fun G3 H3 s3 st3 h3 => k _ _ _ _ (S.stab ((st1.trans st2).trans st3)) s3 ((st1.trans st2).trans st3) (But.refl _ _) h3)
theorem dset_list : DSet X setQ := by
  intro o i v vo vi vv H G Qd R ro ri rv s h k
  cases o with
  | ref a =>
    cases i with
    | int j =>
      obtain ⟨xs, n, e, e2, q⟩ := h
      obtain ⟨vs, hq, r⟩ := s.lst e
      rw [ro.refv, ri.intv]
      intro pins s' σ ov iv u I r1 r2 r3
      have sn := s.setL e (r.set n rv)
      exact set_list pins s' σ H _ _ vv ov iv u R I r1 r2 r3 ⟨a, vs, j, n, rfl, rfl, hq, by rw [r.length]; exact e2, k _ _ sn.1 sn.2 q⟩
    | _ => exact (show False from h).elim
  | _ => cases i <;> exact (show False from h).elim
end
end Ink
set_option Elab.async false
set_option linter.all false
set_option maxRecDepth 100000
set_option maxHeartbeats 4000000
/-! Ink, part G: comprehensions, statements. -/
namespace Ink
open PySem PySem.Spec PyProof.Rows L2

/-! ### comprehensions -/
def twTs (X : Cx) (ifs : List Expr) : TT := fun σ H Q => ∀ pins s, Inv X pins σ H s →
    wpAny (model X.prog X.w) X.A (forIn ifs true fun c r => if r = true then do let ok ← isTrue c X.env (eval c X.env); pure (ForInStep.yield ok) else pure (ForInStep.yield r)) (TP X pins σ Q) X.xe s
theorem pts_tw {X : Cx} {ifs : List Expr} : PTs X ifs (twTs X ifs) := ⟨fun pins s σ H Q I h => h pins s I⟩
def DTs (X : Cx) (H0 : Hp) (ifs : List Expr) (f : DSt → GH → (Bool → GH → Prop) → Prop) : Prop :=
  ∀ σ H σd G Qd R, Slots X.K H σd σ → SimG X.K H G → Stab H0 H → f σd G Qd → BackT X.K H Qd R → twTs X ifs σ H R
theorem dts_nil {X : Cx} {H0 : Hp} : DTs X H0 [] (fun _ G Q => Q true G) := fun σ H σd G Qd R S s st h k pins s' I => pts_nil.run pins s' σ H R I (k _ _ _ s (Stab.refl _) h)
theorem dts_one {X : Cx} {H0 : Hp} {c : Expr} {f : DSt → GH → (Bool → GH → Prop) → Prop} (h : DT X H0 c f) : DTs X H0 [c] f := fun σ H σd G Qd R S s st q k pins s' I => (pts_one pt_tw).run pins s' σ H R I (h σ H σd G Qd R S s st q k)
/-- all contexts of a comprehension's block -/
abbrev blk0 (X : Cx) (scope : Scope) (s : Shared) (H : Hp) (C : Addr) (cl : List (Str × Addr)) (fp : List Addr) : Cx := X.blk s H scope (compEnvC scope cl C X.env) fp
def bg (X : Cx) (scope : Scope) (tg : Expr) : TG := fun v σ H Q => ∀ s H' C cl fp, twG (blk0 X scope s H' C cl fp) tg v σ H Q
def bt (X : Cx) (scope : Scope) (ifs : List Expr) : TT := fun σ H Q => ∀ s H' C cl fp, twTs (blk0 X scope s H' C cl fp) ifs σ H Q
def be (X : Cx) (scope : Scope) (e : Expr) : TE := fun σ H Q => ∀ s H' C cl fp, twE (blk0 X scope s H' C cl fp) e σ H Q
section
variable {X : Cx} {H0 : Hp} {scope : Scope} {own : List (Str × Nat)} {tg iter elt : Expr} {ifs : List Expr} {pos : Pos}
  {fi : DSt → GH → (List D → (GH → Prop) → GH → Prop) → Prop} {fg : D → DSt → GH → (DSt → GH → Prop) → Prop} {ft : DSt → GH → (Bool → GH → Prop) → Prop} {fe : DSt → GH → KD → Prop}
theorem comp_lc (hg : ∀ s H' C cl fp, DG (blk0 X scope s H' C cl fp) H0 tg (own.map (·.2)) fg) (ht : ∀ s H' C cl fp, DTs (blk0 X scope s H' C cl fp) H0 ifs ft) (he : ∀ s H' C cl fp, DE (blk0 X scope s H' C cl fp) H0 elt fe)
    {σ : L2.St} {σd : DSt} {H1 : Hp} {G1 : GH} {J : It} {ds : List D} {ok : GH → Prop} {Qd : GH → Prop} {R : VK} {p : Addr} (hp : H1 p = none) (S : Slots X.K H1 σd σ) (s1 : SimG X.K H1 G1) (st : Stab H0 H1) (w : WalkD X.K H1 J ds ok)
    (h : compL ok p σd (own.map (·.2)) fg ft fe Qd ds (gup G1 p (.lst []))) (k : ∀ G' H', SimG X.K H' G' → Stab H1 H' → Qd G' → R (.ref p) H') :
    ∃ W : Nat → Nat → Hp → Prop, (∃ m, W 0 m (upd H1 p (.lst []))) ∧ ∀ i m H, W i m H →
      (J.stop i H ∧ R (.ref p) H) ∨ (J.go i H ∧ ∃ Nx : Hp → Prop, (∀ H', Nx H' → ∃ m', m' < m ∧ W (i + 1) m' H') ∧ ∀ x H', J.yld i H x H' → bg X scope tg x (wipe σ (own.map (·.2))) H' fun σ2 H2 => wipe σ2 (own.map (·.2)) = wipe σ (own.map (·.2)) ∧ bt X scope ifs σ2 H2 fun b H3 =>
        if b = true then be X scope elt σ2 H3 fun y H4 => ∃ acc, H4 p = some (.lst acc) ∧ acc.length < sizeLine ∧ Nx (upd H4 p (.lst (acc ++ [y]))) else Nx H3) := by
  refine ⟨fun i m H => ∃ G, SimG X.K H G ∧ Stab H1 H ∧ i ≤ ds.length ∧ m = ds.length - i ∧ compL ok p σd (own.map (·.2)) fg ft fe Qd (ds.drop i) G, ⟨ds.length, gup G1 p (.lst []), s1.newL hp .nil, Stab.new hp, Nat.zero_le _, rfl, h⟩, ?_⟩
  rintro i m H ⟨G, sG, stH, hi, rfl, hc⟩
  by_cases hl : i < ds.length
  · right
    rw [List.drop_eq_getElem_cons hl] at hc
    obtain ⟨o, hc⟩ := hc
    refine ⟨w.goes i H G hl stH sG o, fun H' => ∃ G', SimG X.K H' G' ∧ Stab H1 H' ∧ compL ok p σd (own.map (·.2)) fg ft fe Qd (ds.drop (i + 1)) G', ?_, ?_⟩
    · rintro H' ⟨G', a, b, c⟩
      exact ⟨ds.length - (i + 1), by omega, G', a, b, hl, rfl, c⟩
    · intro x H' y sC HC C cl fp
      obtain ⟨rx, sG', stH'⟩ := w.yields i H G x H' ds[i] (List.getElem?_eq_getElem hl) stH sG o y
      have st1 := stH.trans stH'
      refine hg sC HC C cl fp ds[i] x _ H' (dwipe σd (own.map (·.2))) G _ _ rx ((S.stab st1).wipe _) sG' (st.trans st1) hc ?_
      intro σd2 σ2 G2 H2 S2 s2 st2 b2 h2
      refine ⟨(wipe_but b2).trans (wipe_wipe σ _), ?_⟩
      intro sC HC C cl fp
      refine ht sC HC C cl fp σ2 H2 σd2 G2 _ _ S2 s2 (st.trans (st1.trans st2)) h2 ?_
      intro b G3 H3 s3 st3 h3
      have st13 := st1.trans (st2.trans st3)
      cases b with
      | false =>
        rw [if_neg Bool.false_ne_true] at h3 ⊢
        exact ⟨G3, s3, st13, h3⟩
      | true =>
        rw [if_pos rfl] at h3 ⊢
        intro sC HC C cl fp
        refine he sC HC C cl fp σ2 H3 σd2 G3 _ _ (S2.stab st3) s3 (st.trans st13) h3 ?_
        rintro d v G4 H4 r4 s4 st4 ⟨acc, e4, hz, h4⟩
        obtain ⟨vs, e5, r5⟩ := s4.lst e4
        have sn := s4.setL e4 (r5.append (.cons r4 .nil))
        exact ⟨vs, e5, by rw [r5.length]; exact hz, _, sn.1, (st13.trans st4).trans sn.2, h4⟩
  · left
    have e : i = ds.length := by omega
    rw [List.drop_eq_nil_of_le (by omega)] at hc
    obtain ⟨o, hc⟩ := hc
    subst e
    exact ⟨w.stops H G stH sG o, k G H sG stH hc⟩
theorem de_comp (hc : X.calm = true) (hN : X.N.Nodup) (ok : BlkOk X.N X.env.scope scope own) (hi : DI X H0 tg iter fi)
    (hg : ∀ s H' C cl fp, DG (blk0 X scope s H' C cl fp) H0 tg (own.map (·.2)) fg) (ht : ∀ s H' C cl fp, DTs (blk0 X scope s H' C cl fp) H0 ifs ft) (he : ∀ s H' C cl fp, DE (blk0 X scope s H' C cl fp) H0 elt fe)
    (hs : ∀ x, foldedSetIterable iter X.env x = pure x) :
    DE X H0 (.ListComp elt [⟨tg, iter, ifs, 0⟩] scope pos) (fun σ G Q => fi σ G fun ds ok G1 => ∀ p, G1 p = none → compL ok p σ (own.map (·.2)) fg ft fe (fun G2 => Q (.ref p) G2) ds (gup G1 p (.lst []))) := fun σ H σd G Qd R S s st h k =>
  tw_pe (pe_lc (g := bg X scope tg) (tt := bt X scope ifs) (te := be X scope elt) hc hN pi_tw ok (fun s H C cl fp => ⟨fun pins s' σ' H' v u Q I r q => q s H C cl fp pins s' u I r⟩) (fun s H C cl fp => ⟨fun pins s' σ' H' Q I q => q s H C cl fp pins s' I⟩)
    (fun s H C cl fp => ⟨fun pins s' σ' H' Q I q => q s H C cl fp pins s' I⟩) hs) (hi σ H σd G _ _ S s st h fun J ds okk G1 H1 w s1 st1 h1 p hp =>
      comp_lc hg ht he hp (S.stab st1) s1 (st.trans st1) w (h1 p (s1.fresh hp)) fun G' H' s' st' q => k _ _ _ _ .ref s' (st1.trans st') q)
end

/-! ### statements -/
structure EndsR (K : PySem.W.Frag) (H1 : Hp) (Ed : DEnds) (E : Ends) : Prop where
  nx : ∀ σd σ G H, Slots K H σd σ → SimG K H G → Stab H1 H → Ed.nx σd G → E.nx σ H
  rt : ∀ d v G H, Rep K H d v → SimG K H G → Stab H1 H → Ed.rt d G → E.rt v H
  bk : ∀ σd σ G H, Slots K H σd σ → SimG K H G → Stab H1 H → Ed.bk σd G → E.bk σ H
  ct : ∀ σd σ G H, Slots K H σd σ → SimG K H G → Stab H1 H → Ed.ct σd G → E.ct σ H
theorem EndsR.from {K : PySem.W.Frag} {H1 H2 : Hp} {Ed : DEnds} {E : Ends} (k : EndsR K H1 Ed E) (e : Stab H1 H2) : EndsR K H2 Ed E :=
  ⟨fun a b c d x y z => k.nx a b c d x y (e.trans z), fun a b c d x y z => k.rt a b c d x y (e.trans z), fun a b c d x y z => k.bk a b c d x y (e.trans z), fun a b c d x y z => k.ct a b c d x y (e.trans z)⟩
def twS (X : Cx) (st : Stmt) : TS := fun D σ H => ∀ pins s, Inv X pins σ H s → wpAny (model X.prog X.w) X.A (exec st X.env) (SP X pins D) X.xe s
def twSs (X : Cx) (st : List Stmt) : TS := fun D σ H => ∀ pins s, Inv X pins σ H s → wpAny (model X.prog X.w) X.A (execs st X.env) (SP X pins D) X.xe s
def DS (X : Cx) (H0 : Hp) (st : Stmt) (f : DEnds → DSt → GH → Prop) : Prop := ∀ σ H σd G Ed E, Slots X.K H σd σ → SimG X.K H G → Stab H0 H → f Ed σd G → EndsR X.K H Ed E → twS X st E σ H
def DSs (X : Cx) (H0 : Hp) (st : List Stmt) (f : DEnds → DSt → GH → Prop) : Prop := ∀ σ H σd G Ed E, Slots X.K H σd σ → SimG X.K H G → Stab H0 H → f Ed σd G → EndsR X.K H Ed E → twSs X st E σ H
section
variable {X : Cx} {H0 : Hp} {st : Stmt} {rest : List Stmt} {e c tg iter : Expr} {pos : Pos} {σ : L2.St} {H : Hp} {E : Ends}
  {fe : DSt → GH → KD → Prop} {ft : DSt → GH → (Bool → GH → Prop) → Prop} {fs ft1 fu : DEnds → DSt → GH → Prop} {fg : D → DSt → GH → (DSt → GH → Prop) → Prop}
theorem ps_tw : PS X st (twS X st) := ⟨fun pins s σ H D I h => h pins s I⟩
theorem pss_tw : PSs X rest (twSs X rest) := ⟨fun pins s σ H D I h => h pins s I⟩
theorem tw_ps {t : TS} (h : PS X st t) (q : t E σ H) : twS X st E σ H := fun pins s I => h.run pins s σ H E I q
theorem tw_pss {t : TS} (h : PSs X rest t) (q : t E σ H) : twSs X rest E σ H := fun pins s I => h.run pins s σ H E I q
theorem DSs.weak {f f' : DEnds → DSt → GH → Prop} (h : DSs X H0 rest f) (w : ∀ E σ G, f' E σ G → f E σ G) : DSs X H0 rest f' := fun σ H σd G Ed E S s st q k => h σ H σd G Ed E S s st (w _ _ _ q) k
theorem DS.weak {f f' : DEnds → DSt → GH → Prop} (h : DS X H0 st f) (w : ∀ E σ G, f' E σ G → f E σ G) : DS X H0 st f' := fun σ H σd G Ed E S s st q k => h σ H σd G Ed E S s st (w _ _ _ q) k
theorem dss_nil : DSs X H0 [] (fun E σ G => E.nx σ G) := fun σ H σd G Ed E S s st h k => tw_pss pss_nil (k.nx _ _ _ _ S s (Stab.refl _) h)
theorem dss_cons (h1 : DS X H0 st fs) (h2 : DSs X H0 rest ft1) : DSs X H0 (st :: rest) (fun E σ G => fs { E with nx := fun σ1 G1 => ft1 E σ1 G1 } σ G) := fun σ H σd G Ed E S s st' h k =>
  tw_pss (pss_cons ps_tw pss_tw) (h1 σ H σd G _ { E with nx := twSs X rest E } S s st' h ⟨fun σd1 σ1 G1 H1 S1 s1 st1 q => h2 σ1 H1 σd1 G1 Ed E S1 s1 (st'.trans st1) q (k.from st1), k.rt, k.bk, k.ct⟩)
theorem ds_expr (he : DE X H0 e fe) (hs : swapsWith e none pos.line X.env = pure false) : DS X H0 (.Expr e pos) (fun E σ G => fe σ G fun _ G1 => E.nx σ G1) := fun σ H σd G Ed E S s st h k =>
  tw_ps (ps_expr pe_tw hs) (he σ H σd G _ _ S s st h fun d v G1 H1 r s1 st1 q => k.nx _ _ _ _ (S.stab st1) s1 st1 q)
theorem ds_doc {x : Str} {j : Nat} {pos' : Pos} : DS X H0 (.Expr (.Constant (.str x) j pos) pos') (fun E σ G => E.nx σ G) := fun σ H σd G Ed E S s st h k => tw_ps ps_doc (k.nx _ _ _ _ S s (Stab.refl _) h)
theorem ds_ret (he : DE X H0 e fe) : DS X H0 (.Return (some e) pos) (fun E σ G => fe σ G E.rt) := fun σ H σd G Ed E S s st h k =>
  tw_ps (ps_ret pe_tw) (he σ H σd G _ _ S s st h fun d v G1 H1 r s1 st1 q => k.rt _ _ _ _ r s1 st1 q)
theorem ds_retN : DS X H0 (.Return none pos) (fun E σ G => E.rt .non G) := fun σ H σd G Ed E S s st h k => tw_ps ps_retN (k.rt _ _ _ _ .non s (Stab.refl _) h)
theorem ds_pass : DS X H0 (.Pass pos) (fun E σ G => E.nx σ G) := fun σ H σd G Ed E S s st h k => tw_ps ps_pass (k.nx _ _ _ _ S s (Stab.refl _) h)
theorem ds_brk : DS X H0 (.Break pos) (fun E σ G => E.bk σ G) := fun σ H σd G Ed E S s st h k => tw_ps ps_break (k.bk _ _ _ _ S s (Stab.refl _) h)
theorem ds_cont : DS X H0 (.Continue pos) (fun E σ G => E.ct σ G) := fun σ H σd G Ed E S s st h k => tw_ps ps_continue (k.ct _ _ _ _ S s (Stab.refl _) h)
theorem ds_never : DS X H0 st (fun _ _ _ => False) := fun σ H σd G Ed E S s st h k => h.elim
theorem ds_if {a b : List Stmt} (hc : DT X H0 c ft) (ha : DSs X H0 a fs) (hb : DSs X H0 b fu) : DS X H0 (.If c a b pos) (fun E σ G => ft σ G fun k G1 => if k = true then fs E σ G1 else fu E σ G1) := fun σ H σd G Ed E S s st h k =>
  tw_ps (ps_if pt_tw pss_tw pss_tw) (hc σ H σd G _ _ S s st h fun b G1 H1 s1 st1 q => by
    cases b with
    | true =>
      rw [if_pos rfl] at q ⊢
      exact ha σ H1 σd G1 Ed E (S.stab st1) s1 (st.trans st1) q (k.from st1)
    | false =>
      rw [if_neg Bool.false_ne_true] at q ⊢
      exact hb σ H1 σd G1 Ed E (S.stab st1) s1 (st.trans st1) q (k.from st1))
theorem ds_asg {L : List Nat} (he : DE X H0 e fe) (hg : DG X H0 tg L fg) (hs : swapsWithSole [tg] e pos.line X.env = pure false) (hw : swappedStores [tg] e X.env = pure none) (h1 : (assignEach [tg] X.env).map (·.2) = [assign tg X.env]) :
    DS X H0 (.Assign [tg] e pos) (fun E σ G => fe σ G fun d G1 => fg d σ G1 E.nx) := fun σ H σd G Ed E S s st h k =>
  tw_ps (ps_asg pe_tw pg_tw hs hw h1) (he σ H σd G _ _ S s st h fun d v G1 H1 r s1 st1 q =>
    hg d v σ H1 σd G1 _ _ r (S.stab st1) s1 (st.trans st1) q fun σd2 σ2 G2 H2 S2 s2 st2 b2 q2 => k.nx _ _ _ _ S2 s2 (st1.trans st2) q2)
theorem ds_set {i : Nat} {x : Str} {pos' : Pos} (hN : X.N.Nodup) (hi : X.N[i]? = some x) (hx : Loc X.env.scope x) (he : DE X H0 e fe) (hs : swapsWith e (some (.Name x pos')) pos.line X.env = pure false) (hf : X.fn x = true ∨ X.env.scope.names.lookup x = some .local) :
    DS X H0 (.Assign [.Name x pos'] e pos) (fun E σ G => fe σ G fun d G1 => E.nx (σ.set i (some d)) G1) := fun σ H σd G Ed E S s st h k =>
  tw_ps (ps_set hN hi hx pe_tw hs hf) (he σ H σd G _ _ S s st h fun d v G1 H1 r s1 st1 q => k.nx _ _ _ _ ((S.stab st1).set r i) s1 st1 q)
/-- name = [..] where the stores are exchanged -/
theorem ds_setLc {i : Nat} {y : Str} {py : Pos} {elt : Expr} {ifs : List Expr} {scope : Scope} {own : List (Str × Nat)} {spos : Pos} {fi : DSt → GH → (List D → (GH → Prop) → GH → Prop) → Prop}
    (hc : X.calm = true) (hN : X.N.Nodup) (hy : X.N[i]? = some y) (hyl : X.env.scope.names.lookup y = some .local) (hsw : swapsWith (.ListComp elt [⟨tg, iter, ifs, 0⟩] scope pos) (some (.Name y py)) spos.line X.env = pure true)
    (ok : BlkOk X.N X.env.scope scope own) (hi : DI X H0 tg iter fi)
    (hg : ∀ s H' C cl fp, DG (blk0 X scope s H' C cl fp) H0 tg (own.map (·.2)) fg) (ht : ∀ s H' C cl fp, DTs (blk0 X scope s H' C cl fp) H0 ifs ft) (he : ∀ s H' C cl fp, DE (blk0 X scope s H' C cl fp) H0 elt fe)
    (hs : ∀ x, foldedSetIterable iter X.env x = pure x) :
    DS X H0 (.Assign [.Name y py] (.ListComp elt [⟨tg, iter, ifs, 0⟩] scope pos) spos)
      (fun E σ G => fi σ G fun ds ok G1 => ∀ p, G1 p = none → compL ok p σ (own.map (·.2)) fg ft fe (fun G2 => E.nx (σ.set i (some (.ref p))) G2) ds (gup G1 p (.lst []))) := fun σ H σd G Ed E S s st h k =>
  tw_ps (ps_setLc (g := bg X scope tg) (tt := bt X scope ifs) (te := be X scope elt) hc hN hy hyl hsw pi_tw ok (fun s H C cl fp => ⟨fun pins s' σ' H' v u Q I r q => q s H C cl fp pins s' u I r⟩) (fun s H C cl fp => ⟨fun pins s' σ' H' Q I q => q s H C cl fp pins s' I⟩)
    (fun s H C cl fp => ⟨fun pins s' σ' H' Q I q => q s H C cl fp pins s' I⟩) hs) (hi σ H σd G _ _ S s st h fun J ds okk G1 H1 w s1 st1 h1 p hp =>
      comp_lc (R := fun x H1 => gName i x σ H1 E.nx) hg ht he hp (S.stab st1) s1 (st.trans st1) w (h1 p (s1.fresh hp)) fun G' H' s' st' q => k.nx _ _ _ _ ((S.stab (st1.trans st')).set .ref i) s' (st1.trans st') q)
theorem ds_par {i j : Nat} {x y : Str} {a b : Expr} {px py pt : Pos} {kt k2 : Nat} {pt2 : Pos} {fa fb : DSt → GH → KD → Prop} (hc : X.calm = true) (hN : X.N.Nodup) (hi : X.N[i]? = some x) (hj : X.N[j]? = some y) (hij : i ≠ j)
    (hx : X.env.scope.names.lookup x = some .local) (hy : X.env.scope.names.lookup y = some .local) (ha : DA X H0 [a, b] (fun σ G Q => fa σ G fun d G1 => fb σ G1 fun d' G2 => Q [d, d'] G2))
    (hw : swappedStores [.Tuple [.Name x px, .Name y py] kt pt] (.Tuple [a, b] k2 pt2) X.env = pure (some [x, y]))
    (hs : swapsWithSole [.Tuple [.Name x px, .Name y py] kt pt] (.Tuple [a, b] k2 pt2) pos.line X.env = pure false) :
    DS X H0 (.Assign [.Tuple [.Name x px, .Name y py] kt pt] (.Tuple [a, b] k2 pt2) pos) (fun E σ G => fa σ G fun d G1 => fb σ G1 fun d' G2 => E.nx ((σ.set i (some d)).set j (some d')) G2) := fun σ H σd G Ed E S s st h k =>
  tw_ps (ps_par hc hN hi hj hij hx hy pa_tw hw hs) (ha σ H σd G (fun ds G2 => ∃ d d', ds = [d, d'] ∧ Ed.nx ((σd.set i (some d)).set j (some d')) G2) _ S s st (by
      refine Eq.mp (congrArg (fun z : D → D → GH → Prop => fa σd G fun x G1 => fb σd G1 fun y G2 => z x y G2) (?_ : (fun (d : D) (d' : D) (G2 : GH) => Ed.nx ((σd.set i (some d)).set j (some d')) G2) = fun (u : D) (v : D) (G2 : GH) => ∃ d d', [u, v] = [d, d'] ∧ Ed.nx ((σd.set i (some d)).set j (some d')) G2)) h
      funext u v G2
      exact propext ⟨fun q => ⟨u, v, rfl, q⟩, fun ⟨d, d', e, q⟩ => by cases e; exact q⟩) fun ds vs G1 H1 ln r s1 st1 ⟨d, d', e, q⟩ => by
    subst e
    unfold Reps at r
    obtain ⟨v, w, rfl, r1, r2⟩ := r
    unfold Reps at r2
    obtain ⟨v', w', rfl, r2, r3⟩ := r2
    unfold Reps at r3
    subst r3
    exact ⟨v, v', rfl, k.nx _ _ _ _ (((S.stab st1).set r1 i).set r2 j) s1 st1 q⟩)
/-- op= -/
def DInp (X : Cx) (op : Operator) (q : D → D → GH → KD → Prop) (ti : TIp) : Prop := ∀ x y vx vy H G Qd R, Rep X.K H x vx → Rep X.K H y vy → SimG X.K H G → q x y G Qd → Back X.K H Qd R → ti vx vy H R
theorem ds_aug {i : Nat} {x : Str} {op : Operator} {ti : TIp} {q : D → D → GH → KD → Prop} {pos' : Pos} (hN : X.N.Nodup) (hi : X.N[i]? = some x) (hx : Loc X.env.scope x) (he : DE X H0 e fe) (ho : PIp X op ti) (hq : DInp X op q ti) (hf : X.fn x = true ∨ X.env.scope.names.lookup x = some .local) :
    DS X H0 (.AugAssign (.Name x pos') op e pos) (fun E σ G => ∃ u, σ[i]? = some (some u) ∧ fe σ G fun y G1 => q u y G1 fun z G2 => E.nx (σ.set i (some z)) G2) := fun σ H σd G Ed E S s st h k => by
  obtain ⟨u, eu, h⟩ := h
  obtain ⟨v, ev, ru⟩ := S.2 i u eu
  exact tw_ps (ps_aug hN hi hx pe_tw ho hf) ⟨v, ev, he σ H σd G _ _ S s st h fun y vy G1 H1 ry s1 st1 h1 =>
    hq u y v vy H1 G1 _ _ (ru.stab st1) ry s1 h1 fun z vz G2 H2 rz s2 st2 h2 => k.nx _ _ _ _ ((S.stab (st1.trans st2)).set rz i) s2 (st1.trans st2) h2⟩
theorem ds_while {body : List Stmt} (hp : PassesOwn (model X.prog X.w) X.A X.env X.xe) (hc : DT X H0 c ft) (hb : DSs X H0 body fs) : DS X H0 (.While c body [] pos) (fun E σ G => ∃ n, whileN ft fs E n σ G) := fun σ H σd G Ed E S s st h k => by
  obtain ⟨n, h⟩ := h
  refine tw_ps (ps_while hp pt_tw pss_tw) ⟨fun m σ' H' => ∃ σd' G', Slots X.K H' σd' σ' ∧ SimG X.K H' G' ∧ Stab H H' ∧ whileN ft fs Ed m σd' G', ⟨n, σd, G, S, s, Stab.refl _, h⟩, ?_⟩
  rintro m σ' H' ⟨σd', G', S', s', st', h'⟩
  cases m with
  | zero => exact h'.elim
  | succ m =>
    refine hc σ' H' σd' G' _ _ S' s' (st.trans st') h' ?_
    intro b G1 H1 s1 st1 h1
    cases b with
    | false =>
      rw [if_neg Bool.false_ne_true] at h1 ⊢
      exact k.nx _ _ _ _ (S'.stab st1) s1 (st'.trans st1) h1
    | true =>
      rw [if_pos rfl] at h1 ⊢
      refine ⟨fun σ2 H2 => ∃ σd2 G2, Slots X.K H2 σd2 σ2 ∧ SimG X.K H2 G2 ∧ Stab H H2 ∧ whileN ft fs Ed m σd2 G2, fun σ2 H2 q => ⟨m, Nat.lt_succ_self _, q⟩, ?_⟩
      have st2 := st'.trans st1
      exact hb σ' H1 σd' G1 _ _ (S'.stab st1) s1 (st.trans st2) h1 ⟨fun a b c d x y z q => ⟨a, c, x, y, st2.trans z, q⟩, fun a b c d x y z q => k.rt _ _ _ _ x y (st2.trans z) q, fun a b c d x y z q => k.nx _ _ _ _ x y (st2.trans z) q, fun a b c d x y z q => ⟨a, c, x, y, st2.trans z, q⟩⟩
theorem ds_for {body : List Stmt} {L : List Nat} {fi : DSt → GH → (List D → (GH → Prop) → GH → Prop) → Prop} (hp : PassesOwn (model X.prog X.w) X.A X.env X.xe) (hc : X.calm = true) (hi : DI X H0 tg iter fi) (hg : DG X H0 tg L fg) (hb : DSs X H0 body fs)
    (hs : ∀ x, foldedSetIterable iter X.env x = pure x) : DS X H0 (.For tg iter body [] pos) (fun E σ G => fi σ G fun ds ok G1 => forL ok fg fs E ds σ G1) := fun σ H σd G Ed E S s st h k =>
  tw_ps (ps_for hp hc pi_tw pg_tw pss_tw hs) (hi σ H σd G _ _ S s st h fun J ds ok G1 H1 w s1 st1 h1 => by
    refine ⟨fun i m σ' H' => ∃ σd' G', Slots X.K H' σd' σ' ∧ SimG X.K H' G' ∧ Stab H1 H' ∧ i ≤ ds.length ∧ m = ds.length - i ∧ forL ok fg fs Ed (ds.drop i) σd' G', ⟨ds.length, σd, G1, S.stab st1, s1, Stab.refl _, Nat.zero_le _, rfl, h1⟩, ?_⟩
    rintro i m σ' H' ⟨σd', G', S', s', st', hi', rfl, h'⟩
    by_cases hl : i < ds.length
    · right
      rw [List.drop_eq_getElem_cons hl] at h'
      obtain ⟨o, h'⟩ := h'
      refine ⟨w.goes i H' G' hl st' s' o, fun σ2 H2 => ∃ σd2 G2, Slots X.K H2 σd2 σ2 ∧ SimG X.K H2 G2 ∧ Stab H1 H2 ∧ forL ok fg fs Ed (ds.drop (i + 1)) σd2 G2, ?_, ?_⟩
      · rintro σ2 H2 ⟨a, b, c, d, e, f⟩
        exact ⟨ds.length - (i + 1), by omega, a, b, c, d, e, hl, rfl, f⟩
      · intro x H2 y
        obtain ⟨rx, s2, st2⟩ := w.yields i H' G' x H2 ds[i] (List.getElem?_eq_getElem hl) st' s' o y
        have st12 := st'.trans st2
        refine hg ds[i] x σ' H2 σd' G' _ _ rx (S'.stab st2) s2 (st.trans (st1.trans st12)) h' ?_
        intro σd3 σ3 G3 H3 S3 s3 st3 _ h3
        have st13 := st12.trans st3
        exact hb σ3 H3 σd3 G3 _ _ S3 s3 (st.trans (st1.trans st13)) h3 ⟨fun a b c d x y z q => ⟨a, c, x, y, st13.trans z, q⟩, fun a b c d x y z q => k.rt _ _ _ _ x y (st1.trans (st13.trans z)) q, fun a b c d x y z q => k.nx _ _ _ _ x y (st1.trans (st13.trans z)) q, fun a b c d x y z q => ⟨a, c, x, y, st13.trans z, q⟩⟩
    · left
      have e : i = ds.length := by omega
      rw [List.drop_eq_nil_of_le (by omega)] at h'
      obtain ⟨o, h'⟩ := h'
      subst e
      exact ⟨w.stops H' G' st' s' o, k.nx _ _ _ _ S' s' (st1.trans st') h'⟩)
theorem dinp_add : DInp X .Add (augQ .add) (ipI fun i j => i + j) := fun x y vx vy H G Qd R rx ry s h k => by
  cases x with
  | int i =>
    cases y with
    | int j => rw [rx.intv, ry.intv]; exact ⟨i, j, rfl, rfl, k.here .int s h⟩
    | _ => exact (show False from h).elim
  | _ => cases y <;> exact (show False from h).elim
theorem dinp_sub : DInp X .Sub (augQ .sub) (ipI fun i j => i - j) := fun x y vx vy H G Qd R rx ry s h k => by
  cases x with
  | int i =>
    cases y with
    | int j => rw [rx.intv, ry.intv]; exact ⟨i, j, rfl, rfl, k.here .int s h⟩
    | _ => exact (show False from h).elim
  | _ => cases y <;> exact (show False from h).elim
end
end Ink
set_option Elab.async false
set_option linter.all false
set_option maxRecDepth 100000
set_option maxHeartbeats 4000000
/-! Ink, part H: built-in functions, methods of built-in types, isinstance, global names. -/
namespace Ink
open PySem PySem.Spec PyProof.Rows L2
def twC (X : Cx) (f : Value) : List V → Hp → VK → Prop := fun vs H R => ∀ pins s σ us, Inv X pins σ H s → Vals vs us → wpAny (model X.prog X.w) X.A (call f us) (EP X pins σ R) X.xe s
/-- a call of a known value with data -/
def DCall (X : Cx) (f : Value) (q : List D → GH → KD → Prop) : Prop := ∀ ds vs H G Qd R, Reps X.K H ds vs → SimG X.K H G → q ds G Qd → Back X.K H Qd R → twC X f vs H R
section
variable {X : Cx} {H0 : Hp} {H : Hp} {R : VK}
theorem c_tw {f : Value} : CallR X f (twC X f) := fun pins s σ H xs us Q I r h => h pins s σ us I r
theorem tw_c {f : Value} {r : List V → Hp → VK → Prop} {vs : List V} (h : CallR X f r) (q : r vs H R) : twC X f vs H R := fun pins s σ us I rr => h pins s σ H vs us R I rr q
theorem Reps.one {K : PySem.W.Frag} {d : D} {vs : List V} (h : Reps K H [d] vs) : ∃ v, vs = [v] ∧ Rep K H d v := by
  unfold Reps at h
  obtain ⟨v, r, rfl, h1, h2⟩ := h
  unfold Reps at h2
  subst h2
  exact ⟨v, rfl, h1⟩
theorem Reps.two {K : PySem.W.Frag} {d e : D} {vs : List V} (h : Reps K H [d, e] vs) : ∃ v w, vs = [v, w] ∧ Rep K H d v ∧ Rep K H e w := by
  unfold Reps at h
  obtain ⟨v, r, rfl, h1, h2⟩ := h
  obtain ⟨w, rfl, h3⟩ := h2.one
  exact ⟨v, w, rfl, h1, h3⟩
theorem Reps.bls {K : PySem.W.Frag} {H : Hp} : ∀ {ns : List Bool} {vs : List V}, Reps K H (ns.map D.bl) vs → vs = ns.map V.bl
  | [], _, h => by unfold Reps at h; exact h
  | n :: r, _, h => by
    rw [List.map_cons] at h
    unfold Reps at h
    obtain ⟨v, w, e1, e2, e3⟩ := h
    subst e1
    rw [e2.blv, Reps.bls e3, List.map_cons]
theorem dcall_len : DCall X (.builtin "len") (biQ .len) := by
  intro ds vs H G Qd R r s h k
  match ds, r, h with
  | [.str x], r, h =>
    obtain ⟨v, rfl, r1⟩ := r.one
    rw [r1.strv]
    exact tw_c call_len_str ⟨x, rfl, h.1, k.here .int s h.2⟩
  | [.tup xs], r, h =>
    obtain ⟨v, rfl, r1⟩ := r.one
    obtain ⟨p, ws, rfl, hq, rr⟩ := r1.tupv
    refine tw_c call_len_seq ⟨p, ws, rfl, .inr hq, ?_⟩
    rw [rr.length]
    exact k.here .int s h
  | [.rol xs], r, h =>
    obtain ⟨v, rfl, r1⟩ := r.one
    obtain ⟨p, ws, rfl, hq, rr⟩ := r1.rolv
    refine tw_c call_len_seq ⟨p, ws, rfl, .inl hq.sq, ?_⟩
    rw [rr.length]
    exact k.here .int s h
  | [.ref a], r, h =>
    obtain ⟨v, rfl, r1⟩ := r.one
    obtain ⟨xs, e, q⟩ := h
    obtain ⟨ws, hq, rr⟩ := s.lst e
    rw [r1.refv]
    refine tw_c call_len_seq ⟨a, ws, rfl, .inl (SqL.of hq), ?_⟩
    rw [rr.length]
    exact k.here .int s q
  | [.non], _, h => exact (show False from h).elim
  | [.bl _], _, h => exact (show False from h).elim
  | [.int _], _, h => exact (show False from h).elim
  | [], _, h => exact (show False from h).elim
  | d :: _ :: _, _, h => cases d <;> exact (show False from h).elim
theorem dcall_all (hc : X.calm = true) : DCall X (.builtin "all") (biQ .all) := by
  intro ds vs H G Qd R r s h k
  match ds, r, h with
  | [.ref a], r, h =>
    obtain ⟨v, rfl, r1⟩ := r.one
    obtain ⟨bs, e, q⟩ := h
    obtain ⟨ws, hq, rr⟩ := s.lst e
    rw [r1.refv]
    rw [rr.bls] at hq
    exact tw_c (cr_all hc) ⟨a, bs, rfl, SqL.of hq, k.here .bl s q⟩
  | [.non], _, h => exact (show False from h).elim
  | [.bl _], _, h => exact (show False from h).elim
  | [.int _], _, h => exact (show False from h).elim
  | [.str _], _, h => exact (show False from h).elim
  | [.tup _], _, h => exact (show False from h).elim
  | [.rol _], _, h => exact (show False from h).elim
  | [], _, h => exact (show False from h).elim
  | d :: _ :: _, _, h => cases d <;> exact (show False from h).elim
theorem dcall_sum (hc : X.calm = true) : DCall X (.builtin "sum") (biQ .sum) := by
  intro ds vs H G Qd R r s h k
  match ds, r, h with
  | [.ref a], r, h =>
    obtain ⟨v, rfl, r1⟩ := r.one
    obtain ⟨bs, e, q⟩ := h
    obtain ⟨ws, hq, rr⟩ := s.lst e
    rw [r1.refv]
    rw [rr.intsv] at hq
    exact tw_c (cr_sum hc) ⟨a, bs, rfl, SqL.of hq, k.here .int s q⟩
  | [.non], _, h => exact (show False from h).elim
  | [.bl _], _, h => exact (show False from h).elim
  | [.int _], _, h => exact (show False from h).elim
  | [.str _], _, h => exact (show False from h).elim
  | [.tup _], _, h => exact (show False from h).elim
  | [.rol _], _, h => exact (show False from h).elim
  | [], _, h => exact (show False from h).elim
  | d :: _ :: _, _, h => cases d <;> exact (show False from h).elim
theorem dcall_max (hc : X.calm = true) : DCall X (.builtin "max") (biQ .max) := by
  intro ds vs H G Qd R r s h k
  match ds, r, h with
  | [.ref a], r, h =>
    obtain ⟨v, rfl, r1⟩ := r.one
    obtain ⟨bs, e, hl, q⟩ := h
    obtain ⟨ws, hq, rr⟩ := s.lst e
    rw [r1.refv]
    rw [rr.intsv] at hq
    exact tw_c (cr_max hc) ⟨a, bs, rfl, SqL.of hq, hl, fun m h1 h2 => k.here .int s (q m h1 h2)⟩
  | [.non], _, h => exact (show False from h).elim
  | [.bl _], _, h => exact (show False from h).elim
  | [.int _], _, h => exact (show False from h).elim
  | [.str _], _, h => exact (show False from h).elim
  | [.tup _], _, h => exact (show False from h).elim
  | [.rol _], _, h => exact (show False from h).elim
  | [], _, h => exact (show False from h).elim
  | d :: _ :: _, _, h => cases d <;> exact (show False from h).elim
theorem dcall_min (hc : X.calm = true) : DCall X (.builtin "min") (biQ .min) := by
  intro ds vs H G Qd R r s h k
  match ds, r, h with
  | [.ref a], r, h =>
    obtain ⟨v, rfl, r1⟩ := r.one
    obtain ⟨bs, e, hl, q⟩ := h
    obtain ⟨ws, hq, rr⟩ := s.lst e
    rw [r1.refv]
    rw [rr.intsv] at hq
    exact tw_c (cr_min hc) ⟨a, bs, rfl, SqL.of hq, hl, fun m h1 h2 => k.here .int s (q m h1 h2)⟩
  | [.non], _, h => exact (show False from h).elim
  | [.bl _], _, h => exact (show False from h).elim
  | [.int _], _, h => exact (show False from h).elim
  | [.str _], _, h => exact (show False from h).elim
  | [.tup _], _, h => exact (show False from h).elim
  | [.rol _], _, h => exact (show False from h).elim
  | [], _, h => exact (show False from h).elim
  | d :: _ :: _, _, h => cases d <;> exact (show False from h).elim
theorem dcall_sorted : DCall X (.builtin "sorted") (biQ .sorted) := by
  intro ds vs H G Qd R r s h k
  match ds, r, h with
  | [.ref a], r, h =>
    obtain ⟨v, rfl, r1⟩ := r.one
    obtain ⟨bs, e, q⟩ := h
    obtain ⟨ws, hq, rr⟩ := s.lst e
    rw [r1.refv]
    rw [rr.intsv] at hq
    exact tw_c cr_sortedI ⟨a, bs, rfl, SqL.of hq, fun ns' p h1 h2 hn => k _ _ _ _ .ref (s.newL hn (.ints ns')) (Stab.new hn) (q ns' p h1 h2 (s.fresh hn))⟩
  | [.non], _, h => exact (show False from h).elim
  | [.bl _], _, h => exact (show False from h).elim
  | [.int _], _, h => exact (show False from h).elim
  | [.str _], _, h => exact (show False from h).elim
  | [.tup _], _, h => exact (show False from h).elim
  | [.rol _], _, h => exact (show False from h).elim
  | [], _, h => exact (show False from h).elim
  | d :: _ :: _, _, h => cases d <;> exact (show False from h).elim
theorem dcall_int : DCall X (.type "int") (biQ .int) := by
  intro ds vs H G Qd R r s h k
  match ds, r, h with
  | [.int i], r, h =>
    obtain ⟨v, rfl, r1⟩ := r.one
    rw [r1.intv]
    exact tw_c call_int1 (.inl ⟨i, rfl, k.here .int s h⟩)
  | [.bl i], r, h =>
    obtain ⟨v, rfl, r1⟩ := r.one
    rw [r1.blv]
    exact tw_c call_int1 (.inr ⟨i, rfl, k.here .int s h⟩)
  | [.non], _, h => exact (show False from h).elim
  | [.ref _], _, h => exact (show False from h).elim
  | [.str _], _, h => exact (show False from h).elim
  | [.tup _], _, h => exact (show False from h).elim
  | [.rol _], _, h => exact (show False from h).elim
  | [], _, h => exact (show False from h).elim
  | d :: _ :: _, _, h => cases d <;> exact (show False from h).elim
theorem dcall_str : DCall X (.type "str") (biQ .str) := by
  intro ds vs H G Qd R r s h k
  match ds, r, h with
  | [.int i], r, h =>
    obtain ⟨v, rfl, r1⟩ := r.one
    rw [r1.intv]
    exact tw_c call_str_int ⟨i, rfl, h.1, k.here .str s h.2⟩
  | [.str i], r, h =>
    obtain ⟨v, rfl, r1⟩ := r.one
    rw [r1.strv]
    exact tw_c SkE.call_str_str ⟨i, rfl, k.here .str s h⟩
  | [.non], _, h => exact (show False from h).elim
  | [.bl _], _, h => exact (show False from h).elim
  | [.ref _], _, h => exact (show False from h).elim
  | [.tup _], _, h => exact (show False from h).elim
  | [.rol _], _, h => exact (show False from h).elim
  | [], _, h => exact (show False from h).elim
  | d :: _ :: _, _, h => cases d <;> exact (show False from h).elim
theorem dcall_tuple : DCall X (.type "tuple") (biQ .tuple) := by
  intro ds vs H G Qd R r s h k
  match ds, r, h with
  | [.ref a], r, h =>
    obtain ⟨v, rfl, r1⟩ := r.one
    obtain ⟨xs, e, q⟩ := h
    obtain ⟨ws, hq, rr⟩ := s.lst e
    rw [r1.refv]
    exact tw_c call_tuple_of ⟨a, ws, rfl, .inl ⟨SqL.of hq, fun l hl => k _ _ _ _ (.tup (SqT.of upd_same) (rr.stab (Stab.new hl))) (s.grow hl) (Stab.new hl) q⟩⟩
  | [.tup xs], r, h =>
    obtain ⟨v, rfl, r1⟩ := r.one
    obtain ⟨p, ws, rfl, hq, rr⟩ := r1.tupv
    exact tw_c call_tuple_of ⟨p, ws, rfl, .inr ⟨hq, k.here (.tup hq rr) s h⟩⟩
  | [.non], _, h => exact (show False from h).elim
  | [.bl _], _, h => exact (show False from h).elim
  | [.int _], _, h => exact (show False from h).elim
  | [.str _], _, h => exact (show False from h).elim
  | [.rol _], _, h => exact (show False from h).elim
  | [], _, h => exact (show False from h).elim
  | d :: _ :: _, _, h => cases d <;> exact (show False from h).elim
theorem dcall_list : DCall X (.type "list") (biQ .list) := by
  intro ds vs H G Qd R r s h k
  match ds, r, h with
  | [x], r, h =>
    obtain ⟨v, rfl, r1⟩ := r.one
    have h : seqQ x G fun xs => ∀ p, G p = none → Qd (.ref p) (gup G p (.lst xs)) := h
    cases x with
    | tup xs =>
      obtain ⟨p, ws, rfl, hq, rr⟩ := r1.tupv
      exact tw_c call_list_of ⟨p, ws, rfl, .inr hq, fun l hl => k _ _ _ _ .ref (s.newL hl rr) (Stab.new hl) (h l (s.fresh hl))⟩
    | rol xs =>
      obtain ⟨p, ws, rfl, hq, rr⟩ := r1.rolv
      exact tw_c call_list_of ⟨p, ws, rfl, .inl hq.sq, fun l hl => k _ _ _ _ .ref (s.newL hl rr) (Stab.new hl) (h l (s.fresh hl))⟩
    | ref a =>
      obtain ⟨xs, e, h⟩ := h
      obtain ⟨ws, hq, rr⟩ := s.lst e
      rw [r1.refv]
      exact tw_c call_list_of ⟨a, ws, rfl, .inl (SqL.of hq), fun l hl => k _ _ _ _ .ref (s.newL hl rr) (Stab.new hl) (h l (s.fresh hl))⟩
    | _ => exact (show False from h).elim
  | [], _, h => exact (show False from h).elim
  | d :: _ :: _, _, h => exact (show False from h).elim
theorem dcall_max2 (hc : X.calm = true) : DCall X (.builtin "max") (biQ .max2) := by
  intro ds vs H G Qd R r s h k
  match ds, r, h with
  | [.int i, .int j], r, h =>
    obtain ⟨v, w, rfl, r1, r2⟩ := r.two
    rw [r1.intv, r2.intv]
    exact tw_c (call_max2 hc) ⟨i, j, rfl, k.here .int s h⟩
  | [d], _, h => cases d <;> exact (show False from h).elim
  | [], _, h => exact (show False from h).elim
  | [d, .non], _, h | [d, .bl _], _, h | [d, .str _], _, h | [d, .tup _], _, h | [d, .rol _], _, h | [d, .ref _], _, h => cases d <;> exact (show False from h).elim
  | [.non, .int _], _, h | [.bl _, .int _], _, h | [.str _, .int _], _, h | [.tup _, .int _], _, h | [.rol _, .int _], _, h | [.ref _, .int _], _, h => exact (show False from h).elim
  | d :: e :: _ :: _, _, h => cases d <;> cases e <;> exact (show False from h).elim
theorem dcall_min2 (hc : X.calm = true) : DCall X (.builtin "min") (biQ .min2) := by
  intro ds vs H G Qd R r s h k
  match ds, r, h with
  | [.int i, .int j], r, h =>
    obtain ⟨v, w, rfl, r1, r2⟩ := r.two
    rw [r1.intv, r2.intv]
    exact tw_c (call_min2 hc) ⟨i, j, rfl, k.here .int s h⟩
  | [d], _, h => cases d <;> exact (show False from h).elim
  | [], _, h => exact (show False from h).elim
  | [d, .non], _, h | [d, .bl _], _, h | [d, .str _], _, h | [d, .tup _], _, h | [d, .rol _], _, h | [d, .ref _], _, h => cases d <;> exact (show False from h).elim
  | [.non, .int _], _, h | [.bl _, .int _], _, h | [.str _, .int _], _, h | [.tup _, .int _], _, h | [.rol _, .int _], _, h | [.ref _, .int _], _, h => exact (show False from h).elim
  | d :: e :: _ :: _, _, h => cases d <;> cases e <;> exact (show False from h).elim
/-- a built-in function by its name -/
def biN : Bi → Str
  | .len => "len" | .all => "all" | .int => "int" | .str => "str" | .tuple => "tuple" | .list => "list" | .sorted => "sorted" | .sum => "sum" | .max => "max" | .min => "min" | .dict => "dict" | .max2 => "max" | .min2 => "min"
def biV : Bi → Value
  | .len => .builtin "len" | .all => .builtin "all" | .int => .type "int" | .str => .type "str" | .tuple => .type "tuple" | .list => .type "list" | .sorted => .builtin "sorted" | .sum => .builtin "sum" | .max => .builtin "max" | .min => .builtin "min" | .dict => .type "dict" | .max2 => .builtin "max" | .min2 => .builtin "min"
theorem dcall (hc : X.calm = true) : ∀ f : Bi, f ≠ .dict → DCall X (biV f) (biQ f)
  | .len, _ => dcall_len | .all, _ => dcall_all hc | .int, _ => dcall_int | .str, _ => dcall_str | .tuple, _ => dcall_tuple | .list, _ => dcall_list | .sorted, _ => dcall_sorted | .sum, _ => dcall_sum hc
  | .max, _ => dcall_max hc | .min, _ => dcall_min hc | .dict, h => absurd rfl h | .max2, _ => dcall_max2 hc | .min2, _ => dcall_min2 hc
theorem boot_bi : ∀ f : Bi, bootBuiltins (biN f) = some (biV f) := by intro f; cases f <;> first | decide +kernel | rfl
theorem de_bi {f : Bi} {x : Str} {p pos : Pos} {e : Expr} {es : List Expr} {fs : DSt → GH → (List D → GH → Prop) → Prop} (hx : x = biN f) (hf : f ≠ .dict) (hc : X.calm = true) (hg : Gl X x) (hm : X.mg x = none) (ha : DA X H0 (e :: es) fs)
    (he : starEach (e :: es) X.env = (false, eval e X.env) :: starEach es X.env) (hpl : (backTo pos (starEach es X.env)).any (·.1) = false) :
    DE X H0 (.Call (.Name x p) (e :: es) [] pos) (fun σ G Q => fs σ G fun ds G1 => biQ f ds G1 Q) := fun σ H σd G Qd R S s st h k => by
  subst hx
  have main : (∃ id, biV f = .builtin id) ∨ ∃ T, biV f = .type T := by cases f <;> first | exact .inl ⟨_, rfl⟩ | exact .inr ⟨_, rfl⟩
  have hn : biN f ≠ "__name__" := by cases f <;> decide
  have hd : (biN f == ("__debug__" : Str)) = false := by cases f <;> decide
  have q : fs σd G fun ds G1 => biQ f ds G1 Qd := h
  have core : twA X (e :: es) σ H fun vs H1 => twC X (biV f) vs H1 R := ha σ H σd G _ _ S s st q fun ds vs G1 H1 ln r s1 st1 h1 => dcall hc f hf ds vs H1 G1 Qd R r s1 h1 (k.from st1)
  rcases main with ⟨id, ev⟩ | ⟨T, ev⟩
  · have bv := boot_bi f
    rw [ev] at bv core
    exact tw_pe (pe_callB c_tw hg hm bv pa_tw hn hd he hpl) core
  · have bv := boot_bi f
    rw [ev] at bv core
    exact tw_pe (pe_callTy c_tw hg hm bv pa_tw hn hd he hpl) core
/-! methods of built-in types -/
def twM (X : Cx) (id : String) : V → List V → Hp → VK → Prop := fun x vs H R => ∀ pins s σ v us, Inv X pins σ H s → RelV x v → Vals vs us → wpAny (model X.prog X.w) X.A (call (.builtin id) (v :: us)) (EP X pins σ R) X.xe s
theorem m_tw {id : String} : MtR X id (twM X id) := fun pins s σ H x xs v us Q I r1 r h => h pins s σ v us I r1 r
theorem tw_m {id : String} {r : V → List V → Hp → VK → Prop} {x : V} {vs : List V} (h : MtR X id r) (q : r x vs H R) : twM X id x vs H R := fun pins s σ v us I r1 rr => h pins s σ H x vs v us R I r1 rr q
def bmN : Bm → Str
  | .append => "append" | .extend => "extend" | .pop => "pop" | .pop1 => "pop" | .get => "get" | .index => "index" | .join => "join"
def bmI : Bm → String
  | .append => "list.append" | .extend => "list.extend" | .pop => "list.pop" | .pop1 => "list.pop" | .get => "dict.get" | .index => "list.index" | .join => "str.join"
def bmC : Bm → String
  | .get => "dict" | .join => "str" | _ => "list"
def DMt (X : Cx) (m : Bm) : Prop := ∀ d ds v vs H G Qd R, Rep X.K H d v → Reps X.K H ds vs → SimG X.K H G → bmQ m d ds G Qd → Back X.K H Qd R → twM X (bmI m) v vs H R
theorem dmt_append : DMt X .append := by
  intro d ds v vs H G Qd R rd r s h k
  match d, ds, rd, r, h with
  | .ref a, [y], rd, r, h =>
    obtain ⟨xs, e, hz, q⟩ := h
    obtain ⟨w, rfl, r1⟩ := r.one
    obtain ⟨ws, hq, rr⟩ := s.lst e
    rw [rd.refv]
    have sn := s.setL e (rr.append (.cons r1 .nil))
    exact tw_m mt_append ⟨a, ws, w, rfl, rfl, hq, by rw [rr.length]; exact hz, k _ _ _ _ .non sn.1 sn.2 q⟩
  | .ref a, [], _, _, h => exact (show False from h).elim
  | .ref a, _ :: _ :: _, _, _, h => exact (show False from h).elim
  | .non, _, _, _, h | .bl _, _, _, _, h | .int _, _, _, _, h | .str _, _, _, _, h | .tup _, _, _, _, h | .rol _, _, _, _, h => exact (show False from h).elim
theorem dmt_pop : DMt X .pop := by
  intro d ds v vs H G Qd R rd r s h k
  match d, ds, rd, r, h with
  | .ref a, [], rd, r, h =>
    obtain ⟨xs, y, e, hz, q⟩ := h
    unfold Reps at r
    subst r
    obtain ⟨ws, hq, rr⟩ := s.lst e
    obtain ⟨w, e2, r2⟩ := rr.get hz
    rw [rd.refv]
    have sn := s.setL e rr.dropLast
    exact tw_m mt_pop ⟨a, ws, w, rfl, rfl, hq, by rw [rr.length]; exact e2, k _ _ _ _ (r2.stab sn.2) sn.1 sn.2 q⟩
  | .ref a, _ :: _, _, _, h => exact (show False from h).elim
  | .non, _, _, _, h | .bl _, _, _, _, h | .int _, _, _, _, h | .str _, _, _, _, h | .tup _, _, _, _, h | .rol _, _, _, _, h => exact (show False from h).elim
theorem dmt_extend : DMt X .extend := by
  intro d ds v vs H G Qd R rd r s h k
  match d, ds, rd, r, h with
  | .ref a, [.ref b], rd, r, h =>
    obtain ⟨xs, ys, e, e2, hz, q⟩ := h
    obtain ⟨w, rfl, r1⟩ := r.one
    obtain ⟨ws, hq, rr⟩ := s.lst e
    obtain ⟨ws2, hq2, rr2⟩ := s.lst e2
    rw [rd.refv, r1.refv]
    have sn := s.setL e (rr.append rr2)
    exact tw_m mt_extend ⟨a, b, ws, ws2, rfl, rfl, hq, hq2, by rw [rr.length, rr2.length]; exact hz, k _ _ _ _ .non sn.1 sn.2 q⟩
  | .ref a, [], _, _, h => exact (show False from h).elim
  | .ref a, [.non], _, _, h | .ref a, [.bl _], _, _, h | .ref a, [.int _], _, _, h | .ref a, [.str _], _, _, h | .ref a, [.tup _], _, _, h | .ref a, [.rol _], _, _, h => exact (show False from h).elim
  | .ref a, d :: _ :: _, _, _, h => cases d <;> exact (show False from h).elim
  | .non, _, _, _, h | .bl _, _, _, _, h | .int _, _, _, _, h | .str _, _, _, _, h | .tup _, _, _, _, h | .rol _, _, _, _, h => exact (show False from h).elim
theorem dmt_join : DMt X .join := by
  intro d ds v vs H G Qd R rd r s h k
  match d, ds, rd, r, h with
  | .str z, [.ref b], rd, r, h =>
    obtain ⟨ys, e, hz, q⟩ := h
    obtain ⟨w, rfl, r1⟩ := r.one
    obtain ⟨ws, hq, rr⟩ := s.lst e
    rw [rr.strsv] at hq
    rw [rd.strv, r1.refv]
    exact tw_m mt_join ⟨z, b, ys, rfl, rfl, .inl (SqL.of hq), hz, k.here .str s q⟩
  | .str z, [.tup xs], rd, r, h =>
    obtain ⟨ys, rfl, hz, q⟩ := h
    obtain ⟨w, rfl, r1⟩ := r.one
    obtain ⟨p, ws, rfl, hq, rr⟩ := r1.tupv
    rw [rr.strsv] at hq
    rw [rd.strv]
    exact tw_m mt_join ⟨z, p, ys, rfl, rfl, .inr hq, hz, k.here .str s q⟩
  | .str z, [], _, _, h => exact (show False from h).elim
  | .str z, [.non], _, _, h | .str z, [.bl _], _, _, h | .str z, [.int _], _, _, h | .str z, [.str _], _, _, h | .str z, [.rol _], _, _, h => exact (show False from h).elim
  | .str z, d :: _ :: _, _, _, h => cases d <;> exact (show False from h).elim
  | .non, _, _, _, h | .bl _, _, _, _, h | .int _, _, _, _, h | .ref _, _, _, _, h | .tup _, _, _, _, h | .rol _, _, _, _, h => exact (show False from h).elim
def bmOk : Bm → Bool
  | .append => true | .extend => true | .pop => true | .join => true | _ => false
theorem dmt : ∀ m : Bm, bmOk m = true → DMt X m
  | .append, _ => dmt_append | .extend, _ => dmt_extend | .pop, _ => dmt_pop | .join, _ => dmt_join
theorem bm_slot : ∀ m : Bm, bmOk m = true → PlainAttrs (bmC m) ∧ Slot (bmC m) (bmN m) (bmI m) ∧ typeOf (.builtin (bmI m)) = pure (.type "method_descriptor")
  | .append, _ => ⟨PySem.F.plainAttrs_list, PySem.F.slot_list_append, PySem.F.type_list_append⟩
  | .extend, _ => ⟨PySem.F.plainAttrs_list, PySem.F.slot_list_extend, PySem.F.type_list_extend⟩
  | .pop, _ => ⟨PySem.F.plainAttrs_list, PySem.F.slot_list_pop, PySem.F.type_list_pop⟩
  | .join, _ => ⟨PySem.F.plainAttrs_str, PySem.F.slot_str_join, PySem.F.type_str_join⟩
theorem bmT_ty {m : Bm} (hm : bmOk m = true) {d : D} {v : V} {G : GH} (r : Rep X.K H d v) (s : SimG X.K H G) (h : bmT m d G) : tyV X.K (bmC m) v H := by
  have lst : ∀ {a : Addr} {T : String}, T = "list" → (∃ xs, G a = some (.lst xs)) → tyV X.K T (.ref a) H := fun {a T} e ⟨xs, h⟩ => by
    obtain ⟨vs, hq, _⟩ := s.lst h
    exact .inl ⟨e, vs, SqL.of hq⟩
  match m, hm, d, r, h with
  | .append, _, .ref a, r, h => rw [r.refv]; exact lst rfl h
  | .extend, _, .ref a, r, h => rw [r.refv]; exact lst rfl h
  | .pop, _, .ref a, r, h => rw [r.refv]; exact lst rfl h
  | .join, _, .str x, r, h => rw [r.strv]; exact (rfl : bmC .join = "str")
  | .append, _, .non, _, h | .append, _, .bl _, _, h | .append, _, .int _, _, h | .append, _, .str _, _, h | .append, _, .tup _, _, h | .append, _, .rol _, _, h => exact (show False from h).elim
  | .extend, _, .non, _, h | .extend, _, .bl _, _, h | .extend, _, .int _, _, h | .extend, _, .str _, _, h | .extend, _, .tup _, _, h | .extend, _, .rol _, _, h => exact (show False from h).elim
  | .pop, _, .non, _, h | .pop, _, .bl _, _, h | .pop, _, .int _, _, h | .pop, _, .str _, _, h | .pop, _, .tup _, _, h | .pop, _, .rol _, _, h => exact (show False from h).elim
  | .join, _, .non, _, h | .join, _, .bl _, _, h | .join, _, .int _, _, h | .join, _, .ref _, _, h | .join, _, .tup _, _, h | .join, _, .rol _, _, h => exact (show False from h).elim
section
variable {o e : Expr} {es : List Expr} {name : Str} {apos cpos : Pos} {m : Bm} {fo : DSt → GH → KD → Prop} {fs : DSt → GH → (List D → GH → Prop) → Prop}
theorem de_bm (hm : bmOk m = true) (hn : name = bmN m) (ho : DE X H0 o fo) (ha : DA X H0 (e :: es) fs) (hbase : attributeBase o name X.env (eval o X.env) = eval o X.env)
    (hfew : ((backTo cpos (starEach (e :: es) X.env)).all (fun x => !x.1) && (backToKw cpos (keywordEach [] X.env)).all (fun x => x.1.isSome)
      && decide ((e :: es).length + ([] : List Keyword).length + (if ([] : List Keyword).isEmpty then 0 else 1) < 30)) = true)
    (hline : (apos.endLine == cpos.line) = true) (hs : starEach (e :: es) X.env = (false, eval e X.env) :: starEach es X.env) (hplain : (backTo cpos (starEach es X.env)).any (·.1) = false) :
    DE X H0 (.Call (.Attribute o name apos) (e :: es) [] cpos) (fun σ G Q => fo σ G fun x G1 => bmT m x G1 ∧ fs σ G1 fun ds G2 => bmQ m x ds G2 Q) := fun σ H σd G Qd R S s st h k => by
  subst hn
  obtain ⟨b1, b2, b3⟩ := bm_slot m hm
  exact tw_pe (pe_bm b1 b2 b3 m_tw pe_tw pa_tw hbase hfew hline hs hplain) (ho σ H σd G _ _ S s st h fun x vx G1 H1 rx s1 st1 ⟨ht, h1⟩ =>
    ⟨bmT_ty hm rx s1 ht, ha σ H1 σd G1 _ _ (S.stab st1) s1 (st.trans st1) h1 fun ds vs G2 H2 ln r s2 st2 h2 => dmt m hm x ds vx vs H2 G2 Qd R (rx.stab st2) r s2 h2 (k.from (st1.trans st2))⟩)
theorem de_bm0 (hm : bmOk m = true) (hn : name = bmN m) (ho : DE X H0 o fo) (hbase : attributeBase o name X.env (eval o X.env) = eval o X.env) (hline : (apos.endLine == cpos.line) = true) :
    DE X H0 (.Call (.Attribute o name apos) [] [] cpos) (fun σ G Q => fo σ G fun x G1 => bmT m x G1 ∧ bmQ m x [] G1 Q) := fun σ H σd G Qd R S s st h k => by
  subst hn
  obtain ⟨b1, b2, b3⟩ := bm_slot m hm
  exact tw_pe (pe_bm0 b1 b2 b3 m_tw pe_tw hbase hline) (ho σ H σd G _ _ S s st h fun x vx G1 H1 rx s1 st1 ⟨ht, h1⟩ =>
    ⟨bmT_ty hm rx s1 ht, dmt m hm x [] vx [] H1 G1 Qd R rx .nil s1 h1 (k.from st1)⟩)
end
/-! isinstance -/
theorem boot_ty : ∀ t : Ty, bootBuiltins (PySem.Str.ofString (tyN t)) = some (.type (tyN t)) := by intro t; cases t <;> first | decide +kernel | rfl
theorem pe_tyName {t : Ty} {x : Str} {p : Pos} (hx : x = PySem.Str.ofString (tyN t)) (hg : Gl X x) (hm : X.mg x = none) : PE X (.Name x p) (tC (.ty (tyN t))) := by
  subst hx
  refine ⟨fun pins s σ H Q I h => ?_⟩
  exact ld_blt I hg hm (boot_ty t) ⟨.ty (tyN t), H, I, rfl, h⟩ (by cases t <;> decide) (by cases t <;> decide)
theorem de_isin {t : Ty} {a : Expr} {x : Str} {p pf pos : Pos} {fa : DSt → GH → KD → Prop} (hx : x = PySem.Str.ofString (tyN t)) (hg : Gl X "isinstance") (hm : X.mg "isinstance" = none) (hgt : Gl X x) (hmt : X.mg x = none) (ha : DE X H0 a fa)
    (h1 : starEach [a, .Name x p] X.env = (false, eval a X.env) :: starEach [.Name x p] X.env) :
    DE X H0 (.Call (.Name "isinstance" pf) [a, .Name x p] [] pos) (fun σ G Q => fa σ G fun d G1 => known G1 d ∧ Q (.bl (isInst (tyD G1 d) [t])) G1) := fun σ H σd G Qd R S s st h k =>
  tw_pe (pe_callB call_isi hg hm (by first | rfl | decide +kernel) (pa_cons pe_tw (pa_cons (pe_tyName (p := p) hx hgt hmt) pa_nil rfl) h1) (by decide) (by decide) h1 rfl) (ha σ H σd G _ _ S s st h fun d v G1 H1 r s1 st1 ⟨kn, q⟩ =>
    ⟨v, .ty (tyN t), _, .type (tyN t), _, rfl, .ty _, r.tyX s1 kn, kit_tab X.K (tyD G1 d) t, (k.from st1).here .bl s1 q⟩)
/-! global names -/
theorem de_glob {x : Str} {d : D} {v : V} {pos : Pos} (hg : Gl X x) (h : ∃ u, X.mg x = some u ∧ RelV v u) (r : ∀ H, Rep X.K H d v) (hd : (x == ("__debug__" : Str)) = false) : DE X H0 (.Name x pos) (fun _ G Q => Q d G) := by
  obtain ⟨u, hm, rv⟩ := h
  exact de_const (pe_glob hg hm rv hd) r
end
end Ink
set_option Elab.async false
set_option linter.all false
set_option maxRecDepth 100000
set_option maxHeartbeats 4000000
/-! Ink, part I: fields, defs, methods, instances. -/
namespace Ink
open PySem PySem.Spec PyProof.Rows L2

/-! ### fields -/
theorem RepKV.lookup {K : PySem.W.Frag} {H : Hp} {f : Str} : ∀ {fs : List (Str × D)} {vs : List (Str × V)}, RepKV K H fs vs → ∀ {d : D}, fs.lookup f = some d → ∃ v, vs.lookup f = some v ∧ Rep K H d v
  | _, _, .nil, _, h => by simp at h
  | (g, x) :: r, (g', y) :: r', .cons e t, d, h => by
    obtain ⟨e1, e2⟩ := e
    have e1 : g = g' := e1
    subst e1
    rw [List.lookup_cons] at h ⊢
    cases q : f == g with
    | true => rw [q] at h; cases h; exact ⟨y, rfl, e2⟩
    | false => rw [q] at h; exact RepKV.lookup t h
theorem RepKV.lookupN {K : PySem.W.Frag} {H : Hp} {f : Str} : ∀ {fs : List (Str × D)} {vs : List (Str × V)}, RepKV K H fs vs → fs.lookup f = none → vs.lookup f = none
  | _, _, .nil, h => rfl
  | (g, x) :: r, (g', y) :: r', .cons e t, h => by
    obtain ⟨e1, e2⟩ := e
    have e1 : g = g' := e1
    subst e1
    rw [List.lookup_cons] at h ⊢
    cases q : f == g with
    | true => rw [q] at h; cases h
    | false => rw [q] at h; exact RepKV.lookupN t h
theorem RepKV.putF {K : PySem.W.Frag} {H : Hp} {f : Str} {d : D} {v : V} (rv : Rep K H d v) : ∀ {fs : List (Str × D)} {vs : List (Str × V)}, RepKV K H fs vs → RepKV K H (putFs f d fs) (L2.putF f v vs)
  | _, _, .nil => .cons ⟨rfl, rv⟩ .nil
  | (g, x) :: r, (g', y) :: r', .cons e t => by
    obtain ⟨e1, e2⟩ := e
    have e1 : g = g' := e1
    subst e1
    unfold putFs L2.putF
    by_cases q : g = f
    · rw [if_pos q, if_pos q]; exact .cons ⟨rfl, rv⟩ t
    · rw [if_neg q, if_neg q]; exact .cons ⟨rfl, e2⟩ (RepKV.putF rv t)
theorem RepKV.length {κ : Type} {K : PySem.W.Frag} {H : Hp} : ∀ {fs : List (κ × D)} {vs : List (κ × V)}, RepKV K H fs vs → vs.length = fs.length
  | _, _, .nil => rfl
  | _, _, .cons _ t => by simp [RepKV.length t]
theorem SimG.setI {K : PySem.W.Frag} {H : Hp} {G : GH} (s : SimG K H G) {p dx : Addr} {C : Str} {fs : List (Str × D)} {vs : List (Str × V)} {o1 : GO} (h : G p = some o1) (r : RepKV K H fs vs) :
    SimG K (upd H p (.ins (He.ga K C) dx vs)) (gup G p (.ins C fs)) ∧ Stab H (upd H p (.ins (He.ga K C) dx vs)) := by
  obtain ⟨w, z, z1, z2⟩ := (s p _ h).some
  refine s.set h ?_
  show ∃ dx' ws, upd H p (.ins (He.ga K C) dx vs) p = some (.ins (He.ga K C) dx' ws) ∧ RepKV K (upd H p (.ins (He.ga K C) dx vs)) fs ws
  exact ⟨dx, vs, upd_same, r.stab (Stab.mut z z1 z2)⟩
/-- no call of super -/
def noSup : Expr → Bool
  | .Call (.Name x _) [] [] _ => x != "super"
  | _ => true
theorem base_ok {o : Expr} {f : Str} {env : Env} {whole : Sem Value} (h : noSup o = true) : attributeBase o f env whole = whole := by
  unfold attributeBase
  split
  · rename_i x p1 p2
    have h : (x != "super") = true := h
    rw [h]
    simp
  · rfl
section
variable {X : Cx} {H0 : Hp} {e : Expr} {f C : Str} {pos pos' tpos : Pos} {fe fv : DSt → GH → KD → Prop}
theorem de_fld (c : Cls X.K (He.ga X.K C)) (n : NoAttr X.K (He.ga X.K C) f) (hb : noSup e = true) (he : DE X H0 e fe) : DE X H0 (.Attribute e f pos) (fun σ G Q => fe σ G fun x G1 => fldQ C f x G1 Q) := fun σ H σd G Qd R S s st h k =>
  tw_pe (pe_fld pe_tw (base_ok hb)) (he σ H σd G _ _ S s st h fun x vx G1 H1 rx s1 st1 h1 => by
    cases x with
    | ref a =>
      obtain ⟨fs, d, e1, e2, q⟩ := h1
      obtain ⟨dx, vs, hq, r⟩ := s1.ins e1
      obtain ⟨v, e3, rv⟩ := r.lookup e2
      rw [rx.refv]
      exact ⟨a, _, dx, vs, v, rfl, hq, c, n, e3, (k.from st1).here rv s1 q⟩
    | _ => exact (show False from h1).elim)
theorem ds_fld {value : Expr} (c : Cls X.K (He.ga X.K C)) (n : NoAttr X.K (He.ga X.K C) f) (he : DE X H0 e fe) (hv : DE X H0 value fv) (hs : swapsWith value (some (.Attribute e f pos')) pos.line X.env = pure false) :
    DS X H0 (.Assign [.Attribute e f pos'] value pos) (fun E σ G => fv σ G fun d G1 => fe σ G1 fun x G2 => setF C f x d G2 fun G3 => E.nx σ G3) := fun σ H σd G Ed E S s st h k =>
  tw_ps (ps_fld pe_tw pe_tw hs) (hv σ H σd G _ _ S s st h fun d v G1 H1 rd s1 st1 h1 => he σ H1 σd G1 _ _ (S.stab st1) s1 (st.trans st1) h1 fun x vx G2 H2 rx s2 st2 h2 => by
    cases x with
    | ref a =>
      obtain ⟨fs, e1, hl, q⟩ := h2
      obtain ⟨dx, vs, hq, r⟩ := s2.ins e1
      rw [rx.refv]
      have sn := s2.setI (C := C) (dx := dx) e1 (r.putF (f := f) (rd.stab st2))
      exact ⟨a, _, dx, vs, rfl, hq, c, n, by rw [r.length]; exact hl, k.nx _ _ _ _ (S.stab ((st1.trans st2).trans sn.2)) sn.1 ((st1.trans st2).trans sn.2) q⟩
    | _ => exact (show False from h2).elim)
/-- op= on a value -/
def DIn (X : Cx) (op : Operator) (q : D → D → GH → KD → Prop) (rd : V → V → Hp → VK → Prop) : Prop := ∀ x y vx vy H G Qd R, Rep X.K H x vx → Rep X.K H y vy → SimG X.K H G → q x y G Qd → Back X.K H Qd R → rd vx vy H R
theorem din_add : DIn X .Add (augQ .add) rAdd := fun x y vx vy H G Qd R rx ry s h k => by
  cases x with
  | int i =>
    cases y with
    | int j => rw [rx.intv, ry.intv]; exact ⟨i, j, rfl, rfl, k.here .int s h⟩
    | _ => exact (show False from h).elim
  | _ => cases y <;> exact (show False from h).elim
theorem din_sub : DIn X .Sub (augQ .sub) rSub := fun x y vx vy H G Qd R rx ry s h k => by
  cases x with
  | int i =>
    cases y with
    | int j => rw [rx.intv, ry.intv]; exact ⟨i, j, rfl, rfl, k.here .int s h⟩
    | _ => exact (show False from h).elim
  | _ => cases y <;> exact (show False from h).elim
theorem ds_fldaug {value : Expr} {op : Operator} {q : D → D → GH → KD → Prop} {rd : V → V → Hp → VK → Prop} (c : Cls X.K (He.ga X.K C)) (n : NoAttr X.K (He.ga X.K C) f) (ho : InOp X op rd) (hq : DIn X op q rd) (he : DE X H0 e fe) (hv : DE X H0 value fv) :
    DS X H0 (.AugAssign (.Attribute e f tpos) op value pos) (fun E σ G => fe σ G fun x G1 => fldQ C f x G1 fun u G2 => fv σ G2 fun y G3 => q u y G3 fun z G4 => setF C f x z G4 fun G5 => E.nx σ G5) := fun σ H σd G Ed E S s st h k =>
  tw_ps (ps_fldaug pe_tw pe_tw ho) (he σ H σd G _ _ S s st h fun x vx G1 H1 rx s1 st1 h1 => by
    cases x with
    | ref a =>
      obtain ⟨fs, d, e1, e2, h2⟩ := h1
      obtain ⟨dx, vs, hq1, r⟩ := s1.ins e1
      obtain ⟨v, e3, rv⟩ := r.lookup e2
      rw [rx.refv]
      refine ⟨a, _, dx, vs, v, rfl, hq1, c, n, e3, hv σ H1 σd G1 _ _ (S.stab st1) s1 (st.trans st1) h2 ?_⟩
      intro y vy G3 H3 ry s3 st3 h3
      refine hq d y v vy H3 G3 _ _ (rv.stab st3) ry s3 h3 ?_
      intro z vz G4 H4 rz s4 st4 h4
      obtain ⟨fs', e4, hl, h5⟩ := h4
      obtain ⟨dx', vs', hq4, r4⟩ := s4.ins e4
      have sn := s4.setI (C := C) (dx := dx') e4 (r4.putF (f := f) rz)
      have stt := ((st1.trans st3).trans st4).trans sn.2
      exact ⟨dx', vs', hq4, by rw [r4.length]; exact hl, k.nx _ _ _ _ (S.stab stt) sn.1 stt h5⟩
    | _ => exact (show False from h1).elim)
end

/-! ### defs -/
/-- the fields of an exception at its own dict -/
def ExcF (K : PySem.W.Frag) (H : Hp) (fs : List (Str × D)) (d : Option Addr) : Prop := fs = []
def BackW (K : PySem.W.Frag) (H : Hp) (W : WE) (E : XK) : Prop := ∀ x G' H' d, ExcF K H' x.fs d → SimG K H' G' → Stab H H' → W x G' → E (.ref (He.ga K x.cls)) d H'
theorem BackW.from {K : PySem.W.Frag} {H H1 : Hp} {W : WE} {E : XK} (k : BackW K H W E) (st : Stab H H1) : BackW K H1 W E := fun x G' H' d a s st' w => k x G' H' d a s (st.trans st') w
theorem BackW.no {K : PySem.W.Frag} {H : Hp} {E : XK} : BackW K H WE0 E := fun x G' H' d a s st' w => w.elim
/-- a def's promise over data as the layer's -/
def lift (K : PySem.W.Frag) (n : Nat) (sp : DSp) : Sp := fun vs H Q E => vs.length = n ∧ ∃ ds G W Qd, Reps K H ds vs ∧ SimG K H G ∧ sp ds G W Qd ∧ Back K H Qd Q ∧ BackW K H W E
abbrev FNm := Nat → Str × Option Str
/-- a def that may be called -/
def FnAv (X : Cx) (nm : FNm) (Φ : Nat → DSp) (k i : Nat) : Prop := ∃ fd ps, FnOk X.prog X.w X.K X.mg X.base (CX X.prog X.w) k (He.fAd X.K (nm i)) fd ps (lift X.K ps.length (Φ i)) ∧ Binds X.K fd ps []
section
variable {X : Cx} {H0 : Hp} {nm : FNm} {Φ : Nat → DSp} {W : WE} {E0 : XK} {k i : Nat} {x m C : Str} {p pos apos : Pos} {e o : Expr} {es : List Expr} {fs : DSt → GH → (List D → GH → Prop) → Prop} {fo : DSt → GH → KD → Prop}
theorem lift_len {K : PySem.W.Frag} {n : Nat} {sp : DSp} {H : Hp} {Q : VK} {E : XK} {ds : List D} {vs : List V} {G : GH} {Qd : KD} (hl : ds.length = n) (r : Reps K H ds vs) (s : SimG K H G) (h : sp ds G W Qd) (b : Back K H Qd Q) (bw : BackW K H W E) :
    lift K n sp vs H Q E := ⟨by rw [r.length]; exact hl, ds, G, W, Qd, r, s, h, b, bw⟩
theorem de_call {fd : FuncData} {ps : List Str} (F : FnOk X.prog X.w X.K X.mg X.base (CX X.prog X.w) k (He.ga X.K x) fd ps (lift X.K ps.length (Φ i))) (hb : Binds X.K fd ps []) (hl : (e :: es).length = ps.length) (hr : Room k X.A) (hg : Gl X x) (hm : X.mg x = some (.ref (He.ga X.K x)))
    (hk : PySem.W.keepIn X.K (.ref (He.ga X.K x)) = true) (hx : Passes (CX X.prog X.w) X E0) (hW : BackW X.K H0 W E0) (hdb : (x == ("__debug__" : Str)) = false) (ha : DA X H0 (e :: es) fs)
    (he : starEach (e :: es) X.env = (false, eval e X.env) :: starEach es X.env) (hpl : (backTo pos (starEach es X.env)).any (·.1) = false) :
    DE X H0 (.Call (.Name x p) (e :: es) [] pos) (fun σ G Q => fs σ G fun ds G1 => Φ i ds G1 W Q) := fun σ H σd G Qd R S s st h kb =>
  tw_pe (pe_call F hr hg hm hk hb .nil hx pa_tw hdb he hpl) (ha σ H σd G _ _ S s st h fun ds vs G1 H1 ln r s1 st1 h1 => by
    rw [List.append_nil]
    exact lift_len (ln.trans hl) r s1 h1 (kb.from st1) (hW.from (st.trans st1)))
theorem de_call0 {fd : FuncData} {ps : List Str} (F : FnOk X.prog X.w X.K X.mg X.base (CX X.prog X.w) k (He.ga X.K x) fd ps (lift X.K ps.length (Φ i))) (hb : Binds X.K fd ps []) (hl : 0 = ps.length) (hr : Room k X.A) (hg : Gl X x) (hm : X.mg x = some (.ref (He.ga X.K x)))
    (hk : PySem.W.keepIn X.K (.ref (He.ga X.K x)) = true) (hx : Passes (CX X.prog X.w) X E0) (hW : BackW X.K H0 W E0) (hdb : (x == ("__debug__" : Str)) = false) :
    DE X H0 (.Call (.Name x p) [] [] pos) (fun σ G Q => Φ i [] G W Q) := fun σ H σd G Qd R S s st h kb =>
  tw_pe (pe_call0 F hr hg hm hk hb .nil hx hdb) (lift_len (ds := []) hl .nil s h kb (hW.from st))
theorem de_mk {fd : FuncData} {ps : List Str} (M : Mk X.K (He.ga X.K C) (He.ma X.K (He.ga X.K C) "__init__")) (F : FnOk X.prog X.w X.K X.mg X.base (CX X.prog X.w) k (He.ma X.K (He.ga X.K C) "__init__") fd ps (lift X.K ps.length (Φ i))) (hb : Binds X.K fd ps []) (hl : (e :: es).length + 1 = ps.length) (hr : Room (k + 1) X.A) (hg : Gl X C) (hm : X.mg C = some (.ref (He.ga X.K C)))
    (hx : Passes (CX X.prog X.w) X E0) (hW : BackW X.K H0 W E0) (hdb : (C == ("__debug__" : Str)) = false) (ha : DA X H0 (e :: es) fs)
    (he : starEach (e :: es) X.env = (false, eval e X.env) :: starEach es X.env) (hpl : (backTo pos (starEach es X.env)).any (·.1) = false) :
    DE X H0 (.Call (.Name C p) (e :: es) [] pos) (fun σ G Q => fs σ G fun ds G1 => ∀ p, G1 p = none → Φ i (.ref p :: ds) (gup G1 p (.ins C [])) W fun v G2 => v = .non ∧ Q (.ref p) G2) := fun σ H σd G Qd R S s st h kb =>
  tw_pe (pe_make M F hr hg hm hb .nil hx pa_tw hdb he hpl) (ha σ H σd G _ _ S s st h fun ds vs G1 H1 ln r s1 st1 h1 x dx hx0 hdx hne => by
    rw [List.append_nil]
    have n1 : Stab H1 (upd H1 dx (.own x)) := Stab.new hdx
    have hx1 : upd H1 dx (.own x) x = none := by rw [upd_ne (Ne.symm hne)]; exact hx0
    have n2 : Stab (upd H1 dx (.own x)) (upd (upd H1 dx (.own x)) x (.ins (He.ga X.K C) dx [])) := Stab.new hx1
    have s2 : SimG X.K (upd (upd H1 dx (.own x)) x (.ins (He.ga X.K C) dx [])) (gup G1 x (.ins C [])) := (s1.grow hdx).new hx1 ⟨dx, [], upd_same, .nil⟩
    have q := h1 x (s1.fresh hx0)
    refine lift_len (by rw [← hl, ← ln]; rfl) (.cons .ref (r.stab (n1.trans n2))) s2 q ?_ (hW.from (st.trans (st1.trans (n1.trans n2))))
    rintro d v G' H' rd s' st' ⟨rfl, hq⟩
    exact ⟨rd.nonv, kb _ _ _ _ .ref s' (((st1.trans n1).trans n2).trans st') hq⟩)
theorem meth_tree {args : List Expr} {env : Env} (hb : noSup o = true) (hf : methodCallForm (args.length + ([] : List Keyword).length) (backTo pos (starEach args env)) (backToKw pos (keywordEach [] env)) = true) (hl : (apos.endLine == pos.line) = true) :
    eval (.Call (.Attribute o m apos) args [] pos) env = (do
      let ov ← eval o env
      standAt apos.atName
      let (f, first) ← holding [ov] (getMethod ov m (plainOf o env))
      callWith pos f first (backTo pos (starEach args env)) (backToKw pos (keywordEach [] env))) := by
  rw [arm_eval_Call, base_ok hb]
  congr
  funext ov
  congr
  funext _
  rw [mcall_line hf hl]
theorem de_meth {fd : FuncData} {ps : List Str} (c : Cls X.K (He.ga X.K C)) (hM : Meth X.K (He.ga X.K C) m (He.ma X.K (He.ga X.K C) m)) (F : FnOk X.prog X.w X.K X.mg X.base (CX X.prog X.w) k (He.ma X.K (He.ga X.K C) m) fd ps (lift X.K ps.length (Φ i))) (hb : Binds X.K fd ps []) (hl : (e :: es).length + 1 = ps.length) (hr : Room k X.A)
    (hx : Passes (CX X.prog X.w) X E0) (hW : BackW X.K H0 W E0) (ho : DE X H0 o fo) (ha : DA X H0 (e :: es) fs)
    (he : starEach (e :: es) X.env = (false, eval e X.env) :: starEach es X.env) (hpl : (backTo pos (starEach es X.env)).any (·.1) = false)
    (hs : noSup o = true) (hf : methodCallForm ((e :: es).length + ([] : List Keyword).length) (backTo pos (starEach (e :: es) X.env)) (backToKw pos (keywordEach [] X.env)) = true) (hline : (apos.endLine == pos.line) = true) :
    DE X H0 (.Call (.Attribute o m apos) (e :: es) [] pos) (fun σ G Q => fo σ G fun x G1 => ∃ p fs', x = .ref p ∧ G1 p = some (.ins C fs') ∧ fs'.lookup m = none ∧ fs σ G1 fun ds G2 => Φ i (x :: ds) G2 W Q) := fun σ H σd G Qd R S s st h kb =>
  tw_pe (pe_meth pe_tw c hM F hr hb .nil hx pa_tw he hpl (meth_tree hs hf hline)) (ho σ H σd G _ _ S s st h fun x vx G1 H1 rx s1 st1 ⟨p, fs', ex, e1, e2, h1⟩ => by
    subst ex
    obtain ⟨dx, vs, hq, r⟩ := s1.ins e1
    rw [rx.refv]
    refine ⟨p, dx, vs, rfl, hq, r.lookupN e2, ha σ H1 σd G1 _ _ (S.stab st1) s1 (st.trans st1) h1 ?_⟩
    intro ds ws G2 H2 ln r2 s2 st2 h2
    rw [List.append_nil]
    exact lift_len (by rw [← hl, ← ln]; rfl) (.cons .ref r2) s2 h2 (kb.from (st1.trans st2)) (hW.from (st.trans (st1.trans st2))))
theorem de_meth0 {fd : FuncData} {ps : List Str} (c : Cls X.K (He.ga X.K C)) (hM : Meth X.K (He.ga X.K C) m (He.ma X.K (He.ga X.K C) m)) (F : FnOk X.prog X.w X.K X.mg X.base (CX X.prog X.w) k (He.ma X.K (He.ga X.K C) m) fd ps (lift X.K ps.length (Φ i))) (hb : Binds X.K fd ps []) (hl : 1 = ps.length) (hr : Room k X.A)
    (hx : Passes (CX X.prog X.w) X E0) (hW : BackW X.K H0 W E0) (ho : DE X H0 o fo)
    (hs : noSup o = true) (hf : methodCallForm (([] : List Expr).length + ([] : List Keyword).length) (backTo pos (starEach [] X.env)) (backToKw pos (keywordEach [] X.env)) = true) (hline : (apos.endLine == pos.line) = true) :
    DE X H0 (.Call (.Attribute o m apos) [] [] pos) (fun σ G Q => fo σ G fun x G1 => ∃ p fs', x = .ref p ∧ G1 p = some (.ins C fs') ∧ fs'.lookup m = none ∧ Φ i [x] G1 W Q) := fun σ H σd G Qd R S s st h kb =>
  tw_pe (pe_meth0 pe_tw c hM F hr hb .nil hx (meth_tree hs hf hline)) (ho σ H σd G _ _ S s st h fun x vx G1 H1 rx s1 st1 ⟨p, fs', ex, e1, e2, h1⟩ => by
    subst ex
    obtain ⟨dx, vs, hq, r⟩ := s1.ins e1
    rw [rx.refv]
    refine ⟨p, dx, vs, rfl, hq, r.lookupN e2, ?_⟩
    exact lift_len (ds := [.ref p]) hl (.cons .ref .nil) s1 h1 (kb.from st1) (hW.from (st.trans st1)))
/-- within a comprehension nothing may leave -/
theorem passes_blk {s : Shared} {H : Hp} {scope : Scope} {cenv : Env} {fp : List Addr} : Passes (CX X.prog X.w) (X.blk s H scope cenv fp) (fun _ _ _ => False) := fun pins σ H' s' e s'' I c => by
  obtain ⟨a, B, H2, cls, d, _, _, _, _, _, _, _, h⟩ := c
  exact h.elim
end
/-! ### raising -/
section
variable {X : Cx} {H0 : Hp} {C : Addr} {bmB : List Value} {B newId initId : String}
/-- X() -/
theorem pmk_own0 {x : Str} {p pos : Pos} (F : ExcBaseFacts B newId initId bmB) (q : PySem.W.excIn X.K C bmB newId = true) (gC : X.mg x = some (.ref C)) (kC : PySem.W.keepIn X.K (.ref C) = true) (r : Raises X (.ref C)) (hg : Gl X x)
    (hdb : (x == ("__debug__" : Str)) = false) : PMk X (.Call (.Name x p) [] [] pos) (fun _ H Q => Q (.ref C) none H) := by
  intro pins s σ H Q I h
  refine wpAny_Call_Name_kw (ld_glob I hg gC ?_ hdb)
  refine PySem.W.callWith_K0 I.kIn kC ?_
  obtain ⟨bm, N, nm, qn, bs, hdct, sn, sub, ab, col, dd, k0, k1, k2, k3, k5, mN, hC, hN, hni, T⟩ := exc_obj I.kIn q
  refine wpAny_call_exc_subT F T hC hN hni (fun h' e hm => ?_) (by show 0 ≤ sizeLine; exact Nat.zero_le _)
  exact mk_of I hm r h (I.hok.gone hm.new)
theorem ds_raise {x : Str} {p pos pos' : Pos} {W : WE} {E0 : XK} (hc : X.calm = true) (tk : Takes X (fun cls d _ H => E0 cls d H)) (hW : BackW X.K H0 W E0) (q : (He.Fa.exc x).ok X.K = true) (gC : X.mg x = some (.ref (He.ga X.K x))) (hg : Gl X x) (hdb : (x == ("__debug__" : Str)) = false) :
    DS X H0 (.Raise (some (.Call (.Name x p) [] [] pos)) none pos') (fun _ _ G => W ⟨x, []⟩ G) := fun σ H σd G Ed E S s st h k => by
  obtain ⟨q1, q2, q3, q4⟩ := He.exc_ok q
  exact tw_ps (ps_raise hc tk (pmk_own0 PySem.F.excBase_ValueError q1 gC q2 (raises_own q3 q4) hg hdb)) (hW ⟨x, []⟩ G H none rfl s st h)
end
/-! ### isinstance(x, (T, U)) -/
section
variable {X : Cx} {H0 : Hp}
def tTys (ts : List Ty) : TA := fun _ H Q => Q (ts.map fun t => V.ty (tyN t)) H
/-- the names are those of the types -/
inductive TyNames (X : Cx) : List Ty → List Expr → Prop where
  | nil : TyNames X [] []
  | cons {t : Ty} {ts : List Ty} {x : Str} {p : Pos} {es : List Expr} : x = PySem.Str.ofString (tyN t) → Gl X x → X.mg x = none → TyNames X ts es → TyNames X (t :: ts) (.Name x p :: es)
theorem pa_tys : ∀ {ts : List Ty} {es : List Expr}, TyNames X ts es → PA X es (tTys ts)
  | _, _, .nil => pa_nil
  | _, _, .cons (t := t) (ts := ts) (p := p) hx hg hm r => by
    have h := pa_cons (pe_tyName (t := t) (p := p) hx hg hm) (pa_tys r) (by rfl)
    exact ⟨fun pos pins s σ H Q I q => h.run pos pins s σ H Q I q⟩
theorem TyNames.len : ∀ {ts : List Ty} {es : List Expr}, TyNames X ts es → es.length = ts.length
  | _, _, .nil => rfl
  | _, _, .cons _ _ _ r => by simp [r.len]
theorem clsV_tys : ∀ ts : List Ty, Paired ClsV (ts.map fun t => V.ty (tyN t)) (ts.map fun u => Value.type (tyN u))
  | [] => .nil
  | _ :: r => .cons (.ty _) (clsV_tys r)
theorem de_isinT {ts : List Ty} {a : Expr} {es : List Expr} {n : Nat} {pf pt pos : Pos} {fa : DSt → GH → KD → Prop} (hT : TyNames X ts es) (hn : ts.length ≤ 1000) (hg : Gl X "isinstance") (hm : X.mg "isinstance" = none) (ha : DE X H0 a fa)
    (h1 : starEach [a, .Tuple es n pt] X.env = (false, eval a X.env) :: starEach [.Tuple es n pt] X.env) :
    DE X H0 (.Call (.Name "isinstance" pf) [a, .Tuple es n pt] [] pos) (fun σ G Q => fa σ G fun d G1 => known G1 d ∧ Q (.bl (isInst (tyD G1 d) ts)) G1) := fun σ H σd G Qd R S s st h k =>
  tw_pe (pe_callB call_isiT hg hm (by first | rfl | decide +kernel) (pa_cons pe_tw (pa_cons (pe_tup (pa_tys hT)) pa_nil rfl) h1) (by decide) (by decide) h1 rfl) (ha σ H σd G _ _ S s st h fun d v G1 H1 r s1 st1 ⟨kn, q⟩ => by
    refine ⟨by rw [List.length_map]; exact Nat.le_of_lt (small1000 hn), fun p hp => ?_⟩
    have n := Stab.new (o := .tup (ts.map fun t => V.ty (tyN t))) hp
    exact ⟨v, p, _, .type (tyNo (tyD G1 d)), _, _, rfl, upd_same, clsV_tys ts, (r.stab n).tyX (s1.grow hp) kn, kit_any X.K (tyD G1 d) ts, (k.from (st1.trans n)).here .bl (s1.grow hp) q⟩)
end
end Ink
set_option Elab.async false
set_option linter.all false
set_option maxRecDepth 100000
set_option maxHeartbeats 8000000
/-! Ink, part J: does a text say what a piece says? expressions. -/
namespace Ink
open PySem PySem.Spec PyProof.Rows L2

/-- what is known of a def's names and of the program around it -/
structure TC where
  N : List Str
  sc : Scope
  fnb : Str → Bool
  fa : List He.Fa
  nm : FNm
  ar : Nat → Nat
  av : Nat → Bool
def faB : He.Fa → He.Fa → Bool
  | .glo x, .glo y => decide (x = y)
  | .free x, .free y => decide (x = y)
  | .int x i, .int y j => decide (x = y) && decide (i = j)
  | .str x i, .str y j => decide (x = y) && decide (i = j)
  | .cls x, .cls y => decide (x = y)
  | .noat x i, .noat y j => decide (x = y) && decide (i = j)
  | .meth x i, .meth y j => decide (x = y) && decide (i = j)
  | .mkr x, .mkr y => decide (x = y)
  | .exc x, .exc y => decide (x = y)
  | .exm x i b, .exm y j c => decide (x = y) && decide (i = j) && (b == c)
  | .keep x, .keep y => decide (x = y)
  | _, _ => false
theorem faB_ok {f g : He.Fa} (h : faB f g = true) : f = g := by
  cases f <;> cases g <;> simp_all [faB]
def TC.has (tc : TC) (f : He.Fa) : Bool := tc.fa.any (faB f)
def TC.vis (tc : TC) (x : Str) : Bool := match tc.sc.names.lookup x with | some .local => true | some .cell => true | some .free => true | _ => false
def TC.loc (tc : TC) (x : Str) : Bool := match tc.sc.names.lookup x with | some .local => true | some .cell => tc.fnb x | _ => false
def TC.lcl (tc : TC) (x : Str) : Bool := decide (tc.sc.names.lookup x = some .local)
def TC.gl (tc : TC) (x : Str) : Bool := decide (tc.sc.names.lookup x = some .globalImplicit)
def okN (x : Str) : Bool := !(x == ("__debug__" : Str)) && !(x == ("__classdict__" : Str))
def nStar : Expr → Bool | .Starred .. => false | _ => true
def okT : Expr → Bool | .IfExp .. => false | _ => true
def isBO : Expr → Bool | .BoolOp .. => true | _ => false
def plainIxB : Expr → Bool | .Slice .. => false | .Starred .. => false | _ => true
def notSet : Expr → Bool | .Set .. => false | _ => true
def isTT : Ex → Bool | .bl b => b | _ => false
/-- a comprehension's block -/
def TC.blk (tc : TC) (scope : Scope) : TC := { tc with sc := relS scope tc.sc, fnb := fun x => scope.names.lookup x == some .cell }
def blkB (tc : TC) (scope : Scope) (own : List (Str × Nat)) : Bool :=
  decide (scope.kind = .function) && scope.names.all (fun y => decide (scope.names.lookup y.1 = some y.2) && (match y.2 with
    | .free => (match tc.sc.names.lookup y.1 with | some .cell => true | some .free => true | _ => false)
    | .local => own.any (fun p => decide (p.1 = y.1)) || tc.N.all (fun z => decide (z ≠ y.1))
    | .cell => own.any (fun p => decide (p.1 = y.1)) || tc.N.all (fun z => decide (z ≠ y.1))
    | _ => true)) && own.all (fun p => decide (tc.N[p.2]? = some p.1))
def chkTys (tc : TC) : List Ty → List Expr → Bool
  | [], [] => true
  | t :: ts, .Name x _ :: es => decide (x = PySem.Str.ofString (tyN t)) && (tc.gl x && (tc.has (.free x) && chkTys tc ts es))
  | _, _ => false
mutual
def chkE : Ex → TC → Expr → Bool
  | .var i, tc, e => match e with | .Name x _ => decide (tc.N[i]? = some x) && (tc.vis x && okN x) | _ => false
  | .non, _, e => match e with | .Constant .none _ _ => true | _ => false
  | .bl b, _, e => match e with | .Constant (.bool c) _ _ => b == c | _ => false
  | .int i, _, e => match e with | .Constant (.int j) _ _ => decide (i = j) | _ => false
  | .str x, _, e => match e with | .Constant (.str y) _ _ => decide (x = y) | _ => false
  | .gi x i, tc, e => match e with | .Name y _ => decide (y = x) && (tc.gl x && (tc.has (.int x i) && okN x)) | _ => false
  | .gs x z, tc, e => match e with | .Name y _ => decide (y = x) && (tc.gl x && (tc.has (.str x z) && okN x)) | _ => false
  | .bin op a b, tc, e => match e with | .BinOp l o r _ => decide (o = opOf op) && (chkE a tc l && chkE b tc r) | _ => false
  | .neg a, tc, e => match e with | .UnaryOp .USub l _ => chkE a tc l | _ => false
  | .nt a, tc, e => match e with | .UnaryOp .Not l _ => okT l && chkE a tc l | _ => false
  | .an a b, tc, e => match e with
    | .BoolOp .And [x, y] _ => okT x && (okT y && (chkE a tc x && chkE b tc y))
    | .BoolOp .And (x :: y :: z :: r) p => okT x && (chkE a tc x && chkE b tc (.BoolOp .And (y :: z :: r) p))
    | _ => false
  | .or a b, tc, e => match e with
    | .BoolOp .Or [x, y] _ => okT x && (okT y && (chkE a tc x && chkE b tc y))
    | .BoolOp .Or (x :: y :: z :: r) p => okT x && (chkE a tc x && chkE b tc (.BoolOp .Or (y :: z :: r) p))
    | _ => false
  | .ite c a b, tc, e => match e with | .IfExp t x y _ => okT t && (chkE c tc t && (chkE a tc x && chkE b tc y)) | _ => false
  | .cmp op a b, tc, e => match e with | .Compare l [o] [r] _ => decide (o = copOf op) && (!(behindInMarks o r) && (chkE a tc l && chkE b tc r)) | _ => false
  | .chain op op' a b c, tc, e => match e with | .Compare l [o, o'] [r, r'] _ => decide (o = copOf op) && (decide (o' = copOf op') && (!(lastMarks [o, o'] [r, r']) && (chkE a tc l && (chkE b tc r && chkE c tc r')))) | _ => false
  | .isin a ts, tc, e => match ts, e with
    | [t], .Call (.Name f _) [l, .Name x _] [] _ => decide (f = "isinstance") && (tc.gl "isinstance" && (tc.has (.free "isinstance") && (decide (x = PySem.Str.ofString (tyN t)) && (tc.gl x && (tc.has (.free x) && (nStar l && chkE a tc l))))))
    | ts, .Call (.Name f _) [l, .Tuple es _ _] [] _ => decide (f = "isinstance") && (tc.gl "isinstance" && (tc.has (.free "isinstance") && (decide (ts.length ≤ 1000) && (chkTys tc ts es && (nStar l && chkE a tc l)))))
    | _, _ => false
  | .sub a i, tc, e => match e with | .Subscript l r _ => plainIxB r && (chkE a tc l && chkE i tc r) | _ => false
  | .sl a lo hi, tc, e => match e with | .Subscript l (.Slice lo' hi' none _) _ => chkE a tc l && (chkO lo tc lo' && chkO hi tc hi') | _ => false
  | .fld C a f, tc, e => match e with | .Attribute l g _ => decide (g = f) && (noSup l && (tc.has (.cls C) && (tc.has (.noat C f) && chkE a tc l))) | _ => false
  | .tup es, tc, e => match e with | .Tuple l _ _ => decide (l.length ≤ 1000) && chkA es tc l | _ => false
  | .lst es, tc, e => match e with | .List l _ => decide (l.length ≤ 1000) && chkA es tc l | _ => false
  | .dnewK, _, _ => false
  | .dnewT, _, _ => false
  | .call f es, tc, e => match e with
    | .Call (.Name x _) l [] _ => decide (tc.nm f = (x, none)) && (tc.av f && (tc.gl x && (tc.has (.glo x) && (tc.has (.keep x) && (okN x && (decide (l.length = tc.ar f) && chkA es tc l))))))
    | _ => false
  | .mk C f es, tc, e => match e with
    | .Call (.Name x _) l [] _ => decide (x = C) && (decide (tc.nm f = (C, some ("__init__" : Str))) && (tc.av f && (tc.gl x && (tc.has (.glo x) && (tc.has (.mkr x) && (okN x && (!l.isEmpty && (decide (l.length + 1 = tc.ar f) && chkA es tc l))))))))
    | _ => false
  | .meth C m f a es, tc, e => match e with
    | .Call (.Attribute o g apos) l [] pos => decide (g = m) && (decide (tc.nm f = (C, some m)) && (tc.av f && (tc.has (.cls C) && (tc.has (.meth C m) && (noSup o && ((apos.endLine == pos.line) && (decide (l.length < 29) && (decide (l.length + 1 = tc.ar f) && (chkE a tc o && chkA es tc l)))))))))
    | _ => false
  | .bi f es, tc, e => match e with
    | .Call (.Name x _) l [] _ => decide (x = biN f) && (decide (f ≠ .dict) && (tc.gl x && (tc.has (.free x) && (!l.isEmpty && chkA es tc l))))
    | _ => false
  | .bm m a es, tc, e => match e with
    | .Call (.Attribute o g apos) l [] pos => bmOk m && (decide (g = bmN m) && (noSup o && ((apos.endLine == pos.line) && (decide (l.length < 29) && (chkE a tc o && chkA es tc l)))))
    | _ => false
  | .comp own it tg c e', tc, e => match e with
    | .ListComp elt [⟨t, iter, ifs, 0⟩] scope _ => blkB tc scope own && (notSet iter && (chkI it tc t iter && (chkG tg (tc.blk scope) (own.map (·.2)) t && ((match ifs with
        | [] => isTT c
        | [q] => okT q && chkE c (tc.blk scope) q
        | _ => false) && chkE e' (tc.blk scope) elt))))
    | _ => false
  | .never, _, _ => true
def chkA : Exs → TC → List Expr → Bool
  | .nil, _, l => match l with | [] => true | _ => false
  | .cons e es, tc, l => match l with | x :: r => nStar x && (chkE e tc x && chkA es tc r) | [] => false
def chkO : Ox → TC → Option Expr → Bool
  | .no, _, l => match l with | none => true | _ => false
  | .yes e, tc, l => match l with | some x => chkE e tc x | _ => false
def chkI : Ir → TC → Expr → Expr → Bool
  | .seq e, tc, _, it => chkE e tc it
  | .range1 a, tc, _, it => match it with | .Call (.Name x _) [l] [] _ => decide (x = "range") && (tc.gl "range" && (tc.has (.free "range") && (nStar l && chkE a tc l))) | _ => false
  | .range2 a b, tc, _, it => match it with | .Call (.Name x _) [l, r] [] _ => decide (x = "range") && (tc.gl "range" && (tc.has (.free "range") && (nStar l && (nStar r && (chkE a tc l && chkE b tc r))))) | _ => false
  | .enum e, tc, tg, it => match tg, it with | .Tuple _ _ _, .Call (.Name x _) [l] [] _ => decide (x = "enumerate") && (tc.gl "enumerate" && (tc.has (.free "enumerate") && (nStar l && chkE e tc l))) | _, _ => false
  | .zip a b, tc, tg, it => match tg, it with | .Tuple _ _ _, .Call (.Name x _) [l, r] [] _ => decide (x = "zip") && (tc.gl "zip" && (tc.has (.free "zip") && (nStar l && (nStar r && (chkE a tc l && chkE b tc r))))) | _, _ => false
def chkG : Tg → TC → List Nat → Expr → Bool
  | .nm i, tc, L, e => match e with | .Name x _ => decide (tc.N[i]? = some x) && (tc.loc x && L.contains i) | _ => false
  | .tp ts, tc, L, e => match e with | .Tuple es _ _ => chkGs ts tc L es | _ => false
  | .sb a i, tc, _, e => match e with | .Subscript o j _ => plainIxB j && (chkE a tc o && chkE i tc j) | _ => false
  | .at _ _ _, _, _, _ => false
def chkGs : Tgs → TC → List Nat → List Expr → Bool
  | .nil, _, _, l => match l with | [] => true | _ => false
  | .cons t ts, tc, L, l => match l with | x :: r => nStar x && (chkG t tc L x && chkGs ts tc L r) | [] => false
end
end Ink
set_option Elab.async false
set_option linter.all false
set_option maxRecDepth 100000
set_option maxHeartbeats 8000000
/-! Ink, part K: expressions, sound. -/
namespace Ink
open PySem PySem.Spec PyProof.Rows L2

/-- a context that tc tells truly; k: the depth for the defs that are called -/
structure GoodE (X : Cx) (H0 : Hp) (Φ : Nat → DSp) (k : Nat) (W : WE) (tc : TC) : Prop where
  sc : X.env.scope = tc.sc
  N : X.N = tc.N
  nd : X.N.Nodup
  calm : X.calm = true
  fn : ∀ x, tc.fnb x = true → X.fn x = true
  units : X.A.units + 64 < cLine
  room : Room (k + 1) X.A
  ex : ∃ E0, Passes (CX X.prog X.w) X E0 ∧ BackW X.K H0 W E0
  fns : ∀ i, tc.av i = true → ∃ fd ps, FnOk X.prog X.w X.K X.mg X.base (CX X.prog X.w) k (He.fAd X.K (tc.nm i)) fd ps (lift X.K ps.length (Φ i)) ∧ Binds X.K fd ps [] ∧ ps.length = tc.ar i
  fa : ∀ f ∈ tc.fa, f.ok X.K = true
  glob : ∃ h, X.K.In h ∧ h.Ns mainGlobals X.mg
section
variable {X : Cx} {H0 : Hp} {Φ : Nat → DSp} {k : Nat} {W : WE} {tc : TC}
theorem GoodE.has (g : GoodE X H0 Φ k W tc) {f : He.Fa} (h : tc.has f = true) : f.ok X.K = true := by
  unfold TC.has at h
  obtain ⟨f', h1, h2⟩ := List.any_eq_true.mp h
  rw [faB_ok h2]
  exact g.fa f' h1
theorem GoodE.gl (g : GoodE X H0 Φ k W tc) {x : Str} (h : tc.gl x = true) : Gl X x := by
  show X.env.scope.names.lookup x = _
  rw [g.sc]
  exact of_decide_eq_true h
theorem GoodE.vis (g : GoodE X H0 Φ k W tc) {x : Str} (h : tc.vis x = true) : Vis X.env.scope x := by
  rw [g.sc]
  unfold TC.vis at h
  unfold Vis
  split at h
  · rename_i e; exact .inl e
  · rename_i e; exact .inr (.inl e)
  · rename_i e; exact .inr (.inr e)
  · cases h
theorem GoodE.lcl (g : GoodE X H0 Φ k W tc) {x : Str} (h : tc.lcl x = true) : X.env.scope.names.lookup x = some .local := by
  rw [g.sc]; exact of_decide_eq_true h
theorem GoodE.loc (g : GoodE X H0 Φ k W tc) {x : Str} (h : tc.loc x = true) : L2.Loc X.env.scope x ∧ (X.fn x = true ∨ X.env.scope.names.lookup x = some .local) := by
  rw [g.sc]
  unfold TC.loc at h
  unfold L2.Loc
  split at h
  · rename_i e; exact ⟨.inl e, .inr e⟩
  · rename_i e; exact ⟨.inr e, .inl (g.fn x h)⟩
  · cases h
theorem GoodE.ix (g : GoodE X H0 Φ k W tc) {i : Nat} {x : Str} (h : decide (tc.N[i]? = some x) = true) : X.N[i]? = some x := by
  rw [g.N]; exact of_decide_eq_true h
theorem GoodE.mg (g : GoodE X H0 Φ k W tc) {x : Str} (h : tc.has (.glo x) = true) : X.mg x = some (.ref (He.ga X.K x)) := by
  obtain ⟨hp, i, n⟩ := g.glob
  exact He.glo_ok i n (g.has h)
theorem GoodE.mgN (g : GoodE X H0 Φ k W tc) {x : Str} (h : tc.has (.free x) = true) : X.mg x = none := by
  obtain ⟨hp, i, n⟩ := g.glob
  exact He.free_ok i n (g.has h)
theorem GoodE.mgI (g : GoodE X H0 Φ k W tc) {x : Str} {j : Int} (h : tc.has (.int x j) = true) : ∃ t, X.mg x = some (.int j t) := by
  obtain ⟨hp, i, n⟩ := g.glob
  exact He.int_ok i n (g.has h)
theorem GoodE.mgS (g : GoodE X H0 Φ k W tc) {x z : Str} (h : tc.has (.str x z) = true) : ∃ t, X.mg x = some (.str z t) := by
  obtain ⟨hp, i, n⟩ := g.glob
  exact He.str_ok i n (g.has h)
end
theorem okN_d {x : Str} (h : okN x = true) : (x == ("__debug__" : Str)) = false ∧ (x == ("__classdict__" : Str)) = false := by
  unfold okN at h
  simp only [Bool.and_eq_true, Bool.not_eq_true'] at h
  exact h
theorem star_cons {e : Expr} {es : List Expr} {env : Env} (h : nStar e = true) : starEach (e :: es) env = (false, eval e env) :: starEach es env := by
  cases e <;> first | rfl | (cases h)
theorem asg_cons {e : Expr} {es : List Expr} {env : Env} (h : nStar e = true) : assignEach (e :: es) env = (false, assign e env) :: assignEach es env := by
  cases e <;> first | rfl | (cases h)
theorem sub_ok {b : Expr} (h : plainIxB b = true) : PlainIx b := by
  intro o i
  cases b <;> first | rfl | (cases h)
theorem set_ok {o j : Expr} {env : Env} {pos : Pos} (h : plainIxB j = true) : ∀ v, assign (.Subscript o j pos) env v = (do
      let ov ← holding [v] (eval o env)
      let iv ← holding [v, ov] (eval j env)
      standAt pos
      holding [v, ov, iv] (setItem ov iv v)
      release [v, ov, iv] []) := by
  intro v
  cases j <;> first | rfl | (cases h)
theorem fold_ok {e : Expr} {env : Env} (h : notSet e = true) : ∀ x, foldedSetIterable e env x = pure x := by
  intro x
  cases e <;> first | rfl | (cases h)
/-- no star among the arguments -/
def nStars : List Expr → Bool
  | [] => true
  | e :: es => nStar e && nStars es
theorem stars_any {pos : Pos} {env : Env} : ∀ {es : List Expr}, nStars es = true → (backTo pos (starEach es env)).any (·.1) = false
  | [], _ => rfl
  | e :: es, h => by
    unfold nStars at h
    simp only [Bool.and_eq_true] at h
    rw [star_cons h.1]
    show (false || (backTo pos (starEach es env)).any (·.1)) = false
    rw [stars_any h.2]; rfl
theorem stars_all {pos : Pos} {env : Env} : ∀ {es : List Expr}, nStars es = true → (backTo pos (starEach es env)).all (fun x => !x.1) = true
  | [], _ => rfl
  | e :: es, h => by
    unfold nStars at h
    simp only [Bool.and_eq_true] at h
    rw [star_cons h.1]
    show (true && (backTo pos (starEach es env)).all (fun x => !x.1)) = true
    rw [stars_all h.2]; rfl
theorem asgs_len {env : Env} : ∀ {es : List Expr}, nStars es = true → (assignEach es env).length = es.length ∧ (assignEach es env).findIdx? (·.1) = none
  | [], _ => ⟨rfl, rfl⟩
  | e :: es, h => by
    unfold nStars at h
    simp only [Bool.and_eq_true] at h
    obtain ⟨h1, h2⟩ := asgs_len (env := env) h.2
    rw [asg_cons h.1]
    refine ⟨by simp [h1], ?_⟩
    rw [List.findIdx?_cons, h2]
    rfl
theorem few_ok {pos : Pos} {env : Env} {es : List Expr} (h : nStars es = true) (hl : es.length < 29) : methodCallForm (es.length + ([] : List Keyword).length) (backTo pos (starEach es env)) (backToKw pos (keywordEach [] env)) = true := by
  unfold methodCallForm
  rw [stars_all h]
  have e : backToKw pos (keywordEach [] env) = [] := rfl
  rw [e]
  simp
  omega
theorem blkB_ok {tc : TC} {scope : Scope} {own : List (Str × Nat)} (h : blkB tc scope own = true) : BlkOk tc.N tc.sc scope own := by
  unfold blkB at h
  simp only [Bool.and_eq_true, List.all_eq_true, decide_eq_true_eq] at h
  obtain ⟨⟨h1, h2⟩, h3⟩ := h
  refine ⟨h1, fun y hy => (h2 y hy).1, fun p hp => h3 p hp, fun y hy e => ?_, fun y hy e => ?_⟩
  · have q := (h2 y hy).2
    rw [e] at q
    simp only at q
    split at q
    · rename_i e2; exact .inl e2
    · rename_i e2; exact .inr e2
    · cases q
  · have q := (h2 y hy).2
    have fin : (own.any (fun p => decide (p.1 = y.1)) || tc.N.all (fun z => decide (z ≠ y.1))) = true → y.1 ∈ own.map (·.1) ∨ y.1 ∉ tc.N := fun q => by
      simp only [Bool.or_eq_true, List.any_eq_true, List.all_eq_true, decide_eq_true_eq] at q
      rcases q with ⟨p, hp, e⟩ | q
      · exact .inl (List.mem_map.mpr ⟨p, hp, e⟩)
      · exact .inr fun hm => q y.1 hm rfl
    rcases e with e | e <;> (rw [e] at q; exact fin q)
theorem GoodE.blk {X : Cx} {H0 : Hp} {Φ : Nat → DSp} {k : Nat} {W : WE} {tc : TC} (g : GoodE X H0 Φ k W tc) (scope : Scope) (s : Shared) (H : Hp) (C : Addr) (cl : List (Str × Addr)) (fp : List Addr) : GoodE (blk0 X scope s H C cl fp) H0 Φ k WE0 (tc.blk scope) where
  sc := by
    show relS scope X.env.scope = relS scope tc.sc
    rw [g.sc]
  N := g.N
  nd := g.nd
  calm := g.calm
  fn := fun x h => h
  units := g.units
  room := g.room
  ex := ⟨_, passes_blk, BackW.no⟩
  fns := g.fns
  fa := g.fa
  glob := g.glob

theorem isTT_ok {c : Ex} (h : isTT c = true) : c = .bl true := by
  unfold isTT at h
  split at h
  · rw [h]
  · cases h
/-! ### the proof -/
def tst (f : DSt → GH → KD → Prop) : DSt → GH → (Bool → GH → Prop) → Prop := fun σ G Q => f σ G fun v G1 => boolQ v fun b => Q b G1
structure Snd (X : Cx) (H0 : Hp) (e : Expr) (f : DSt → GH → KD → Prop) : Prop where
  de : DE X H0 e f
  dt : okT e = true → DT X H0 e (tst f)
  dw : isBO e = true → DW X H0 e (tst f)
theorem Snd.of {X : Cx} {H0 : Hp} {e : Expr} {f : DSt → GH → KD → Prop} (h : DE X H0 e f) (he : ∀ whole, isTrue e X.env whole = (do let v ← whole; standAt e.pos; holding [v] (truthy v))) (hb : isBO e = false) : Snd X H0 e f :=
  ⟨h, fun _ => dt_of he h, fun q => by rw [hb] at q; cases q⟩
theorem room_le {j k : Nat} {A : Around} (r : Room k A) (h : j ≤ k) : Room j A := r.mono h
section
variable {Φ : Nat → DSp} {H0 : Hp} {k : Nat}
theorem chkA_stars : ∀ (c : Exs) (tc : TC) (l : List Expr), chkA c tc l = true → nStars l = true
  | .nil, tc, l, h => by
    unfold chkA at h
    split at h
    · rfl
    · cases h
  | .cons e es, tc, l, h => by
    unfold chkA at h
    split at h
    · simp only [Bool.and_eq_true] at h
      unfold nStars
      rw [h.1, chkA_stars es tc _ h.2.2]; rfl
    · cases h
theorem chkGs_stars : ∀ (c : Tgs) (tc : TC) (L : List Nat) (l : List Expr), chkGs c tc L l = true → nStars l = true
  | .nil, tc, L, l, h => by
    unfold chkGs at h
    split at h
    · rfl
    · cases h
  | .cons e es, tc, L, l, h => by
    unfold chkGs at h
    split at h
    · simp only [Bool.and_eq_true] at h
      unfold nStars
      rw [h.1, chkGs_stars es tc L _ h.2.2]; rfl
    · cases h
theorem chkGs_len : ∀ (c : Tgs) (tc : TC) (L : List Nat) (l : List Expr), chkGs c tc L l = true → tgLen c = l.length
  | .nil, tc, L, l, h => by
    unfold chkGs at h
    split at h
    · rfl
    · cases h
  | .cons e es, tc, L, l, h => by
    unfold chkGs at h
    split at h
    · simp only [Bool.and_eq_true] at h
      unfold tgLen
      rw [chkGs_len es tc L _ h.2.2]; rfl
    · cases h
theorem chkTys_ok {X : Cx} {W : WE} {tc : TC} (g : GoodE X H0 Φ k W tc) : ∀ {ts : List Ty} {es : List Expr}, chkTys tc ts es = true → TyNames X ts es
  | [], [], _ => .nil
  | t :: ts, e :: es, h => by
    unfold chkTys at h
    split at h
    · rename_i heq _; cases heq
    · rename_i e1 e2
      cases e1; cases e2
      simp only [Bool.and_eq_true, decide_eq_true_eq] at h
      exact .cons h.1 (g.gl h.2.1) (g.mgN h.2.2.1) (chkTys_ok g h.2.2.2)
    · cases h
  | [], _ :: _, h => by simp [chkTys] at h
  | _ :: _, [], h => by simp [chkTys] at h
mutual
theorem sE : ∀ (c : Ex) (tc : TC) (X : Cx) (W : WE) (e : Expr), GoodE X H0 Φ k W tc → chkE c tc e = true → Snd X H0 e (fun σ G Q => ev Φ c W σ G Q)
  | .var i, tc, X, W, e, g, h => by
    unfold chkE at h
    split at h
    · simp only [Bool.and_eq_true] at h
      exact .of (de_var (g.ix h.1) (g.vis h.2.1) (okN_d h.2.2).1 (okN_d h.2.2).2) (fun _ => rfl) rfl
    · cases h
  | .non, tc, X, W, e, g, h => by
    unfold chkE at h
    split at h
    · exact .of (de_const pe_non fun _ => .non) (fun _ => rfl) rfl
    · cases h
  | .bl b, tc, X, W, e, g, h => by
    unfold chkE at h
    split at h
    · have h := beq_iff_eq.mp h
      subst h
      exact .of (de_const pe_bl fun _ => .bl) (fun _ => rfl) rfl
    · cases h
  | .int b, tc, X, W, e, g, h => by
    unfold chkE at h
    split at h
    · have h := of_decide_eq_true h
      subst h
      exact .of (de_const pe_int fun _ => .int) (fun _ => rfl) rfl
    · cases h
  | .str b, tc, X, W, e, g, h => by
    unfold chkE at h
    split at h
    · have h := of_decide_eq_true h
      subst h
      exact .of (de_const pe_str fun _ => .str) (fun _ => rfl) rfl
    · cases h
  | .gi x i, tc, X, W, e, g, h => by
    unfold chkE at h
    split at h
    · simp only [Bool.and_eq_true, decide_eq_true_eq] at h
      obtain ⟨rfl, h2, h3, h4⟩ := h
      obtain ⟨t, e⟩ := g.mgI h3
      exact .of (de_glob (v := .int i) (g.gl h2) ⟨_, e, t, rfl⟩ (fun _ => .int) (okN_d h4).1) (fun _ => rfl) rfl
    · cases h
  | .gs x z, tc, X, W, e, g, h => by
    unfold chkE at h
    split at h
    · simp only [Bool.and_eq_true, decide_eq_true_eq] at h
      obtain ⟨rfl, h2, h3, h4⟩ := h
      obtain ⟨t, e⟩ := g.mgS h3
      exact .of (de_glob (v := .str z) (g.gl h2) ⟨_, e, t, rfl⟩ (fun _ => .str) (okN_d h4).1) (fun _ => rfl) rfl
    · cases h
  | .bin op a b, tc, X, W, e, g, h => by
    unfold chkE at h
    split at h
    · simp only [Bool.and_eq_true, decide_eq_true_eq] at h
      obtain ⟨rfl, h2, h3⟩ := h
      exact .of (de_op (dop op) (sE a tc X W _ g h2).de (sE b tc X W _ g h3).de) (fun _ => rfl) rfl
    · cases h
  | .neg a, tc, X, W, e, g, h => by
    unfold chkE at h
    split at h
    · exact .of (de_neg (sE a tc X W _ g h).de) (fun _ => rfl) rfl
    · cases h
  | .nt a, tc, X, W, e, g, h => by
    unfold chkE at h
    split at h
    · simp only [Bool.and_eq_true] at h
      have s := sE a tc X W _ g h.2
      refine ⟨de_not s.de, fun _ => (dt_not (s.dt h.1)).weak fun σ G Q q => ?_, fun q => by cases q⟩
      have q : ev Φ a W σ G fun x G1 => boolQ x fun b => boolQ (.bl (!b)) fun b' => Q b' G1 := q
      exact q
    · cases h
  | .an a b, tc, X, W, e, g, h => by
    unfold chkE at h
    split at h
    · simp only [Bool.and_eq_true] at h
      have s1 := sE a tc X W _ g h.2.2.1
      have s2 := sE b tc X W _ g h.2.2.2
      exact ⟨de_and s1.de (de_one s2.de), fun _ => (dw_and (s1.dt h.1) (dw_one (s2.dt h.2.1))).dt, fun _ => dw_and (s1.dt h.1) (dw_one (s2.dt h.2.1))⟩
    · simp only [Bool.and_eq_true] at h
      have s1 := sE a tc X W _ g h.2.1
      have s2 := sE b tc X W _ g h.2.2
      exact ⟨de_and s1.de s2.de, fun _ => (dw_and (s1.dt h.1) (s2.dw rfl)).dt, fun _ => dw_and (s1.dt h.1) (s2.dw rfl)⟩
    · cases h
  | .or a b, tc, X, W, e, g, h => by
    unfold chkE at h
    split at h
    · simp only [Bool.and_eq_true] at h
      have s1 := sE a tc X W _ g h.2.2.1
      have s2 := sE b tc X W _ g h.2.2.2
      exact ⟨de_or s1.de (de_one s2.de), fun _ => (dw_or (s1.dt h.1) (dw_one (s2.dt h.2.1))).dt, fun _ => dw_or (s1.dt h.1) (dw_one (s2.dt h.2.1))⟩
    · simp only [Bool.and_eq_true] at h
      have s1 := sE a tc X W _ g h.2.1
      have s2 := sE b tc X W _ g h.2.2
      exact ⟨de_or s1.de s2.de, fun _ => (dw_or (s1.dt h.1) (s2.dw rfl)).dt, fun _ => dw_or (s1.dt h.1) (s2.dw rfl)⟩
    · cases h
  | .ite c a b, tc, X, W, e, g, h => by
    unfold chkE at h
    split at h
    · simp only [Bool.and_eq_true] at h
      exact ⟨de_ite ((sE c tc X W _ g h.2.1).dt h.1) (sE a tc X W _ g h.2.2.1).de (sE b tc X W _ g h.2.2.2).de, fun q => (nomatch (show false = true from q)), fun q => (nomatch (show false = true from q))⟩
    · cases h
  | .cmp op a b, tc, X, W, e, g, h => by
    unfold chkE at h
    split at h
    · simp only [Bool.and_eq_true, decide_eq_true_eq, Bool.not_eq_true'] at h
      obtain ⟨rfl, h1, h2, h3⟩ := h
      exact ⟨de_cmp (dcp g.units op) h1 (sE a tc X W _ g h2).de (sE b tc X W _ g h3).de, fun _ => dt_cmp (dcp g.units op) h1 (sE a tc X W _ g h2).de (sE b tc X W _ g h3).de, fun q => by cases q⟩
    · cases h
  | .chain op op' a b c, tc, X, W, e, g, h => by
    unfold chkE at h
    split at h
    · simp only [Bool.and_eq_true, decide_eq_true_eq, Bool.not_eq_true'] at h
      obtain ⟨rfl, rfl, h1, h2, h3, h4⟩ := h
      refine ⟨de_chain (dcp g.units op) (dcp g.units op') h1 (sE a tc X W _ g h2).de (sE b tc X W _ g h3).de (sE c tc X W _ g h4).de, fun _ => (dt_chain (dcp g.units op) (dcp g.units op') h1 (sE a tc X W _ g h2).de (sE b tc X W _ g h3).de (sE c tc X W _ g h4).de).weak fun σ G Q q => ?_, fun q => by cases q⟩
      have q : ev Φ a W σ G fun x G1 => ev Φ b W σ G1 fun y G2 => cmpQ op x y G2 fun k => if k = true then ev Φ c W σ G2 fun z G3 => cmpQ op' y z G3 fun k' => boolQ (.bl k') fun b => Q b G3 else boolQ (.bl false) fun b => Q b G2 := q
      exact q
    · cases h
  | .isin a ts, tc, X, W, e, g, h => by
    unfold chkE at h
    split at h
    · simp only [Bool.and_eq_true, decide_eq_true_eq] at h
      obtain ⟨rfl, h1, h2, h3, h4, h5, h6, h7⟩ := h
      exact .of (de_isin h3 (g.gl h1) (g.mgN h2) (g.gl h4) (g.mgN h5) (sE a tc X W _ g h7).de (star_cons h6)) (fun _ => rfl) rfl
    · simp only [Bool.and_eq_true, decide_eq_true_eq] at h
      obtain ⟨rfl, h1, h2, h3, h4, h5, h6⟩ := h
      exact .of (de_isinT (chkTys_ok g h4) h3 (g.gl h1) (g.mgN h2) (sE a tc X W _ g h6).de (star_cons h5)) (fun _ => rfl) rfl
    · cases h
  | .sub a i, tc, X, W, e, g, h => by
    unfold chkE at h
    split at h
    · simp only [Bool.and_eq_true] at h
      exact .of (de_sub (sub_ok h.1) (sE a tc X W _ g h.2.1).de (sE i tc X W _ g h.2.2).de) (fun _ => rfl) rfl
    · cases h
  | .sl a lo hi, tc, X, W, e, g, h => by
    unfold chkE at h
    split at h
    · simp only [Bool.and_eq_true] at h
      exact .of (de_sl (sE a tc X W _ g h.1).de (sO lo tc X W _ g h.2.1) (sO hi tc X W _ g h.2.2)) (fun _ => rfl) rfl
    · cases h
  | .fld C a f, tc, X, W, e, g, h => by
    unfold chkE at h
    split at h
    · simp only [Bool.and_eq_true, decide_eq_true_eq] at h
      obtain ⟨rfl, h1, h2, h3, h4⟩ := h
      exact .of (de_fld (He.cls_ok (g.has h2)) (He.noat_ok (g.has h3)) h1 (sE a tc X W _ g h4).de) (fun _ => rfl) rfl
    · cases h
  | .tup es, tc, X, W, e, g, h => by
    unfold chkE at h
    split at h
    · simp only [Bool.and_eq_true, decide_eq_true_eq] at h
      exact .of (de_tup h.1 (sA es tc X W _ g h.2)) (fun _ => rfl) rfl
    · cases h
  | .lst es, tc, X, W, e, g, h => by
    unfold chkE at h
    split at h
    · simp only [Bool.and_eq_true, decide_eq_true_eq] at h
      exact .of (de_lst h.1 (sA es tc X W _ g h.2)) (fun _ => rfl) rfl
    · cases h
  | .dnewK, tc, X, W, e, g, h => by unfold chkE at h; cases h
  | .dnewT, tc, X, W, e, g, h => by unfold chkE at h; cases h
  | .call f es, tc, X, W, e, g, h => by
    unfold chkE at h
    split at h
    · rename_i x p l pos
      simp only [Bool.and_eq_true, decide_eq_true_eq] at h
      obtain ⟨h1, h2, h3, h4, h5, h6, h7, h8⟩ := h
      obtain ⟨E0, hx, hW⟩ := g.ex
      obtain ⟨fd, ps, F, B, hl⟩ := g.fns f h2
      rw [h1] at F
      have st := chkA_stars es tc l h8
      have sa := sA es tc X W l g h8
      refine .of ?_ (fun _ => rfl) rfl
      cases l with
      | nil => 
        refine (de_call0 F B (by rw [hl, ← h7]; rfl) (g.room.mono (Nat.le_succ k)) (g.gl h3) (g.mg h4) (He.keep_ok (g.has h5)) hx hW (okN_d h6).1).weak fun σ G Q q => ?_
        cases es with
        | nil => exact q
        | cons e es => unfold chkA at h8; cases h8
      | cons a l =>
        unfold nStars at st
        simp only [Bool.and_eq_true] at st
        exact de_call F B (by rw [hl, ← h7]) (g.room.mono (Nat.le_succ k)) (g.gl h3) (g.mg h4) (He.keep_ok (g.has h5)) hx hW (okN_d h6).1 sa (star_cons st.1) (stars_any st.2)
    · cases h
  | .mk C f es, tc, X, W, e, g, h => by
    unfold chkE at h
    split at h
    · rename_i x p l pos
      simp only [Bool.and_eq_true, decide_eq_true_eq, Bool.not_eq_true'] at h
      obtain ⟨rfl, h1, h2, h3, h4, h5, h6, h7, h8, h9⟩ := h
      obtain ⟨E0, hx, hW⟩ := g.ex
      obtain ⟨fd, ps, F, B, hl⟩ := g.fns f h2
      rw [h1] at F
      have st := chkA_stars es tc l h9
      have sa := sA es tc X W l g h9
      refine .of ?_ (fun _ => rfl) rfl
      cases l with
      | nil => cases h7
      | cons a l =>
        unfold nStars at st
        simp only [Bool.and_eq_true] at st
        exact de_mk (He.mkr_ok (g.has h5)) F B (by rw [hl, ← h8]) g.room (g.gl h3) (g.mg h4) hx hW (okN_d h6).1 sa (star_cons st.1) (stars_any st.2)
    · cases h
  | .meth C m f a es, tc, X, W, e, g, h => by
    unfold chkE at h
    split at h
    · rename_i o gg apos l pos
      simp only [Bool.and_eq_true, decide_eq_true_eq] at h
      obtain ⟨rfl, h1, h2, h3, h4, h5, h6, h7, h8, h9, h10⟩ := h
      obtain ⟨E0, hx, hW⟩ := g.ex
      obtain ⟨fd, ps, F, B, hl⟩ := g.fns f h2
      rw [h1] at F
      have st := chkA_stars es tc l h10
      have sa := sA es tc X W l g h10
      have so := sE a tc X W o g h9
      have few := few_ok (pos := pos) (env := X.env) st h7
      refine .of ?_ (fun _ => rfl) rfl
      cases l with
      | nil =>
        refine (de_meth0 (He.cls_ok (g.has h3)) (He.meth_ok (g.has h4)) F B (by rw [hl, ← h8]; rfl) (g.room.mono (Nat.le_succ k)) hx hW so.de h5 few h6).weak fun σ G Q q => ?_
        cases es with
        | nil => exact q
        | cons e es => unfold chkA at h10; cases h10
      | cons a l =>
        unfold nStars at st
        simp only [Bool.and_eq_true] at st
        exact de_meth (He.cls_ok (g.has h3)) (He.meth_ok (g.has h4)) F B (by rw [hl, ← h8]) (g.room.mono (Nat.le_succ k)) hx hW so.de sa (star_cons st.1) (stars_any st.2) h5 few h6
    · cases h
  | .bi f es, tc, X, W, e, g, h => by
    unfold chkE at h
    split at h
    · rename_i x p l pos
      simp only [Bool.and_eq_true, decide_eq_true_eq, Bool.not_eq_true'] at h
      obtain ⟨h1, h2, h3, h4, h5, h6⟩ := h
      have st := chkA_stars es tc l h6
      have sa := sA es tc X W l g h6
      refine .of ?_ (fun _ => rfl) rfl
      cases l with
      | nil => cases h5
      | cons a l =>
        unfold nStars at st
        simp only [Bool.and_eq_true] at st
        exact de_bi h1 h2 g.calm (g.gl h3) (g.mgN h4) sa (star_cons st.1) (stars_any st.2)
    · cases h
  | .bm m a es, tc, X, W, e, g, h => by
    unfold chkE at h
    split at h
    · rename_i o gg apos l pos
      simp only [Bool.and_eq_true, decide_eq_true_eq] at h
      obtain ⟨h1, h2, h3, h4, h5, h6, h7⟩ := h
      have st := chkA_stars es tc l h7
      have sa := sA es tc X W l g h7
      have so := sE a tc X W o g h6
      have few := few_ok (pos := pos) (env := X.env) st h5
      refine .of ?_ (fun _ => rfl) rfl
      cases l with
      | nil =>
        refine (de_bm0 h1 h2 so.de (base_ok h3) h4).weak fun σ G Q q => ?_
        cases es with
        | nil => exact q
        | cons e es => unfold chkA at h7; cases h7
      | cons a l =>
        unfold nStars at st
        simp only [Bool.and_eq_true] at st
        exact de_bm h1 h2 so.de sa (base_ok h3) few h4 (star_cons st.1) (stars_any st.2)
    · cases h
  | .comp own it tg c e', tc, X, W, e, g, h => by
    unfold chkE at h
    split at h
    · rename_i elt t iter ifs scope pos
      simp only [Bool.and_eq_true] at h
      obtain ⟨h1, h2, h3, h4, h5, h6⟩ := h
      have ok := blkB_ok h1
      rw [← g.N, ← g.sc] at ok
      refine .of ?_ (fun _ => rfl) rfl
      refine de_comp g.calm g.nd ok (sI it tc X W t iter g h3) (fun s H C cl fp => sG tg _ _ WE0 _ t (g.blk scope s H C cl fp) h4) (fun s H C cl fp => ?_) (fun s H C cl fp => (sE e' _ _ WE0 elt (g.blk scope s H C cl fp) h6).de) (fold_ok h2)
      split at h5
      · have e := isTT_ok h5
        rw [e]
        exact dts_nil
      · simp only [Bool.and_eq_true] at h5
        exact dts_one ((sE c _ _ WE0 _ (g.blk scope s H C cl fp) h5.2).dt h5.1)
      · cases h5
    · cases h
  | .never, tc, X, W, e, g, h => ⟨fun σ H σd G Qd R S s st q k => q.elim, fun _ σ H σd G Qd R S s st q k => (show False from q).elim, fun _ σ H σd G Qd R S s st q k => (show False from q).elim⟩
theorem sA : ∀ (c : Exs) (tc : TC) (X : Cx) (W : WE) (l : List Expr), GoodE X H0 Φ k W tc → chkA c tc l = true → DA X H0 l (fun σ G Q => evs Φ c W σ G Q)
  | .nil, tc, X, W, l, g, h => by
    unfold chkA at h
    split at h
    · exact da_nil
    · cases h
  | .cons e es, tc, X, W, l, g, h => by
    unfold chkA at h
    split at h
    · simp only [Bool.and_eq_true] at h
      exact da_cons (star_cons h.1) (sE e tc X W _ g h.2.1).de (sA es tc X W _ g h.2.2)
    · cases h
theorem sO : ∀ (c : Ox) (tc : TC) (X : Cx) (W : WE) (l : Option Expr), GoodE X H0 Φ k W tc → chkO c tc l = true → DO X H0 l (fun σ G Q => evO Φ c W σ G Q)
  | .no, tc, X, W, l, g, h => by
    unfold chkO at h
    split at h
    · exact do_no
    · cases h
  | .yes e, tc, X, W, l, g, h => by
    unfold chkO at h
    split at h
    · exact do_yes (sE e tc X W _ g h).de
    · cases h
theorem sI : ∀ (c : Ir) (tc : TC) (X : Cx) (W : WE) (tg it : Expr), GoodE X H0 Φ k W tc → chkI c tc tg it = true → DI X H0 tg it (fun σ G Q => evI Φ c W σ G Q)
  | .seq e, tc, X, W, tg, it, g, h => by
    unfold chkI at h
    exact di_seq (sE e tc X W _ g h).de
  | .range1 a, tc, X, W, tg, it, g, h => by
    unfold chkI at h
    split at h
    · simp only [Bool.and_eq_true, decide_eq_true_eq] at h
      obtain ⟨rfl, h1, h2, h3, h4⟩ := h
      exact di_range1 (g.gl h1) (g.mgN h2) (by rw [star_cons h3]; rfl) (da_cons (star_cons h3) (sE a tc X W _ g h4).de da_nil)
    · cases h
  | .range2 a b, tc, X, W, tg, it, g, h => by
    unfold chkI at h
    split at h
    · simp only [Bool.and_eq_true, decide_eq_true_eq] at h
      obtain ⟨rfl, h1, h2, h3, h4, h5, h6⟩ := h
      exact di_range2 (g.gl h1) (g.mgN h2) (by rw [star_cons h3, star_cons h4]; rfl) (by rw [star_cons h4]; rfl) (da_cons (star_cons h3) (sE a tc X W _ g h5).de (da_cons (star_cons h4) (sE b tc X W _ g h6).de da_nil))
    · cases h
  | .enum e, tc, X, W, tg, it, g, h => by
    unfold chkI at h
    split at h
    · simp only [Bool.and_eq_true, decide_eq_true_eq] at h
      obtain ⟨rfl, h1, h2, h3, h4⟩ := h
      exact di_enum (g.gl h1) (g.mgN h2) (by rw [star_cons h3]; rfl) (sE e tc X W _ g h4).de
    · cases h
  | .zip a b, tc, X, W, tg, it, g, h => by
    unfold chkI at h
    split at h
    · simp only [Bool.and_eq_true, decide_eq_true_eq] at h
      obtain ⟨rfl, h1, h2, h3, h4, h5, h6⟩ := h
      exact di_zip (g.gl h1) (g.mgN h2) (by rw [star_cons h3, star_cons h4]; rfl) (by rw [star_cons h4]; rfl) (sE a tc X W _ g h5).de (sE b tc X W _ g h6).de
    · cases h
theorem sG : ∀ (c : Tg) (tc : TC) (X : Cx) (W : WE) (L : List Nat) (e : Expr), GoodE X H0 Φ k W tc → chkG c tc L e = true → DG X H0 e L (fun d σ G Q => evT Φ c d W σ G Q)
  | .nm i, tc, X, W, L, e, g, h => by
    unfold chkG at h
    split at h
    · simp only [Bool.and_eq_true] at h
      obtain ⟨h1, h2, h3⟩ := h
      exact dg_name g.nd (g.ix h1) (g.loc h2).1 (g.loc h2).2 (by simpa using h3)
    · cases h
  | .tp ts, tc, X, W, L, e, g, h => by
    unfold chkG at h
    split at h
    · have st := chkGs_stars ts tc L _ h
      exact dg_tup g.calm (asgs_len st).1 (asgs_len st).2 (chkGs_len ts tc L _ h) (sGs ts tc X W L _ g h)
    · cases h
  | .sb a i, tc, X, W, L, e, g, h => by
    unfold chkG at h
    split at h
    · simp only [Bool.and_eq_true] at h
      exact dg_sub dset_list (sE a tc X W _ g h.2.1).de (sE i tc X W _ g h.2.2).de (set_ok h.1)
    · cases h
  | .at C a f, tc, X, W, L, e, g, h => by unfold chkG at h; cases h
theorem sGs : ∀ (c : Tgs) (tc : TC) (X : Cx) (W : WE) (L : List Nat) (l : List Expr), GoodE X H0 Φ k W tc → chkGs c tc L l = true → DGs X H0 l L (fun ds σ G Q => evTs Φ c ds W σ G Q)
  | .nil, tc, X, W, L, l, g, h => by
    unfold chkGs at h
    split at h
    · exact dgs_nil
    · cases h
  | .cons t ts, tc, X, W, L, l, g, h => by
    unfold chkGs at h
    split at h
    · simp only [Bool.and_eq_true] at h
      exact dgs_cons (by rw [asg_cons h.1]; rfl) (sG t tc X W L _ g h.2.1) (sGs ts tc X W L _ g h.2.2)
    · cases h
end
end
end Ink
set_option Elab.async false
set_option linter.all false
set_option maxRecDepth 100000
set_option maxHeartbeats 8000000
/-! Ink, part L: statements: the check and its soundness; defs. -/
namespace Ink
open PySem PySem.Spec PyProof.Rows L2

def notComp : Expr → Bool | .ListComp .. => false | .SetComp .. => false | .DictComp .. => false | _ => true
def notName : Expr → Bool | .Name .. => false | _ => true
/-- the stores are exchanged: name = [..] -/
def swB (tc : TC) (y : Str) (py vp : Pos) (scope : Scope) : Bool := tc.lcl y && (py.line == vp.line && !(scope.names.any fun (n, k) => n == y && (k == .local || k == .cell)))
def locNames (sc : Scope) (line : Nat) (ts : List Expr) : List Str := ts.filterMap fun
    | .Name id pos => if sc.names.lookup id == some .local && pos.line == line then some id else none
    | _ => none
def starIn (vs : List Expr) : Bool := vs.any fun | .Starred .. => true | _ => false
/-- the stores of a tuple are not exchanged -/
def swN (sc : Scope) : Expr → Expr → Bool
  | .Tuple ts _ _, .Tuple vs _ _ => !(ts.length == 2 || ts.length == 3) || (vs.length != ts.length || (starIn vs || ((locNames sc ((ts.head?.map (·.pos.line)).getD 0) ts).length != ts.length ||
      ((locNames sc ((ts.head?.map (·.pos.line)).getD 0) ts).eraseDups.length != (locNames sc ((ts.head?.map (·.pos.line)).getD 0) ts).length || vs.all (foldedForSure 8)))))
  | .List _ _, _ => false
  | _, _ => true
/-- .. are -/
def swY (sc : Scope) (ts vs : List Expr) (names : List Str) : Bool :=
  (ts.length == 2 || ts.length == 3) && (vs.length == ts.length && (!(starIn vs) && (decide (locNames sc ((ts.head?.map (·.pos.line)).getD 0) ts = names) && (names.length == ts.length && (names.eraseDups.length == names.length && (!(vs.all (foldedForSure 8)) && !(vs.all (constantsAlone 8))))))))
def allIx (tc : TC) : List Nat := List.range tc.N.length
mutual
def chkS : Sm → TC → Stmt → Bool
  | .expr e, tc, s => match s with | .Expr x _ => notComp x && chkE e tc x | _ => false
  | .asg t e, tc, s => match s with
    | .Assign [tg] v _ => (match t, tg with
      | .at C a f, .Attribute o g _ => decide (g = f) && (tc.has (.cls C) && (tc.has (.noat C f) && (chkE a tc o && chkE e tc v)))
      | .nm i, .Name x px => decide (tc.N[i]? = some x) && (tc.loc x && (chkE e tc v && (match v with
          | .ListComp _ _ _ _ => true
          | _ => notComp v)))
      | t, tg => notName tg && (swN tc.sc tg v && (nStar tg && (chkG t tc (allIx tc) tg && chkE e tc v))))
    | _ => false
  | .par i j a b, tc, s => match s with
    | .Assign [.Tuple [.Name x px, .Name y py] kt pt] (.Tuple [l, r] k2 pt2) _ => decide (tc.N[i]? = some x) && (decide (tc.N[j]? = some y) && (decide (i ≠ j) && (tc.lcl x && (tc.lcl y && (nStar l && (nStar r && (chkE a tc l && (chkE b tc r && swY tc.sc [.Name x px, .Name y py] [l, r] [x, y]))))))))
    | _ => false
  | .aug i op e, tc, s => match s with
    | .AugAssign (.Name x _) o v _ => decide (tc.N[i]? = some x) && (tc.loc x && ((match op, o with | .add, .Add => true | .sub, .Sub => true | _, _ => false) && chkE e tc v))
    | _ => false
  | .augA C a f op e, tc, s => match s with
    | .AugAssign (.Attribute ob g _) o v _ => decide (g = f) && (tc.has (.cls C) && (tc.has (.noat C f) && ((match op, o with | .add, .Add => true | .sub, .Sub => true | _, _ => false) && (chkE a tc ob && chkE e tc v))))
    | _ => false
  | .ite c a b, tc, s => match s with | .If t x y _ => okT t && (chkE c tc t && (chkSs a tc x && chkSs b tc y)) | _ => false
  | .for t it b, tc, s => match s with | .For tg iter body [] _ => notSet iter && (chkI it tc tg iter && (chkG t tc (allIx tc) tg && chkSs b tc body)) | _ => false
  | .while c b, tc, s => match s with | .While t body [] _ => okT t && (chkE c tc t && chkSs b tc body) | _ => false
  | .ret e, tc, s => match s with | .Return (some x) _ => chkE e tc x | _ => false
  | .retN, _, s => match s with | .Return none _ => true | _ => false
  | .raise C, tc, s => match s with | .Raise (some (.Call (.Name x _) [] [] _)) none _ => decide (x = C) && (tc.gl x && (tc.has (.glo x) && (tc.has (.exc x) && okN x))) | _ => false
  | .pass, _, s => match s with | .Pass _ => true | _ => false
  | .brk, _, s => match s with | .Break _ => true | _ => false
  | .cont, _, s => match s with | .Continue _ => true | _ => false
  | .never, _, _ => true
def chkSs : Sms → TC → List Stmt → Bool
  | .nil, _, l => match l with | [] => true | _ => false
  | .cons s ss, tc, l => match l with | x :: r => chkS s tc x && chkSs ss tc r | [] => false
end
structure GoodS (X : Cx) (H0 : Hp) (Φ : Nat → DSp) (k : Nat) (W : WE) (tc : TC) : Prop extends GoodE X H0 Φ k W tc where
  own : PassesOwn (model X.prog X.w) X.A X.env X.xe
  kind : X.env.scope.kind = .function
  tk : ∃ E0, Takes X (fun cls d _ H => E0 cls d H) ∧ BackW X.K H0 W E0
section
variable {X : Cx} {H0 : Hp} {Φ : Nat → DSp} {k : Nat} {W : WE} {tc : TC}
theorem swaps_not {v : Expr} {t : Option Expr} {l : Nat} {env : Env} (h : notComp v = true) : swapsWith v t l env = pure false := by
  cases v <;> first | rfl | (cases h)
theorem swaps_nn {v t : Expr} {l : Nat} {env : Env} (h : notName t = true) : swapsWith v (some t) l env = pure false := by
  cases v <;> first | rfl | (cases t <;> first | rfl | (cases h))
theorem swaps_sole {v t : Expr} {l : Nat} {env : Env} (h : notName t = true) : swapsWithSole [t] v l env = pure false := (show swapsWithSole [t] v l env = swapsWith v (some t) l env from rfl).trans (swaps_nn h)
theorem blockKind_fn {env : Env} (h : env.scope.kind = .function) : env.blockKind = .function := by
  unfold Env.blockKind
  rw [h]; rfl
theorem beq_decide (a b : Option NameKind) : (a == b) = decide (a = b) := by
  cases h : decide (a = b) with
  | true => rw [of_decide_eq_true h]; simp
  | false => exact beq_eq_false_iff_ne.mpr (of_decide_eq_false h)
theorem swaps_lc {elt : Expr} {gens : List Comprehension} {scope : Scope} {vp py : Pos} {y : Str} {l : Nat} {env : Env} (hk : env.scope.kind = .function) (hs : env.scope = tc.sc) :
    swapsWith (.ListComp elt gens scope vp) (some (.Name y py)) l env = pure (swB tc y py vp scope) := by
  have e : swapsWith (.ListComp elt gens scope vp) (some (.Name y py)) l env = pure (env.blockKind == .function && env.kindOf y == some .local && py.line == vp.line && !(scope.names.any fun (n, k) => n == y && (k == .local || k == .cell))) := rfl
  rw [e, blockKind_fn hk]
  have e2 : (env.kindOf y == some .local) = tc.lcl y := by
    show (env.scope.names.lookup y == some .local) = _
    rw [hs]
    unfold TC.lcl
    exact beq_decide _ _
  rw [e2]
  unfold swB
  simp [Bool.and_assoc]
theorem sw_eq {ts vs : List Expr} {k1 k2 : Nat} {p1 p2 : Pos} {env : Env} : swappedStores [.Tuple ts k1 p1] (.Tuple vs k2 p2) env =
    (if (!(ts.length == 2 || ts.length == 3) || vs.length != ts.length || env.blockKind != .function) = true then pure none
     else if starIn vs = true then pure none
     else if ((locNames env.scope ((ts.head?.map (·.pos.line)).getD 0) ts).length != ts.length || (locNames env.scope ((ts.head?.map (·.pos.line)).getD 0) ts).eraseDups.length != (locNames env.scope ((ts.head?.map (·.pos.line)).getD 0) ts).length) = true then pure none
     else if vs.all (foldedForSure 8) = true then pure none
     else if vs.all (constantsAlone 8) = true then (do
       unsupported "assign.tuple-of-constant-expressions:order-of-the-stores"
       pure (some (locNames env.scope ((ts.head?.map (·.pos.line)).getD 0) ts)))
     else pure (some (locNames env.scope ((ts.head?.map (·.pos.line)).getD 0) ts))) := by
  unfold swappedStores
  rfl
theorem sw_none {tg v : Expr} {env : Env} (hs : env.scope = tc.sc) (h : swN tc.sc tg v = true) : swappedStores [tg] v env = pure none := by
  unfold swN at h
  split at h
  · rename_i ts k1 p1 vs k2 p2
    rw [sw_eq, hs]
    simp only [Bool.or_eq_true, Bool.not_eq_true', bne_iff_ne, ne_eq] at h
    split
    · rfl
    · rename_i c1
      split
      · rfl
      · rename_i c2
        split
        · rfl
        · rename_i c3
          split
          · rfl
          · rename_i c4
            exfalso
            simp only [Bool.or_eq_true, Bool.not_eq_true', bne_iff_ne, ne_eq, not_or, Decidable.not_not] at c1 c3
            rcases h with h | h | h | h | h | h
            · exact c1.1.1 h
            · exact h c1.1.2
            · exact c2 h
            · exact h c3.1
            · exact h c3.2
            · exact c4 h
  · cases h
  · rename_i h1 h2
    unfold swappedStores
    cases tg <;> first
      | rfl
      | (cases v <;> first | rfl | exact (h2 _ _ _ _ _ _ rfl rfl).elim)
      | exact (h1 _ _ rfl).elim
theorem sw_some {ts vs : List Expr} {names : List Str} {k1 k2 : Nat} {p1 p2 : Pos} {env : Env} (hk : env.scope.kind = .function) (hs : env.scope = tc.sc) (h : swY tc.sc ts vs names = true) : swappedStores [.Tuple ts k1 p1] (.Tuple vs k2 p2) env = pure (some names) := by
  unfold swY at h
  simp only [Bool.and_eq_true, Bool.not_eq_true', decide_eq_true_eq, beq_iff_eq] at h
  obtain ⟨h1, h2, h3, h4, h5, h6, h7, h8⟩ := h
  rw [sw_eq, hs, h4]
  have bk := blockKind_fn hk
  rw [if_neg, if_neg, if_neg, if_neg, if_neg]
  · simp [h8]
  · simp [h7]
  · simp [h5, h6]
  · simp [h3]
  · rw [bk]
    have e : (ts.length == 2 || ts.length == 3) = true := h1
    rw [e]
    simp [h2]
end
section
variable {Φ : Nat → DSp} {H0 : Hp} {k : Nat}
theorem contains_ix {X : Cx} {W : WE} {tc : TC} {i : Nat} {x : Str} (h : X.N[i]? = some x) : True := trivial
mutual
theorem sS : ∀ (c : Sm) (tc : TC) (X : Cx) (W : WE) (st : Stmt), GoodS X H0 Φ k W tc → chkS c tc st = true → DS X H0 st (fun E σ G => ex Φ W c E σ G)
  | .expr e, tc, X, W, st, g, h => by
    unfold chkS at h
    split at h
    · simp only [Bool.and_eq_true] at h
      exact ds_expr (sE e tc X W _ g.toGoodE h.2).de (swaps_not h.1)
    · cases h
  | .asg t e, tc, X, W, st, g, h => by
    unfold chkS at h
    split at h
    · rename_i tg v pos
      split at h
      · rename_i C a f o gg p
        simp only [Bool.and_eq_true, decide_eq_true_eq] at h
        obtain ⟨rfl, h1, h2, h3, h4⟩ := h
        exact ds_fld (He.cls_ok (g.has h1)) (He.noat_ok (g.has h2)) (sE a tc X W _ g.toGoodE h3).de (sE e tc X W _ g.toGoodE h4).de (swaps_nn rfl)
      · rename_i i x px
        simp only [Bool.and_eq_true] at h
        obtain ⟨h1, h2, h3, h4⟩ := h
        have sv := sE e tc X W _ g.toGoodE h3
        split at h4
        · rename_i elt gens scope vp
          cases hb : swB tc x px vp scope with
          | false =>
            refine ds_set g.nd (g.ix h1) (g.loc h2).1 sv.de ?_ (g.loc h2).2
            rw [swaps_lc g.kind g.sc, hb]
          | true =>
            have hl : tc.lcl x = true := by
              unfold swB at hb
              simp only [Bool.and_eq_true] at hb
              exact hb.1
            have hsw : swapsWith (.ListComp elt gens scope vp) (some (.Name x px)) pos.line X.env = pure true := by rw [swaps_lc g.kind g.sc, hb]
            cases e with
            | comp own it tg c e' =>
              unfold chkE at h3
              split at h3
              · rename_i elt t iter ifs scope pos' e0
                cases e0
                simp only [Bool.and_eq_true] at h3
                obtain ⟨q1, q2, q3, q4, q5, q6⟩ := h3
                have ok := blkB_ok q1
                rw [← g.N, ← g.sc] at ok
                refine ds_setLc g.calm g.nd (g.ix h1) (g.lcl hl) hsw ok (sI it tc X W t iter g.toGoodE q3) (fun s H C cl fp => sG tg _ _ WE0 _ t (g.blk scope s H C cl fp) q4) (fun s H C cl fp => ?_) (fun s H C cl fp => (sE e' _ _ WE0 elt (g.blk scope s H C cl fp) q6).de) (fold_ok q2)
                split at q5
                · have q5 := isTT_ok q5
                  rw [q5]
                  exact dts_nil
                · simp only [Bool.and_eq_true] at q5
                  exact dts_one ((sE c _ _ WE0 _ (g.blk scope s H C cl fp) q5.2).dt q5.1)
                · cases q5
              · cases h3
            | never => exact fun σ H σd G Ed E S s st q k => q.elim
            | _ =>
              exfalso
              unfold chkE at h3
              first
                | (exact nomatch (show false = true from h3))
                | (split at h3 <;> first | (exact nomatch (show false = true from h3)) | skip)
              all_goals (first | (rename_i e0; cases e0) | skip)
        · exact ds_set g.nd (g.ix h1) (g.loc h2).1 sv.de (swaps_not h4) (g.loc h2).2
      · simp only [Bool.and_eq_true] at h
        obtain ⟨h1, h2, h3, h4, h5⟩ := h
        refine ds_asg (sE e tc X W _ g.toGoodE h5).de (sG t tc X W _ _ g.toGoodE h4) (swaps_nn h1) (sw_none g.sc h2) ?_
        rw [asg_cons h3]
        rfl
    · cases h
  | .par i j a b, tc, X, W, st, g, h => by
    unfold chkS at h
    split at h
    · simp only [Bool.and_eq_true] at h
      obtain ⟨h1, h2, h3, h4, h5, h6, h7, h8, h9, h10⟩ := h
      exact ds_par g.calm g.nd (g.ix h1) (g.ix h2) (of_decide_eq_true h3) (g.lcl h4) (g.lcl h5) (da_cons (star_cons h6) (sE a tc X W _ g.toGoodE h8).de (da_cons (star_cons h7) (sE b tc X W _ g.toGoodE h9).de da_nil)) (sw_some g.kind g.sc h10) (swaps_sole rfl)
    · cases h
  | .aug i op e, tc, X, W, st, g, h => by
    unfold chkS at h
    split at h
    · simp only [Bool.and_eq_true] at h
      obtain ⟨h1, h2, h3, h4⟩ := h
      split at h3
      · exact ds_aug g.nd (g.ix h1) (g.loc h2).1 (sE e tc X W _ g.toGoodE h4).de ip_add dinp_add (g.loc h2).2
      · exact ds_aug g.nd (g.ix h1) (g.loc h2).1 (sE e tc X W _ g.toGoodE h4).de ip_sub dinp_sub (g.loc h2).2
      · cases h3
    · cases h
  | .augA C a f op e, tc, X, W, st, g, h => by
    unfold chkS at h
    split at h
    · simp only [Bool.and_eq_true, decide_eq_true_eq] at h
      obtain ⟨rfl, h1, h2, h3, h4, h5⟩ := h
      split at h3
      · exact ds_fldaug (He.cls_ok (g.has h1)) (He.noat_ok (g.has h2)) in_add din_add (sE a tc X W _ g.toGoodE h4).de (sE e tc X W _ g.toGoodE h5).de
      · exact ds_fldaug (He.cls_ok (g.has h1)) (He.noat_ok (g.has h2)) in_sub din_sub (sE a tc X W _ g.toGoodE h4).de (sE e tc X W _ g.toGoodE h5).de
      · cases h3
    · cases h
  | .ite c a b, tc, X, W, st, g, h => by
    unfold chkS at h
    split at h
    · simp only [Bool.and_eq_true] at h
      refine (ds_if ((sE c tc X W _ g.toGoodE h.2.1).dt h.1) (sSs a tc X W _ g h.2.2.1) (sSs b tc X W _ g h.2.2.2)).weak fun E σ G q => ?_
      exact q
    · cases h
  | .for t it b, tc, X, W, st, g, h => by
    unfold chkS at h
    split at h
    · simp only [Bool.and_eq_true] at h
      exact ds_for g.own g.calm (sI it tc X W _ _ g.toGoodE h.2.1) (sG t tc X W _ _ g.toGoodE h.2.2.1) (sSs b tc X W _ g h.2.2.2) (fold_ok h.1)
    · cases h
  | .while c b, tc, X, W, st, g, h => by
    unfold chkS at h
    split at h
    · simp only [Bool.and_eq_true] at h
      exact ds_while g.own ((sE c tc X W _ g.toGoodE h.2.1).dt h.1) (sSs b tc X W _ g h.2.2)
    · cases h
  | .ret e, tc, X, W, st, g, h => by
    unfold chkS at h
    split at h
    · exact ds_ret (sE e tc X W _ g.toGoodE h).de
    · cases h
  | .retN, tc, X, W, st, g, h => by
    unfold chkS at h
    split at h
    · exact ds_retN
    · cases h
  | .raise C, tc, X, W, st, g, h => by
    unfold chkS at h
    split at h
    · simp only [Bool.and_eq_true, decide_eq_true_eq] at h
      obtain ⟨rfl, h1, h2, h3, h4⟩ := h
      obtain ⟨E0, tk, hW⟩ := g.tk
      exact ds_raise g.calm tk hW (g.has h3) (g.mg h2) (g.gl h1) (okN_d h4).1
    · cases h
  | .pass, tc, X, W, st, g, h => by
    unfold chkS at h
    split at h
    · exact ds_pass
    · cases h
  | .brk, tc, X, W, st, g, h => by
    unfold chkS at h
    split at h
    · exact ds_brk
    · cases h
  | .cont, tc, X, W, st, g, h => by
    unfold chkS at h
    split at h
    · exact ds_cont
    · cases h
  | .never, tc, X, W, st, g, h => ds_never
theorem sSs : ∀ (c : Sms) (tc : TC) (X : Cx) (W : WE) (l : List Stmt), GoodS X H0 Φ k W tc → chkSs c tc l = true → DSs X H0 l (fun E σ G => exs Φ W c E σ G)
  | .nil, tc, X, W, l, g, h => by
    unfold chkSs at h
    split at h
    · exact dss_nil
    · cases h
  | .cons s ss, tc, X, W, l, g, h => by
    unfold chkSs at h
    split at h
    · simp only [Bool.and_eq_true] at h
      exact (dss_cons (sS s tc X W _ g h.1) (sSs ss tc X W _ g h.2)).weak fun E σ G q => q
    · cases h
end
end
/-! ### defs -/
def scB (N ps : List Str) (sc : Scope) : Bool := decide (sc.kind = .function) && (!sc.isCoroutine && (!sc.isGenerator && (decide N.Nodup && (decide (N.take ps.length = ps) && (ps.all (fun x => decide (sc.names.lookup x = some .local) || decide (sc.names.lookup x = some .cell)) && sc.names.all (fun y => decide (y.2 ≠ .free)))))))
theorem scB_ok {N ps : List Str} {sc : Scope} (h : scB N ps sc = true) : FnScope N ps sc := by
  unfold scB at h
  simp only [Bool.and_eq_true, decide_eq_true_eq, Bool.not_eq_true', List.all_eq_true, Bool.or_eq_true] at h
  obtain ⟨h1, h2, h3, h4, h5, h6, h7⟩ := h
  exact ⟨h1, h2, h3, h4, h5, h6, h7⟩
theorem room_units {k : Nat} {A : Around} (r : Room k A) : A.units + 64 < cLine := by
  have := r.units
  omega
/-- the context's knowledge at a def's body -/
def tcOf (N : List Str) (sc : Scope) (fa : List He.Fa) (nm : FNm) (ar : Nat → Nat) (av : Nat → Bool) : TC := ⟨N, sc, fun _ => true, fa, nm, ar, av⟩
/-- what is known of the program and its defs -/
structure Prg (P : Program) (w : World) (K : PySem.W.Frag) (mg : Str → Option Value) (base : Heap) (Φ : Nat → DSp) (k : Nat) (fa : List He.Fa) (nm : FNm) (ar : Nat → Nat) (av : Nat → Bool) : Prop where
  fns : ∀ i, av i = true → ∃ fd ps, FnOk P w K mg base (CX P w) k (He.fAd K (nm i)) fd ps (lift K ps.length (Φ i)) ∧ Binds K fd ps [] ∧ ps.length = ar i
  fa : ∀ f ∈ fa, f.ok K = true
  glob : ∃ h, K.In h ∧ h.Ns mainGlobals mg
theorem slots_start {K : PySem.W.Frag} {H : Hp} {ds : List D} {vs : List V} (r : Reps K H ds vs) (N : List Str) : Slots K H (ds.map some ++ List.replicate (N.length - ds.length) none) (L2.start N vs) := by
  unfold L2.start
  rw [r.length]
  refine ⟨by simp [r.length], fun i d h => ?_⟩
  by_cases hi : i < ds.length
  · rw [List.getElem?_append_left (by simpa using hi), List.getElem?_map] at h
    cases e : ds[i]? with
    | none => rw [e] at h; cases h
    | some d' =>
      rw [e] at h
      cases h
      obtain ⟨v, e2, rv⟩ := r.get e
      refine ⟨v, ?_, rv⟩
      rw [List.getElem?_append_left (by simpa [r.length] using hi), List.getElem?_map, e2]
      rfl
  · rw [List.getElem?_append_right (by simpa using hi), List.getElem?_replicate] at h
    split at h <;> cases h
/-- THE RULE of a def -/
theorem def_ok {P : Program} {w : World} {K : PySem.W.Frag} {mg : Str → Option Value} {base : Heap} {Φ : Nat → DSp} {k : Nat} {fa : List He.Fa} {nm : FNm} {ar : Nat → Nat} {av : Nat → Bool} (p : Prg P w K mg base Φ k fa nm ar av)
    {x qual : Str} {params : Arguments} {body : List Stmt} {scope : Scope} {f : Addr} {fd : FuncData} (F : FunD K x qual params body scope [] [] f fd) (N ps : List Str) (hS : scB N ps scope = true) {b : Sms} (hc : chkSs b (tcOf N scope fa nm ar av) body = true)
    {sp : DSp} (hr : ∀ ds G W Q, ds.length = ps.length → sp ds G W Q → run Φ W N.length b ds G Q) : FnOk P w K mg base (CX P w) (k + 2) f fd ps (lift K ps.length sp) := by
  refine F.ok (scB_ok hS) (fun vs H Q E h => h.1) fun cdv A outer s H vs Q E hroom h => ?_
  obtain ⟨hl, ds, G, W, Qd, r, sg, q, bk, bw⟩ := h
  have hdl : ds.length = ps.length := by rw [← r.length]; exact hl
  have S := scB_ok hS
  refine ⟨twSs _ body, pss_tw, ?_⟩
  have g : GoodS (cxOf (CX P w) P w K mg base N qual scope f cdv A outer s H E) H Φ k W (tcOf N scope fa nm ar av) :=
    { sc := rfl, N := rfl, nd := S.nd, calm := rfl, fn := fun _ _ => rfl, units := room_units hroom, room := hroom, ex := ⟨E, passes_call (takes_of rfl rfl rfl rfl) (fun _ _ _ _ h => h), bw⟩, fns := p.fns, fa := p.fa, glob := p.glob, own := passes_of rfl, kind := S.kind, tk := ⟨E, takes_of rfl rfl rfl rfl, bw⟩ }
  refine sSs b _ _ W body g hc (L2.start N vs) H (ds.map some ++ List.replicate (N.length - ds.length) none) G _ _ (slots_start r N) sg (Stab.refl _) (hr ds G W Qd hdl q) ⟨fun σd σ G H' _ s' st' q => bk _ _ _ _ .non s' st' q, fun d v G H' r' s' st' q => bk _ _ _ _ r' s' st' q, fun _ _ _ _ _ _ _ q => q.elim, fun _ _ _ _ _ _ _ q => q.elim⟩
/-- another def may be called -/
theorem Prg.add {P : Program} {w : World} {K : PySem.W.Frag} {mg : Str → Option Value} {base : Heap} {Φ : Nat → DSp} {k : Nat} {fa : List He.Fa} {nm : FNm} {ar : Nat → Nat} {l : List Nat} (p : Prg P w K mg base Φ k fa nm ar l.contains) {j i : Nat} {fd : FuncData} {ps : List Str}
    (hj : k ≤ j) (F : FnOk P w K mg base (CX P w) j (He.fAd K (nm i)) fd ps (lift K ps.length (Φ i))) (B : Binds K fd ps []) (hl : ps.length = ar i) : Prg P w K mg base Φ j fa nm ar (i :: l).contains where
  fns := fun m hm => by
    rw [List.contains_cons, Bool.or_eq_true] at hm
    rcases hm with hm | hm
    · rw [beq_iff_eq.mp hm]
      exact ⟨fd, ps, F, B, hl⟩
    · obtain ⟨fd', ps', F', B', hl'⟩ := p.fns m hm
      exact ⟨fd', ps', F'.mono hj, B', hl'⟩
  fa := p.fa
  glob := p.glob
def upS (Φ : Nat → DSp) (i : Nat) (sp : DSp) : Nat → DSp := fun j => if j = i then sp else Φ j
def noS : DSp := fun _ _ _ _ => False
/-- the promise one call deeper -/
def below (spn : Nat → DSp) : Nat → DSp
  | 0 => noS
  | n + 1 => spn n
/-- a def that calls itself: n deep -/
theorem rec_ok {P : Program} {w : World} {K : PySem.W.Frag} {mg : Str → Option Value} {base : Heap} {Φ : Nat → DSp} {k : Nat} {fa : List He.Fa} {nm : FNm} {ar : Nat → Nat} {l : List Nat} (p : Prg P w K mg base Φ k fa nm ar l.contains)
    {x qual : Str} {params : Arguments} {body : List Stmt} {scope : Scope} {fd : FuncData} {i : Nat} (F : FunD K x qual params body scope [] [] (He.fAd K (nm i)) fd) (N ps : List Str) (B : Binds K fd ps []) (hl : ps.length = ar i) (hi : l.contains i = false) (hS : scB N ps scope = true) {b : Sms} (hc : chkSs b (tcOf N scope fa nm ar (i :: l).contains) body = true)
    {spn : Nat → DSp} (hr : ∀ n ds G W Q, ds.length = ps.length → spn n ds G W Q → run (upS Φ i (below spn n)) W N.length b ds G Q) : ∀ n, FnOk P w K mg base (CX P w) (k + 2 * (n + 1)) (He.fAd K (nm i)) fd ps (lift K ps.length (spn n)) := by
  have at_ : ∀ n, FnOk P w K mg base (CX P w) (k + 2 * n) (He.fAd K (nm i)) fd ps (lift K ps.length (below spn n)) → FnOk P w K mg base (CX P w) (k + 2 * (n + 1)) (He.fAd K (nm i)) fd ps (lift K ps.length (spn n)) := fun n Fn => by
    have p' : Prg P w K mg base (upS Φ i (below spn n)) (k + 2 * n) fa nm ar (i :: l).contains :=
      { fns := fun m hm => by
          rw [List.contains_cons, Bool.or_eq_true] at hm
          by_cases e : m = i
          · rw [e]
            refine ⟨fd, ps, ?_, B, hl⟩
            unfold upS
            rw [if_pos rfl]
            exact Fn
          · rcases hm with hm | hm
            · exact absurd (beq_iff_eq.mp hm) e
            · obtain ⟨fd', ps', F', B', hl'⟩ := p.fns m hm
              refine ⟨fd', ps', ?_, B', hl'⟩
              unfold upS
              rw [if_neg e]
              exact F'.mono (Nat.le_add_right _ _)
        fa := p.fa
        glob := p.glob }
    exact def_ok p' F N ps hS hc (hr n)
  intro n
  induction n with
  | zero => exact at_ 0 ⟨fun vs H Q E h => h.1, fun A outer s H args us vs Q E hr e0 hb r h => by
      obtain ⟨_, _, _, _, _, _, _, q, _⟩ := h
      exact q.elim⟩
  | succ n ih => exact at_ (n + 1) ih
end Ink
set_option Elab.async false
set_option linter.all false
set_option maxRecDepth 100000
set_option maxHeartbeats 4000000
/-! Ink, part M: helpers for the proofs about bodies: heaps that grow, loops by an invariant. -/
namespace Ink
open PySem PySem.Spec PyProof.Rows L2
/-- what stood stands -/
def Ext (G G' : GH) : Prop := ∀ a o, G a = some o → G' a = some o
theorem Ext.refl (G : GH) : Ext G G := fun _ _ h => h
theorem Ext.trans {G G1 G2 : GH} (a : Ext G G1) (b : Ext G1 G2) : Ext G G2 := fun c o h => b c o (a c o h)
theorem Ext.new {G : GH} {p : Addr} {o : GO} (h : G p = none) : Ext G (gup G p o) := fun a u e => by rw [gup_ne (gne_none e h)]; exact e
/-- .. but for p, which is new -/
theorem Ext.upd {G0 G : GH} {p : Addr} {o : GO} (h : G0 p = none) (e : Ext G0 G) : Ext G0 (gup G p o) := fun a u k => by
  rw [gup_ne (gne_none k h)]; exact e a u k
/-- .. but for r -/
def ExtB (r : Addr) (G G' : GH) : Prop := ∀ a o, a ≠ r → G a = some o → G' a = some o
theorem ExtB.refl (r : Addr) (G : GH) : ExtB r G G := fun _ _ _ h => h
theorem ExtB.trans {r : Addr} {G G1 G2 : GH} (a : ExtB r G G1) (b : ExtB r G1 G2) : ExtB r G G2 := fun c o n h => b c o n (a c o n h)
theorem Ext.b {r : Addr} {G G1 : GH} (a : Ext G G1) : ExtB r G G1 := fun c o _ h => a c o h
theorem ExtB.set {r : Addr} {G : GH} {o : GO} : ExtB r G (gup G r o) := fun a u n k => by rw [gup_ne n]; exact k
theorem ExtB.new {r p : Addr} {G0 G : GH} {o : GO} (h : G0 p = none) (e : ExtB r G0 G) : ExtB r G0 (gup G p o) := fun a u n k => by
  rw [gup_ne (gne_none k h)]; exact e a u n k
theorem Ext.none {G G' : GH} (e : Ext G G') {p : Addr} (h : G' p = Option.none) : G p = Option.none := by
  cases q : G p with
  | none => rfl
  | some o => rw [e p o q] at h; cases h
mutual
/-- all kinds of what a value holds are known -/
def DK (G : GH) : D → Prop
  | .tup xs => DKs G xs
  | .rol xs => DKs G xs
  | .ref a => knG (G a)
  | .str x => x.length ≤ sizeLine
  | _ => True
def DKs (G : GH) : List D → Prop
  | [] => True
  | x :: xs => DK G x ∧ DKs G xs
end
theorem knG_ext {G G' : GH} (e : Ext G G') {a : Addr} (h : knG (G a)) : knG (G' a) := by
  cases q : G a with
  | none => rw [q] at h; exact h.elim
  | some o => rw [e a o q]; rw [q] at h; exact h
mutual
theorem DK.ext {G G' : GH} (e : Ext G G') : ∀ {d : D}, DK G d → DK G' d
  | .tup xs, h => by unfold DK at *; exact DKs.ext e h
  | .rol xs, h => by unfold DK at *; exact DKs.ext e h
  | .ref a, h => by unfold DK at *; exact knG_ext e h
  | .non, _ => by unfold DK; trivial
  | .bl _, _ => by unfold DK; trivial
  | .int _, _ => by unfold DK; trivial
  | .str _, h => by unfold DK at *; exact h
theorem DKs.ext {G G' : GH} (e : Ext G G') : ∀ {ds : List D}, DKs G ds → DKs G' ds
  | [], _ => by unfold DKs; trivial
  | x :: xs, h => by unfold DKs at *; exact ⟨DK.ext e h.1, DKs.ext e h.2⟩
end
theorem DK.known {G : GH} {d : D} (h : DK G d) : known G d := by
  cases d <;> first | exact trivial | (unfold DK at h; exact h)
theorem DKs.mem {G : GH} : ∀ {ds : List D} {d : D}, DKs G ds → d ∈ ds → DK G d
  | x :: xs, d, h, m => by
    unfold DKs at h
    rcases List.mem_cons.mp m with e | m
    · rw [e]; exact h.1
    · exact DKs.mem h.2 m
theorem DKs.of {G : GH} : ∀ {ds : List D}, (∀ d ∈ ds, DK G d) → DKs G ds
  | [], _ => by unfold DKs; trivial
  | x :: xs, h => by unfold DKs; exact ⟨h x List.mem_cons_self, DKs.of fun d m => h d (List.mem_cons_of_mem _ m)⟩
theorem DK.tup_mem {G : GH} {xs : List D} {d : D} (h : DK G (.tup xs)) (m : d ∈ xs) : DK G d := by unfold DK at h; exact h.mem m

/-! ### loops by an invariant -/
theorem compL_inv {ok : GH → Prop} {p : Addr} {σ : DSt} {own : List Nat} {asg : D → DSt → GH → (DSt → GH → Prop) → Prop} {cond : DSt → GH → (Bool → GH → Prop) → Prop} {elt : DSt → GH → KD → Prop} {Q : GH → Prop} {ds0 : List D} (W : Nat → GH → Prop)
    (step : ∀ i d G, ds0[i]? = some d → W i G → ∀ K : GH → Prop, (∀ G', W (i + 1) G' → K G') → ok G ∧ asg d (dwipe σ own) G fun σ1 G1 => cond σ1 G1 fun b G2 =>
      if b = true then elt σ1 G2 fun v G3 => ∃ acc, G3 p = some (.lst acc) ∧ acc.length < sizeLine ∧ K (gup G3 p (.lst (acc ++ [v]))) else K G2)
    (fin : ∀ G, W ds0.length G → ok G ∧ Q G) : ∀ (n i : Nat) (G : GH), i + n = ds0.length → W i G → compL ok p σ own asg cond elt Q (ds0.drop i) G
  | 0, i, G, h, w => by
    have e : i = ds0.length := by omega
    subst e
    rw [List.drop_eq_nil_of_le (Nat.le_refl _)]
    exact fin G w
  | n + 1, i, G, h, w => by
    rw [List.drop_eq_getElem_cons (by omega)]
    exact step i _ G (List.getElem?_eq_getElem (by omega)) w _ fun G' w' => compL_inv W step fin n (i + 1) G' (by omega) w'
theorem compL_of {ok : GH → Prop} {p : Addr} {σ : DSt} {own : List Nat} {asg : D → DSt → GH → (DSt → GH → Prop) → Prop} {cond : DSt → GH → (Bool → GH → Prop) → Prop} {elt : DSt → GH → KD → Prop} {Q : GH → Prop} {ds : List D} {G : GH} (W : Nat → GH → Prop) (w0 : W 0 G)
    (step : ∀ i d G, ds[i]? = some d → W i G → ∀ K : GH → Prop, (∀ G', W (i + 1) G' → K G') → ok G ∧ asg d (dwipe σ own) G fun σ1 G1 => cond σ1 G1 fun b G2 =>
      if b = true then elt σ1 G2 fun v G3 => ∃ acc, G3 p = some (.lst acc) ∧ acc.length < sizeLine ∧ K (gup G3 p (.lst (acc ++ [v]))) else K G2)
    (fin : ∀ G, W ds.length G → ok G ∧ Q G) : compL ok p σ own asg cond elt Q ds G := by
  have := compL_inv W step fin ds.length 0 G (by omega) w0
  simpa using this
theorem forL_inv {ok : GH → Prop} {asg : D → DSt → GH → (DSt → GH → Prop) → Prop} {body : DEnds → DSt → GH → Prop} {E : DEnds} {ds0 : List D} (W : Nat → DSt → GH → Prop)
    (step : ∀ i d σ G, ds0[i]? = some d → W i σ G → ∀ K : DSt → GH → Prop, (∀ σ' G', W (i + 1) σ' G' → K σ' G') → ok G ∧ asg d σ G fun σ1 G1 => body { E with nx := K, ct := K, bk := E.nx } σ1 G1)
    (fin : ∀ σ G, W ds0.length σ G → ok G ∧ E.nx σ G) : ∀ (n i : Nat) (σ : DSt) (G : GH), i + n = ds0.length → W i σ G → forL ok asg body E (ds0.drop i) σ G
  | 0, i, σ, G, h, w => by
    have e : i = ds0.length := by omega
    subst e
    rw [List.drop_eq_nil_of_le (Nat.le_refl _)]
    exact fin σ G w
  | n + 1, i, σ, G, h, w => by
    rw [List.drop_eq_getElem_cons (by omega)]
    exact step i _ σ G (List.getElem?_eq_getElem (by omega)) w _ fun σ' G' w' => forL_inv W step fin n (i + 1) σ' G' (by omega) w'
theorem forL_of {ok : GH → Prop} {asg : D → DSt → GH → (DSt → GH → Prop) → Prop} {body : DEnds → DSt → GH → Prop} {E : DEnds} {ds : List D} {σ : DSt} {G : GH} (W : Nat → DSt → GH → Prop) (w0 : W 0 σ G)
    (step : ∀ i d σ G, ds[i]? = some d → W i σ G → ∀ K : DSt → GH → Prop, (∀ σ' G', W (i + 1) σ' G' → K σ' G') → ok G ∧ asg d σ G fun σ1 G1 => body { E with nx := K, ct := K, bk := E.nx } σ1 G1)
    (fin : ∀ σ G, W ds.length σ G → ok G ∧ E.nx σ G) : forL ok asg body E ds σ G := by
  have := forL_inv W step fin ds.length 0 σ G (by omega) w0
  simpa using this
/-- a comprehension whose items' values are e, nothing else is changed -/
theorem compL_map {ok : GH → Prop} {p : Addr} {σ : DSt} {own : List Nat} {asg : D → DSt → GH → (DSt → GH → Prop) → Prop} {elt : DSt → GH → KD → Prop} {Q : GH → Prop} {ds : List D} {G0 : GH} (e : D → D) (hp : G0 p = none) (hl : ds.length ≤ sizeLine) (hok : ∀ G, Ext G0 G → ok G)
    (step : ∀ (i : Nat) d G, ds[i]? = some d → Ext G0 G → ∀ K : KD, (∀ G', Ext G G' → K (e d) G') → asg d (dwipe σ own) G fun σ1 G1 => elt σ1 G1 K)
    (fin : ∀ G, Ext G0 G → G p = some (.lst (ds.map e)) → Q G) : compL ok p σ own asg (fun _ G K => K true G) elt Q ds (gup G0 p (.lst [])) := by
  refine compL_of (fun i G => Ext G0 G ∧ G p = some (.lst ((ds.take i).map e))) ⟨Ext.new hp, by simp [gup_same]⟩ ?_ ?_
  · rintro i d G hd ⟨x, y⟩ K hK
    refine ⟨hok G x, ?_⟩
    have hi : i < ds.length := (List.getElem?_eq_some_iff.mp hd).1
    have := step i d G hd x (fun v G3 => ∃ acc, G3 p = some (.lst acc) ∧ acc.length < sizeLine ∧ K (gup G3 p (.lst (acc ++ [v])))) fun G' x' => by
      refine ⟨_, x' p _ y, ?_, hK _ ⟨Ext.upd hp (x.trans x'), ?_⟩⟩
      · simp; omega
      · rw [gup_same, List.take_succ, hd]
        simp
    simpa using this
  · rintro G ⟨x, y⟩
    exact ⟨hok G x, fin G x (by simpa using y)⟩
/-- .. with a test -/
theorem compL_filter {ok : GH → Prop} {p : Addr} {σ : DSt} {own : List Nat} {asg : D → DSt → GH → (DSt → GH → Prop) → Prop} {cond : DSt → GH → (Bool → GH → Prop) → Prop} {elt : DSt → GH → KD → Prop} {Q : GH → Prop} {ds : List D} {G0 : GH} (c : D → Bool) (e : D → D) (hp : G0 p = none) (hl : ds.length ≤ sizeLine) (hok : ∀ G, Ext G0 G → ok G)
    (step : ∀ (i : Nat) d G, ds[i]? = some d → Ext G0 G → ∀ (K : KD) (N : GH → Prop), (c d = true → ∀ G', Ext G G' → K (e d) G') → (c d = false → ∀ G', Ext G G' → N G') → asg d (dwipe σ own) G fun σ1 G1 => cond σ1 G1 fun b G2 => if b = true then elt σ1 G2 K else N G2)
    (fin : ∀ G, Ext G0 G → G p = some (.lst ((ds.filter c).map e)) → Q G) : compL ok p σ own asg cond elt Q ds (gup G0 p (.lst [])) := by
  refine compL_of (fun i G => Ext G0 G ∧ G p = some (.lst (((ds.take i).filter c).map e))) ⟨Ext.new hp, by simp [gup_same]⟩ ?_ ?_
  · rintro i d G hd ⟨x, y⟩ K hK
    refine ⟨hok G x, ?_⟩
    have hi : i < ds.length := (List.getElem?_eq_some_iff.mp hd).1
    have tk : ds.take (i + 1) = ds.take i ++ [d] := by rw [List.take_succ, hd]; rfl
    refine step i d G hd x (fun v G3 => ∃ acc, G3 p = some (.lst acc) ∧ acc.length < sizeLine ∧ K (gup G3 p (.lst (acc ++ [v])))) K (fun hc G' x' => ?_) fun hc G' x' => ?_
    · refine ⟨_, x' p _ y, ?_, hK _ ⟨Ext.upd hp (x.trans x'), ?_⟩⟩
      · have := List.length_filter_le c (ds.take i)
        simp at this ⊢; omega
      · rw [gup_same, tk]
        simp [hc]
    · refine hK _ ⟨x.trans x', ?_⟩
      rw [x' p _ y, tk]
      simp [hc]
  · rintro G ⟨x, y⟩
    exact ⟨hok G x, fin G x (by simpa using y)⟩
/-! isinstance, subscripts, by the value alone -/
def isTyD : Ty → D → Bool
  | .int, .int _ => true
  | .int, .bl _ => true
  | .bool, .bl _ => true
  | .str, .str _ => true
  | .tuple, .tup _ => true
  | .list, .rol _ => true
  | _, _ => false
theorem inst_i {G : GH} {v : D} : isInst (tyD G v) [.int] = isTyD .int v := by
  cases v <;> first | rfl | (rename_i a; show isInst (tyG (G a)) _ = false; cases q : G a with | none => rfl | some o => cases o <;> rfl)
theorem inst_b {G : GH} {v : D} : isInst (tyD G v) [.bool] = isTyD .bool v := by
  cases v <;> first | rfl | (rename_i a; show isInst (tyG (G a)) _ = false; cases q : G a with | none => rfl | some o => cases o <;> rfl)
theorem inst_s {G : GH} {v : D} : isInst (tyD G v) [.str] = isTyD .str v := by
  cases v <;> first | rfl | (rename_i a; show isInst (tyG (G a)) _ = false; cases q : G a with | none => rfl | some o => cases o <;> rfl)
theorem inst_t {G : GH} {v : D} : isInst (tyD G v) [.tuple] = isTyD .tuple v := by
  cases v <;> first | rfl | (rename_i a; show isInst (tyG (G a)) _ = false; cases q : G a with | none => rfl | some o => cases o <;> rfl)
theorem atI_0 {α : Type} {a : α} {r : List α} : atI (a :: r) 0 = some a := by
  simp [atI, ixN]
theorem atI_1 {α : Type} {a b : α} {r : List α} : atI (a :: b :: r) 1 = some b := by
  have : (1 : Int) < (r.length : Int) + 1 + 1 := by omega
  simp [atI, ixN, this]
theorem atI_2 {α : Type} {a b c : α} {r : List α} : atI (a :: b :: c :: r) 2 = some c := by
  have : (2 : Int) < (r.length : Int) + 1 + 1 + 1 := by omega
  simp [atI, ixN, this]
theorem atI_3 {α : Type} {a b c d : α} {r : List α} : atI (a :: b :: c :: d :: r) 3 = some d := by
  have : (3 : Int) < (r.length : Int) + 1 + 1 + 1 + 1 := by omega
  simp [atI, ixN, this]
theorem atI_4 {α : Type} {a b c d e : α} {r : List α} : atI (a :: b :: c :: d :: e :: r) 4 = some e := by
  have : (4 : Int) < (r.length : Int) + 1 + 1 + 1 + 1 + 1 := by omega
  simp [atI, ixN, this]
theorem eqNN_nat {a b : Nat} : decide ((a : Int) = (b : Int)) = decide (a = b) := decide_eq_decide.mpr (by omega)
section
variable {G : GH} {P : Bool → Prop} {Q : KD} {R : GH → Prop} {L : List D → Prop} {I : List D → (GH → Prop) → GH → Prop} {i j : Int} {x y : Str} {b c : Bool} {xs ys : List D} {a a2 : Addr} {v : D} {lo hi : Option Int} {C f : Str}
theorem oQ0 : (boolQ (.bl b) P = P b) := rfl
theorem oQ1 : (eqQ (.int i) (.int j) G P = P (decide (i = j))) := rfl
theorem oQ2 : (eqQ (.str x) (.str y) G P = P (decide (x = y))) := rfl
theorem oQ3 : (eqQ (.bl b) (.bl c) G P = P (decide (b = c))) := rfl
theorem oQ4 : (eqQ .non .non G P = P true) := rfl
theorem oQ5 : (eqQ .non (.int i) G P = P false) := rfl
theorem oQ6 : (eqQ (.int i) .non G P = P false) := rfl
theorem oQ7 : (eqQ .non (.bl b) G P = P false) := rfl
theorem oQ8 : (eqQ (.bl b) .non G P = P false) := rfl
theorem oQ9 : (eqQ .non (.str x) G P = P false) := rfl
theorem oQ10 : (eqQ (.str x) .non G P = P false) := rfl
theorem oQ11 : (eqQ (.int i) (.str x) G P = P false) := rfl
theorem oQ12 : (eqQ (.str x) (.int i) G P = P false) := rfl
theorem oQ13 : (eqQ (.bl b) (.str x) G P = P false) := rfl
theorem oQ14 : (eqQ (.str x) (.bl b) G P = P false) := rfl
theorem oQ15 : (eqQ (.tup xs) (.tup ys) G P = eqDeep (.tup xs) (.tup ys) G P) := rfl
theorem oQ16 : (eqQ (.tup xs) (.rol ys) G P = eqDeep (.tup xs) (.rol ys) G P) := rfl
theorem oQ17 : (eqQ (.tup xs) (.ref a2) G P = eqDeep (.tup xs) (.ref a2) G P) := rfl
theorem oQ18 : (eqQ (.tup xs) .non G P = eqDeep (.tup xs) .non G P) := rfl
theorem oQ19 : (eqQ .non (.tup xs) G P = eqDeep .non (.tup xs) G P) := rfl
theorem oQ20 : (eqQ (.tup xs) (.int i) G P = eqDeep (.tup xs) (.int i) G P) := rfl
theorem oQ21 : (eqQ (.int i) (.tup xs) G P = eqDeep (.int i) (.tup xs) G P) := rfl
theorem oQ22 : (eqQ (.tup xs) (.str x) G P = eqDeep (.tup xs) (.str x) G P) := rfl
theorem oQ23 : (eqQ (.str x) (.tup xs) G P = eqDeep (.str x) (.tup xs) G P) := rfl
theorem oQ24 : (eqQ (.tup xs) (.bl b) G P = eqDeep (.tup xs) (.bl b) G P) := rfl
theorem oQ25 : (eqQ (.bl b) (.tup xs) G P = eqDeep (.bl b) (.tup xs) G P) := rfl
theorem oQ26 : (eqQ (.rol xs) (.tup ys) G P = eqDeep (.rol xs) (.tup ys) G P) := rfl
theorem oQ27 : (eqQ (.rol xs) (.rol ys) G P = eqDeep (.rol xs) (.rol ys) G P) := rfl
theorem oQ28 : (eqQ (.rol xs) (.ref a2) G P = eqDeep (.rol xs) (.ref a2) G P) := rfl
theorem oQ29 : (eqQ (.rol xs) .non G P = eqDeep (.rol xs) .non G P) := rfl
theorem oQ30 : (eqQ .non (.rol xs) G P = eqDeep .non (.rol xs) G P) := rfl
theorem oQ31 : (eqQ (.rol xs) (.int i) G P = eqDeep (.rol xs) (.int i) G P) := rfl
theorem oQ32 : (eqQ (.int i) (.rol xs) G P = eqDeep (.int i) (.rol xs) G P) := rfl
theorem oQ33 : (eqQ (.rol xs) (.str x) G P = eqDeep (.rol xs) (.str x) G P) := rfl
theorem oQ34 : (eqQ (.str x) (.rol xs) G P = eqDeep (.str x) (.rol xs) G P) := rfl
theorem oQ35 : (eqQ (.rol xs) (.bl b) G P = eqDeep (.rol xs) (.bl b) G P) := rfl
theorem oQ36 : (eqQ (.bl b) (.rol xs) G P = eqDeep (.bl b) (.rol xs) G P) := rfl
theorem oQ37 : (eqQ (.ref a) (.tup ys) G P = eqDeep (.ref a) (.tup ys) G P) := rfl
theorem oQ38 : (eqQ (.ref a) (.rol ys) G P = eqDeep (.ref a) (.rol ys) G P) := rfl
theorem oQ39 : (eqQ (.ref a) (.ref a2) G P = eqDeep (.ref a) (.ref a2) G P) := rfl
theorem oQ40 : (eqQ (.ref a) .non G P = eqDeep (.ref a) .non G P) := rfl
theorem oQ41 : (eqQ .non (.ref a) G P = eqDeep .non (.ref a) G P) := rfl
theorem oQ42 : (eqQ (.ref a) (.int i) G P = eqDeep (.ref a) (.int i) G P) := rfl
theorem oQ43 : (eqQ (.int i) (.ref a) G P = eqDeep (.int i) (.ref a) G P) := rfl
theorem oQ44 : (eqQ (.ref a) (.str x) G P = eqDeep (.ref a) (.str x) G P) := rfl
theorem oQ45 : (eqQ (.str x) (.ref a) G P = eqDeep (.str x) (.ref a) G P) := rfl
theorem oQ46 : (eqQ (.ref a) (.bl b) G P = eqDeep (.ref a) (.bl b) G P) := rfl
theorem oQ47 : (eqQ (.bl b) (.ref a) G P = eqDeep (.bl b) (.ref a) G P) := rfl
theorem oQ48 : (isQ v .non P = P (isNonD v)) := rfl
theorem oQ49 : (isNonD .non = true) := rfl
theorem oQ50 : (isNonD (.bl b) = false) := rfl
theorem oQ51 : (isNonD (.int i) = false) := rfl
theorem oQ52 : (isNonD (.str x) = false) := rfl
theorem oQ53 : (isNonD (.tup xs) = false) := rfl
theorem oQ54 : (isNonD (.rol xs) = false) := rfl
theorem oQ55 : (isNonD (.ref a) = false) := rfl
theorem oQ56 : (isQ (.bl b) (.bl c) P = P (decide (b = c))) := rfl
theorem oQ57 : (ordQ .lt (.int i) (.int j) P = P (decide (i < j))) := rfl
theorem oQ58 : (ordQ .le (.int i) (.int j) P = P (decide (i ≤ j))) := rfl
theorem oQ59 : (ordQ .gt (.int i) (.int j) P = P (decide (j < i))) := rfl
theorem oQ60 : (ordQ .ge (.int i) (.int j) P = P (decide (j ≤ i))) := rfl
theorem oQ61 : (binQ .add (.int i) (.int j) G Q = Q (.int (i + j)) G) := rfl
theorem oQ62 : (binQ .add (.str x) (.str y) G Q = (x.length + y.length ≤ sizeLine ∧ Q (.str (x ++ y)) G)) := rfl
theorem oQ63 : (binQ .add (.tup xs) (.tup ys) G Q = (xs.length + ys.length ≤ sizeLine ∧ Q (.tup (xs ++ ys)) G)) := rfl
theorem oQ64 : (binQ .sub (.int i) (.int j) G Q = Q (.int (i - j)) G) := rfl
theorem oQ65 : (binQ .mul (.int i) (.int j) G Q = (CMul i j ∧ Q (.int (i * j)) G)) := rfl
theorem oQ66 : (binQ .mul (.tup xs) (.int j) G Q = (xs ≠ [] ∧ 2 ≤ j ∧ j ≤ 1000 ∧ xs.length ≤ 1000 ∧ Q (.tup (List.replicate j.toNat xs).flatten) G)) := rfl
theorem oQ67 : (binQ .mul (.ref a) (.int i) G Q = (∃ xs, G a = some (.lst xs) ∧ -(2 ^ 63) ≤ i ∧ i < 2 ^ 63 ∧ xs.length * i.toNat ≤ sizeLine ∧ ∀ p, G p = none → Q (.ref p) (gup G p (.lst (List.replicate i.toNat xs).flatten)))) := rfl
theorem oQ68 : (binQ .fdiv (.int i) (.int j) G Q = (CDiv i j ∧ Q (.int (i / j)) G)) := rfl
theorem oQ69 : (binQ .mod (.int i) (.int j) G Q = (0 < j ∧ Q (.int (i % j)) G)) := rfl
theorem oQ70 : (binQ .pow (.int i) (.int j) G Q = (CPow i j ∧ Q (.int (i ^ j.toNat)) G)) := rfl
theorem oQ71 : (augQ .add (.int i) (.int j) G Q = Q (.int (i + j)) G) := rfl
theorem oQ72 : (augQ .sub (.int i) (.int j) G Q = Q (.int (i - j)) G) := rfl
theorem oQ73 : (subQ (.tup xs) (.int i) G Q = (∃ d, atI xs i = some d ∧ Q d G)) := rfl
theorem oQ74 : (subQ (.rol xs) (.int i) G Q = (∃ d, atI xs i = some d ∧ Q d G)) := rfl
theorem oQ75 : (subQ (.str x) (.int i) G Q = (x.length ≤ sizeLine ∧ ∃ c, atI x.cps.toList i = some c ∧ Q (.str ⟨#[c]⟩) G)) := rfl
theorem oQ76 : (subQ (.ref a) (.int i) G Q = (∃ xs d, G a = some (.lst xs) ∧ atI xs i = some d ∧ Q d G)) := rfl
theorem oQ77 : (slQ (.tup xs) lo hi G Q = Q (.tup (cutD xs lo hi)) G) := rfl
theorem oQ78 : (slQ (.ref a) lo hi G Q = (∃ xs, G a = some (.lst xs) ∧ ∀ p, G p = none → Q (.ref p) (gup G p (.lst (cutD xs lo hi))))) := rfl
theorem oQ79 : (setQ (.ref a) (.int i) v G R = (∃ xs j, G a = some (.lst xs) ∧ ixN xs.length i = some j ∧ R (gup G a (.lst (xs.set j v))))) := rfl
theorem oQ80 : (fldQ C f (.ref a) G Q = (∃ fs d, G a = some (.ins C fs) ∧ fs.lookup f = some d ∧ Q d G)) := rfl
theorem oQ81 : (setF C f (.ref a) v G R = (∃ fs, G a = some (.ins C fs) ∧ fs.length < 1000 ∧ R (gup G a (.ins C (putFs f v fs))))) := rfl
theorem oQ82 : (seqQ (.tup xs) G L = L xs) := rfl
theorem oQ83 : (seqQ (.rol xs) G L = L xs) := rfl
theorem oQ84 : (seqQ (.ref a) G L = (∃ xs, G a = some (.lst xs) ∧ L xs)) := rfl
theorem oQ85 : (biQ .len [.str x] G Q = (x.length ≤ sizeLine ∧ Q (.int x.length) G)) := rfl
theorem oQ86 : (biQ .len [.tup xs] G Q = Q (.int xs.length) G) := rfl
theorem oQ87 : (biQ .len [.rol xs] G Q = Q (.int xs.length) G) := rfl
theorem oQ88 : (biQ .len [.ref a] G Q = (∃ xs, G a = some (.lst xs) ∧ Q (.int xs.length) G)) := rfl
theorem oQ89 : (biQ .all [.ref a] G Q = (∃ bs : List Bool, G a = some (.lst (bs.map D.bl)) ∧ Q (.bl (bs.all id)) G)) := rfl
theorem oQ90 : (biQ .int [.int i] G Q = Q (.int i) G) := rfl
theorem oQ91 : (biQ .int [.bl b] G Q = Q (.int (if b then 1 else 0)) G) := rfl
theorem oQ92 : (biQ .tuple [.ref a] G Q = (∃ xs, G a = some (.lst xs) ∧ Q (.tup xs) G)) := rfl
theorem oQ93 : (biQ .tuple [.tup xs] G Q = Q (.tup xs) G) := rfl
theorem oQ94 : (biQ .list [v] G Q = seqQ v G fun xs => ∀ p, G p = none → Q (.ref p) (gup G p (.lst xs))) := rfl
theorem oQ95 : (biQ .sum [.ref a] G Q = (∃ ns : List Int, G a = some (.lst (ns.map D.int)) ∧ Q (.int ns.sum) G)) := rfl
theorem oQ96 : (biQ .max [.ref a] G Q = (∃ ns : List Int, G a = some (.lst (ns.map D.int)) ∧ 0 < ns.length ∧ ∀ m, m ∈ ns → (∀ y ∈ ns, y ≤ m) → Q (.int m) G)) := rfl
theorem oQ97 : (biQ .min [.ref a] G Q = (∃ ns : List Int, G a = some (.lst (ns.map D.int)) ∧ 0 < ns.length ∧ ∀ m, m ∈ ns → (∀ y ∈ ns, m ≤ y) → Q (.int m) G)) := rfl
theorem oQ98 : (biQ .sorted [.ref a] G Q = (∃ ns : List Int, G a = some (.lst (ns.map D.int)) ∧ ∀ (ns' : List Int) p, ns'.Perm ns → ns'.Pairwise (· ≤ ·) → G p = none → Q (.ref p) (gup G p (.lst (ns'.map D.int))))) := rfl
theorem oQ99 : (biQ .str [.int i] G Q = (i.natAbs.log2 < 1920 ∧ Q (.str (toString i)) G)) := rfl
theorem oQ100 : (biQ .str [.str x] G Q = Q (.str x) G) := rfl
theorem oQ101 : (biQ .max2 [.int i, .int j] G Q = Q (.int (if j > i then j else i)) G) := rfl
theorem oQ102 : (biQ .min2 [.int i, .int j] G Q = Q (.int (if j < i then j else i)) G) := rfl
theorem oQ103 : (bmQ .append (.ref a) [v] G Q = (∃ xs, G a = some (.lst xs) ∧ xs.length < sizeLine ∧ Q .non (gup G a (.lst (xs ++ [v]))))) := rfl
theorem oQ104 : (bmQ .extend (.ref a) [.ref a2] G Q = (∃ xs ys, G a = some (.lst xs) ∧ G a2 = some (.lst ys) ∧ xs.length + ys.length ≤ sizeLine ∧ Q .non (gup G a (.lst (xs ++ ys))))) := rfl
theorem oQ105 : (bmQ .pop (.ref a) [] G Q = (∃ xs d, G a = some (.lst xs) ∧ xs[xs.length - 1]? = some d ∧ Q d (gup G a (.lst xs.dropLast)))) := rfl
theorem oQ106 : (bmQ .join (.str x) [.tup xs] G Q = (∃ ys : List Str, xs = ys.map D.str ∧ (ys.map (·.length)).sum + ys.length * x.length ≤ 16777216 ∧ Q (.str (Txt.join x ys)) G)) := rfl
theorem oQ107 : (bmQ .join (.str x) [.ref a] G Q = (∃ ys : List Str, G a = some (.lst (ys.map D.str)) ∧ (ys.map (·.length)).sum + ys.length * x.length ≤ 16777216 ∧ Q (.str (Txt.join x ys)) G)) := rfl
theorem oQ108 : (bmT .join (.str x) G = True) := rfl
theorem oQ109 : (bmT .append (.ref a) G = (∃ xs, G a = some (.lst xs))) := rfl
theorem oQ110 : (bmT .extend (.ref a) G = (∃ xs, G a = some (.lst xs))) := rfl
theorem oQ111 : (bmT .pop (.ref a) G = (∃ xs, G a = some (.lst xs))) := rfl
theorem oQ112 : (seqI (.str x) G I = I (x.cps.toList.map fun c => .str ⟨#[c]⟩) (fun _ => True) G) := rfl
theorem oQ113 : (seqI (.tup xs) G I = I xs (fun _ => True) G) := rfl
theorem oQ114 : (seqI (.rol xs) G I = I xs (fun _ => True) G) := rfl
theorem oQ115 : (seqI (.ref a) G I = (∃ xs, G a = some (.lst xs) ∧ I xs (fun G' => G' a = some (.lst xs)) G)) := rfl
theorem oQ116 : (seqJ (.tup xs) G I = I xs (fun _ => True) G) := rfl
theorem oQ117 : (seqJ (.rol xs) G I = I xs (fun _ => True) G) := rfl
theorem oQ118 : (seqJ (.ref a) G I = (∃ xs, G a = some (.lst xs) ∧ I xs (fun G' => G' a = some (.lst xs)) G)) := rfl
theorem oQ119 : (isTyD .int .non = false) := rfl
theorem oQ120 : (isTyD .int (.bl b) = true) := rfl
theorem oQ121 : (isTyD .int (.int i) = true) := rfl
theorem oQ122 : (isTyD .int (.str x) = false) := rfl
theorem oQ123 : (isTyD .int (.tup xs) = false) := rfl
theorem oQ124 : (isTyD .int (.rol xs) = false) := rfl
theorem oQ125 : (isTyD .int (.ref a) = false) := rfl
theorem oQ126 : (isTyD .bool .non = false) := rfl
theorem oQ127 : (isTyD .bool (.bl b) = true) := rfl
theorem oQ128 : (isTyD .bool (.int i) = false) := rfl
theorem oQ129 : (isTyD .bool (.str x) = false) := rfl
theorem oQ130 : (isTyD .bool (.tup xs) = false) := rfl
theorem oQ131 : (isTyD .bool (.rol xs) = false) := rfl
theorem oQ132 : (isTyD .bool (.ref a) = false) := rfl
theorem oQ133 : (isTyD .str .non = false) := rfl
theorem oQ134 : (isTyD .str (.bl b) = false) := rfl
theorem oQ135 : (isTyD .str (.int i) = false) := rfl
theorem oQ136 : (isTyD .str (.str x) = true) := rfl
theorem oQ137 : (isTyD .str (.tup xs) = false) := rfl
theorem oQ138 : (isTyD .str (.rol xs) = false) := rfl
theorem oQ139 : (isTyD .str (.ref a) = false) := rfl
theorem oQ140 : (isTyD .tuple .non = false) := rfl
theorem oQ141 : (isTyD .tuple (.bl b) = false) := rfl
theorem oQ142 : (isTyD .tuple (.int i) = false) := rfl
theorem oQ143 : (isTyD .tuple (.str x) = false) := rfl
theorem oQ144 : (isTyD .tuple (.tup xs) = true) := rfl
theorem oQ145 : (isTyD .tuple (.rol xs) = false) := rfl
theorem oQ146 : (isTyD .tuple (.ref a) = false) := rfl
theorem oQ147 : (isTyD .list .non = false) := rfl
theorem oQ148 : (isTyD .list (.bl b) = false) := rfl
theorem oQ149 : (isTyD .list (.int i) = false) := rfl
theorem oQ150 : (isTyD .list (.str x) = false) := rfl
theorem oQ151 : (isTyD .list (.tup xs) = false) := rfl
theorem oQ152 : (isTyD .list (.rol xs) = true) := rfl
theorem oQ153 : (isTyD .list (.ref a) = false) := rfl
theorem oQ154 : (known G .non = True) := rfl
theorem oQ155 : (known G (.bl b) = True) := rfl
theorem oQ156 : (known G (.int i) = True) := rfl
theorem oQ157 : (known G (.str x) = True) := rfl
theorem oQ158 : (known G (.tup xs) = True) := rfl
theorem oQ159 : (known G (.rol xs) = True) := rfl
end
theorem ix41 : ixN (0 + 1 + 1 + 1 + 1) 1 = some 1 := by decide
theorem ix42 : ixN (0 + 1 + 1 + 1 + 1) 2 = some 2 := by decide
theorem ix43 : ixN (0 + 1 + 1 + 1 + 1) 3 = some 3 := by decide
end Ink
set_option Elab.async false
set_option linter.all false
set_option maxRecDepth 100000
namespace Ink
open PySem PySem.Spec PyProof.Rows L2
abbrev f_is_integer : Nat := 0
abbrev f_is_from : Nat := 1
abbrev f_is_sign : Nat := 2
abbrev f_is_write : Nat := 3
abbrev f_is_plan : Nat := 4
abbrev f_need_plan : Nat := 5
abbrev f_is_pace : Nat := 6
abbrev f_need_pace : Nat := 7
abbrev f_ticks_of : Nat := 8
abbrev f_ticks : Nat := 9
abbrev f_need_cell : Nat := 10
abbrev f_need_tick : Nat := 11
abbrev f_stay_of : Nat := 12
abbrev f_seen_at : Nat := 13
abbrev f_seen : Nat := 14
abbrev f_board_at : Nat := 15
abbrev f_board : Nat := 16
abbrev f_story : Nat := 17
abbrev f_law_taken : Nat := 18
abbrev f_law_pick : Nat := 19
abbrev f_law_alike : Nat := 20
abbrev f_law_plan : Nat := 21
abbrev f_law_ticks : Nat := 22
abbrev f_law_seen : Nat := 23
abbrev f_law : Nat := 154
def N_is_integer : List Str := ["value"]
def P_is_integer : List Str := ["value"]
def b_is_integer : Sms :=
  (.cons (.ret (.an (.isin (.var 0) [.int]) (.nt (.isin (.var 0) [.bool]))))
  .nil)
def N_is_from : List Str := ["value", "low", "high"]
def P_is_from : List Str := ["value", "low", "high"]
def b_is_from : Sms :=
  (.cons (.ret (.an (.call f_is_integer (.cons (.var 0) .nil)) (.chain .le .le (.var 1) (.var 0) (.var 2))))
  .nil)
def N_is_sign : List Str := ["value"]
def P_is_sign : List Str := ["value"]
def b_is_sign : Sms :=
  (.cons (.ret (.an (.isin (.var 0) [.str]) (.an (.cmp .eq (.bi .len (.cons (.var 0) .nil)) (.int 1)) (.cmp .inn (.var 0) (.gs "SIGNS" "abcdefghijklmnopqrstuvwxyz")))))
  .nil)
def N_is_write : List Str := ["cells", "stays", "value"]
def P_is_write : List Str := ["cells", "stays", "value"]
def b_is_write : Sms :=
  (.cons (.ite (.or (.nt (.isin (.var 2) [.tuple])) (.or (.cmp .ne (.bi .len (.cons (.var 2) .nil)) (.int 5)) (.or (.nt (.call f_is_from (.cons (.sub (.var 2) (.int 0)) (.cons (.int 0) (.cons (.bin .sub (.var 0) (.int 1)) .nil))))) (.nt (.call f_is_sign (.cons (.sub (.var 2) (.int 1)) .nil)))))) (.cons (.ret (.bl false)) .nil) .nil)
  (.cons (.ite (.or (.nt (.call f_is_from (.cons (.sub (.var 2) (.int 2)) (.cons (.int 0) (.cons (.bin .sub (.bi .len (.cons (.var 1) .nil)) (.int 1)) .nil))))) (.nt (.call f_is_from (.cons (.sub (.var 2) (.int 3)) (.cons (.int 0) (.cons (.gi "MOST_REST" 50) .nil)))))) (.cons (.ret (.bl false)) .nil) .nil)
  (.cons (.ret (.call f_is_from (.cons (.sub (.var 2) (.int 4)) (.cons (.sub (.var 2) (.int 3)) (.cons (.gi "MOST_REST" 50) .nil)))))
  .nil)))
def N_is_plan : List Str := ["value", "cells", "stays", "writes", "stay", "write"]
def P_is_plan : List Str := ["value"]
def b_is_plan : Sms :=
  (.cons (.ite (.or (.nt (.isin (.var 0) [.tuple])) (.or (.cmp .ne (.bi .len (.cons (.var 0) .nil)) (.int 3)) (.nt (.call f_is_from (.cons (.sub (.var 0) (.int 0)) (.cons (.int 1) (.cons (.gi "MOST_CELLS" 4) .nil))))))) (.cons (.ret (.bl false)) .nil) .nil)
  (.cons (.asg (.tp (.cons (.nm 1) (.cons (.nm 2) (.cons (.nm 3) .nil)))) (.var 0))
  (.cons (.ite (.or (.nt (.isin (.var 2) [.tuple])) (.nt (.chain .le .le (.int 1) (.bi .len (.cons (.var 2) .nil)) (.gi "MOST_INKS" 4)))) (.cons (.ret (.bl false)) .nil) .nil)
  (.cons (.ite (.nt (.bi .all (.cons (.comp [("stay", 4)] (.seq (.var 2)) (.nm 4) (.bl true) (.call f_is_from (.cons (.var 4) (.cons (.int 1) (.cons (.gi "MOST_STAY" 50) .nil))))) .nil))) (.cons (.ret (.bl false)) .nil) .nil)
  (.cons (.ite (.or (.nt (.isin (.var 3) [.tuple])) (.cmp .gt (.bi .len (.cons (.var 3) .nil)) (.gi "MOST_WRITES" 8))) (.cons (.ret (.bl false)) .nil) .nil)
  (.cons (.ret (.bi .all (.cons (.comp [("write", 5)] (.seq (.var 3)) (.nm 5) (.bl true) (.call f_is_write (.cons (.var 1) (.cons (.var 2) (.cons (.var 5) .nil))))) .nil)))
  .nil))))))
def N_need_plan : List Str := ["value"]
def P_need_plan : List Str := ["value"]
def b_need_plan : Sms :=
  (.cons (.ite (.nt (.call f_is_plan (.cons (.var 0) .nil))) (.cons (.raise "BadPlan") .nil) .nil)
  .nil)
def N_is_pace : List Str := ["plan", "value", "rest", "write"]
def P_is_pace : List Str := ["plan", "value"]
def b_is_pace : Sms :=
  (.cons (.ite (.or (.nt (.isin (.var 1) [.tuple])) (.cmp .ne (.bi .len (.cons (.var 1) .nil)) (.bi .len (.cons (.sub (.var 0) (.int 2)) .nil)))) (.cons (.ret (.bl false)) .nil) .nil)
  (.cons (.ret (.bi .all (.cons (.comp [("rest", 2), ("write", 3)] (.zip (.var 1) (.sub (.var 0) (.int 2))) (.tp (.cons (.nm 2) (.cons (.nm 3) .nil))) (.bl true) (.call f_is_from (.cons (.var 2) (.cons (.sub (.var 3) (.int 3)) (.cons (.sub (.var 3) (.int 4)) .nil))))) .nil)))
  .nil))
def N_need_pace : List Str := ["plan", "value"]
def P_need_pace : List Str := ["plan", "value"]
def b_need_pace : Sms :=
  (.cons (.ite (.nt (.call f_is_pace (.cons (.var 0) (.cons (.var 1) .nil)))) (.cons (.raise "BadPace") .nil) .nil)
  .nil)
def N_ticks_of : List Str := ["pace", "found", "now", "rest"]
def P_ticks_of : List Str := ["pace"]
def b_ticks_of : Sms :=
  (.cons (.par 1 2 (.lst .nil) (.int 0))
  (.cons (.for (.nm 3) (.seq (.var 0)) (.cons (.aug 2 .add (.var 3)) (.cons (.expr (.bm .append (.var 1) (.cons (.var 2) .nil))) .nil)))
  (.cons (.ret (.var 1))
  .nil)))
def N_ticks : List Str := ["plan", "pace"]
def P_ticks : List Str := ["plan", "pace"]
def b_ticks : Sms :=
  (.cons (.expr (.call f_need_plan (.cons (.var 0) .nil)))
  (.cons (.expr (.call f_need_pace (.cons (.var 0) (.cons (.var 1) .nil))))
  (.cons (.ret (.bi .tuple (.cons (.call f_ticks_of (.cons (.var 1) .nil)) .nil)))
  .nil)))
def N_need_cell : List Str := ["plan", "value"]
def P_need_cell : List Str := ["plan", "value"]
def b_need_cell : Sms :=
  (.cons (.ite (.nt (.call f_is_from (.cons (.var 1) (.cons (.int 0) (.cons (.bin .sub (.sub (.var 0) (.int 0)) (.int 1)) .nil))))) (.cons (.raise "NoCell") .nil) .nil)
  .nil)
def N_need_tick : List Str := ["value", "most"]
def P_need_tick : List Str := ["value", "most"]
def b_need_tick : Sms :=
  (.cons (.ite (.nt (.call f_is_from (.cons (.var 0) (.cons (.int 0) (.cons (.var 1) .nil))))) (.cons (.raise "BadTick") .nil) .nil)
  .nil)
def N_stay_of : List Str := ["plan", "write"]
def P_stay_of : List Str := ["plan", "write"]
def b_stay_of : Sms :=
  (.cons (.ret (.sub (.sub (.var 0) (.int 1)) (.sub (.var 1) (.int 2))))
  .nil)
def N_seen_at : List Str := ["plan", "told", "cell", "tick", "found", "write", "done"]
def P_seen_at : List Str := ["plan", "told", "cell", "tick"]
def b_seen_at : Sms :=
  (.cons (.asg (.nm 4) (.gs "BARE" "."))
  (.cons (.for (.tp (.cons (.nm 5) (.cons (.nm 6) .nil))) (.zip (.sub (.var 0) (.int 2)) (.var 1)) (.cons (.ite (.an (.cmp .eq (.sub (.var 5) (.int 0)) (.var 2)) (.chain .le .lt (.var 6) (.var 3) (.bin .add (.var 6) (.call f_stay_of (.cons (.var 0) (.cons (.var 5) .nil)))))) (.cons (.asg (.nm 4) (.sub (.var 5) (.int 1))) .nil) .nil) .nil))
  (.cons (.ret (.var 4))
  .nil)))
def N_seen : List Str := ["plan", "pace", "cell", "tick"]
def P_seen : List Str := ["plan", "pace", "cell", "tick"]
def b_seen : Sms :=
  (.cons (.expr (.call f_need_plan (.cons (.var 0) .nil)))
  (.cons (.expr (.call f_need_pace (.cons (.var 0) (.cons (.var 1) .nil))))
  (.cons (.expr (.call f_need_cell (.cons (.var 0) (.cons (.var 2) .nil))))
  (.cons (.expr (.call f_need_tick (.cons (.var 3) (.cons (.gi "MOST_TICK" 1000) .nil))))
  (.cons (.ret (.call f_seen_at (.cons (.var 0) (.cons (.call f_ticks_of (.cons (.var 1) .nil)) (.cons (.var 2) (.cons (.var 3) .nil))))))
  .nil)))))
def N_board_at : List Str := ["plan", "told", "tick", "cell"]
def P_board_at : List Str := ["plan", "told", "tick"]
def b_board_at : Sms :=
  (.cons (.ret (.bm .join (.str "") (.cons (.comp [("cell", 3)] (.range1 (.sub (.var 0) (.int 0))) (.nm 3) (.bl true) (.call f_seen_at (.cons (.var 0) (.cons (.var 1) (.cons (.var 3) (.cons (.var 2) .nil)))))) .nil)))
  .nil)
def N_board : List Str := ["plan", "pace", "tick"]
def P_board : List Str := ["plan", "pace", "tick"]
def b_board : Sms :=
  (.cons (.expr (.call f_need_plan (.cons (.var 0) .nil)))
  (.cons (.expr (.call f_need_pace (.cons (.var 0) (.cons (.var 1) .nil))))
  (.cons (.expr (.call f_need_tick (.cons (.var 2) (.cons (.gi "MOST_TICK" 1000) .nil))))
  (.cons (.ret (.call f_board_at (.cons (.var 0) (.cons (.call f_ticks_of (.cons (.var 1) .nil)) (.cons (.var 2) .nil)))))
  .nil))))
def N_story : List Str := ["plan", "pace", "cell", "last", "tick"]
def P_story : List Str := ["plan", "pace", "cell", "last"]
def b_story : Sms :=
  (.cons (.expr (.call f_need_plan (.cons (.var 0) .nil)))
  (.cons (.expr (.call f_need_pace (.cons (.var 0) (.cons (.var 1) .nil))))
  (.cons (.expr (.call f_need_cell (.cons (.var 0) (.cons (.var 2) .nil))))
  (.cons (.expr (.call f_need_tick (.cons (.var 3) (.cons (.gi "MOST_STORY" 200) .nil))))
  (.cons (.ret (.bm .join (.str "") (.cons (.comp [("tick", 4)] (.range1 (.bin .add (.var 3) (.int 1))) (.nm 4) (.bl true) (.call f_seen_at (.cons (.var 0) (.cons (.call f_ticks_of (.cons (.var 1) .nil)) (.cons (.var 2) (.cons (.var 4) .nil)))))) .nil)))
  .nil)))))
def N_law_taken : List Str := ["_law_row", "_law_many", "_law_found", "_law_cell"]
def P_law_taken : List Str := ["_law_row", "_law_many"]
def b_law_taken : Sms :=
  (.cons (.ite (.cmp .gt (.sub (.var 0) (.int 3)) (.int 0)) (.cons (.asg (.nm 2) (.bin .mod (.bi .int (.cons (.sub (.var 0) (.int 3)) .nil)) (.var 1))) (.cons (.asg (.sb (.var 0) (.int 3)) (.bin .fdiv (.sub (.var 0) (.int 3)) (.var 1))) (.cons (.ret (.var 2)) .nil))) .nil)
  (.cons (.asg (.sb (.var 0) (.int 1)) (.bin .add (.sub (.var 0) (.int 1)) (.int 1)))
  (.cons (.ite (.cmp .gt (.sub (.var 0) (.int 1)) (.bi .len (.cons (.sub (.var 0) (.int 0)) .nil))) (.cons (.asg (.sb (.var 0) (.int 2)) (.bin .mod (.bi .int (.cons (.bin .add (.bin .mul (.sub (.var 0) (.int 2)) (.int 48271)) (.int 11)) .nil)) (.int 2147483647))) (.cons (.ret (.bin .mod (.bi .int (.cons (.bin .fdiv (.sub (.var 0) (.int 2)) (.int 7)) .nil)) (.var 1))) .nil)) .nil)
  (.cons (.asg (.nm 3) (.sub (.sub (.var 0) (.int 0)) (.bin .sub (.sub (.var 0) (.int 1)) (.int 1))))
  (.cons (.asg (.sb (.var 0) (.int 2)) (.bin .mod (.bi .int (.cons (.bin .add (.bin .add (.bin .mul (.sub (.var 0) (.int 2)) (.int 48271)) (.var 3)) (.int 11)) .nil)) (.int 2147483647)))
  (.cons (.ite (.cmp .ge (.var 3) (.bin .pow (.int 10) (.int 18))) (.cons (.asg (.sb (.var 0) (.int 3)) (.bin .fdiv (.var 3) (.var 1))) .nil) .nil)
  (.cons (.ret (.bin .mod (.bi .int (.cons (.var 3) .nil)) (.var 1)))
  .nil)))))))
def N_law_pick : List Str := ["_law_row", "_law_things"]
def P_law_pick : List Str := ["_law_row", "_law_things"]
def b_law_pick : Sms :=
  (.cons (.ret (.sub (.var 1) (.call f_law_taken (.cons (.var 0) (.cons (.bi .len (.cons (.var 1) .nil)) .nil)))))
  .nil)
def N_law_alike : List Str := ["_law_found", "_law_due", "_law_k", "_law_key"]
def P_law_alike : List Str := ["_law_found", "_law_due"]
def b_law_alike : Sms :=
  (.cons (.ite (.isin (.var 1) [.tuple, .list]) (.cons (.ite (.or (.nt (.isin (.var 0) [.tuple, .list])) (.cmp .ne (.isin (.var 0) [.list]) (.isin (.var 1) [.list]))) (.cons (.ret (.bl false)) .nil) .nil) (.cons (.ite (.cmp .ne (.bi .len (.cons (.var 0) .nil)) (.bi .len (.cons (.var 1) .nil))) (.cons (.ret (.bl false)) .nil) .nil) (.cons (.ret (.cmp .eq (.comp [("_law_k", 2)] (.range1 (.bi .len (.cons (.var 1) .nil))) (.nm 2) (.nt (.call f_law_alike (.cons (.sub (.var 0) (.var 2)) (.cons (.sub (.var 1) (.var 2)) .nil)))) (.var 2)) (.lst .nil))) .nil))) .nil)
  (.cons (.ite (.isin (.var 1) [.dict]) (.cons (.ite (.or (.nt (.isin (.var 0) [.dict])) (.cmp .ne (.bi .sorted (.cons (.var 0) .nil)) (.bi .sorted (.cons (.var 1) .nil)))) (.cons (.ret (.bl false)) .nil) .nil) (.cons (.ret (.cmp .eq (.comp [("_law_key", 3)] (.seq (.var 1)) (.nm 3) (.nt (.call f_law_alike (.cons (.sub (.var 0) (.var 3)) (.cons (.sub (.var 1) (.var 3)) .nil)))) (.var 3)) (.lst .nil))) .nil)) .nil)
  (.cons (.ite (.or (.cmp .is (.var 1) .non) (.isin (.var 1) [.str])) (.cons (.ret (.an (.cmp .eq (.var 0) (.var 1)) (.cmp .eq (.isin (.var 0) [.str]) (.isin (.var 1) [.str])))) .nil) .nil)
  (.cons (.ret (.an (.isin (.var 0) [.int]) (.an (.cmp .eq (.isin (.var 0) [.bool]) (.isin (.var 1) [.bool])) (.cmp .eq (.var 0) (.var 1)))))
  .nil))))
def N_law_plan : List Str := ["_law_row", "_law_most", "_law_wide", "_law_cells", "_law_inks", "_law_stays", "_law_ink", "_law_writes", "_law_turn", "_law_low", "_law_sign"]
def P_law_plan : List Str := ["_law_row", "_law_most", "_law_wide"]
def b_law_plan : Sms :=
  (.cons (.par 3 4 (.bin .add (.int 1) (.call f_law_taken (.cons (.var 0) (.cons (.int 2) .nil)))) (.bin .add (.int 1) (.call f_law_taken (.cons (.var 0) (.cons (.int 3) .nil)))))
  (.cons (.asg (.nm 5) (.bi .tuple (.cons (.comp [("_law_ink", 6)] (.range1 (.var 4)) (.nm 6) (.bl true) (.bin .add (.int 1) (.call f_law_taken (.cons (.var 0) (.cons (.int 6) .nil))))) .nil)))
  (.cons (.asg (.nm 7) (.lst .nil))
  (.cons (.for (.nm 8) (.range1 (.call f_law_taken (.cons (.var 0) (.cons (.bin .add (.var 1) (.int 1)) .nil)))) (.cons (.asg (.nm 9) (.call f_law_pick (.cons (.var 0) (.cons (.lst (.cons (.int 0) (.cons (.int 0) (.cons (.int 1) (.cons (.int 2) (.cons (.int 3) .nil)))))) .nil)))) (.cons (.asg (.nm 10) (.call f_law_pick (.cons (.var 0) (.cons (.lst (.cons (.str "a") (.cons (.str "b") (.cons (.str "c") .nil)))) .nil)))) (.cons (.expr (.bm .append (.var 7) (.cons (.tup (.cons (.call f_law_taken (.cons (.var 0) (.cons (.var 3) .nil))) (.cons (.var 10) (.cons (.call f_law_taken (.cons (.var 0) (.cons (.var 4) .nil))) (.cons (.var 9) (.cons (.bin .add (.var 9) (.call f_law_taken (.cons (.var 0) (.cons (.bin .add (.var 2) (.int 1)) .nil)))) .nil)))))) .nil))) .nil))))
  (.cons (.ret (.tup (.cons (.var 3) (.cons (.var 5) (.cons (.bi .tuple (.cons (.var 7) .nil)) .nil)))))
  .nil)))))
def N_law_ticks : List Str := ["_law_rests", "_law_first", "_law_found", "_law_rest"]
def P_law_ticks : List Str := ["_law_rests", "_law_first"]
def b_law_ticks : Sms :=
  (.cons (.asg (.nm 2) (.lst .nil))
  (.cons (.for (.nm 3) (.seq (.var 0)) (.cons (.asg (.nm 1) (.bin .add (.var 1) (.var 3))) (.cons (.expr (.bm .append (.var 2) (.cons (.var 1) .nil))) .nil)))
  (.cons (.ret (.var 2))
  .nil)))
def N_law_seen : List Str := ["_law_plan_here", "_law_told", "_law_cell", "_law_tick", "_law_found", "_law_write", "_law_done"]
def P_law_seen : List Str := ["_law_plan_here", "_law_told", "_law_cell", "_law_tick"]
def b_law_seen : Sms :=
  (.cons (.asg (.nm 4) (.str "."))
  (.cons (.for (.tp (.cons (.nm 5) (.cons (.nm 6) .nil))) (.zip (.sub (.var 0) (.int 2)) (.var 1)) (.cons (.ite (.an (.cmp .eq (.sub (.var 5) (.int 0)) (.var 2)) (.an (.cmp .le (.var 6) (.var 3)) (.cmp .lt (.var 3) (.bin .add (.var 6) (.sub (.sub (.var 0) (.int 1)) (.sub (.var 5) (.int 2))))))) (.cons (.asg (.nm 4) (.sub (.var 5) (.int 1))) .nil) .nil) .nil))
  (.cons (.ret (.var 4))
  .nil)))
def N_law_k00 : List Str := ["_law_script", "_law_row", "_law_plan_here", "_law_pace", "_law_write", "_law_told", "_law_last", "_law_cell", "_law_due", "_law_tick", "_law_turn", "_law_one", "_law_cells", "_law_stays", "_law_writes", "_law_odd", "_law_value"]
def P_law_k00 : List Str := ["_law_script"]
def b_law_k00 : Sms :=
  (.cons (.asg (.nm 1) (.lst (.cons (.var 0) (.cons (.int 0) (.cons (.int 7600) (.cons (.int 0) .nil))))))
  (.cons (.asg (.nm 2) (.call f_law_plan (.cons (.var 1) (.cons (.int 8) (.cons (.int 4) .nil)))))
  (.cons (.asg (.nm 3) (.bi .tuple (.cons (.comp [("_law_write", 4)] (.seq (.sub (.var 2) (.int 2))) (.nm 4) (.bl true) (.bin .add (.sub (.var 4) (.int 3)) (.call f_law_taken (.cons (.var 1) (.cons (.bin .add (.bin .sub (.sub (.var 4) (.int 4)) (.sub (.var 4) (.int 3))) (.int 1)) .nil))))) .nil)))
  (.cons (.asg (.nm 5) (.call f_law_ticks (.cons (.var 3) (.cons (.int 0) .nil))))
  (.cons (.ite (.or (.cmp .isnot (.call f_is_plan (.cons (.var 2) .nil)) (.bl true)) (.nt (.call f_law_alike (.cons (.call f_ticks (.cons (.var 2) (.cons (.var 3) .nil))) (.cons (.bi .tuple (.cons (.var 5) .nil)) .nil))))) (.cons (.ret (.bl false)) .nil) .nil)
  (.cons (.asg (.nm 6) (.int 30))
  (.cons (.for (.nm 7) (.range1 (.sub (.var 2) (.int 0))) (.cons (.asg (.nm 8) (.bm .join (.str "") (.cons (.comp [("_law_tick", 9)] (.range1 (.bin .add (.var 6) (.int 1))) (.nm 9) (.bl true) (.call f_law_seen (.cons (.var 2) (.cons (.var 5) (.cons (.var 7) (.cons (.var 9) .nil)))))) .nil))) (.cons (.ite (.nt (.call f_law_alike (.cons (.call f_story (.cons (.var 2) (.cons (.var 3) (.cons (.var 7) (.cons (.var 6) .nil))))) (.cons (.var 8) .nil)))) (.cons (.ret (.bl false)) .nil) .nil) .nil)))
  (.cons (.for (.nm 10) (.range1 (.int 4)) (.cons (.asg (.tp (.cons (.nm 9) (.cons (.nm 7) .nil))) (.tup (.cons (.call f_law_taken (.cons (.var 1) (.cons (.int 40) .nil))) (.cons (.call f_law_taken (.cons (.var 1) (.cons (.sub (.var 2) (.int 0)) .nil))) .nil)))) (.cons (.ite (.nt (.call f_law_alike (.cons (.call f_seen (.cons (.var 2) (.cons (.var 3) (.cons (.var 7) (.cons (.var 9) .nil))))) (.cons (.call f_law_seen (.cons (.var 2) (.cons (.var 5) (.cons (.var 7) (.cons (.var 9) .nil))))) .nil)))) (.cons (.ret (.bl false)) .nil) .nil) (.cons (.ite (.nt (.call f_law_alike (.cons (.call f_board (.cons (.var 2) (.cons (.var 3) (.cons (.var 9) .nil)))) (.cons (.bm .join (.str "") (.cons (.comp [("_law_one", 11)] (.range1 (.sub (.var 2) (.int 0))) (.nm 11) (.bl true) (.call f_law_seen (.cons (.var 2) (.cons (.var 5) (.cons (.var 11) (.cons (.var 9) .nil)))))) .nil)) .nil)))) (.cons (.ret (.bl false)) .nil) .nil) .nil))))
  (.cons (.asg (.tp (.cons (.nm 12) (.cons (.nm 13) (.cons (.nm 14) .nil)))) (.var 2))
  (.cons (.asg (.nm 15) (.lst (.cons .non (.cons (.tup .nil) (.cons (.lst (.cons (.var 12) (.cons (.var 13) (.cons (.var 14) .nil)))) (.cons (.tup (.cons (.var 12) (.cons (.var 13) .nil))) (.cons (.tup (.cons (.int 0) (.cons (.var 13) (.cons (.tup .nil) .nil)))) (.cons (.tup (.cons (.int 5) (.cons (.var 13) (.cons (.tup .nil) .nil)))) (.cons (.tup (.cons (.bl true) (.cons (.var 13) (.cons (.tup .nil) .nil)))) .nil)))))))))
  (.cons (.asg (.nm 15) (.bin .add (.var 15) (.lst (.cons (.tup (.cons (.var 12) (.cons (.tup .nil) (.cons (.tup .nil) .nil)))) (.cons (.tup (.cons (.var 12) (.cons (.tup (.cons (.int 0) .nil)) (.cons (.tup .nil) .nil)))) (.cons (.tup (.cons (.var 12) (.cons (.tup (.cons (.int 51) .nil)) (.cons (.tup .nil) .nil)))) .nil))))))
  (.cons (.asg (.nm 15) (.bin .add (.var 15) (.lst (.cons (.tup (.cons (.var 12) (.cons (.bin .mul (.tup (.cons (.int 1) .nil)) (.int 5)) (.cons (.tup .nil) .nil)))) (.cons (.tup (.cons (.var 12) (.cons (.lst (.cons (.int 1) .nil)) (.cons (.tup .nil) .nil)))) (.cons (.tup (.cons (.var 12) (.cons (.var 13) (.cons (.bi .list (.cons (.var 14) .nil)) .nil)))) .nil))))))
  (.cons (.asg (.nm 15) (.bin .add (.var 15) (.lst (.cons (.tup (.cons (.var 12) (.cons (.var 13) (.cons (.tup (.cons (.tup (.cons (.var 12) (.cons (.str "a") (.cons (.int 0) (.cons (.int 0) (.cons (.int 0) .nil)))))) .nil)) .nil)))) (.cons (.tup (.cons (.var 12) (.cons (.var 13) (.cons (.tup (.cons (.tup (.cons (.int 0) (.cons (.str "A") (.cons (.int 0) (.cons (.int 0) (.cons (.int 0) .nil)))))) .nil)) .nil)))) .nil)))))
  (.cons (.asg (.nm 15) (.bin .add (.var 15) (.lst (.cons (.tup (.cons (.var 12) (.cons (.var 13) (.cons (.tup (.cons (.tup (.cons (.int 0) (.cons (.str "a") (.cons (.bi .len (.cons (.var 13) .nil)) (.cons (.int 0) (.cons (.int 0) .nil)))))) .nil)) .nil)))) (.cons (.tup (.cons (.var 12) (.cons (.var 13) (.cons (.tup (.cons (.tup (.cons (.int 0) (.cons (.str "a") (.cons (.int 0) (.cons (.int 2) (.cons (.int 1) .nil)))))) .nil)) .nil)))) (.cons (.tup (.cons (.var 12) (.cons (.var 13) (.cons (.tup (.cons (.tup (.cons (.int 0) (.cons (.str "a") (.cons (.int 0) (.cons (.int 0) (.cons (.int 51) .nil)))))) .nil)) .nil)))) (.cons (.int 3) (.cons (.str "plan") .nil))))))))
  (.cons (.asg (.nm 15) (.bin .add (.var 15) (.lst (.cons (.tup (.cons (.var 12) (.cons (.var 13) (.cons (.bin .mul (.tup (.cons (.tup (.cons (.int 0) (.cons (.str "a") (.cons (.int 0) (.cons (.int 0) (.cons (.int 0) .nil)))))) .nil)) (.int 9)) .nil)))) (.cons (.tup (.cons (.var 12) (.cons (.var 13) (.cons (.tup (.cons (.tup (.cons (.int 0) (.cons (.str "a") (.cons (.int 0) (.cons (.int 0) .nil))))) .nil)) .nil)))) .nil)))))
  (.cons (.asg (.nm 15) (.bin .add (.var 15) (.lst (.cons (.tup (.cons (.var 12) (.cons (.var 13) (.cons (.tup (.cons (.tup (.cons (.int 0) (.cons (.str "ab") (.cons (.int 0) (.cons (.int 0) (.cons (.int 0) .nil)))))) .nil)) .nil)))) (.cons (.tup (.cons (.var 12) (.cons (.var 13) (.cons (.tup (.cons (.lst (.cons (.int 0) (.cons (.str "a") (.cons (.int 0) (.cons (.int 0) (.cons (.int 0) .nil)))))) .nil)) .nil)))) .nil)))))
  (.cons (.ret (.cmp .eq (.comp [("_law_value", 16)] (.seq (.var 15)) (.nm 16) (.cmp .isnot (.call f_is_plan (.cons (.var 16) .nil)) (.bl false)) (.var 16)) (.lst .nil)))
  .nil)))))))))))))))))
end Ink
set_option Elab.async false
set_option linter.all false
set_option maxRecDepth 100000
set_option maxHeartbeats 4000000
/-! Ink, part Q: plans: what the functions answer. -/
namespace Ink
open PySem PySem.Spec PyProof.Rows L2
def isIntD : D → Bool | .int _ => true | _ => false
def isFromD (v : D) (lo hi : Int) : Bool := match v with | .int i => decide (lo ≤ i) && decide (i ≤ hi) | _ => false
def signs : Str := "abcdefghijklmnopqrstuvwxyz"
def inSigns (x : Str) : Bool := !(Builtin.Str.occurrences signs x 0 signs.length 1).isEmpty
def isSignD : D → Bool | .str x => decide (x.length = 1) && inSigns x | _ => false
def isWriteD (cells n : Int) : D → Bool
  | .tup [a, b, c, d, e] => isFromD a 0 (cells - 1) && (isSignD b && (isFromD c 0 (n - 1) && (isFromD d 0 50 && (match d with | .int lo => isFromD e lo 50 | _ => false))))
  | _ => false
def isPlanD : D → Bool
  | .tup [c, s, w] => isFromD c 1 4 && (match c, s, w with
    | .int c, .tup ss, .tup ws => decide (1 ≤ ss.length) && (decide (ss.length ≤ 4) && (ss.all (fun s => isFromD s 1 50) && (decide (ws.length ≤ 8) && ws.all (isWriteD c ss.length))))
    | _, _, _ => false)
  | _ => false
def sp_is_integer : DSp := fun ds G W Q => ∃ v, ds = [v] ∧ known G v ∧ Q (.bl (isIntD v)) G
def sp_is_from : DSp := fun ds G W Q => ∃ v lo hi, ds = [v, .int lo, .int hi] ∧ known G v ∧ Q (.bl (isFromD v lo hi)) G
def sp_is_sign : DSp := fun ds G W Q => ∃ v, ds = [v] ∧ DK G v ∧ Q (.bl (isSignD v)) G
def sp_is_write : DSp := fun ds G W Q => ∃ cells ss v, ds = [.int cells, .tup ss, v] ∧ DK G v ∧ Q (.bl (isWriteD cells ss.length v)) G
def sp_is_plan : DSp := fun ds G W Q => ∃ v, ds = [v] ∧ DK G v ∧ ∀ G', Ext G G' → Q (.bl (isPlanD v)) G'
def sp_need_plan : DSp := fun ds G W Q => ∃ v, ds = [v] ∧ DK G v ∧ ∀ G', Ext G G' → if isPlanD v = true then Q .non G' else W ⟨"BadPlan", []⟩ G'
section
variable {Φ : Nat → DSp} {W : WE} {ds : List D} {G : GH} {Q : KD}
theorem run_is_integer (h : sp_is_integer ds G W Q) : run Φ W N_is_integer.length b_is_integer ds G Q := by
  obtain ⟨v, rfl, kn, q⟩ := h
  simp only [run, N_is_integer, b_is_integer, exs, ex, ev, evs, evO, evI, evT, evTs, cmpQ, List.getElem?_cons_zero, List.getElem?_cons_succ, List.set_cons_zero, List.set_cons_succ, Option.some.injEq, exists_eq_left', exists_eq_left, exists_eq_right, exists_eq, exists_eq', dwipe, exists_eq_right', D.int.injEq, D.str.injEq, D.bl.injEq, D.tup.injEq, D.ref.injEq, D.rol.injEq, GO.lst.injEq, GO.ins.injEq, GO.dK.injEq, GO.dT.injEq, List.cons.injEq, tgLen, List.length_cons, List.length_nil, List.length_map, List.map_cons, List.map_nil, List.replicate_succ, List.replicate_zero, List.nil_append, List.cons_append, true_and, and_true, if_true, Bool.not_true, Bool.not_false, Bool.false_eq_true, if_false, gup_same, reduceCtorEq, false_and, and_false, exists_false, exists_const, inst_i, inst_b, inst_s, inst_t, atI_0, atI_1, atI_2, atI_3, atI_4, eqNN_nat, ix41, ix42, ix43, gup_gup, and_assoc, exists_and_left, oQ0, oQ1, oQ2, oQ3, oQ4, oQ5, oQ6, oQ7, oQ8, oQ9, oQ10, oQ11, oQ12, oQ13, oQ14, oQ15, oQ16, oQ17, oQ18, oQ19, oQ20, oQ21, oQ22, oQ23, oQ24, oQ25, oQ26, oQ27, oQ28, oQ29, oQ30, oQ31, oQ32, oQ33, oQ34, oQ35, oQ36, oQ37, oQ38, oQ39, oQ40, oQ41, oQ42, oQ43, oQ44, oQ45, oQ46, oQ47, oQ48, oQ49, oQ50, oQ51, oQ52, oQ53, oQ54, oQ55, oQ56, oQ57, oQ58, oQ59, oQ60, oQ61, oQ62, oQ63, oQ64, oQ65, oQ66, oQ67, oQ68, oQ69, oQ70, oQ71, oQ72, oQ73, oQ74, oQ75, oQ76, oQ77, oQ78, oQ79, oQ80, oQ81, oQ82, oQ83, oQ84, oQ85, oQ86, oQ87, oQ88, oQ89, oQ90, oQ91, oQ92, oQ93, oQ94, oQ95, oQ96, oQ97, oQ98, oQ99, oQ100, oQ101, oQ102, oQ103, oQ104, oQ105, oQ106, oQ107, oQ108, oQ109, oQ110, oQ111, oQ112, oQ113, oQ114, oQ115, oQ116, oQ117, oQ118, oQ119, oQ120, oQ121, oQ122, oQ123, oQ124, oQ125, oQ126, oQ127, oQ128, oQ129, oQ130, oQ131, oQ132, oQ133, oQ134, oQ135, oQ136, oQ137, oQ138, oQ139, oQ140, oQ141, oQ142, oQ143, oQ144, oQ145, oQ146, oQ147, oQ148, oQ149, oQ150, oQ151, oQ152, oQ153, oQ154, oQ155, oQ156, oQ157, oQ158, oQ159]
  refine ⟨kn, ?_⟩
  cases v <;> simp only [isIntD, exs, ex, ev, evs, evO, evI, evT, evTs, cmpQ, List.getElem?_cons_zero, List.getElem?_cons_succ, List.set_cons_zero, List.set_cons_succ, Option.some.injEq, exists_eq_left', exists_eq_left, exists_eq_right, exists_eq, exists_eq', dwipe, exists_eq_right', D.int.injEq, D.str.injEq, D.bl.injEq, D.tup.injEq, D.ref.injEq, D.rol.injEq, GO.lst.injEq, GO.ins.injEq, GO.dK.injEq, GO.dT.injEq, List.cons.injEq, tgLen, List.length_cons, List.length_nil, List.length_map, List.map_cons, List.map_nil, List.replicate_succ, List.replicate_zero, List.nil_append, List.cons_append, true_and, and_true, if_true, Bool.not_true, Bool.not_false, Bool.false_eq_true, if_false, gup_same, reduceCtorEq, false_and, and_false, exists_false, exists_const, inst_i, inst_b, inst_s, inst_t, atI_0, atI_1, atI_2, atI_3, atI_4, eqNN_nat, ix41, ix42, ix43, gup_gup, and_assoc, exists_and_left, oQ0, oQ1, oQ2, oQ3, oQ4, oQ5, oQ6, oQ7, oQ8, oQ9, oQ10, oQ11, oQ12, oQ13, oQ14, oQ15, oQ16, oQ17, oQ18, oQ19, oQ20, oQ21, oQ22, oQ23, oQ24, oQ25, oQ26, oQ27, oQ28, oQ29, oQ30, oQ31, oQ32, oQ33, oQ34, oQ35, oQ36, oQ37, oQ38, oQ39, oQ40, oQ41, oQ42, oQ43, oQ44, oQ45, oQ46, oQ47, oQ48, oQ49, oQ50, oQ51, oQ52, oQ53, oQ54, oQ55, oQ56, oQ57, oQ58, oQ59, oQ60, oQ61, oQ62, oQ63, oQ64, oQ65, oQ66, oQ67, oQ68, oQ69, oQ70, oQ71, oQ72, oQ73, oQ74, oQ75, oQ76, oQ77, oQ78, oQ79, oQ80, oQ81, oQ82, oQ83, oQ84, oQ85, oQ86, oQ87, oQ88, oQ89, oQ90, oQ91, oQ92, oQ93, oQ94, oQ95, oQ96, oQ97, oQ98, oQ99, oQ100, oQ101, oQ102, oQ103, oQ104, oQ105, oQ106, oQ107, oQ108, oQ109, oQ110, oQ111, oQ112, oQ113, oQ114, oQ115, oQ116, oQ117, oQ118, oQ119, oQ120, oQ121, oQ122, oQ123, oQ124, oQ125, oQ126, oQ127, oQ128, oQ129, oQ130, oQ131, oQ132, oQ133, oQ134, oQ135, oQ136, oQ137, oQ138, oQ139, oQ140, oQ141, oQ142, oQ143, oQ144, oQ145, oQ146, oQ147, oQ148, oQ149, oQ150, oQ151, oQ152, oQ153, oQ154, oQ155, oQ156, oQ157, oQ158, oQ159] at q ⊢ <;> first | exact q | exact ⟨kn, q⟩ | exact ⟨trivial, q⟩
theorem run_is_from (h1 : Φ f_is_integer = sp_is_integer) (h : sp_is_from ds G W Q) : run Φ W N_is_from.length b_is_from ds G Q := by
  obtain ⟨v, lo, hi, rfl, kn, q⟩ := h
  simp only [run, N_is_from, b_is_from, exs, ex, ev, evs, evO, evI, evT, evTs, cmpQ, List.getElem?_cons_zero, List.getElem?_cons_succ, List.set_cons_zero, List.set_cons_succ, Option.some.injEq, exists_eq_left', exists_eq_left, exists_eq_right, exists_eq, exists_eq', dwipe, exists_eq_right', D.int.injEq, D.str.injEq, D.bl.injEq, D.tup.injEq, D.ref.injEq, D.rol.injEq, GO.lst.injEq, GO.ins.injEq, GO.dK.injEq, GO.dT.injEq, List.cons.injEq, tgLen, List.length_cons, List.length_nil, List.length_map, List.map_cons, List.map_nil, List.replicate_succ, List.replicate_zero, List.nil_append, List.cons_append, true_and, and_true, if_true, Bool.not_true, Bool.not_false, Bool.false_eq_true, if_false, gup_same, reduceCtorEq, false_and, and_false, exists_false, exists_const, inst_i, inst_b, inst_s, inst_t, atI_0, atI_1, atI_2, atI_3, atI_4, eqNN_nat, ix41, ix42, ix43, gup_gup, and_assoc, exists_and_left, oQ0, oQ1, oQ2, oQ3, oQ4, oQ5, oQ6, oQ7, oQ8, oQ9, oQ10, oQ11, oQ12, oQ13, oQ14, oQ15, oQ16, oQ17, oQ18, oQ19, oQ20, oQ21, oQ22, oQ23, oQ24, oQ25, oQ26, oQ27, oQ28, oQ29, oQ30, oQ31, oQ32, oQ33, oQ34, oQ35, oQ36, oQ37, oQ38, oQ39, oQ40, oQ41, oQ42, oQ43, oQ44, oQ45, oQ46, oQ47, oQ48, oQ49, oQ50, oQ51, oQ52, oQ53, oQ54, oQ55, oQ56, oQ57, oQ58, oQ59, oQ60, oQ61, oQ62, oQ63, oQ64, oQ65, oQ66, oQ67, oQ68, oQ69, oQ70, oQ71, oQ72, oQ73, oQ74, oQ75, oQ76, oQ77, oQ78, oQ79, oQ80, oQ81, oQ82, oQ83, oQ84, oQ85, oQ86, oQ87, oQ88, oQ89, oQ90, oQ91, oQ92, oQ93, oQ94, oQ95, oQ96, oQ97, oQ98, oQ99, oQ100, oQ101, oQ102, oQ103, oQ104, oQ105, oQ106, oQ107, oQ108, oQ109, oQ110, oQ111, oQ112, oQ113, oQ114, oQ115, oQ116, oQ117, oQ118, oQ119, oQ120, oQ121, oQ122, oQ123, oQ124, oQ125, oQ126, oQ127, oQ128, oQ129, oQ130, oQ131, oQ132, oQ133, oQ134, oQ135, oQ136, oQ137, oQ138, oQ139, oQ140, oQ141, oQ142, oQ143, oQ144, oQ145, oQ146, oQ147, oQ148, oQ149, oQ150, oQ151, oQ152, oQ153, oQ154, oQ155, oQ156, oQ157, oQ158, oQ159, h1]
  refine ⟨v, rfl, kn, ?_⟩
  cases v <;> simp only [isIntD, isFromD, exs, ex, ev, evs, evO, evI, evT, evTs, cmpQ, List.getElem?_cons_zero, List.getElem?_cons_succ, List.set_cons_zero, List.set_cons_succ, Option.some.injEq, exists_eq_left', exists_eq_left, exists_eq_right, exists_eq, exists_eq', dwipe, exists_eq_right', D.int.injEq, D.str.injEq, D.bl.injEq, D.tup.injEq, D.ref.injEq, D.rol.injEq, GO.lst.injEq, GO.ins.injEq, GO.dK.injEq, GO.dT.injEq, List.cons.injEq, tgLen, List.length_cons, List.length_nil, List.length_map, List.map_cons, List.map_nil, List.replicate_succ, List.replicate_zero, List.nil_append, List.cons_append, true_and, and_true, if_true, Bool.not_true, Bool.not_false, Bool.false_eq_true, if_false, gup_same, reduceCtorEq, false_and, and_false, exists_false, exists_const, inst_i, inst_b, inst_s, inst_t, atI_0, atI_1, atI_2, atI_3, atI_4, eqNN_nat, ix41, ix42, ix43, gup_gup, and_assoc, exists_and_left, oQ0, oQ1, oQ2, oQ3, oQ4, oQ5, oQ6, oQ7, oQ8, oQ9, oQ10, oQ11, oQ12, oQ13, oQ14, oQ15, oQ16, oQ17, oQ18, oQ19, oQ20, oQ21, oQ22, oQ23, oQ24, oQ25, oQ26, oQ27, oQ28, oQ29, oQ30, oQ31, oQ32, oQ33, oQ34, oQ35, oQ36, oQ37, oQ38, oQ39, oQ40, oQ41, oQ42, oQ43, oQ44, oQ45, oQ46, oQ47, oQ48, oQ49, oQ50, oQ51, oQ52, oQ53, oQ54, oQ55, oQ56, oQ57, oQ58, oQ59, oQ60, oQ61, oQ62, oQ63, oQ64, oQ65, oQ66, oQ67, oQ68, oQ69, oQ70, oQ71, oQ72, oQ73, oQ74, oQ75, oQ76, oQ77, oQ78, oQ79, oQ80, oQ81, oQ82, oQ83, oQ84, oQ85, oQ86, oQ87, oQ88, oQ89, oQ90, oQ91, oQ92, oQ93, oQ94, oQ95, oQ96, oQ97, oQ98, oQ99, oQ100, oQ101, oQ102, oQ103, oQ104, oQ105, oQ106, oQ107, oQ108, oQ109, oQ110, oQ111, oQ112, oQ113, oQ114, oQ115, oQ116, oQ117, oQ118, oQ119, oQ120, oQ121, oQ122, oQ123, oQ124, oQ125, oQ126, oQ127, oQ128, oQ129, oQ130, oQ131, oQ132, oQ133, oQ134, oQ135, oQ136, oQ137, oQ138, oQ139, oQ140, oQ141, oQ142, oQ143, oQ144, oQ145, oQ146, oQ147, oQ148, oQ149, oQ150, oQ151, oQ152, oQ153, oQ154, oQ155, oQ156, oQ157, oQ158, oQ159] at q ⊢ <;> try exact q
  rename_i i
  cases e : decide (lo ≤ i) with
  | true => rw [e] at q; simpa using q
  | false => rw [e] at q; simpa using q
theorem run_is_sign (h : sp_is_sign ds G W Q) : run Φ W N_is_sign.length b_is_sign ds G Q := by
  obtain ⟨v, rfl, kn, q⟩ := h
  simp only [run, N_is_sign, b_is_sign, exs, ex, ev, evs, evO, evI, evT, evTs, cmpQ, List.getElem?_cons_zero, List.getElem?_cons_succ, List.set_cons_zero, List.set_cons_succ, Option.some.injEq, exists_eq_left', exists_eq_left, exists_eq_right, exists_eq, exists_eq', dwipe, exists_eq_right', D.int.injEq, D.str.injEq, D.bl.injEq, D.tup.injEq, D.ref.injEq, D.rol.injEq, GO.lst.injEq, GO.ins.injEq, GO.dK.injEq, GO.dT.injEq, List.cons.injEq, tgLen, List.length_cons, List.length_nil, List.length_map, List.map_cons, List.map_nil, List.replicate_succ, List.replicate_zero, List.nil_append, List.cons_append, true_and, and_true, if_true, Bool.not_true, Bool.not_false, Bool.false_eq_true, if_false, gup_same, reduceCtorEq, false_and, and_false, exists_false, exists_const, inst_i, inst_b, inst_s, inst_t, atI_0, atI_1, atI_2, atI_3, atI_4, eqNN_nat, ix41, ix42, ix43, gup_gup, and_assoc, exists_and_left, oQ0, oQ1, oQ2, oQ3, oQ4, oQ5, oQ6, oQ7, oQ8, oQ9, oQ10, oQ11, oQ12, oQ13, oQ14, oQ15, oQ16, oQ17, oQ18, oQ19, oQ20, oQ21, oQ22, oQ23, oQ24, oQ25, oQ26, oQ27, oQ28, oQ29, oQ30, oQ31, oQ32, oQ33, oQ34, oQ35, oQ36, oQ37, oQ38, oQ39, oQ40, oQ41, oQ42, oQ43, oQ44, oQ45, oQ46, oQ47, oQ48, oQ49, oQ50, oQ51, oQ52, oQ53, oQ54, oQ55, oQ56, oQ57, oQ58, oQ59, oQ60, oQ61, oQ62, oQ63, oQ64, oQ65, oQ66, oQ67, oQ68, oQ69, oQ70, oQ71, oQ72, oQ73, oQ74, oQ75, oQ76, oQ77, oQ78, oQ79, oQ80, oQ81, oQ82, oQ83, oQ84, oQ85, oQ86, oQ87, oQ88, oQ89, oQ90, oQ91, oQ92, oQ93, oQ94, oQ95, oQ96, oQ97, oQ98, oQ99, oQ100, oQ101, oQ102, oQ103, oQ104, oQ105, oQ106, oQ107, oQ108, oQ109, oQ110, oQ111, oQ112, oQ113, oQ114, oQ115, oQ116, oQ117, oQ118, oQ119, oQ120, oQ121, oQ122, oQ123, oQ124, oQ125, oQ126, oQ127, oQ128, oQ129, oQ130, oQ131, oQ132, oQ133, oQ134, oQ135, oQ136, oQ137, oQ138, oQ139, oQ140, oQ141, oQ142, oQ143, oQ144, oQ145, oQ146, oQ147, oQ148, oQ149, oQ150, oQ151, oQ152, oQ153, oQ154, oQ155, oQ156, oQ157, oQ158, oQ159]
  refine ⟨kn.known, ?_⟩
  cases v <;> simp only [isSignD, exs, ex, ev, evs, evO, evI, evT, evTs, cmpQ, List.getElem?_cons_zero, List.getElem?_cons_succ, List.set_cons_zero, List.set_cons_succ, Option.some.injEq, exists_eq_left', exists_eq_left, exists_eq_right, exists_eq, exists_eq', dwipe, exists_eq_right', D.int.injEq, D.str.injEq, D.bl.injEq, D.tup.injEq, D.ref.injEq, D.rol.injEq, GO.lst.injEq, GO.ins.injEq, GO.dK.injEq, GO.dT.injEq, List.cons.injEq, tgLen, List.length_cons, List.length_nil, List.length_map, List.map_cons, List.map_nil, List.replicate_succ, List.replicate_zero, List.nil_append, List.cons_append, true_and, and_true, if_true, Bool.not_true, Bool.not_false, Bool.false_eq_true, if_false, gup_same, reduceCtorEq, false_and, and_false, exists_false, exists_const, inst_i, inst_b, inst_s, inst_t, atI_0, atI_1, atI_2, atI_3, atI_4, eqNN_nat, ix41, ix42, ix43, gup_gup, and_assoc, exists_and_left, oQ0, oQ1, oQ2, oQ3, oQ4, oQ5, oQ6, oQ7, oQ8, oQ9, oQ10, oQ11, oQ12, oQ13, oQ14, oQ15, oQ16, oQ17, oQ18, oQ19, oQ20, oQ21, oQ22, oQ23, oQ24, oQ25, oQ26, oQ27, oQ28, oQ29, oQ30, oQ31, oQ32, oQ33, oQ34, oQ35, oQ36, oQ37, oQ38, oQ39, oQ40, oQ41, oQ42, oQ43, oQ44, oQ45, oQ46, oQ47, oQ48, oQ49, oQ50, oQ51, oQ52, oQ53, oQ54, oQ55, oQ56, oQ57, oQ58, oQ59, oQ60, oQ61, oQ62, oQ63, oQ64, oQ65, oQ66, oQ67, oQ68, oQ69, oQ70, oQ71, oQ72, oQ73, oQ74, oQ75, oQ76, oQ77, oQ78, oQ79, oQ80, oQ81, oQ82, oQ83, oQ84, oQ85, oQ86, oQ87, oQ88, oQ89, oQ90, oQ91, oQ92, oQ93, oQ94, oQ95, oQ96, oQ97, oQ98, oQ99, oQ100, oQ101, oQ102, oQ103, oQ104, oQ105, oQ106, oQ107, oQ108, oQ109, oQ110, oQ111, oQ112, oQ113, oQ114, oQ115, oQ116, oQ117, oQ118, oQ119, oQ120, oQ121, oQ122, oQ123, oQ124, oQ125, oQ126, oQ127, oQ128, oQ129, oQ130, oQ131, oQ132, oQ133, oQ134, oQ135, oQ136, oQ137, oQ138, oQ139, oQ140, oQ141, oQ142, oQ143, oQ144, oQ145, oQ146, oQ147, oQ148, oQ149, oQ150, oQ151, oQ152, oQ153, oQ154, oQ155, oQ156, oQ157, oQ158, oQ159] at q ⊢ <;> try exact q
  rename_i x
  have hl : x.length ≤ sizeLine := by unfold DK at kn; exact kn
  refine ⟨hl, ?_⟩
  have e1 : decide (((x.length : Nat) : Int) = 1) = decide (x.length = 1) := by
    apply decide_eq_decide.mpr; omega
  rw [e1]
  cases e : decide (x.length = 1) with
  | true =>
    simp only [e, Bool.true_and, exs, ex, ev, evs, evO, evI, evT, evTs, cmpQ, List.getElem?_cons_zero, List.getElem?_cons_succ, List.set_cons_zero, List.set_cons_succ, Option.some.injEq, exists_eq_left', exists_eq_left, exists_eq_right, exists_eq, exists_eq', dwipe, exists_eq_right', D.int.injEq, D.str.injEq, D.bl.injEq, D.tup.injEq, D.ref.injEq, D.rol.injEq, GO.lst.injEq, GO.ins.injEq, GO.dK.injEq, GO.dT.injEq, List.cons.injEq, tgLen, List.length_cons, List.length_nil, List.length_map, List.map_cons, List.map_nil, List.replicate_succ, List.replicate_zero, List.nil_append, List.cons_append, true_and, and_true, if_true, Bool.not_true, Bool.not_false, Bool.false_eq_true, if_false, gup_same, reduceCtorEq, false_and, and_false, exists_false, exists_const, inst_i, inst_b, inst_s, inst_t, atI_0, atI_1, atI_2, atI_3, atI_4, eqNN_nat, ix41, ix42, ix43, gup_gup, and_assoc, exists_and_left, oQ0, oQ1, oQ2, oQ3, oQ4, oQ5, oQ6, oQ7, oQ8, oQ9, oQ10, oQ11, oQ12, oQ13, oQ14, oQ15, oQ16, oQ17, oQ18, oQ19, oQ20, oQ21, oQ22, oQ23, oQ24, oQ25, oQ26, oQ27, oQ28, oQ29, oQ30, oQ31, oQ32, oQ33, oQ34, oQ35, oQ36, oQ37, oQ38, oQ39, oQ40, oQ41, oQ42, oQ43, oQ44, oQ45, oQ46, oQ47, oQ48, oQ49, oQ50, oQ51, oQ52, oQ53, oQ54, oQ55, oQ56, oQ57, oQ58, oQ59, oQ60, oQ61, oQ62, oQ63, oQ64, oQ65, oQ66, oQ67, oQ68, oQ69, oQ70, oQ71, oQ72, oQ73, oQ74, oQ75, oQ76, oQ77, oQ78, oQ79, oQ80, oQ81, oQ82, oQ83, oQ84, oQ85, oQ86, oQ87, oQ88, oQ89, oQ90, oQ91, oQ92, oQ93, oQ94, oQ95, oQ96, oQ97, oQ98, oQ99, oQ100, oQ101, oQ102, oQ103, oQ104, oQ105, oQ106, oQ107, oQ108, oQ109, oQ110, oQ111, oQ112, oQ113, oQ114, oQ115, oQ116, oQ117, oQ118, oQ119, oQ120, oQ121, oQ122, oQ123, oQ124, oQ125, oQ126, oQ127, oQ128, oQ129, oQ130, oQ131, oQ132, oQ133, oQ134, oQ135, oQ136, oQ137, oQ138, oQ139, oQ140, oQ141, oQ142, oQ143, oQ144, oQ145, oQ146, oQ147, oQ148, oQ149, oQ150, oQ151, oQ152, oQ153, oQ154, oQ155, oQ156, oQ157, oQ158, oQ159] at q ⊢
    simp only [inQ]
    exact q
  | false =>
    simp only [e, Bool.false_and, exs, ex, ev, evs, evO, evI, evT, evTs, cmpQ, List.getElem?_cons_zero, List.getElem?_cons_succ, List.set_cons_zero, List.set_cons_succ, Option.some.injEq, exists_eq_left', exists_eq_left, exists_eq_right, exists_eq, exists_eq', dwipe, exists_eq_right', D.int.injEq, D.str.injEq, D.bl.injEq, D.tup.injEq, D.ref.injEq, D.rol.injEq, GO.lst.injEq, GO.ins.injEq, GO.dK.injEq, GO.dT.injEq, List.cons.injEq, tgLen, List.length_cons, List.length_nil, List.length_map, List.map_cons, List.map_nil, List.replicate_succ, List.replicate_zero, List.nil_append, List.cons_append, true_and, and_true, if_true, Bool.not_true, Bool.not_false, Bool.false_eq_true, if_false, gup_same, reduceCtorEq, false_and, and_false, exists_false, exists_const, inst_i, inst_b, inst_s, inst_t, atI_0, atI_1, atI_2, atI_3, atI_4, eqNN_nat, ix41, ix42, ix43, gup_gup, and_assoc, exists_and_left, oQ0, oQ1, oQ2, oQ3, oQ4, oQ5, oQ6, oQ7, oQ8, oQ9, oQ10, oQ11, oQ12, oQ13, oQ14, oQ15, oQ16, oQ17, oQ18, oQ19, oQ20, oQ21, oQ22, oQ23, oQ24, oQ25, oQ26, oQ27, oQ28, oQ29, oQ30, oQ31, oQ32, oQ33, oQ34, oQ35, oQ36, oQ37, oQ38, oQ39, oQ40, oQ41, oQ42, oQ43, oQ44, oQ45, oQ46, oQ47, oQ48, oQ49, oQ50, oQ51, oQ52, oQ53, oQ54, oQ55, oQ56, oQ57, oQ58, oQ59, oQ60, oQ61, oQ62, oQ63, oQ64, oQ65, oQ66, oQ67, oQ68, oQ69, oQ70, oQ71, oQ72, oQ73, oQ74, oQ75, oQ76, oQ77, oQ78, oQ79, oQ80, oQ81, oQ82, oQ83, oQ84, oQ85, oQ86, oQ87, oQ88, oQ89, oQ90, oQ91, oQ92, oQ93, oQ94, oQ95, oQ96, oQ97, oQ98, oQ99, oQ100, oQ101, oQ102, oQ103, oQ104, oQ105, oQ106, oQ107, oQ108, oQ109, oQ110, oQ111, oQ112, oQ113, oQ114, oQ115, oQ116, oQ117, oQ118, oQ119, oQ120, oQ121, oQ122, oQ123, oQ124, oQ125, oQ126, oQ127, oQ128, oQ129, oQ130, oQ131, oQ132, oQ133, oQ134, oQ135, oQ136, oQ137, oQ138, oQ139, oQ140, oQ141, oQ142, oQ143, oQ144, oQ145, oQ146, oQ147, oQ148, oQ149, oQ150, oQ151, oQ152, oQ153, oQ154, oQ155, oQ156, oQ157, oQ158, oQ159] at q ⊢
    exact q
theorem len5 {xs : List D} (h : xs.length = 5) : ∃ a b c d e, xs = [a, b, c, d, e] := match xs, h with | [a, b, c, d, e], _ => ⟨a, b, c, d, e, rfl⟩
theorem len3 {xs : List D} (h : xs.length = 3) : ∃ a b c, xs = [a, b, c] := match xs, h with | [a, b, c], _ => ⟨a, b, c, rfl⟩
theorem run_is_write (h1 : Φ f_is_from = sp_is_from) (h2 : Φ f_is_sign = sp_is_sign) (h : sp_is_write ds G W Q) : run Φ W N_is_write.length b_is_write ds G Q := by
  obtain ⟨cells, ss, v, rfl, kn, q⟩ := h
  simp only [run, N_is_write, b_is_write, exs, ex, ev, evs, evO, evI, evT, evTs, cmpQ, List.getElem?_cons_zero, List.getElem?_cons_succ, List.set_cons_zero, List.set_cons_succ, Option.some.injEq, exists_eq_left', exists_eq_left, exists_eq_right, exists_eq, exists_eq', dwipe, exists_eq_right', D.int.injEq, D.str.injEq, D.bl.injEq, D.tup.injEq, D.ref.injEq, D.rol.injEq, GO.lst.injEq, GO.ins.injEq, GO.dK.injEq, GO.dT.injEq, List.cons.injEq, tgLen, List.length_cons, List.length_nil, List.length_map, List.map_cons, List.map_nil, List.replicate_succ, List.replicate_zero, List.nil_append, List.cons_append, true_and, and_true, if_true, Bool.not_true, Bool.not_false, Bool.false_eq_true, if_false, gup_same, reduceCtorEq, false_and, and_false, exists_false, exists_const, inst_i, inst_b, inst_s, inst_t, atI_0, atI_1, atI_2, atI_3, atI_4, eqNN_nat, ix41, ix42, ix43, gup_gup, and_assoc, exists_and_left, oQ0, oQ1, oQ2, oQ3, oQ4, oQ5, oQ6, oQ7, oQ8, oQ9, oQ10, oQ11, oQ12, oQ13, oQ14, oQ15, oQ16, oQ17, oQ18, oQ19, oQ20, oQ21, oQ22, oQ23, oQ24, oQ25, oQ26, oQ27, oQ28, oQ29, oQ30, oQ31, oQ32, oQ33, oQ34, oQ35, oQ36, oQ37, oQ38, oQ39, oQ40, oQ41, oQ42, oQ43, oQ44, oQ45, oQ46, oQ47, oQ48, oQ49, oQ50, oQ51, oQ52, oQ53, oQ54, oQ55, oQ56, oQ57, oQ58, oQ59, oQ60, oQ61, oQ62, oQ63, oQ64, oQ65, oQ66, oQ67, oQ68, oQ69, oQ70, oQ71, oQ72, oQ73, oQ74, oQ75, oQ76, oQ77, oQ78, oQ79, oQ80, oQ81, oQ82, oQ83, oQ84, oQ85, oQ86, oQ87, oQ88, oQ89, oQ90, oQ91, oQ92, oQ93, oQ94, oQ95, oQ96, oQ97, oQ98, oQ99, oQ100, oQ101, oQ102, oQ103, oQ104, oQ105, oQ106, oQ107, oQ108, oQ109, oQ110, oQ111, oQ112, oQ113, oQ114, oQ115, oQ116, oQ117, oQ118, oQ119, oQ120, oQ121, oQ122, oQ123, oQ124, oQ125, oQ126, oQ127, oQ128, oQ129, oQ130, oQ131, oQ132, oQ133, oQ134, oQ135, oQ136, oQ137, oQ138, oQ139, oQ140, oQ141, oQ142, oQ143, oQ144, oQ145, oQ146, oQ147, oQ148, oQ149, oQ150, oQ151, oQ152, oQ153, oQ154, oQ155, oQ156, oQ157, oQ158, oQ159, h1, h2]
  refine ⟨kn.known, ?_⟩
  cases v <;> try exact q
  rename_i xs
  simp only [exs, ex, ev, evs, evO, evI, evT, evTs, cmpQ, List.getElem?_cons_zero, List.getElem?_cons_succ, List.set_cons_zero, List.set_cons_succ, Option.some.injEq, exists_eq_left', exists_eq_left, exists_eq_right, exists_eq, exists_eq', dwipe, exists_eq_right', D.int.injEq, D.str.injEq, D.bl.injEq, D.tup.injEq, D.ref.injEq, D.rol.injEq, GO.lst.injEq, GO.ins.injEq, GO.dK.injEq, GO.dT.injEq, List.cons.injEq, tgLen, List.length_cons, List.length_nil, List.length_map, List.map_cons, List.map_nil, List.replicate_succ, List.replicate_zero, List.nil_append, List.cons_append, true_and, and_true, if_true, Bool.not_true, Bool.not_false, Bool.false_eq_true, if_false, gup_same, reduceCtorEq, false_and, and_false, exists_false, exists_const, inst_i, inst_b, inst_s, inst_t, atI_0, atI_1, atI_2, atI_3, atI_4, eqNN_nat, ix41, ix42, ix43, gup_gup, and_assoc, exists_and_left, oQ0, oQ1, oQ2, oQ3, oQ4, oQ5, oQ6, oQ7, oQ8, oQ9, oQ10, oQ11, oQ12, oQ13, oQ14, oQ15, oQ16, oQ17, oQ18, oQ19, oQ20, oQ21, oQ22, oQ23, oQ24, oQ25, oQ26, oQ27, oQ28, oQ29, oQ30, oQ31, oQ32, oQ33, oQ34, oQ35, oQ36, oQ37, oQ38, oQ39, oQ40, oQ41, oQ42, oQ43, oQ44, oQ45, oQ46, oQ47, oQ48, oQ49, oQ50, oQ51, oQ52, oQ53, oQ54, oQ55, oQ56, oQ57, oQ58, oQ59, oQ60, oQ61, oQ62, oQ63, oQ64, oQ65, oQ66, oQ67, oQ68, oQ69, oQ70, oQ71, oQ72, oQ73, oQ74, oQ75, oQ76, oQ77, oQ78, oQ79, oQ80, oQ81, oQ82, oQ83, oQ84, oQ85, oQ86, oQ87, oQ88, oQ89, oQ90, oQ91, oQ92, oQ93, oQ94, oQ95, oQ96, oQ97, oQ98, oQ99, oQ100, oQ101, oQ102, oQ103, oQ104, oQ105, oQ106, oQ107, oQ108, oQ109, oQ110, oQ111, oQ112, oQ113, oQ114, oQ115, oQ116, oQ117, oQ118, oQ119, oQ120, oQ121, oQ122, oQ123, oQ124, oQ125, oQ126, oQ127, oQ128, oQ129, oQ130, oQ131, oQ132, oQ133, oQ134, oQ135, oQ136, oQ137, oQ138, oQ139, oQ140, oQ141, oQ142, oQ143, oQ144, oQ145, oQ146, oQ147, oQ148, oQ149, oQ150, oQ151, oQ152, oQ153, oQ154, oQ155, oQ156, oQ157, oQ158, oQ159]
  by_cases hl : xs.length = 5
  · obtain ⟨a, b, c, d, e, rfl⟩ := len5 hl
    have k1 := kn.tup_mem (d := a) (by simp)
    have k2 := kn.tup_mem (d := b) (by simp)
    have k3 := kn.tup_mem (d := c) (by simp)
    have k4 := kn.tup_mem (d := d) (by simp)
    have k5 := kn.tup_mem (d := e) (by simp)
    have e5 : decide (((0 + 1 + 1 + 1 + 1 + 1 : Nat) : Int) = 5) = true := by decide
    simp only [isWriteD, e5, exs, ex, ev, evs, evO, evI, evT, evTs, cmpQ, List.getElem?_cons_zero, List.getElem?_cons_succ, List.set_cons_zero, List.set_cons_succ, Option.some.injEq, exists_eq_left', exists_eq_left, exists_eq_right, exists_eq, exists_eq', dwipe, exists_eq_right', D.int.injEq, D.str.injEq, D.bl.injEq, D.tup.injEq, D.ref.injEq, D.rol.injEq, GO.lst.injEq, GO.ins.injEq, GO.dK.injEq, GO.dT.injEq, List.cons.injEq, tgLen, List.length_cons, List.length_nil, List.length_map, List.map_cons, List.map_nil, List.replicate_succ, List.replicate_zero, List.nil_append, List.cons_append, true_and, and_true, if_true, Bool.not_true, Bool.not_false, Bool.false_eq_true, if_false, gup_same, reduceCtorEq, false_and, and_false, exists_false, exists_const, inst_i, inst_b, inst_s, inst_t, atI_0, atI_1, atI_2, atI_3, atI_4, eqNN_nat, ix41, ix42, ix43, gup_gup, and_assoc, exists_and_left, oQ0, oQ1, oQ2, oQ3, oQ4, oQ5, oQ6, oQ7, oQ8, oQ9, oQ10, oQ11, oQ12, oQ13, oQ14, oQ15, oQ16, oQ17, oQ18, oQ19, oQ20, oQ21, oQ22, oQ23, oQ24, oQ25, oQ26, oQ27, oQ28, oQ29, oQ30, oQ31, oQ32, oQ33, oQ34, oQ35, oQ36, oQ37, oQ38, oQ39, oQ40, oQ41, oQ42, oQ43, oQ44, oQ45, oQ46, oQ47, oQ48, oQ49, oQ50, oQ51, oQ52, oQ53, oQ54, oQ55, oQ56, oQ57, oQ58, oQ59, oQ60, oQ61, oQ62, oQ63, oQ64, oQ65, oQ66, oQ67, oQ68, oQ69, oQ70, oQ71, oQ72, oQ73, oQ74, oQ75, oQ76, oQ77, oQ78, oQ79, oQ80, oQ81, oQ82, oQ83, oQ84, oQ85, oQ86, oQ87, oQ88, oQ89, oQ90, oQ91, oQ92, oQ93, oQ94, oQ95, oQ96, oQ97, oQ98, oQ99, oQ100, oQ101, oQ102, oQ103, oQ104, oQ105, oQ106, oQ107, oQ108, oQ109, oQ110, oQ111, oQ112, oQ113, oQ114, oQ115, oQ116, oQ117, oQ118, oQ119, oQ120, oQ121, oQ122, oQ123, oQ124, oQ125, oQ126, oQ127, oQ128, oQ129, oQ130, oQ131, oQ132, oQ133, oQ134, oQ135, oQ136, oQ137, oQ138, oQ139, oQ140, oQ141, oQ142, oQ143, oQ144, oQ145, oQ146, oQ147, oQ148, oQ149, oQ150, oQ151, oQ152, oQ153, oQ154, oQ155, oQ156, oQ157, oQ158, oQ159] at q ⊢
    refine ⟨a, 0, cells - 1, rfl, k1.known, ?_⟩
    cases c1 : isFromD a 0 (cells - 1) <;> simp only [c1, Bool.true_and, Bool.false_and, exs, ex, ev, evs, evO, evI, evT, evTs, cmpQ, List.getElem?_cons_zero, List.getElem?_cons_succ, List.set_cons_zero, List.set_cons_succ, Option.some.injEq, exists_eq_left', exists_eq_left, exists_eq_right, exists_eq, exists_eq', dwipe, exists_eq_right', D.int.injEq, D.str.injEq, D.bl.injEq, D.tup.injEq, D.ref.injEq, D.rol.injEq, GO.lst.injEq, GO.ins.injEq, GO.dK.injEq, GO.dT.injEq, List.cons.injEq, tgLen, List.length_cons, List.length_nil, List.length_map, List.map_cons, List.map_nil, List.replicate_succ, List.replicate_zero, List.nil_append, List.cons_append, true_and, and_true, if_true, Bool.not_true, Bool.not_false, Bool.false_eq_true, if_false, gup_same, reduceCtorEq, false_and, and_false, exists_false, exists_const, inst_i, inst_b, inst_s, inst_t, atI_0, atI_1, atI_2, atI_3, atI_4, eqNN_nat, ix41, ix42, ix43, gup_gup, and_assoc, exists_and_left, oQ0, oQ1, oQ2, oQ3, oQ4, oQ5, oQ6, oQ7, oQ8, oQ9, oQ10, oQ11, oQ12, oQ13, oQ14, oQ15, oQ16, oQ17, oQ18, oQ19, oQ20, oQ21, oQ22, oQ23, oQ24, oQ25, oQ26, oQ27, oQ28, oQ29, oQ30, oQ31, oQ32, oQ33, oQ34, oQ35, oQ36, oQ37, oQ38, oQ39, oQ40, oQ41, oQ42, oQ43, oQ44, oQ45, oQ46, oQ47, oQ48, oQ49, oQ50, oQ51, oQ52, oQ53, oQ54, oQ55, oQ56, oQ57, oQ58, oQ59, oQ60, oQ61, oQ62, oQ63, oQ64, oQ65, oQ66, oQ67, oQ68, oQ69, oQ70, oQ71, oQ72, oQ73, oQ74, oQ75, oQ76, oQ77, oQ78, oQ79, oQ80, oQ81, oQ82, oQ83, oQ84, oQ85, oQ86, oQ87, oQ88, oQ89, oQ90, oQ91, oQ92, oQ93, oQ94, oQ95, oQ96, oQ97, oQ98, oQ99, oQ100, oQ101, oQ102, oQ103, oQ104, oQ105, oQ106, oQ107, oQ108, oQ109, oQ110, oQ111, oQ112, oQ113, oQ114, oQ115, oQ116, oQ117, oQ118, oQ119, oQ120, oQ121, oQ122, oQ123, oQ124, oQ125, oQ126, oQ127, oQ128, oQ129, oQ130, oQ131, oQ132, oQ133, oQ134, oQ135, oQ136, oQ137, oQ138, oQ139, oQ140, oQ141, oQ142, oQ143, oQ144, oQ145, oQ146, oQ147, oQ148, oQ149, oQ150, oQ151, oQ152, oQ153, oQ154, oQ155, oQ156, oQ157, oQ158, oQ159] at q ⊢ <;> try exact q
    refine ⟨b, rfl, k2, ?_⟩
    cases c2 : isSignD b <;> simp only [c2, Bool.true_and, Bool.false_and, exs, ex, ev, evs, evO, evI, evT, evTs, cmpQ, List.getElem?_cons_zero, List.getElem?_cons_succ, List.set_cons_zero, List.set_cons_succ, Option.some.injEq, exists_eq_left', exists_eq_left, exists_eq_right, exists_eq, exists_eq', dwipe, exists_eq_right', D.int.injEq, D.str.injEq, D.bl.injEq, D.tup.injEq, D.ref.injEq, D.rol.injEq, GO.lst.injEq, GO.ins.injEq, GO.dK.injEq, GO.dT.injEq, List.cons.injEq, tgLen, List.length_cons, List.length_nil, List.length_map, List.map_cons, List.map_nil, List.replicate_succ, List.replicate_zero, List.nil_append, List.cons_append, true_and, and_true, if_true, Bool.not_true, Bool.not_false, Bool.false_eq_true, if_false, gup_same, reduceCtorEq, false_and, and_false, exists_false, exists_const, inst_i, inst_b, inst_s, inst_t, atI_0, atI_1, atI_2, atI_3, atI_4, eqNN_nat, ix41, ix42, ix43, gup_gup, and_assoc, exists_and_left, oQ0, oQ1, oQ2, oQ3, oQ4, oQ5, oQ6, oQ7, oQ8, oQ9, oQ10, oQ11, oQ12, oQ13, oQ14, oQ15, oQ16, oQ17, oQ18, oQ19, oQ20, oQ21, oQ22, oQ23, oQ24, oQ25, oQ26, oQ27, oQ28, oQ29, oQ30, oQ31, oQ32, oQ33, oQ34, oQ35, oQ36, oQ37, oQ38, oQ39, oQ40, oQ41, oQ42, oQ43, oQ44, oQ45, oQ46, oQ47, oQ48, oQ49, oQ50, oQ51, oQ52, oQ53, oQ54, oQ55, oQ56, oQ57, oQ58, oQ59, oQ60, oQ61, oQ62, oQ63, oQ64, oQ65, oQ66, oQ67, oQ68, oQ69, oQ70, oQ71, oQ72, oQ73, oQ74, oQ75, oQ76, oQ77, oQ78, oQ79, oQ80, oQ81, oQ82, oQ83, oQ84, oQ85, oQ86, oQ87, oQ88, oQ89, oQ90, oQ91, oQ92, oQ93, oQ94, oQ95, oQ96, oQ97, oQ98, oQ99, oQ100, oQ101, oQ102, oQ103, oQ104, oQ105, oQ106, oQ107, oQ108, oQ109, oQ110, oQ111, oQ112, oQ113, oQ114, oQ115, oQ116, oQ117, oQ118, oQ119, oQ120, oQ121, oQ122, oQ123, oQ124, oQ125, oQ126, oQ127, oQ128, oQ129, oQ130, oQ131, oQ132, oQ133, oQ134, oQ135, oQ136, oQ137, oQ138, oQ139, oQ140, oQ141, oQ142, oQ143, oQ144, oQ145, oQ146, oQ147, oQ148, oQ149, oQ150, oQ151, oQ152, oQ153, oQ154, oQ155, oQ156, oQ157, oQ158, oQ159] at q ⊢ <;> try exact q
    refine ⟨c, 0, _, rfl, k3.known, ?_⟩
    cases c3 : isFromD c 0 (ss.length - 1) <;> simp only [c3, Bool.true_and, Bool.false_and, exs, ex, ev, evs, evO, evI, evT, evTs, cmpQ, List.getElem?_cons_zero, List.getElem?_cons_succ, List.set_cons_zero, List.set_cons_succ, Option.some.injEq, exists_eq_left', exists_eq_left, exists_eq_right, exists_eq, exists_eq', dwipe, exists_eq_right', D.int.injEq, D.str.injEq, D.bl.injEq, D.tup.injEq, D.ref.injEq, D.rol.injEq, GO.lst.injEq, GO.ins.injEq, GO.dK.injEq, GO.dT.injEq, List.cons.injEq, tgLen, List.length_cons, List.length_nil, List.length_map, List.map_cons, List.map_nil, List.replicate_succ, List.replicate_zero, List.nil_append, List.cons_append, true_and, and_true, if_true, Bool.not_true, Bool.not_false, Bool.false_eq_true, if_false, gup_same, reduceCtorEq, false_and, and_false, exists_false, exists_const, inst_i, inst_b, inst_s, inst_t, atI_0, atI_1, atI_2, atI_3, atI_4, eqNN_nat, ix41, ix42, ix43, gup_gup, and_assoc, exists_and_left, oQ0, oQ1, oQ2, oQ3, oQ4, oQ5, oQ6, oQ7, oQ8, oQ9, oQ10, oQ11, oQ12, oQ13, oQ14, oQ15, oQ16, oQ17, oQ18, oQ19, oQ20, oQ21, oQ22, oQ23, oQ24, oQ25, oQ26, oQ27, oQ28, oQ29, oQ30, oQ31, oQ32, oQ33, oQ34, oQ35, oQ36, oQ37, oQ38, oQ39, oQ40, oQ41, oQ42, oQ43, oQ44, oQ45, oQ46, oQ47, oQ48, oQ49, oQ50, oQ51, oQ52, oQ53, oQ54, oQ55, oQ56, oQ57, oQ58, oQ59, oQ60, oQ61, oQ62, oQ63, oQ64, oQ65, oQ66, oQ67, oQ68, oQ69, oQ70, oQ71, oQ72, oQ73, oQ74, oQ75, oQ76, oQ77, oQ78, oQ79, oQ80, oQ81, oQ82, oQ83, oQ84, oQ85, oQ86, oQ87, oQ88, oQ89, oQ90, oQ91, oQ92, oQ93, oQ94, oQ95, oQ96, oQ97, oQ98, oQ99, oQ100, oQ101, oQ102, oQ103, oQ104, oQ105, oQ106, oQ107, oQ108, oQ109, oQ110, oQ111, oQ112, oQ113, oQ114, oQ115, oQ116, oQ117, oQ118, oQ119, oQ120, oQ121, oQ122, oQ123, oQ124, oQ125, oQ126, oQ127, oQ128, oQ129, oQ130, oQ131, oQ132, oQ133, oQ134, oQ135, oQ136, oQ137, oQ138, oQ139, oQ140, oQ141, oQ142, oQ143, oQ144, oQ145, oQ146, oQ147, oQ148, oQ149, oQ150, oQ151, oQ152, oQ153, oQ154, oQ155, oQ156, oQ157, oQ158, oQ159] at q ⊢ <;> try exact q
    refine ⟨d, 0, _, rfl, k4.known, ?_⟩
    cases c4 : isFromD d 0 50 <;> simp only [c4, Bool.true_and, Bool.false_and, exs, ex, ev, evs, evO, evI, evT, evTs, cmpQ, List.getElem?_cons_zero, List.getElem?_cons_succ, List.set_cons_zero, List.set_cons_succ, Option.some.injEq, exists_eq_left', exists_eq_left, exists_eq_right, exists_eq, exists_eq', dwipe, exists_eq_right', D.int.injEq, D.str.injEq, D.bl.injEq, D.tup.injEq, D.ref.injEq, D.rol.injEq, GO.lst.injEq, GO.ins.injEq, GO.dK.injEq, GO.dT.injEq, List.cons.injEq, tgLen, List.length_cons, List.length_nil, List.length_map, List.map_cons, List.map_nil, List.replicate_succ, List.replicate_zero, List.nil_append, List.cons_append, true_and, and_true, if_true, Bool.not_true, Bool.not_false, Bool.false_eq_true, if_false, gup_same, reduceCtorEq, false_and, and_false, exists_false, exists_const, inst_i, inst_b, inst_s, inst_t, atI_0, atI_1, atI_2, atI_3, atI_4, eqNN_nat, ix41, ix42, ix43, gup_gup, and_assoc, exists_and_left, oQ0, oQ1, oQ2, oQ3, oQ4, oQ5, oQ6, oQ7, oQ8, oQ9, oQ10, oQ11, oQ12, oQ13, oQ14, oQ15, oQ16, oQ17, oQ18, oQ19, oQ20, oQ21, oQ22, oQ23, oQ24, oQ25, oQ26, oQ27, oQ28, oQ29, oQ30, oQ31, oQ32, oQ33, oQ34, oQ35, oQ36, oQ37, oQ38, oQ39, oQ40, oQ41, oQ42, oQ43, oQ44, oQ45, oQ46, oQ47, oQ48, oQ49, oQ50, oQ51, oQ52, oQ53, oQ54, oQ55, oQ56, oQ57, oQ58, oQ59, oQ60, oQ61, oQ62, oQ63, oQ64, oQ65, oQ66, oQ67, oQ68, oQ69, oQ70, oQ71, oQ72, oQ73, oQ74, oQ75, oQ76, oQ77, oQ78, oQ79, oQ80, oQ81, oQ82, oQ83, oQ84, oQ85, oQ86, oQ87, oQ88, oQ89, oQ90, oQ91, oQ92, oQ93, oQ94, oQ95, oQ96, oQ97, oQ98, oQ99, oQ100, oQ101, oQ102, oQ103, oQ104, oQ105, oQ106, oQ107, oQ108, oQ109, oQ110, oQ111, oQ112, oQ113, oQ114, oQ115, oQ116, oQ117, oQ118, oQ119, oQ120, oQ121, oQ122, oQ123, oQ124, oQ125, oQ126, oQ127, oQ128, oQ129, oQ130, oQ131, oQ132, oQ133, oQ134, oQ135, oQ136, oQ137, oQ138, oQ139, oQ140, oQ141, oQ142, oQ143, oQ144, oQ145, oQ146, oQ147, oQ148, oQ149, oQ150, oQ151, oQ152, oQ153, oQ154, oQ155, oQ156, oQ157, oQ158, oQ159] at q ⊢ <;> try exact q
    cases d <;> try (exact nomatch (show false = true from c4))
    exact ⟨e, _, _, rfl, k5.known, q⟩
  · have e1 : decide ((xs.length : Int) = 5) = false := by
      apply decide_eq_false; omega
    have e2 : isWriteD cells ss.length (.tup xs) = false := by
      unfold isWriteD
      split
      · rename_i e; cases e; simp at hl
      · rfl
    rw [e2] at q
    simp only [e1, exs, ex, ev, evs, evO, evI, evT, evTs, cmpQ, List.getElem?_cons_zero, List.getElem?_cons_succ, List.set_cons_zero, List.set_cons_succ, Option.some.injEq, exists_eq_left', exists_eq_left, exists_eq_right, exists_eq, exists_eq', dwipe, exists_eq_right', D.int.injEq, D.str.injEq, D.bl.injEq, D.tup.injEq, D.ref.injEq, D.rol.injEq, GO.lst.injEq, GO.ins.injEq, GO.dK.injEq, GO.dT.injEq, List.cons.injEq, tgLen, List.length_cons, List.length_nil, List.length_map, List.map_cons, List.map_nil, List.replicate_succ, List.replicate_zero, List.nil_append, List.cons_append, true_and, and_true, if_true, Bool.not_true, Bool.not_false, Bool.false_eq_true, if_false, gup_same, reduceCtorEq, false_and, and_false, exists_false, exists_const, inst_i, inst_b, inst_s, inst_t, atI_0, atI_1, atI_2, atI_3, atI_4, eqNN_nat, ix41, ix42, ix43, gup_gup, and_assoc, exists_and_left, oQ0, oQ1, oQ2, oQ3, oQ4, oQ5, oQ6, oQ7, oQ8, oQ9, oQ10, oQ11, oQ12, oQ13, oQ14, oQ15, oQ16, oQ17, oQ18, oQ19, oQ20, oQ21, oQ22, oQ23, oQ24, oQ25, oQ26, oQ27, oQ28, oQ29, oQ30, oQ31, oQ32, oQ33, oQ34, oQ35, oQ36, oQ37, oQ38, oQ39, oQ40, oQ41, oQ42, oQ43, oQ44, oQ45, oQ46, oQ47, oQ48, oQ49, oQ50, oQ51, oQ52, oQ53, oQ54, oQ55, oQ56, oQ57, oQ58, oQ59, oQ60, oQ61, oQ62, oQ63, oQ64, oQ65, oQ66, oQ67, oQ68, oQ69, oQ70, oQ71, oQ72, oQ73, oQ74, oQ75, oQ76, oQ77, oQ78, oQ79, oQ80, oQ81, oQ82, oQ83, oQ84, oQ85, oQ86, oQ87, oQ88, oQ89, oQ90, oQ91, oQ92, oQ93, oQ94, oQ95, oQ96, oQ97, oQ98, oQ99, oQ100, oQ101, oQ102, oQ103, oQ104, oQ105, oQ106, oQ107, oQ108, oQ109, oQ110, oQ111, oQ112, oQ113, oQ114, oQ115, oQ116, oQ117, oQ118, oQ119, oQ120, oQ121, oQ122, oQ123, oQ124, oQ125, oQ126, oQ127, oQ128, oQ129, oQ130, oQ131, oQ132, oQ133, oQ134, oQ135, oQ136, oQ137, oQ138, oQ139, oQ140, oQ141, oQ142, oQ143, oQ144, oQ145, oQ146, oQ147, oQ148, oQ149, oQ150, oQ151, oQ152, oQ153, oQ154, oQ155, oQ156, oQ157, oQ158, oQ159]
    exact q
theorem run_is_plan (h1 : Φ f_is_from = sp_is_from) (h2 : Φ f_is_write = sp_is_write) (h : sp_is_plan ds G W Q) : run Φ W N_is_plan.length b_is_plan ds G Q := by
  obtain ⟨v, rfl, kn, q⟩ := h
  simp only [run, N_is_plan, b_is_plan, exs, ex, ev, evs, evO, evI, evT, evTs, cmpQ, List.getElem?_cons_zero, List.getElem?_cons_succ, List.set_cons_zero, List.set_cons_succ, Option.some.injEq, exists_eq_left', exists_eq_left, exists_eq_right, exists_eq, exists_eq', dwipe, exists_eq_right', D.int.injEq, D.str.injEq, D.bl.injEq, D.tup.injEq, D.ref.injEq, D.rol.injEq, GO.lst.injEq, GO.ins.injEq, GO.dK.injEq, GO.dT.injEq, List.cons.injEq, tgLen, List.length_cons, List.length_nil, List.length_map, List.map_cons, List.map_nil, List.replicate_succ, List.replicate_zero, List.nil_append, List.cons_append, true_and, and_true, if_true, Bool.not_true, Bool.not_false, Bool.false_eq_true, if_false, gup_same, reduceCtorEq, false_and, and_false, exists_false, exists_const, inst_i, inst_b, inst_s, inst_t, atI_0, atI_1, atI_2, atI_3, atI_4, eqNN_nat, ix41, ix42, ix43, gup_gup, and_assoc, exists_and_left, oQ0, oQ1, oQ2, oQ3, oQ4, oQ5, oQ6, oQ7, oQ8, oQ9, oQ10, oQ11, oQ12, oQ13, oQ14, oQ15, oQ16, oQ17, oQ18, oQ19, oQ20, oQ21, oQ22, oQ23, oQ24, oQ25, oQ26, oQ27, oQ28, oQ29, oQ30, oQ31, oQ32, oQ33, oQ34, oQ35, oQ36, oQ37, oQ38, oQ39, oQ40, oQ41, oQ42, oQ43, oQ44, oQ45, oQ46, oQ47, oQ48, oQ49, oQ50, oQ51, oQ52, oQ53, oQ54, oQ55, oQ56, oQ57, oQ58, oQ59, oQ60, oQ61, oQ62, oQ63, oQ64, oQ65, oQ66, oQ67, oQ68, oQ69, oQ70, oQ71, oQ72, oQ73, oQ74, oQ75, oQ76, oQ77, oQ78, oQ79, oQ80, oQ81, oQ82, oQ83, oQ84, oQ85, oQ86, oQ87, oQ88, oQ89, oQ90, oQ91, oQ92, oQ93, oQ94, oQ95, oQ96, oQ97, oQ98, oQ99, oQ100, oQ101, oQ102, oQ103, oQ104, oQ105, oQ106, oQ107, oQ108, oQ109, oQ110, oQ111, oQ112, oQ113, oQ114, oQ115, oQ116, oQ117, oQ118, oQ119, oQ120, oQ121, oQ122, oQ123, oQ124, oQ125, oQ126, oQ127, oQ128, oQ129, oQ130, oQ131, oQ132, oQ133, oQ134, oQ135, oQ136, oQ137, oQ138, oQ139, oQ140, oQ141, oQ142, oQ143, oQ144, oQ145, oQ146, oQ147, oQ148, oQ149, oQ150, oQ151, oQ152, oQ153, oQ154, oQ155, oQ156, oQ157, oQ158, oQ159, h1, h2]
  refine ⟨kn.known, ?_⟩
  cases v <;> try exact q G (Ext.refl G)
  rename_i xs
  simp only [exs, ex, ev, evs, evO, evI, evT, evTs, cmpQ, List.getElem?_cons_zero, List.getElem?_cons_succ, List.set_cons_zero, List.set_cons_succ, Option.some.injEq, exists_eq_left', exists_eq_left, exists_eq_right, exists_eq, exists_eq', dwipe, exists_eq_right', D.int.injEq, D.str.injEq, D.bl.injEq, D.tup.injEq, D.ref.injEq, D.rol.injEq, GO.lst.injEq, GO.ins.injEq, GO.dK.injEq, GO.dT.injEq, List.cons.injEq, tgLen, List.length_cons, List.length_nil, List.length_map, List.map_cons, List.map_nil, List.replicate_succ, List.replicate_zero, List.nil_append, List.cons_append, true_and, and_true, if_true, Bool.not_true, Bool.not_false, Bool.false_eq_true, if_false, gup_same, reduceCtorEq, false_and, and_false, exists_false, exists_const, inst_i, inst_b, inst_s, inst_t, atI_0, atI_1, atI_2, atI_3, atI_4, eqNN_nat, ix41, ix42, ix43, gup_gup, and_assoc, exists_and_left, oQ0, oQ1, oQ2, oQ3, oQ4, oQ5, oQ6, oQ7, oQ8, oQ9, oQ10, oQ11, oQ12, oQ13, oQ14, oQ15, oQ16, oQ17, oQ18, oQ19, oQ20, oQ21, oQ22, oQ23, oQ24, oQ25, oQ26, oQ27, oQ28, oQ29, oQ30, oQ31, oQ32, oQ33, oQ34, oQ35, oQ36, oQ37, oQ38, oQ39, oQ40, oQ41, oQ42, oQ43, oQ44, oQ45, oQ46, oQ47, oQ48, oQ49, oQ50, oQ51, oQ52, oQ53, oQ54, oQ55, oQ56, oQ57, oQ58, oQ59, oQ60, oQ61, oQ62, oQ63, oQ64, oQ65, oQ66, oQ67, oQ68, oQ69, oQ70, oQ71, oQ72, oQ73, oQ74, oQ75, oQ76, oQ77, oQ78, oQ79, oQ80, oQ81, oQ82, oQ83, oQ84, oQ85, oQ86, oQ87, oQ88, oQ89, oQ90, oQ91, oQ92, oQ93, oQ94, oQ95, oQ96, oQ97, oQ98, oQ99, oQ100, oQ101, oQ102, oQ103, oQ104, oQ105, oQ106, oQ107, oQ108, oQ109, oQ110, oQ111, oQ112, oQ113, oQ114, oQ115, oQ116, oQ117, oQ118, oQ119, oQ120, oQ121, oQ122, oQ123, oQ124, oQ125, oQ126, oQ127, oQ128, oQ129, oQ130, oQ131, oQ132, oQ133, oQ134, oQ135, oQ136, oQ137, oQ138, oQ139, oQ140, oQ141, oQ142, oQ143, oQ144, oQ145, oQ146, oQ147, oQ148, oQ149, oQ150, oQ151, oQ152, oQ153, oQ154, oQ155, oQ156, oQ157, oQ158, oQ159]
  by_cases hl : xs.length = 3
  · obtain ⟨a, b, c, rfl⟩ := len3 hl
    have k1 := kn.tup_mem (d := a) (by simp)
    have k2 := kn.tup_mem (d := b) (by simp)
    have k3 := kn.tup_mem (d := c) (by simp)
    have e5 : decide (((0 + 1 + 1 + 1 : Nat) : Int) = 3) = true := by decide
    simp only [isPlanD, e5, exs, ex, ev, evs, evO, evI, evT, evTs, cmpQ, List.getElem?_cons_zero, List.getElem?_cons_succ, List.set_cons_zero, List.set_cons_succ, Option.some.injEq, exists_eq_left', exists_eq_left, exists_eq_right, exists_eq, exists_eq', dwipe, exists_eq_right', D.int.injEq, D.str.injEq, D.bl.injEq, D.tup.injEq, D.ref.injEq, D.rol.injEq, GO.lst.injEq, GO.ins.injEq, GO.dK.injEq, GO.dT.injEq, List.cons.injEq, tgLen, List.length_cons, List.length_nil, List.length_map, List.map_cons, List.map_nil, List.replicate_succ, List.replicate_zero, List.nil_append, List.cons_append, true_and, and_true, if_true, Bool.not_true, Bool.not_false, Bool.false_eq_true, if_false, gup_same, reduceCtorEq, false_and, and_false, exists_false, exists_const, inst_i, inst_b, inst_s, inst_t, atI_0, atI_1, atI_2, atI_3, atI_4, eqNN_nat, ix41, ix42, ix43, gup_gup, and_assoc, exists_and_left, oQ0, oQ1, oQ2, oQ3, oQ4, oQ5, oQ6, oQ7, oQ8, oQ9, oQ10, oQ11, oQ12, oQ13, oQ14, oQ15, oQ16, oQ17, oQ18, oQ19, oQ20, oQ21, oQ22, oQ23, oQ24, oQ25, oQ26, oQ27, oQ28, oQ29, oQ30, oQ31, oQ32, oQ33, oQ34, oQ35, oQ36, oQ37, oQ38, oQ39, oQ40, oQ41, oQ42, oQ43, oQ44, oQ45, oQ46, oQ47, oQ48, oQ49, oQ50, oQ51, oQ52, oQ53, oQ54, oQ55, oQ56, oQ57, oQ58, oQ59, oQ60, oQ61, oQ62, oQ63, oQ64, oQ65, oQ66, oQ67, oQ68, oQ69, oQ70, oQ71, oQ72, oQ73, oQ74, oQ75, oQ76, oQ77, oQ78, oQ79, oQ80, oQ81, oQ82, oQ83, oQ84, oQ85, oQ86, oQ87, oQ88, oQ89, oQ90, oQ91, oQ92, oQ93, oQ94, oQ95, oQ96, oQ97, oQ98, oQ99, oQ100, oQ101, oQ102, oQ103, oQ104, oQ105, oQ106, oQ107, oQ108, oQ109, oQ110, oQ111, oQ112, oQ113, oQ114, oQ115, oQ116, oQ117, oQ118, oQ119, oQ120, oQ121, oQ122, oQ123, oQ124, oQ125, oQ126, oQ127, oQ128, oQ129, oQ130, oQ131, oQ132, oQ133, oQ134, oQ135, oQ136, oQ137, oQ138, oQ139, oQ140, oQ141, oQ142, oQ143, oQ144, oQ145, oQ146, oQ147, oQ148, oQ149, oQ150, oQ151, oQ152, oQ153, oQ154, oQ155, oQ156, oQ157, oQ158, oQ159] at q ⊢
    refine ⟨a, 1, 4, rfl, k1.known, ?_⟩
    cases c1 : isFromD a 1 4 <;> simp only [c1, Bool.true_and, Bool.false_and, exs, ex, ev, evs, evO, evI, evT, evTs, cmpQ, List.getElem?_cons_zero, List.getElem?_cons_succ, List.set_cons_zero, List.set_cons_succ, Option.some.injEq, exists_eq_left', exists_eq_left, exists_eq_right, exists_eq, exists_eq', dwipe, exists_eq_right', D.int.injEq, D.str.injEq, D.bl.injEq, D.tup.injEq, D.ref.injEq, D.rol.injEq, GO.lst.injEq, GO.ins.injEq, GO.dK.injEq, GO.dT.injEq, List.cons.injEq, tgLen, List.length_cons, List.length_nil, List.length_map, List.map_cons, List.map_nil, List.replicate_succ, List.replicate_zero, List.nil_append, List.cons_append, true_and, and_true, if_true, Bool.not_true, Bool.not_false, Bool.false_eq_true, if_false, gup_same, reduceCtorEq, false_and, and_false, exists_false, exists_const, inst_i, inst_b, inst_s, inst_t, atI_0, atI_1, atI_2, atI_3, atI_4, eqNN_nat, ix41, ix42, ix43, gup_gup, and_assoc, exists_and_left, oQ0, oQ1, oQ2, oQ3, oQ4, oQ5, oQ6, oQ7, oQ8, oQ9, oQ10, oQ11, oQ12, oQ13, oQ14, oQ15, oQ16, oQ17, oQ18, oQ19, oQ20, oQ21, oQ22, oQ23, oQ24, oQ25, oQ26, oQ27, oQ28, oQ29, oQ30, oQ31, oQ32, oQ33, oQ34, oQ35, oQ36, oQ37, oQ38, oQ39, oQ40, oQ41, oQ42, oQ43, oQ44, oQ45, oQ46, oQ47, oQ48, oQ49, oQ50, oQ51, oQ52, oQ53, oQ54, oQ55, oQ56, oQ57, oQ58, oQ59, oQ60, oQ61, oQ62, oQ63, oQ64, oQ65, oQ66, oQ67, oQ68, oQ69, oQ70, oQ71, oQ72, oQ73, oQ74, oQ75, oQ76, oQ77, oQ78, oQ79, oQ80, oQ81, oQ82, oQ83, oQ84, oQ85, oQ86, oQ87, oQ88, oQ89, oQ90, oQ91, oQ92, oQ93, oQ94, oQ95, oQ96, oQ97, oQ98, oQ99, oQ100, oQ101, oQ102, oQ103, oQ104, oQ105, oQ106, oQ107, oQ108, oQ109, oQ110, oQ111, oQ112, oQ113, oQ114, oQ115, oQ116, oQ117, oQ118, oQ119, oQ120, oQ121, oQ122, oQ123, oQ124, oQ125, oQ126, oQ127, oQ128, oQ129, oQ130, oQ131, oQ132, oQ133, oQ134, oQ135, oQ136, oQ137, oQ138, oQ139, oQ140, oQ141, oQ142, oQ143, oQ144, oQ145, oQ146, oQ147, oQ148, oQ149, oQ150, oQ151, oQ152, oQ153, oQ154, oQ155, oQ156, oQ157, oQ158, oQ159] at q ⊢ <;> try exact q G (Ext.refl G)
    cases a <;> try (exact nomatch (show false = true from c1))
    rename_i cells
    refine ⟨k2.known, ?_⟩
    cases b <;> simp only [exs, ex, ev, evs, evO, evI, evT, evTs, cmpQ, List.getElem?_cons_zero, List.getElem?_cons_succ, List.set_cons_zero, List.set_cons_succ, Option.some.injEq, exists_eq_left', exists_eq_left, exists_eq_right, exists_eq, exists_eq', dwipe, exists_eq_right', D.int.injEq, D.str.injEq, D.bl.injEq, D.tup.injEq, D.ref.injEq, D.rol.injEq, GO.lst.injEq, GO.ins.injEq, GO.dK.injEq, GO.dT.injEq, List.cons.injEq, tgLen, List.length_cons, List.length_nil, List.length_map, List.map_cons, List.map_nil, List.replicate_succ, List.replicate_zero, List.nil_append, List.cons_append, true_and, and_true, if_true, Bool.not_true, Bool.not_false, Bool.false_eq_true, if_false, gup_same, reduceCtorEq, false_and, and_false, exists_false, exists_const, inst_i, inst_b, inst_s, inst_t, atI_0, atI_1, atI_2, atI_3, atI_4, eqNN_nat, ix41, ix42, ix43, gup_gup, and_assoc, exists_and_left, oQ0, oQ1, oQ2, oQ3, oQ4, oQ5, oQ6, oQ7, oQ8, oQ9, oQ10, oQ11, oQ12, oQ13, oQ14, oQ15, oQ16, oQ17, oQ18, oQ19, oQ20, oQ21, oQ22, oQ23, oQ24, oQ25, oQ26, oQ27, oQ28, oQ29, oQ30, oQ31, oQ32, oQ33, oQ34, oQ35, oQ36, oQ37, oQ38, oQ39, oQ40, oQ41, oQ42, oQ43, oQ44, oQ45, oQ46, oQ47, oQ48, oQ49, oQ50, oQ51, oQ52, oQ53, oQ54, oQ55, oQ56, oQ57, oQ58, oQ59, oQ60, oQ61, oQ62, oQ63, oQ64, oQ65, oQ66, oQ67, oQ68, oQ69, oQ70, oQ71, oQ72, oQ73, oQ74, oQ75, oQ76, oQ77, oQ78, oQ79, oQ80, oQ81, oQ82, oQ83, oQ84, oQ85, oQ86, oQ87, oQ88, oQ89, oQ90, oQ91, oQ92, oQ93, oQ94, oQ95, oQ96, oQ97, oQ98, oQ99, oQ100, oQ101, oQ102, oQ103, oQ104, oQ105, oQ106, oQ107, oQ108, oQ109, oQ110, oQ111, oQ112, oQ113, oQ114, oQ115, oQ116, oQ117, oQ118, oQ119, oQ120, oQ121, oQ122, oQ123, oQ124, oQ125, oQ126, oQ127, oQ128, oQ129, oQ130, oQ131, oQ132, oQ133, oQ134, oQ135, oQ136, oQ137, oQ138, oQ139, oQ140, oQ141, oQ142, oQ143, oQ144, oQ145, oQ146, oQ147, oQ148, oQ149, oQ150, oQ151, oQ152, oQ153, oQ154, oQ155, oQ156, oQ157, oQ158, oQ159] at q ⊢ <;> try exact q G (Ext.refl G)
    rename_i ss
    have kss : DKs G ss := by unfold DK at k2; exact k2
    have e6 : decide ((1 : Int) ≤ ss.length) = decide (1 ≤ ss.length) := decide_eq_decide.mpr (by omega)
    have e7 : decide ((ss.length : Int) ≤ 4) = decide (ss.length ≤ 4) := decide_eq_decide.mpr (by omega)
    rw [e6, e7]
    have qf : (∀ G', Ext G G' → Q (.bl false) G') → ∀ G', Ext G G' → Q (.bl false) G' := fun h => h
    cases c2 : decide (1 ≤ ss.length) <;> simp only [c2, Bool.true_and, Bool.false_and, exs, ex, ev, evs, evO, evI, evT, evTs, cmpQ, List.getElem?_cons_zero, List.getElem?_cons_succ, List.set_cons_zero, List.set_cons_succ, Option.some.injEq, exists_eq_left', exists_eq_left, exists_eq_right, exists_eq, exists_eq', dwipe, exists_eq_right', D.int.injEq, D.str.injEq, D.bl.injEq, D.tup.injEq, D.ref.injEq, D.rol.injEq, GO.lst.injEq, GO.ins.injEq, GO.dK.injEq, GO.dT.injEq, List.cons.injEq, tgLen, List.length_cons, List.length_nil, List.length_map, List.map_cons, List.map_nil, List.replicate_succ, List.replicate_zero, List.nil_append, List.cons_append, true_and, and_true, if_true, Bool.not_true, Bool.not_false, Bool.false_eq_true, if_false, gup_same, reduceCtorEq, false_and, and_false, exists_false, exists_const, inst_i, inst_b, inst_s, inst_t, atI_0, atI_1, atI_2, atI_3, atI_4, eqNN_nat, ix41, ix42, ix43, gup_gup, and_assoc, exists_and_left, oQ0, oQ1, oQ2, oQ3, oQ4, oQ5, oQ6, oQ7, oQ8, oQ9, oQ10, oQ11, oQ12, oQ13, oQ14, oQ15, oQ16, oQ17, oQ18, oQ19, oQ20, oQ21, oQ22, oQ23, oQ24, oQ25, oQ26, oQ27, oQ28, oQ29, oQ30, oQ31, oQ32, oQ33, oQ34, oQ35, oQ36, oQ37, oQ38, oQ39, oQ40, oQ41, oQ42, oQ43, oQ44, oQ45, oQ46, oQ47, oQ48, oQ49, oQ50, oQ51, oQ52, oQ53, oQ54, oQ55, oQ56, oQ57, oQ58, oQ59, oQ60, oQ61, oQ62, oQ63, oQ64, oQ65, oQ66, oQ67, oQ68, oQ69, oQ70, oQ71, oQ72, oQ73, oQ74, oQ75, oQ76, oQ77, oQ78, oQ79, oQ80, oQ81, oQ82, oQ83, oQ84, oQ85, oQ86, oQ87, oQ88, oQ89, oQ90, oQ91, oQ92, oQ93, oQ94, oQ95, oQ96, oQ97, oQ98, oQ99, oQ100, oQ101, oQ102, oQ103, oQ104, oQ105, oQ106, oQ107, oQ108, oQ109, oQ110, oQ111, oQ112, oQ113, oQ114, oQ115, oQ116, oQ117, oQ118, oQ119, oQ120, oQ121, oQ122, oQ123, oQ124, oQ125, oQ126, oQ127, oQ128, oQ129, oQ130, oQ131, oQ132, oQ133, oQ134, oQ135, oQ136, oQ137, oQ138, oQ139, oQ140, oQ141, oQ142, oQ143, oQ144, oQ145, oQ146, oQ147, oQ148, oQ149, oQ150, oQ151, oQ152, oQ153, oQ154, oQ155, oQ156, oQ157, oQ158, oQ159] at q ⊢
    · cases c <;> simp only [c2, Bool.false_and] at q <;> exact q G (Ext.refl G)
    cases c3 : decide (ss.length ≤ 4) <;> simp only [c3, Bool.true_and, Bool.false_and, exs, ex, ev, evs, evO, evI, evT, evTs, cmpQ, List.getElem?_cons_zero, List.getElem?_cons_succ, List.set_cons_zero, List.set_cons_succ, Option.some.injEq, exists_eq_left', exists_eq_left, exists_eq_right, exists_eq, exists_eq', dwipe, exists_eq_right', D.int.injEq, D.str.injEq, D.bl.injEq, D.tup.injEq, D.ref.injEq, D.rol.injEq, GO.lst.injEq, GO.ins.injEq, GO.dK.injEq, GO.dT.injEq, List.cons.injEq, tgLen, List.length_cons, List.length_nil, List.length_map, List.map_cons, List.map_nil, List.replicate_succ, List.replicate_zero, List.nil_append, List.cons_append, true_and, and_true, if_true, Bool.not_true, Bool.not_false, Bool.false_eq_true, if_false, gup_same, reduceCtorEq, false_and, and_false, exists_false, exists_const, inst_i, inst_b, inst_s, inst_t, atI_0, atI_1, atI_2, atI_3, atI_4, eqNN_nat, ix41, ix42, ix43, gup_gup, and_assoc, exists_and_left, oQ0, oQ1, oQ2, oQ3, oQ4, oQ5, oQ6, oQ7, oQ8, oQ9, oQ10, oQ11, oQ12, oQ13, oQ14, oQ15, oQ16, oQ17, oQ18, oQ19, oQ20, oQ21, oQ22, oQ23, oQ24, oQ25, oQ26, oQ27, oQ28, oQ29, oQ30, oQ31, oQ32, oQ33, oQ34, oQ35, oQ36, oQ37, oQ38, oQ39, oQ40, oQ41, oQ42, oQ43, oQ44, oQ45, oQ46, oQ47, oQ48, oQ49, oQ50, oQ51, oQ52, oQ53, oQ54, oQ55, oQ56, oQ57, oQ58, oQ59, oQ60, oQ61, oQ62, oQ63, oQ64, oQ65, oQ66, oQ67, oQ68, oQ69, oQ70, oQ71, oQ72, oQ73, oQ74, oQ75, oQ76, oQ77, oQ78, oQ79, oQ80, oQ81, oQ82, oQ83, oQ84, oQ85, oQ86, oQ87, oQ88, oQ89, oQ90, oQ91, oQ92, oQ93, oQ94, oQ95, oQ96, oQ97, oQ98, oQ99, oQ100, oQ101, oQ102, oQ103, oQ104, oQ105, oQ106, oQ107, oQ108, oQ109, oQ110, oQ111, oQ112, oQ113, oQ114, oQ115, oQ116, oQ117, oQ118, oQ119, oQ120, oQ121, oQ122, oQ123, oQ124, oQ125, oQ126, oQ127, oQ128, oQ129, oQ130, oQ131, oQ132, oQ133, oQ134, oQ135, oQ136, oQ137, oQ138, oQ139, oQ140, oQ141, oQ142, oQ143, oQ144, oQ145, oQ146, oQ147, oQ148, oQ149, oQ150, oQ151, oQ152, oQ153, oQ154, oQ155, oQ156, oQ157, oQ158, oQ159] at q ⊢
    · cases c <;> simp only [c2, c3, Bool.true_and, Bool.false_and] at q <;> exact q G (Ext.refl G)
    intro p hp
    have l4 : ss.length ≤ 4 := of_decide_eq_true c3
    refine compL_map (fun d => .bl (isFromD d 1 50)) hp (by rw [sizeLine_eq]; omega) (fun _ _ => trivial) ?_ ?_
    · intro i d G1 hd x K hK
      simp only [exs, ex, ev, evs, evO, evI, evT, evTs, cmpQ, List.getElem?_cons_zero, List.getElem?_cons_succ, List.set_cons_zero, List.set_cons_succ, Option.some.injEq, exists_eq_left', exists_eq_left, exists_eq_right, exists_eq, exists_eq', dwipe, exists_eq_right', D.int.injEq, D.str.injEq, D.bl.injEq, D.tup.injEq, D.ref.injEq, D.rol.injEq, GO.lst.injEq, GO.ins.injEq, GO.dK.injEq, GO.dT.injEq, List.cons.injEq, tgLen, List.length_cons, List.length_nil, List.length_map, List.map_cons, List.map_nil, List.replicate_succ, List.replicate_zero, List.nil_append, List.cons_append, true_and, and_true, if_true, Bool.not_true, Bool.not_false, Bool.false_eq_true, if_false, gup_same, reduceCtorEq, false_and, and_false, exists_false, exists_const, inst_i, inst_b, inst_s, inst_t, atI_0, atI_1, atI_2, atI_3, atI_4, eqNN_nat, ix41, ix42, ix43, gup_gup, and_assoc, exists_and_left, oQ0, oQ1, oQ2, oQ3, oQ4, oQ5, oQ6, oQ7, oQ8, oQ9, oQ10, oQ11, oQ12, oQ13, oQ14, oQ15, oQ16, oQ17, oQ18, oQ19, oQ20, oQ21, oQ22, oQ23, oQ24, oQ25, oQ26, oQ27, oQ28, oQ29, oQ30, oQ31, oQ32, oQ33, oQ34, oQ35, oQ36, oQ37, oQ38, oQ39, oQ40, oQ41, oQ42, oQ43, oQ44, oQ45, oQ46, oQ47, oQ48, oQ49, oQ50, oQ51, oQ52, oQ53, oQ54, oQ55, oQ56, oQ57, oQ58, oQ59, oQ60, oQ61, oQ62, oQ63, oQ64, oQ65, oQ66, oQ67, oQ68, oQ69, oQ70, oQ71, oQ72, oQ73, oQ74, oQ75, oQ76, oQ77, oQ78, oQ79, oQ80, oQ81, oQ82, oQ83, oQ84, oQ85, oQ86, oQ87, oQ88, oQ89, oQ90, oQ91, oQ92, oQ93, oQ94, oQ95, oQ96, oQ97, oQ98, oQ99, oQ100, oQ101, oQ102, oQ103, oQ104, oQ105, oQ106, oQ107, oQ108, oQ109, oQ110, oQ111, oQ112, oQ113, oQ114, oQ115, oQ116, oQ117, oQ118, oQ119, oQ120, oQ121, oQ122, oQ123, oQ124, oQ125, oQ126, oQ127, oQ128, oQ129, oQ130, oQ131, oQ132, oQ133, oQ134, oQ135, oQ136, oQ137, oQ138, oQ139, oQ140, oQ141, oQ142, oQ143, oQ144, oQ145, oQ146, oQ147, oQ148, oQ149, oQ150, oQ151, oQ152, oQ153, oQ154, oQ155, oQ156, oQ157, oQ158, oQ159, dwipe]
      exact ⟨d, 1, 50, rfl, ((kss.mem (List.mem_of_getElem? hd)).ext x).known, hK G1 (Ext.refl G1)⟩
    · intro G1 x1 e1
      refine ⟨ss.map fun d => isFromD d 1 50, by rw [e1, List.map_map]; rfl, ?_⟩
      have ea : (ss.map fun d => isFromD d 1 50).all id = ss.all fun s => isFromD s 1 50 := by simp [List.all_map, Function.comp_def]
      rw [ea]
      cases c4 : (ss.all fun s => isFromD s 1 50) <;> simp only [c4, Bool.true_and, Bool.false_and, exs, ex, ev, evs, evO, evI, evT, evTs, cmpQ, List.getElem?_cons_zero, List.getElem?_cons_succ, List.set_cons_zero, List.set_cons_succ, Option.some.injEq, exists_eq_left', exists_eq_left, exists_eq_right, exists_eq, exists_eq', dwipe, exists_eq_right', D.int.injEq, D.str.injEq, D.bl.injEq, D.tup.injEq, D.ref.injEq, D.rol.injEq, GO.lst.injEq, GO.ins.injEq, GO.dK.injEq, GO.dT.injEq, List.cons.injEq, tgLen, List.length_cons, List.length_nil, List.length_map, List.map_cons, List.map_nil, List.replicate_succ, List.replicate_zero, List.nil_append, List.cons_append, true_and, and_true, if_true, Bool.not_true, Bool.not_false, Bool.false_eq_true, if_false, gup_same, reduceCtorEq, false_and, and_false, exists_false, exists_const, inst_i, inst_b, inst_s, inst_t, atI_0, atI_1, atI_2, atI_3, atI_4, eqNN_nat, ix41, ix42, ix43, gup_gup, and_assoc, exists_and_left, oQ0, oQ1, oQ2, oQ3, oQ4, oQ5, oQ6, oQ7, oQ8, oQ9, oQ10, oQ11, oQ12, oQ13, oQ14, oQ15, oQ16, oQ17, oQ18, oQ19, oQ20, oQ21, oQ22, oQ23, oQ24, oQ25, oQ26, oQ27, oQ28, oQ29, oQ30, oQ31, oQ32, oQ33, oQ34, oQ35, oQ36, oQ37, oQ38, oQ39, oQ40, oQ41, oQ42, oQ43, oQ44, oQ45, oQ46, oQ47, oQ48, oQ49, oQ50, oQ51, oQ52, oQ53, oQ54, oQ55, oQ56, oQ57, oQ58, oQ59, oQ60, oQ61, oQ62, oQ63, oQ64, oQ65, oQ66, oQ67, oQ68, oQ69, oQ70, oQ71, oQ72, oQ73, oQ74, oQ75, oQ76, oQ77, oQ78, oQ79, oQ80, oQ81, oQ82, oQ83, oQ84, oQ85, oQ86, oQ87, oQ88, oQ89, oQ90, oQ91, oQ92, oQ93, oQ94, oQ95, oQ96, oQ97, oQ98, oQ99, oQ100, oQ101, oQ102, oQ103, oQ104, oQ105, oQ106, oQ107, oQ108, oQ109, oQ110, oQ111, oQ112, oQ113, oQ114, oQ115, oQ116, oQ117, oQ118, oQ119, oQ120, oQ121, oQ122, oQ123, oQ124, oQ125, oQ126, oQ127, oQ128, oQ129, oQ130, oQ131, oQ132, oQ133, oQ134, oQ135, oQ136, oQ137, oQ138, oQ139, oQ140, oQ141, oQ142, oQ143, oQ144, oQ145, oQ146, oQ147, oQ148, oQ149, oQ150, oQ151, oQ152, oQ153, oQ154, oQ155, oQ156, oQ157, oQ158, oQ159] at q ⊢
      · cases c <;> simp only [c2, c3, c4, Bool.true_and, Bool.false_and] at q <;> exact q G1 x1
      refine ⟨(k3.ext x1).known, ?_⟩
      cases c <;> simp only [exs, ex, ev, evs, evO, evI, evT, evTs, cmpQ, List.getElem?_cons_zero, List.getElem?_cons_succ, List.set_cons_zero, List.set_cons_succ, Option.some.injEq, exists_eq_left', exists_eq_left, exists_eq_right, exists_eq, exists_eq', dwipe, exists_eq_right', D.int.injEq, D.str.injEq, D.bl.injEq, D.tup.injEq, D.ref.injEq, D.rol.injEq, GO.lst.injEq, GO.ins.injEq, GO.dK.injEq, GO.dT.injEq, List.cons.injEq, tgLen, List.length_cons, List.length_nil, List.length_map, List.map_cons, List.map_nil, List.replicate_succ, List.replicate_zero, List.nil_append, List.cons_append, true_and, and_true, if_true, Bool.not_true, Bool.not_false, Bool.false_eq_true, if_false, gup_same, reduceCtorEq, false_and, and_false, exists_false, exists_const, inst_i, inst_b, inst_s, inst_t, atI_0, atI_1, atI_2, atI_3, atI_4, eqNN_nat, ix41, ix42, ix43, gup_gup, and_assoc, exists_and_left, oQ0, oQ1, oQ2, oQ3, oQ4, oQ5, oQ6, oQ7, oQ8, oQ9, oQ10, oQ11, oQ12, oQ13, oQ14, oQ15, oQ16, oQ17, oQ18, oQ19, oQ20, oQ21, oQ22, oQ23, oQ24, oQ25, oQ26, oQ27, oQ28, oQ29, oQ30, oQ31, oQ32, oQ33, oQ34, oQ35, oQ36, oQ37, oQ38, oQ39, oQ40, oQ41, oQ42, oQ43, oQ44, oQ45, oQ46, oQ47, oQ48, oQ49, oQ50, oQ51, oQ52, oQ53, oQ54, oQ55, oQ56, oQ57, oQ58, oQ59, oQ60, oQ61, oQ62, oQ63, oQ64, oQ65, oQ66, oQ67, oQ68, oQ69, oQ70, oQ71, oQ72, oQ73, oQ74, oQ75, oQ76, oQ77, oQ78, oQ79, oQ80, oQ81, oQ82, oQ83, oQ84, oQ85, oQ86, oQ87, oQ88, oQ89, oQ90, oQ91, oQ92, oQ93, oQ94, oQ95, oQ96, oQ97, oQ98, oQ99, oQ100, oQ101, oQ102, oQ103, oQ104, oQ105, oQ106, oQ107, oQ108, oQ109, oQ110, oQ111, oQ112, oQ113, oQ114, oQ115, oQ116, oQ117, oQ118, oQ119, oQ120, oQ121, oQ122, oQ123, oQ124, oQ125, oQ126, oQ127, oQ128, oQ129, oQ130, oQ131, oQ132, oQ133, oQ134, oQ135, oQ136, oQ137, oQ138, oQ139, oQ140, oQ141, oQ142, oQ143, oQ144, oQ145, oQ146, oQ147, oQ148, oQ149, oQ150, oQ151, oQ152, oQ153, oQ154, oQ155, oQ156, oQ157, oQ158, oQ159] at q ⊢ <;> try exact q G1 x1
      rename_i ws
      have kws : DKs G ws := by unfold DK at k3; exact k3
      have e8 : decide ((8 : Int) < ws.length) = !decide (ws.length ≤ 8) := by
        by_cases z : ws.length ≤ 8
        · rw [decide_eq_true z, decide_eq_false (by omega)]; rfl
        · rw [decide_eq_false z, decide_eq_true (by omega)]; rfl
      rw [e8]
      cases c5 : decide (ws.length ≤ 8) <;> simp only [c2, c3, c4, c5, Bool.true_and, Bool.false_and, exs, ex, ev, evs, evO, evI, evT, evTs, cmpQ, List.getElem?_cons_zero, List.getElem?_cons_succ, List.set_cons_zero, List.set_cons_succ, Option.some.injEq, exists_eq_left', exists_eq_left, exists_eq_right, exists_eq, exists_eq', dwipe, exists_eq_right', D.int.injEq, D.str.injEq, D.bl.injEq, D.tup.injEq, D.ref.injEq, D.rol.injEq, GO.lst.injEq, GO.ins.injEq, GO.dK.injEq, GO.dT.injEq, List.cons.injEq, tgLen, List.length_cons, List.length_nil, List.length_map, List.map_cons, List.map_nil, List.replicate_succ, List.replicate_zero, List.nil_append, List.cons_append, true_and, and_true, if_true, Bool.not_true, Bool.not_false, Bool.false_eq_true, if_false, gup_same, reduceCtorEq, false_and, and_false, exists_false, exists_const, inst_i, inst_b, inst_s, inst_t, atI_0, atI_1, atI_2, atI_3, atI_4, eqNN_nat, ix41, ix42, ix43, gup_gup, and_assoc, exists_and_left, oQ0, oQ1, oQ2, oQ3, oQ4, oQ5, oQ6, oQ7, oQ8, oQ9, oQ10, oQ11, oQ12, oQ13, oQ14, oQ15, oQ16, oQ17, oQ18, oQ19, oQ20, oQ21, oQ22, oQ23, oQ24, oQ25, oQ26, oQ27, oQ28, oQ29, oQ30, oQ31, oQ32, oQ33, oQ34, oQ35, oQ36, oQ37, oQ38, oQ39, oQ40, oQ41, oQ42, oQ43, oQ44, oQ45, oQ46, oQ47, oQ48, oQ49, oQ50, oQ51, oQ52, oQ53, oQ54, oQ55, oQ56, oQ57, oQ58, oQ59, oQ60, oQ61, oQ62, oQ63, oQ64, oQ65, oQ66, oQ67, oQ68, oQ69, oQ70, oQ71, oQ72, oQ73, oQ74, oQ75, oQ76, oQ77, oQ78, oQ79, oQ80, oQ81, oQ82, oQ83, oQ84, oQ85, oQ86, oQ87, oQ88, oQ89, oQ90, oQ91, oQ92, oQ93, oQ94, oQ95, oQ96, oQ97, oQ98, oQ99, oQ100, oQ101, oQ102, oQ103, oQ104, oQ105, oQ106, oQ107, oQ108, oQ109, oQ110, oQ111, oQ112, oQ113, oQ114, oQ115, oQ116, oQ117, oQ118, oQ119, oQ120, oQ121, oQ122, oQ123, oQ124, oQ125, oQ126, oQ127, oQ128, oQ129, oQ130, oQ131, oQ132, oQ133, oQ134, oQ135, oQ136, oQ137, oQ138, oQ139, oQ140, oQ141, oQ142, oQ143, oQ144, oQ145, oQ146, oQ147, oQ148, oQ149, oQ150, oQ151, oQ152, oQ153, oQ154, oQ155, oQ156, oQ157, oQ158, oQ159] at q ⊢
      · exact q G1 x1
      intro p2 hp2
      have l8 : ws.length ≤ 8 := of_decide_eq_true c5
      refine compL_map (fun d => .bl (isWriteD cells ss.length d)) hp2 (by rw [sizeLine_eq]; omega) (fun _ _ => trivial) ?_ ?_
      · intro i d G2 hd x K hK
        simp only [exs, ex, ev, evs, evO, evI, evT, evTs, cmpQ, List.getElem?_cons_zero, List.getElem?_cons_succ, List.set_cons_zero, List.set_cons_succ, Option.some.injEq, exists_eq_left', exists_eq_left, exists_eq_right, exists_eq, exists_eq', dwipe, exists_eq_right', D.int.injEq, D.str.injEq, D.bl.injEq, D.tup.injEq, D.ref.injEq, D.rol.injEq, GO.lst.injEq, GO.ins.injEq, GO.dK.injEq, GO.dT.injEq, List.cons.injEq, tgLen, List.length_cons, List.length_nil, List.length_map, List.map_cons, List.map_nil, List.replicate_succ, List.replicate_zero, List.nil_append, List.cons_append, true_and, and_true, if_true, Bool.not_true, Bool.not_false, Bool.false_eq_true, if_false, gup_same, reduceCtorEq, false_and, and_false, exists_false, exists_const, inst_i, inst_b, inst_s, inst_t, atI_0, atI_1, atI_2, atI_3, atI_4, eqNN_nat, ix41, ix42, ix43, gup_gup, and_assoc, exists_and_left, oQ0, oQ1, oQ2, oQ3, oQ4, oQ5, oQ6, oQ7, oQ8, oQ9, oQ10, oQ11, oQ12, oQ13, oQ14, oQ15, oQ16, oQ17, oQ18, oQ19, oQ20, oQ21, oQ22, oQ23, oQ24, oQ25, oQ26, oQ27, oQ28, oQ29, oQ30, oQ31, oQ32, oQ33, oQ34, oQ35, oQ36, oQ37, oQ38, oQ39, oQ40, oQ41, oQ42, oQ43, oQ44, oQ45, oQ46, oQ47, oQ48, oQ49, oQ50, oQ51, oQ52, oQ53, oQ54, oQ55, oQ56, oQ57, oQ58, oQ59, oQ60, oQ61, oQ62, oQ63, oQ64, oQ65, oQ66, oQ67, oQ68, oQ69, oQ70, oQ71, oQ72, oQ73, oQ74, oQ75, oQ76, oQ77, oQ78, oQ79, oQ80, oQ81, oQ82, oQ83, oQ84, oQ85, oQ86, oQ87, oQ88, oQ89, oQ90, oQ91, oQ92, oQ93, oQ94, oQ95, oQ96, oQ97, oQ98, oQ99, oQ100, oQ101, oQ102, oQ103, oQ104, oQ105, oQ106, oQ107, oQ108, oQ109, oQ110, oQ111, oQ112, oQ113, oQ114, oQ115, oQ116, oQ117, oQ118, oQ119, oQ120, oQ121, oQ122, oQ123, oQ124, oQ125, oQ126, oQ127, oQ128, oQ129, oQ130, oQ131, oQ132, oQ133, oQ134, oQ135, oQ136, oQ137, oQ138, oQ139, oQ140, oQ141, oQ142, oQ143, oQ144, oQ145, oQ146, oQ147, oQ148, oQ149, oQ150, oQ151, oQ152, oQ153, oQ154, oQ155, oQ156, oQ157, oQ158, oQ159, dwipe]
        exact ⟨cells, ss, d, rfl, (kws.mem (List.mem_of_getElem? hd)).ext (x1.trans x), hK G2 (Ext.refl G2)⟩
      · intro G2 x2 e2
        refine ⟨ws.map fun d => isWriteD cells ss.length d, by rw [e2, List.map_map]; rfl, ?_⟩
        have eb : (ws.map fun d => isWriteD cells ss.length d).all id = ws.all (isWriteD cells ss.length) := by simp [List.all_map, Function.comp_def]
        rw [eb]
        exact q G2 (x1.trans x2)
  · have e1 : decide ((xs.length : Int) = 3) = false := by
      apply decide_eq_false; omega
    have e2 : isPlanD (.tup xs) = false := by
      unfold isPlanD
      split
      · rename_i e; cases e; simp at hl
      · rfl
    rw [e2] at q
    simp only [e1, exs, ex, ev, evs, evO, evI, evT, evTs, cmpQ, List.getElem?_cons_zero, List.getElem?_cons_succ, List.set_cons_zero, List.set_cons_succ, Option.some.injEq, exists_eq_left', exists_eq_left, exists_eq_right, exists_eq, exists_eq', dwipe, exists_eq_right', D.int.injEq, D.str.injEq, D.bl.injEq, D.tup.injEq, D.ref.injEq, D.rol.injEq, GO.lst.injEq, GO.ins.injEq, GO.dK.injEq, GO.dT.injEq, List.cons.injEq, tgLen, List.length_cons, List.length_nil, List.length_map, List.map_cons, List.map_nil, List.replicate_succ, List.replicate_zero, List.nil_append, List.cons_append, true_and, and_true, if_true, Bool.not_true, Bool.not_false, Bool.false_eq_true, if_false, gup_same, reduceCtorEq, false_and, and_false, exists_false, exists_const, inst_i, inst_b, inst_s, inst_t, atI_0, atI_1, atI_2, atI_3, atI_4, eqNN_nat, ix41, ix42, ix43, gup_gup, and_assoc, exists_and_left, oQ0, oQ1, oQ2, oQ3, oQ4, oQ5, oQ6, oQ7, oQ8, oQ9, oQ10, oQ11, oQ12, oQ13, oQ14, oQ15, oQ16, oQ17, oQ18, oQ19, oQ20, oQ21, oQ22, oQ23, oQ24, oQ25, oQ26, oQ27, oQ28, oQ29, oQ30, oQ31, oQ32, oQ33, oQ34, oQ35, oQ36, oQ37, oQ38, oQ39, oQ40, oQ41, oQ42, oQ43, oQ44, oQ45, oQ46, oQ47, oQ48, oQ49, oQ50, oQ51, oQ52, oQ53, oQ54, oQ55, oQ56, oQ57, oQ58, oQ59, oQ60, oQ61, oQ62, oQ63, oQ64, oQ65, oQ66, oQ67, oQ68, oQ69, oQ70, oQ71, oQ72, oQ73, oQ74, oQ75, oQ76, oQ77, oQ78, oQ79, oQ80, oQ81, oQ82, oQ83, oQ84, oQ85, oQ86, oQ87, oQ88, oQ89, oQ90, oQ91, oQ92, oQ93, oQ94, oQ95, oQ96, oQ97, oQ98, oQ99, oQ100, oQ101, oQ102, oQ103, oQ104, oQ105, oQ106, oQ107, oQ108, oQ109, oQ110, oQ111, oQ112, oQ113, oQ114, oQ115, oQ116, oQ117, oQ118, oQ119, oQ120, oQ121, oQ122, oQ123, oQ124, oQ125, oQ126, oQ127, oQ128, oQ129, oQ130, oQ131, oQ132, oQ133, oQ134, oQ135, oQ136, oQ137, oQ138, oQ139, oQ140, oQ141, oQ142, oQ143, oQ144, oQ145, oQ146, oQ147, oQ148, oQ149, oQ150, oQ151, oQ152, oQ153, oQ154, oQ155, oQ156, oQ157, oQ158, oQ159]
    exact q G (Ext.refl G)
theorem run_need_plan (h1 : Φ f_is_plan = sp_is_plan) (h : sp_need_plan ds G W Q) : run Φ W N_need_plan.length b_need_plan ds G Q := by
  obtain ⟨v, rfl, kn, q⟩ := h
  simp only [run, N_need_plan, b_need_plan, exs, ex, ev, evs, evO, evI, evT, evTs, cmpQ, List.getElem?_cons_zero, List.getElem?_cons_succ, List.set_cons_zero, List.set_cons_succ, Option.some.injEq, exists_eq_left', exists_eq_left, exists_eq_right, exists_eq, exists_eq', dwipe, exists_eq_right', D.int.injEq, D.str.injEq, D.bl.injEq, D.tup.injEq, D.ref.injEq, D.rol.injEq, GO.lst.injEq, GO.ins.injEq, GO.dK.injEq, GO.dT.injEq, List.cons.injEq, tgLen, List.length_cons, List.length_nil, List.length_map, List.map_cons, List.map_nil, List.replicate_succ, List.replicate_zero, List.nil_append, List.cons_append, true_and, and_true, if_true, Bool.not_true, Bool.not_false, Bool.false_eq_true, if_false, gup_same, reduceCtorEq, false_and, and_false, exists_false, exists_const, inst_i, inst_b, inst_s, inst_t, atI_0, atI_1, atI_2, atI_3, atI_4, eqNN_nat, ix41, ix42, ix43, gup_gup, and_assoc, exists_and_left, oQ0, oQ1, oQ2, oQ3, oQ4, oQ5, oQ6, oQ7, oQ8, oQ9, oQ10, oQ11, oQ12, oQ13, oQ14, oQ15, oQ16, oQ17, oQ18, oQ19, oQ20, oQ21, oQ22, oQ23, oQ24, oQ25, oQ26, oQ27, oQ28, oQ29, oQ30, oQ31, oQ32, oQ33, oQ34, oQ35, oQ36, oQ37, oQ38, oQ39, oQ40, oQ41, oQ42, oQ43, oQ44, oQ45, oQ46, oQ47, oQ48, oQ49, oQ50, oQ51, oQ52, oQ53, oQ54, oQ55, oQ56, oQ57, oQ58, oQ59, oQ60, oQ61, oQ62, oQ63, oQ64, oQ65, oQ66, oQ67, oQ68, oQ69, oQ70, oQ71, oQ72, oQ73, oQ74, oQ75, oQ76, oQ77, oQ78, oQ79, oQ80, oQ81, oQ82, oQ83, oQ84, oQ85, oQ86, oQ87, oQ88, oQ89, oQ90, oQ91, oQ92, oQ93, oQ94, oQ95, oQ96, oQ97, oQ98, oQ99, oQ100, oQ101, oQ102, oQ103, oQ104, oQ105, oQ106, oQ107, oQ108, oQ109, oQ110, oQ111, oQ112, oQ113, oQ114, oQ115, oQ116, oQ117, oQ118, oQ119, oQ120, oQ121, oQ122, oQ123, oQ124, oQ125, oQ126, oQ127, oQ128, oQ129, oQ130, oQ131, oQ132, oQ133, oQ134, oQ135, oQ136, oQ137, oQ138, oQ139, oQ140, oQ141, oQ142, oQ143, oQ144, oQ145, oQ146, oQ147, oQ148, oQ149, oQ150, oQ151, oQ152, oQ153, oQ154, oQ155, oQ156, oQ157, oQ158, oQ159, h1]
  refine ⟨v, rfl, kn, fun G' x => ?_⟩
  have q := q G' x
  cases c : isPlanD v <;> simp only [c, exs, ex, ev, evs, evO, evI, evT, evTs, cmpQ, List.getElem?_cons_zero, List.getElem?_cons_succ, List.set_cons_zero, List.set_cons_succ, Option.some.injEq, exists_eq_left', exists_eq_left, exists_eq_right, exists_eq, exists_eq', dwipe, exists_eq_right', D.int.injEq, D.str.injEq, D.bl.injEq, D.tup.injEq, D.ref.injEq, D.rol.injEq, GO.lst.injEq, GO.ins.injEq, GO.dK.injEq, GO.dT.injEq, List.cons.injEq, tgLen, List.length_cons, List.length_nil, List.length_map, List.map_cons, List.map_nil, List.replicate_succ, List.replicate_zero, List.nil_append, List.cons_append, true_and, and_true, if_true, Bool.not_true, Bool.not_false, Bool.false_eq_true, if_false, gup_same, reduceCtorEq, false_and, and_false, exists_false, exists_const, inst_i, inst_b, inst_s, inst_t, atI_0, atI_1, atI_2, atI_3, atI_4, eqNN_nat, ix41, ix42, ix43, gup_gup, and_assoc, exists_and_left, oQ0, oQ1, oQ2, oQ3, oQ4, oQ5, oQ6, oQ7, oQ8, oQ9, oQ10, oQ11, oQ12, oQ13, oQ14, oQ15, oQ16, oQ17, oQ18, oQ19, oQ20, oQ21, oQ22, oQ23, oQ24, oQ25, oQ26, oQ27, oQ28, oQ29, oQ30, oQ31, oQ32, oQ33, oQ34, oQ35, oQ36, oQ37, oQ38, oQ39, oQ40, oQ41, oQ42, oQ43, oQ44, oQ45, oQ46, oQ47, oQ48, oQ49, oQ50, oQ51, oQ52, oQ53, oQ54, oQ55, oQ56, oQ57, oQ58, oQ59, oQ60, oQ61, oQ62, oQ63, oQ64, oQ65, oQ66, oQ67, oQ68, oQ69, oQ70, oQ71, oQ72, oQ73, oQ74, oQ75, oQ76, oQ77, oQ78, oQ79, oQ80, oQ81, oQ82, oQ83, oQ84, oQ85, oQ86, oQ87, oQ88, oQ89, oQ90, oQ91, oQ92, oQ93, oQ94, oQ95, oQ96, oQ97, oQ98, oQ99, oQ100, oQ101, oQ102, oQ103, oQ104, oQ105, oQ106, oQ107, oQ108, oQ109, oQ110, oQ111, oQ112, oQ113, oQ114, oQ115, oQ116, oQ117, oQ118, oQ119, oQ120, oQ121, oQ122, oQ123, oQ124, oQ125, oQ126, oQ127, oQ128, oQ129, oQ130, oQ131, oQ132, oQ133, oQ134, oQ135, oQ136, oQ137, oQ138, oQ139, oQ140, oQ141, oQ142, oQ143, oQ144, oQ145, oQ146, oQ147, oQ148, oQ149, oQ150, oQ151, oQ152, oQ153, oQ154, oQ155, oQ156, oQ157, oQ158, oQ159] at q ⊢ <;> exact q
end
end Ink
set_option Elab.async false
set_option linter.all false
set_option maxRecDepth 100000
set_option maxHeartbeats 4000000
/-! Ink, part H1: a law's end. -/
namespace Ink
open PySem PySem.Spec PyProof.Rows L2
/-- the script: a list of ints -/
structure Src where
  sd : D
  ns : List Int
/-- the law's argument -/
def SrcAt (G : GH) (S : Src) : Prop := S.sd = .rol (S.ns.map D.int) ∨ ∃ a, S.sd = .ref a ∧ G a = some (.lst (S.ns.map D.int))
/-- the law's promise: True -/
def sp_law : DSp := fun ds G W Q => ∃ S, ds = [S.sd] ∧ SrcAt G S ∧ S.ns.length ≤ 63 ∧ (∀ z ∈ S.ns, Builtin.Int.intBits z ≤ 1048576) ∧ ∀ G', Q (.bl true) G'
theorem law_start {K : PySem.W.Frag} {H : Hp} {a : Addr} {ns : List Int} (hl : ns.length ≤ 63) (hb : ∀ z ∈ ns, Builtin.Int.intBits z ≤ 1048576) (h : SqL K H a (ns.map V.int)) : lift K 1 sp_law [.ref a] H (fun v _ => v = .bl true) (fun _ _ _ => False) := by
  have fin : ∀ {d : D} {G : GH}, Rep K H d (.ref a) → SimG K H G → SrcAt G ⟨d, ns⟩ → lift K 1 sp_law [.ref a] H (fun v _ => v = .bl true) (fun _ _ _ => False) := fun {d G} r s z =>
    ⟨rfl, [d], G, WE0, fun d _ => d = .bl true, .cons r .nil, s, ⟨⟨d, ns⟩, rfl, z, hl, hb, fun _ => rfl⟩, fun d v G' H' r' _ _ e => by subst e; exact r'.blv, BackW.no⟩
  rcases h with (h | ⟨o, h⟩) | h
  · refine fin (d := .ref a) (G := fun b => if b = a then some (.lst (ns.map D.int)) else none) .ref ?_ (.inr ⟨a, rfl, if_pos rfl⟩)
    intro b o e
    by_cases q : b = a
    · subst q
      have e : (if b = b then some (GO.lst (ns.map D.int)) else none) = some o := e
      rw [if_pos rfl] at e
      cases e
      exact ⟨_, h, .ints ns⟩
    · have e : (if b = a then some (GO.lst (ns.map D.int)) else none) = some o := e
      rw [if_neg q] at e; cases e
  · exact fin (d := .rol (ns.map D.int)) (G := fun _ => none) (.rol (.inl ⟨o, h⟩) (.ints ns)) (fun b o e => by cases e) (.inl rfl)
  · exact fin (d := .rol (ns.map D.int)) (G := fun _ => none) (.rol (.inr h) (.ints ns)) (fun b o e => by cases e) (.inl rfl)
theorem facts_all {fa : List He.Fa} {fn : List He.DefD} {K : PySem.W.Frag} (c : He.SaysD fa fn K) : ∀ f ∈ fa, f.ok K = true := by
  have c1 := (He.ba (show ((fa.all fun f => f.ok K) && fn.all fun d => d.ok K) = true from congrArg (fun z : He.AlD => z.1) c)).1
  exact fun f hf => List.all_eq_true.mp c1 f hf
theorem cx_none {P : Program} {w : World} {H : Hp} {s : Shared} {e : Value} {s' : Shared} (h : CX P w [] H s (fun _ _ _ => False) e s') : False := by
  obtain ⟨a, B, H2, cls, d, _, _, _, _, _, _, _, z⟩ := h
  exact z.elim
theorem prg0 {P : Program} {w : World} {K : PySem.W.Frag} {mg : Str → Option Value} {base h : Heap} {Φ : Nat → DSp} {fa : List He.Fa} {nm : FNm} {ar : Nat → Nat} (hf : ∀ f ∈ fa, f.ok K = true) (X : K.In h) (G : h.Ns mainGlobals mg) : Prg P w K mg base Φ 0 fa nm ar ([] : List Nat).contains :=
  ⟨fun i h => by simp at h, hf, ⟨h, X, G⟩⟩
/-- the walk's end: F gives the law's def at every base -/
theorem law_end {l : PySem.W.OpenLaw} {k : Nat} {q : Program} {loose : List Str} {XP : (Str → Option Value) → Heap → Prop} {d : DefRec} {x : Str} {fa : List He.Fa} {fn : List He.DefD} {nn : Nat} (hn : l.most = some 63) (hdf : d.params.defaults = []) (hr : Room k callerA) (hname : d.name = "law")
    (F : ∀ (w : World) (K : PySem.W.Frag) (mg : Str → Option Value) (h : Heap), K.In h → h.Ns mainGlobals mg → He.SaysD fa fn K → mg ("law" : Str) = some (.ref (He.ga K "law")) ∧
      ∃ fd : FuncData, (∀ (s : Shared) (u : Value), BindsTo s fd ⟨[u], []⟩ [(x, u)]) ∧ ∀ base : Heap, FnOk l.prog w K mg base (CX l.prog w) k (He.ga K "law") fd [x] (lift K 1 sp_law)) :
    PySem.W.WalkO q loose XP (He.hookD nn fa fn).says l.row.toRowW d [] (fun f vs => PySem.call f vs) := by
  refine LamX.walk_ofTsE (n := 63) (CX := fun w => CX l.prog w) (x := x) (k := k) hn (by decide) hdf hr ?_ (fun w H s e s' z => cx_none z)
  intro w mg f h Y G hmg
  obtain ⟨K, KX, c⟩ := Y
  obtain ⟨hl, fd, hb, hF⟩ := F w K mg h KX G c
  rw [hname, hl] at hmg
  cases hmg
  exact ⟨K, KX, fd, [], lift K 1 sp_law, fun p hp => (by cases hp), fun p hp => (by cases hp), fun p hp => (by cases hp), hb, fun H a ns h1 h2 _ hS => law_start h1 h2 hS, fun base _ _ _ => hF base⟩
end Ink
set_option Elab.async false
set_option linter.all false
set_option maxRecDepth 100000
set_option maxHeartbeats 4000000
/-! Ink, part R: the laws' draws. -/
namespace Ink
open PySem PySem.Spec PyProof.Rows L2
/-- the script, apart from the row at r -/
def Scr (G : GH) (r : Addr) (S : Src) : Prop := S.sd = .rol (S.ns.map D.int) ∨ ∃ a, S.sd = .ref a ∧ a ≠ r ∧ G a = some (.lst (S.ns.map D.int))
/-- the row of draws stands at r -/
def Row (G : GH) (r : Addr) (S : Src) : Prop := ∃ p s d, Scr G r S ∧ 0 ≤ p ∧ G r = some (.lst [S.sd, .int p, .int s, .int d])
theorem Scr.ext {G G' : GH} {r : Addr} {S : Src} (h : Scr G r S) (e : ExtB r G G') : Scr G' r S := by
  rcases h with h | ⟨a, h1, h2, h3⟩
  · exact .inl h
  · exact .inr ⟨a, h1, h2, e a _ h2 h3⟩
theorem Row.ext {G G' : GH} {r : Addr} {S : Src} (h : Row G r S) (e : Ext G G') : Row G' r S := by
  obtain ⟨p, s, d, h1, h2, h3⟩ := h
  exact ⟨p, s, d, h1.ext e.b, h2, e r _ h3⟩
theorem Row.ne {G : GH} {r p : Addr} {S : Src} (h : Row G r S) (hp : G p = none) : p ≠ r := by
  obtain ⟨_, _, _, _, _, e⟩ := h
  intro q; rw [q, e] at hp; cases hp
/-- the row drawn from -/
structure RowE (r : Addr) (S : Src) (G G' : GH) : Prop where
  ext : ExtB r G G'
  row : Row G' r S
theorem RowE.trans {r : Addr} {S : Src} {G G1 G2 : GH} (a : RowE r S G G1) (b : RowE r S G1 G2) : RowE r S G G2 := ⟨a.ext.trans b.ext, b.row⟩
theorem RowE.none {r : Addr} {S : Src} {G G' : GH} (e : RowE r S G G') {p : Addr} (h : G' p = Option.none) : G p = Option.none := by
  have hne := e.row.ne h
  cases q : G p with
  | none => rfl
  | some o => rw [e.ext p o hne q] at h; cases h
theorem Row.e {r : Addr} {S : Src} {G G' : GH} (h : Row G r S) (e : Ext G G') : RowE r S G G' := ⟨e.b, h.ext e⟩
/-- something that was new is changed -/
theorem RowE.upd {r : Addr} {S : Src} {G G' : GH} (h0 : Row G r S) (e : RowE r S G G') {p : Addr} (hp : G p = Option.none) {o : GO} : RowE r S G (gup G' p o) := by
  refine ⟨ExtB.new hp e.ext, ?_⟩
  have ne := h0.ne hp
  obtain ⟨p', s, d, h1, h2, h3⟩ := e.row
  refine ⟨p', s, d, ?_, h2, by rw [gup_ne (Ne.symm ne)]; exact h3⟩
  rcases h1 with h1 | ⟨a, k1, k2, k3⟩
  · exact .inl h1
  · refine .inr ⟨a, k1, k2, ?_⟩
    have na : a ≠ p := by
      obtain ⟨_, _, _, g1, _, _⟩ := h0
      rcases g1 with g1 | ⟨a', g1, g2, g3⟩
      · rw [g1] at k1; cases k1
      · rw [g1] at k1; cases k1
        exact gne_none g3 hp
    rw [gup_ne na]; exact k3
theorem RowE.add {r : Addr} {S : Src} {G G' : GH} (h0 : Row G r S) (e : RowE r S G G') {p : Addr} (hp : G' p = Option.none) {o : GO} : RowE r S G (gup G' p o) := e.upd h0 (e.none hp)
def sp_law_taken : DSp := fun ds G W Q => ∃ r S many, ds = [.ref r, .int many] ∧ Row G r S ∧ 0 < many ∧ many < 1073741824 ∧ ∀ v G', 0 ≤ v → v < many → RowE r S G G' → Q (.int v) G'
section
variable {Φ : Nat → DSp} {W : WE} {ds : List D} {G : GH} {Q : KD}
theorem scr_len {G : GH} {r : Addr} {S : Src} (h : Scr G r S) {Q : KD} (q : Q (.int S.ns.length) G) : biQ .len [S.sd] G Q := by
  obtain ⟨sd, ns⟩ := S
  simp only at q ⊢
  rcases h with h | ⟨a, h, h2, h3⟩ <;> simp only at h <;> subst h
  · simp only [exs, ex, ev, evs, evO, evI, evT, evTs, cmpQ, List.getElem?_cons_zero, List.getElem?_cons_succ, List.set_cons_zero, List.set_cons_succ, Option.some.injEq, exists_eq_left', exists_eq_left, exists_eq_right, exists_eq, exists_eq', dwipe, exists_eq_right', D.int.injEq, D.str.injEq, D.bl.injEq, D.tup.injEq, D.ref.injEq, D.rol.injEq, GO.lst.injEq, GO.ins.injEq, GO.dK.injEq, GO.dT.injEq, List.cons.injEq, tgLen, List.length_cons, List.length_nil, List.length_map, List.map_cons, List.map_nil, List.replicate_succ, List.replicate_zero, List.nil_append, List.cons_append, true_and, and_true, if_true, Bool.not_true, Bool.not_false, Bool.false_eq_true, if_false, gup_same, reduceCtorEq, false_and, and_false, exists_false, exists_const, inst_i, inst_b, inst_s, inst_t, atI_0, atI_1, atI_2, atI_3, atI_4, eqNN_nat, ix41, ix42, ix43, gup_gup, and_assoc, exists_and_left, oQ0, oQ1, oQ2, oQ3, oQ4, oQ5, oQ6, oQ7, oQ8, oQ9, oQ10, oQ11, oQ12, oQ13, oQ14, oQ15, oQ16, oQ17, oQ18, oQ19, oQ20, oQ21, oQ22, oQ23, oQ24, oQ25, oQ26, oQ27, oQ28, oQ29, oQ30, oQ31, oQ32, oQ33, oQ34, oQ35, oQ36, oQ37, oQ38, oQ39, oQ40, oQ41, oQ42, oQ43, oQ44, oQ45, oQ46, oQ47, oQ48, oQ49, oQ50, oQ51, oQ52, oQ53, oQ54, oQ55, oQ56, oQ57, oQ58, oQ59, oQ60, oQ61, oQ62, oQ63, oQ64, oQ65, oQ66, oQ67, oQ68, oQ69, oQ70, oQ71, oQ72, oQ73, oQ74, oQ75, oQ76, oQ77, oQ78, oQ79, oQ80, oQ81, oQ82, oQ83, oQ84, oQ85, oQ86, oQ87, oQ88, oQ89, oQ90, oQ91, oQ92, oQ93, oQ94, oQ95, oQ96, oQ97, oQ98, oQ99, oQ100, oQ101, oQ102, oQ103, oQ104, oQ105, oQ106, oQ107, oQ108, oQ109, oQ110, oQ111, oQ112, oQ113, oQ114, oQ115, oQ116, oQ117, oQ118, oQ119, oQ120, oQ121, oQ122, oQ123, oQ124, oQ125, oQ126, oQ127, oQ128, oQ129, oQ130, oQ131, oQ132, oQ133, oQ134, oQ135, oQ136, oQ137, oQ138, oQ139, oQ140, oQ141, oQ142, oQ143, oQ144, oQ145, oQ146, oQ147, oQ148, oQ149, oQ150, oQ151, oQ152, oQ153, oQ154, oQ155, oQ156, oQ157, oQ158, oQ159]; exact q
  · simp only [exs, ex, ev, evs, evO, evI, evT, evTs, cmpQ, List.getElem?_cons_zero, List.getElem?_cons_succ, List.set_cons_zero, List.set_cons_succ, Option.some.injEq, exists_eq_left', exists_eq_left, exists_eq_right, exists_eq, exists_eq', dwipe, exists_eq_right', D.int.injEq, D.str.injEq, D.bl.injEq, D.tup.injEq, D.ref.injEq, D.rol.injEq, GO.lst.injEq, GO.ins.injEq, GO.dK.injEq, GO.dT.injEq, List.cons.injEq, tgLen, List.length_cons, List.length_nil, List.length_map, List.map_cons, List.map_nil, List.replicate_succ, List.replicate_zero, List.nil_append, List.cons_append, true_and, and_true, if_true, Bool.not_true, Bool.not_false, Bool.false_eq_true, if_false, gup_same, reduceCtorEq, false_and, and_false, exists_false, exists_const, inst_i, inst_b, inst_s, inst_t, atI_0, atI_1, atI_2, atI_3, atI_4, eqNN_nat, ix41, ix42, ix43, gup_gup, and_assoc, exists_and_left, oQ0, oQ1, oQ2, oQ3, oQ4, oQ5, oQ6, oQ7, oQ8, oQ9, oQ10, oQ11, oQ12, oQ13, oQ14, oQ15, oQ16, oQ17, oQ18, oQ19, oQ20, oQ21, oQ22, oQ23, oQ24, oQ25, oQ26, oQ27, oQ28, oQ29, oQ30, oQ31, oQ32, oQ33, oQ34, oQ35, oQ36, oQ37, oQ38, oQ39, oQ40, oQ41, oQ42, oQ43, oQ44, oQ45, oQ46, oQ47, oQ48, oQ49, oQ50, oQ51, oQ52, oQ53, oQ54, oQ55, oQ56, oQ57, oQ58, oQ59, oQ60, oQ61, oQ62, oQ63, oQ64, oQ65, oQ66, oQ67, oQ68, oQ69, oQ70, oQ71, oQ72, oQ73, oQ74, oQ75, oQ76, oQ77, oQ78, oQ79, oQ80, oQ81, oQ82, oQ83, oQ84, oQ85, oQ86, oQ87, oQ88, oQ89, oQ90, oQ91, oQ92, oQ93, oQ94, oQ95, oQ96, oQ97, oQ98, oQ99, oQ100, oQ101, oQ102, oQ103, oQ104, oQ105, oQ106, oQ107, oQ108, oQ109, oQ110, oQ111, oQ112, oQ113, oQ114, oQ115, oQ116, oQ117, oQ118, oQ119, oQ120, oQ121, oQ122, oQ123, oQ124, oQ125, oQ126, oQ127, oQ128, oQ129, oQ130, oQ131, oQ132, oQ133, oQ134, oQ135, oQ136, oQ137, oQ138, oQ139, oQ140, oQ141, oQ142, oQ143, oQ144, oQ145, oQ146, oQ147, oQ148, oQ149, oQ150, oQ151, oQ152, oQ153, oQ154, oQ155, oQ156, oQ157, oQ158, oQ159]; exact ⟨_, h3, by simpa using q⟩
theorem scr_at {G : GH} {r : Addr} {S : Src} (h : Scr G r S) {i : Int} {n : Int} (e : atI S.ns i = some n) {Q : KD} (q : Q (.int n) G) : subQ S.sd (.int i) G Q := by
  obtain ⟨sd, ns⟩ := S
  simp only at e ⊢
  have e2 : atI (ns.map D.int) i = some (.int n) := by
    unfold atI at e ⊢
    rw [List.length_map]
    cases z : ixN ns.length i with
    | none => rw [z] at e; cases e
    | some j =>
      rw [z] at e
      simp only [Option.bind_some] at e ⊢
      rw [List.getElem?_map, e]; rfl
  rcases h with h | ⟨a, h, h2, h3⟩ <;> simp only at h <;> subst h
  · simp only [exs, ex, ev, evs, evO, evI, evT, evTs, cmpQ, List.getElem?_cons_zero, List.getElem?_cons_succ, List.set_cons_zero, List.set_cons_succ, Option.some.injEq, exists_eq_left', exists_eq_left, exists_eq_right, exists_eq, exists_eq', dwipe, exists_eq_right', D.int.injEq, D.str.injEq, D.bl.injEq, D.tup.injEq, D.ref.injEq, D.rol.injEq, GO.lst.injEq, GO.ins.injEq, GO.dK.injEq, GO.dT.injEq, List.cons.injEq, tgLen, List.length_cons, List.length_nil, List.length_map, List.map_cons, List.map_nil, List.replicate_succ, List.replicate_zero, List.nil_append, List.cons_append, true_and, and_true, if_true, Bool.not_true, Bool.not_false, Bool.false_eq_true, if_false, gup_same, reduceCtorEq, false_and, and_false, exists_false, exists_const, inst_i, inst_b, inst_s, inst_t, atI_0, atI_1, atI_2, atI_3, atI_4, eqNN_nat, ix41, ix42, ix43, gup_gup, and_assoc, exists_and_left, oQ0, oQ1, oQ2, oQ3, oQ4, oQ5, oQ6, oQ7, oQ8, oQ9, oQ10, oQ11, oQ12, oQ13, oQ14, oQ15, oQ16, oQ17, oQ18, oQ19, oQ20, oQ21, oQ22, oQ23, oQ24, oQ25, oQ26, oQ27, oQ28, oQ29, oQ30, oQ31, oQ32, oQ33, oQ34, oQ35, oQ36, oQ37, oQ38, oQ39, oQ40, oQ41, oQ42, oQ43, oQ44, oQ45, oQ46, oQ47, oQ48, oQ49, oQ50, oQ51, oQ52, oQ53, oQ54, oQ55, oQ56, oQ57, oQ58, oQ59, oQ60, oQ61, oQ62, oQ63, oQ64, oQ65, oQ66, oQ67, oQ68, oQ69, oQ70, oQ71, oQ72, oQ73, oQ74, oQ75, oQ76, oQ77, oQ78, oQ79, oQ80, oQ81, oQ82, oQ83, oQ84, oQ85, oQ86, oQ87, oQ88, oQ89, oQ90, oQ91, oQ92, oQ93, oQ94, oQ95, oQ96, oQ97, oQ98, oQ99, oQ100, oQ101, oQ102, oQ103, oQ104, oQ105, oQ106, oQ107, oQ108, oQ109, oQ110, oQ111, oQ112, oQ113, oQ114, oQ115, oQ116, oQ117, oQ118, oQ119, oQ120, oQ121, oQ122, oQ123, oQ124, oQ125, oQ126, oQ127, oQ128, oQ129, oQ130, oQ131, oQ132, oQ133, oQ134, oQ135, oQ136, oQ137, oQ138, oQ139, oQ140, oQ141, oQ142, oQ143, oQ144, oQ145, oQ146, oQ147, oQ148, oQ149, oQ150, oQ151, oQ152, oQ153, oQ154, oQ155, oQ156, oQ157, oQ158, oQ159]; exact ⟨_, e2, q⟩
  · simp only [exs, ex, ev, evs, evO, evI, evT, evTs, cmpQ, List.getElem?_cons_zero, List.getElem?_cons_succ, List.set_cons_zero, List.set_cons_succ, Option.some.injEq, exists_eq_left', exists_eq_left, exists_eq_right, exists_eq, exists_eq', dwipe, exists_eq_right', D.int.injEq, D.str.injEq, D.bl.injEq, D.tup.injEq, D.ref.injEq, D.rol.injEq, GO.lst.injEq, GO.ins.injEq, GO.dK.injEq, GO.dT.injEq, List.cons.injEq, tgLen, List.length_cons, List.length_nil, List.length_map, List.map_cons, List.map_nil, List.replicate_succ, List.replicate_zero, List.nil_append, List.cons_append, true_and, and_true, if_true, Bool.not_true, Bool.not_false, Bool.false_eq_true, if_false, gup_same, reduceCtorEq, false_and, and_false, exists_false, exists_const, inst_i, inst_b, inst_s, inst_t, atI_0, atI_1, atI_2, atI_3, atI_4, eqNN_nat, ix41, ix42, ix43, gup_gup, and_assoc, exists_and_left, oQ0, oQ1, oQ2, oQ3, oQ4, oQ5, oQ6, oQ7, oQ8, oQ9, oQ10, oQ11, oQ12, oQ13, oQ14, oQ15, oQ16, oQ17, oQ18, oQ19, oQ20, oQ21, oQ22, oQ23, oQ24, oQ25, oQ26, oQ27, oQ28, oQ29, oQ30, oQ31, oQ32, oQ33, oQ34, oQ35, oQ36, oQ37, oQ38, oQ39, oQ40, oQ41, oQ42, oQ43, oQ44, oQ45, oQ46, oQ47, oQ48, oQ49, oQ50, oQ51, oQ52, oQ53, oQ54, oQ55, oQ56, oQ57, oQ58, oQ59, oQ60, oQ61, oQ62, oQ63, oQ64, oQ65, oQ66, oQ67, oQ68, oQ69, oQ70, oQ71, oQ72, oQ73, oQ74, oQ75, oQ76, oQ77, oQ78, oQ79, oQ80, oQ81, oQ82, oQ83, oQ84, oQ85, oQ86, oQ87, oQ88, oQ89, oQ90, oQ91, oQ92, oQ93, oQ94, oQ95, oQ96, oQ97, oQ98, oQ99, oQ100, oQ101, oQ102, oQ103, oQ104, oQ105, oQ106, oQ107, oQ108, oQ109, oQ110, oQ111, oQ112, oQ113, oQ114, oQ115, oQ116, oQ117, oQ118, oQ119, oQ120, oQ121, oQ122, oQ123, oQ124, oQ125, oQ126, oQ127, oQ128, oQ129, oQ130, oQ131, oQ132, oQ133, oQ134, oQ135, oQ136, oQ137, oQ138, oQ139, oQ140, oQ141, oQ142, oQ143, oQ144, oQ145, oQ146, oQ147, oQ148, oQ149, oQ150, oQ151, oQ152, oQ153, oQ154, oQ155, oQ156, oQ157, oQ158, oQ159]; exact ⟨_, h3, _, e2, q⟩
theorem atI_ok {ns : List Int} {i : Int} (h0 : 0 ≤ i) (h1 : i < ns.length) : ∃ n, atI ns i = some n := by
  unfold atI ixN
  rw [if_pos h0, if_pos h1]
  simp only [Option.bind_some]
  exact ⟨_, List.getElem?_eq_getElem (by omega)⟩
theorem ix4 {j : Nat} (h : j < 4) : ixN 4 (j : Int) = some j := by
  unfold ixN
  rw [if_pos (by omega), if_pos (by omega)]
  simp
theorem run_law_taken (h : sp_law_taken ds G W Q) : run Φ W N_law_taken.length b_law_taken ds G Q := by
  obtain ⟨r, S, many, rfl, ⟨p, s, d, hs, hp, hr⟩, hm, hm2, q⟩ := h
  have ro : ∀ {p' s' d' : Int}, 0 ≤ p' → RowE r S G (gup G r (.lst [S.sd, .int p', .int s', .int d'])) := fun {p' s' d'} h => ⟨ExtB.set, p', s', d', hs.ext ExtB.set, h, gup_same⟩
  simp only [run, N_law_taken, b_law_taken, exs, ex, ev, evs, evO, evI, evT, evTs, cmpQ, List.getElem?_cons_zero, List.getElem?_cons_succ, List.set_cons_zero, List.set_cons_succ, Option.some.injEq, exists_eq_left', exists_eq_left, exists_eq_right, exists_eq, exists_eq', dwipe, exists_eq_right', D.int.injEq, D.str.injEq, D.bl.injEq, D.tup.injEq, D.ref.injEq, D.rol.injEq, GO.lst.injEq, GO.ins.injEq, GO.dK.injEq, GO.dT.injEq, List.cons.injEq, tgLen, List.length_cons, List.length_nil, List.length_map, List.map_cons, List.map_nil, List.replicate_succ, List.replicate_zero, List.nil_append, List.cons_append, true_and, and_true, if_true, Bool.not_true, Bool.not_false, Bool.false_eq_true, if_false, gup_same, reduceCtorEq, false_and, and_false, exists_false, exists_const, inst_i, inst_b, inst_s, inst_t, atI_0, atI_1, atI_2, atI_3, atI_4, eqNN_nat, ix41, ix42, ix43, gup_gup, and_assoc, exists_and_left, oQ0, oQ1, oQ2, oQ3, oQ4, oQ5, oQ6, oQ7, oQ8, oQ9, oQ10, oQ11, oQ12, oQ13, oQ14, oQ15, oQ16, oQ17, oQ18, oQ19, oQ20, oQ21, oQ22, oQ23, oQ24, oQ25, oQ26, oQ27, oQ28, oQ29, oQ30, oQ31, oQ32, oQ33, oQ34, oQ35, oQ36, oQ37, oQ38, oQ39, oQ40, oQ41, oQ42, oQ43, oQ44, oQ45, oQ46, oQ47, oQ48, oQ49, oQ50, oQ51, oQ52, oQ53, oQ54, oQ55, oQ56, oQ57, oQ58, oQ59, oQ60, oQ61, oQ62, oQ63, oQ64, oQ65, oQ66, oQ67, oQ68, oQ69, oQ70, oQ71, oQ72, oQ73, oQ74, oQ75, oQ76, oQ77, oQ78, oQ79, oQ80, oQ81, oQ82, oQ83, oQ84, oQ85, oQ86, oQ87, oQ88, oQ89, oQ90, oQ91, oQ92, oQ93, oQ94, oQ95, oQ96, oQ97, oQ98, oQ99, oQ100, oQ101, oQ102, oQ103, oQ104, oQ105, oQ106, oQ107, oQ108, oQ109, oQ110, oQ111, oQ112, oQ113, oQ114, oQ115, oQ116, oQ117, oQ118, oQ119, oQ120, oQ121, oQ122, oQ123, oQ124, oQ125, oQ126, oQ127, oQ128, oQ129, oQ130, oQ131, oQ132, oQ133, oQ134, oQ135, oQ136, oQ137, oQ138, oQ139, oQ140, oQ141, oQ142, oQ143, oQ144, oQ145, oQ146, oQ147, oQ148, oQ149, oQ150, oQ151, oQ152, oQ153, oQ154, oQ155, oQ156, oQ157, oQ158, oQ159, hr]
  by_cases hd : 0 < d
  · rw [if_pos (decide_eq_true hd)]
    exact ⟨hm, ⟨hm, hm2⟩, q _ _ (Int.emod_nonneg _ (by omega)) (Int.emod_lt_of_pos _ hm) (ro hp)⟩
  · rw [if_neg (by simpa using hd)]
    refine scr_len (hs.ext ExtB.set) ?_
    simp only [exs, ex, ev, evs, evO, evI, evT, evTs, cmpQ, List.getElem?_cons_zero, List.getElem?_cons_succ, List.set_cons_zero, List.set_cons_succ, Option.some.injEq, exists_eq_left', exists_eq_left, exists_eq_right, exists_eq, exists_eq', dwipe, exists_eq_right', D.int.injEq, D.str.injEq, D.bl.injEq, D.tup.injEq, D.ref.injEq, D.rol.injEq, GO.lst.injEq, GO.ins.injEq, GO.dK.injEq, GO.dT.injEq, List.cons.injEq, tgLen, List.length_cons, List.length_nil, List.length_map, List.map_cons, List.map_nil, List.replicate_succ, List.replicate_zero, List.nil_append, List.cons_append, true_and, and_true, if_true, Bool.not_true, Bool.not_false, Bool.false_eq_true, if_false, gup_same, reduceCtorEq, false_and, and_false, exists_false, exists_const, inst_i, inst_b, inst_s, inst_t, atI_0, atI_1, atI_2, atI_3, atI_4, eqNN_nat, ix41, ix42, ix43, gup_gup, and_assoc, exists_and_left, oQ0, oQ1, oQ2, oQ3, oQ4, oQ5, oQ6, oQ7, oQ8, oQ9, oQ10, oQ11, oQ12, oQ13, oQ14, oQ15, oQ16, oQ17, oQ18, oQ19, oQ20, oQ21, oQ22, oQ23, oQ24, oQ25, oQ26, oQ27, oQ28, oQ29, oQ30, oQ31, oQ32, oQ33, oQ34, oQ35, oQ36, oQ37, oQ38, oQ39, oQ40, oQ41, oQ42, oQ43, oQ44, oQ45, oQ46, oQ47, oQ48, oQ49, oQ50, oQ51, oQ52, oQ53, oQ54, oQ55, oQ56, oQ57, oQ58, oQ59, oQ60, oQ61, oQ62, oQ63, oQ64, oQ65, oQ66, oQ67, oQ68, oQ69, oQ70, oQ71, oQ72, oQ73, oQ74, oQ75, oQ76, oQ77, oQ78, oQ79, oQ80, oQ81, oQ82, oQ83, oQ84, oQ85, oQ86, oQ87, oQ88, oQ89, oQ90, oQ91, oQ92, oQ93, oQ94, oQ95, oQ96, oQ97, oQ98, oQ99, oQ100, oQ101, oQ102, oQ103, oQ104, oQ105, oQ106, oQ107, oQ108, oQ109, oQ110, oQ111, oQ112, oQ113, oQ114, oQ115, oQ116, oQ117, oQ118, oQ119, oQ120, oQ121, oQ122, oQ123, oQ124, oQ125, oQ126, oQ127, oQ128, oQ129, oQ130, oQ131, oQ132, oQ133, oQ134, oQ135, oQ136, oQ137, oQ138, oQ139, oQ140, oQ141, oQ142, oQ143, oQ144, oQ145, oQ146, oQ147, oQ148, oQ149, oQ150, oQ151, oQ152, oQ153, oQ154, oQ155, oQ156, oQ157, oQ158, oQ159]
    by_cases hl : (S.ns.length : Int) < p + 1
    · rw [if_pos (decide_eq_true hl)]
      refine ⟨.inr (by omega), by omega, ⟨by omega, by omega⟩, hm, ?_⟩
      exact q _ _ (Int.emod_nonneg _ (by omega)) (Int.emod_lt_of_pos _ hm) (ro (by omega))
    · rw [if_neg (by simpa using hl)]
      obtain ⟨n, en⟩ := atI_ok (ns := S.ns) (i := p + 1 - 1) (by omega) (by omega)
      refine scr_at (hs.ext ExtB.set) en ?_
      simp only [exs, ex, ev, evs, evO, evI, evT, evTs, cmpQ, List.getElem?_cons_zero, List.getElem?_cons_succ, List.set_cons_zero, List.set_cons_succ, Option.some.injEq, exists_eq_left', exists_eq_left, exists_eq_right, exists_eq, exists_eq', dwipe, exists_eq_right', D.int.injEq, D.str.injEq, D.bl.injEq, D.tup.injEq, D.ref.injEq, D.rol.injEq, GO.lst.injEq, GO.ins.injEq, GO.dK.injEq, GO.dT.injEq, List.cons.injEq, tgLen, List.length_cons, List.length_nil, List.length_map, List.map_cons, List.map_nil, List.replicate_succ, List.replicate_zero, List.nil_append, List.cons_append, true_and, and_true, if_true, Bool.not_true, Bool.not_false, Bool.false_eq_true, if_false, gup_same, reduceCtorEq, false_and, and_false, exists_false, exists_const, inst_i, inst_b, inst_s, inst_t, atI_0, atI_1, atI_2, atI_3, atI_4, eqNN_nat, ix41, ix42, ix43, gup_gup, and_assoc, exists_and_left, oQ0, oQ1, oQ2, oQ3, oQ4, oQ5, oQ6, oQ7, oQ8, oQ9, oQ10, oQ11, oQ12, oQ13, oQ14, oQ15, oQ16, oQ17, oQ18, oQ19, oQ20, oQ21, oQ22, oQ23, oQ24, oQ25, oQ26, oQ27, oQ28, oQ29, oQ30, oQ31, oQ32, oQ33, oQ34, oQ35, oQ36, oQ37, oQ38, oQ39, oQ40, oQ41, oQ42, oQ43, oQ44, oQ45, oQ46, oQ47, oQ48, oQ49, oQ50, oQ51, oQ52, oQ53, oQ54, oQ55, oQ56, oQ57, oQ58, oQ59, oQ60, oQ61, oQ62, oQ63, oQ64, oQ65, oQ66, oQ67, oQ68, oQ69, oQ70, oQ71, oQ72, oQ73, oQ74, oQ75, oQ76, oQ77, oQ78, oQ79, oQ80, oQ81, oQ82, oQ83, oQ84, oQ85, oQ86, oQ87, oQ88, oQ89, oQ90, oQ91, oQ92, oQ93, oQ94, oQ95, oQ96, oQ97, oQ98, oQ99, oQ100, oQ101, oQ102, oQ103, oQ104, oQ105, oQ106, oQ107, oQ108, oQ109, oQ110, oQ111, oQ112, oQ113, oQ114, oQ115, oQ116, oQ117, oQ118, oQ119, oQ120, oQ121, oQ122, oQ123, oQ124, oQ125, oQ126, oQ127, oQ128, oQ129, oQ130, oQ131, oQ132, oQ133, oQ134, oQ135, oQ136, oQ137, oQ138, oQ139, oQ140, oQ141, oQ142, oQ143, oQ144, oQ145, oQ146, oQ147, oQ148, oQ149, oQ150, oQ151, oQ152, oQ153, oQ154, oQ155, oQ156, oQ157, oQ158, oQ159]
      refine ⟨.inr (by omega), by omega, ⟨by omega, by omega, by decide⟩, ?_⟩
      by_cases hb : (10 : Int) ^ (18 : Int).toNat ≤ n
      · rw [if_pos (decide_eq_true hb)]
        exact ⟨⟨hm, hm2⟩, hm, q _ _ (Int.emod_nonneg _ (by omega)) (Int.emod_lt_of_pos _ hm) (ro (by omega))⟩
      · rw [if_neg (by simpa using hb)]
        exact ⟨hm, q _ _ (Int.emod_nonneg _ (by omega)) (Int.emod_lt_of_pos _ hm) (ro (by omega))⟩
end
end Ink
set_option Elab.async false
set_option linter.all false
set_option maxRecDepth 100000
set_option maxHeartbeats 4000000
/-! Ink, part S: plans as records; ticks, what is seen. -/
namespace Ink
open PySem PySem.Spec PyProof.Rows L2
structure Wr where
  cell : Int
  sign : Str
  ink : Int
  lo : Int
  hi : Int
structure Pl where
  cells : Int
  stays : List Int
  writes : List Wr
def Wr.d (w : Wr) : D := .tup [.int w.cell, .str w.sign, .int w.ink, .int w.lo, .int w.hi]
def Pl.d (p : Pl) : D := .tup [.int p.cells, .tup (p.stays.map D.int), .tup (p.writes.map Wr.d)]
structure Wr.Ok (p : Pl) (w : Wr) : Prop where
  c0 : 0 ≤ w.cell
  c1 : w.cell < p.cells
  sl : w.sign.length = 1
  si : inSigns w.sign = true
  i0 : 0 ≤ w.ink
  i1 : w.ink < p.stays.length
  l0 : 0 ≤ w.lo
  lh : w.lo ≤ w.hi
  h5 : w.hi ≤ 50
structure Pl.Ok (p : Pl) : Prop where
  c1 : 1 ≤ p.cells
  c4 : p.cells ≤ 4
  s1 : 1 ≤ p.stays.length
  s4 : p.stays.length ≤ 4
  st : ∀ s ∈ p.stays, 1 ≤ s ∧ s ≤ 50
  w8 : p.writes.length ≤ 8
  wr : ∀ w ∈ p.writes, w.Ok p
theorem Pl.Ok.plan {p : Pl} (h : p.Ok) : isPlanD p.d = true := by
  have h1 : (List.map D.int p.stays).all (fun s => isFromD s 1 50) = true := by
    simp only [List.all_map, List.all_eq_true, Function.comp_def, isFromD]
    intro s hs
    have := h.st s hs
    simp [this]
  have h2 : (List.map Wr.d p.writes).all (isWriteD p.cells ↑(List.map D.int p.stays).length) = true := by
    simp only [List.all_map, List.all_eq_true, Function.comp_def, List.length_map]
    intro w hw
    have o := h.wr w hw
    have a1 := o.c0; have a2 := o.c1; have a3 := o.i0; have a4 := o.i1; have a5 := o.l0; have a6 := o.lh; have a7 := o.h5
    have b1 : w.cell ≤ p.cells - 1 := by omega
    have b2 : w.ink ≤ (p.stays.length : Int) - 1 := by omega
    have b3 : w.lo ≤ 50 := by omega
    simp only [Wr.d, isWriteD, isFromD, isSignD, o.sl, o.si]
    simp [a1, a3, a5, a6, a7, b1, b2, b3]
  simp only [Pl.d, isPlanD, isFromD, h1, h2]
  have := h.c1; have := h.c4; have := h.s1; have := h.s4; have := h.w8; have := h.st
  simp [*]
  exact h.st
theorem isFromD_inv {v : D} {lo hi : Int} (h : isFromD v lo hi = true) : ∃ i, v = .int i ∧ lo ≤ i ∧ i ≤ hi := by
  cases v <;> try (exact nomatch (show false = true from h))
  rename_i i
  simp only [isFromD, Bool.and_eq_true, decide_eq_true_eq] at h
  exact ⟨i, rfl, h.1, h.2⟩
theorem isSignD_inv {v : D} (h : isSignD v = true) : ∃ x, v = .str x ∧ x.length = 1 ∧ inSigns x = true := by
  cases v <;> try (exact nomatch (show false = true from h))
  rename_i x
  simp only [isSignD, Bool.and_eq_true, decide_eq_true_eq] at h
  exact ⟨x, rfl, h.1, h.2⟩
theorem isWriteD_inv {cells n : Int} {v : D} (h : isWriteD cells n v = true) : ∃ w : Wr, v = w.d ∧ 0 ≤ w.cell ∧ w.cell < cells ∧ w.sign.length = 1 ∧ inSigns w.sign = true ∧ 0 ≤ w.ink ∧ w.ink < n ∧ 0 ≤ w.lo ∧ w.lo ≤ w.hi ∧ w.hi ≤ 50 := by
  unfold isWriteD at h
  split at h
  · rename_i a b c d e
    simp only [Bool.and_eq_true] at h
    obtain ⟨h1, h2, h3, h4, h5⟩ := h
    obtain ⟨a, rfl, a1, a2⟩ := isFromD_inv h1
    obtain ⟨b, rfl, b1, b2⟩ := isSignD_inv h2
    obtain ⟨c, rfl, c1, c2⟩ := isFromD_inv h3
    obtain ⟨d, rfl, d1, d2⟩ := isFromD_inv h4
    obtain ⟨e, rfl, e1, e2⟩ := isFromD_inv h5
    exact ⟨⟨a, b, c, d, e⟩, rfl, a1, by show a < cells; omega, b1, b2, c1, by show c < n; omega, d1, e1, e2⟩
  · cases h
theorem all_inv {α β : Type} {f : α → β} {P : β → Prop} {c : β → Bool} (h : ∀ b, c b = true → ∃ a, b = f a) : ∀ {l : List β}, l.all c = true → ∃ l' : List α, l = l'.map f
  | [], _ => ⟨[], rfl⟩
  | b :: l, q => by
    simp only [List.all_cons, Bool.and_eq_true] at q
    obtain ⟨a, e⟩ := h b q.1
    obtain ⟨l', e'⟩ := all_inv (P := P) h q.2
    exact ⟨a :: l', by rw [e, e']; rfl⟩
theorem plan_inv {v : D} (h : isPlanD v = true) : ∃ p : Pl, v = p.d ∧ p.Ok := by
  unfold isPlanD at h
  split at h
  · rename_i a b c
    simp only [Bool.and_eq_true] at h
    obtain ⟨h1, h2⟩ := h
    split at h2
    · rename_i c ss ws
      simp only [Bool.and_eq_true, decide_eq_true_eq] at h2
      obtain ⟨h3, h4, h5, h6, h7⟩ := h2
      obtain ⟨c', e, c1, c2⟩ := isFromD_inv h1
      cases e
      obtain ⟨ss', rfl⟩ := all_inv (f := D.int) (P := fun _ => True) (fun b hb => let ⟨i, e, _⟩ := isFromD_inv hb; ⟨i, e⟩) h5
      obtain ⟨ws', rfl⟩ := all_inv (f := Wr.d) (P := fun _ => True) (fun b hb => let ⟨w, e, _⟩ := isWriteD_inv hb; ⟨w, e⟩) h7
      refine ⟨⟨c, ss', ws'⟩, rfl, c1, c2, by simpa using h3, by simpa using h4, ?_, by simpa using h6, ?_⟩
      · intro s hs
        have := List.all_eq_true.mp h5 (.int s) (List.mem_map.mpr ⟨s, hs, rfl⟩)
        simpa [isFromD] using this
      · intro w hw
        have := List.all_eq_true.mp h7 w.d (List.mem_map.mpr ⟨w, hw, rfl⟩)
        obtain ⟨w', e, a1, a2, a3, a4, a5, a6, a7, a8, a9⟩ := isWriteD_inv this
        have ew : w = w' := by
          simp only [Wr.d, D.tup.injEq, List.cons.injEq, D.int.injEq, D.str.injEq, and_true] at e
          cases w; cases w'
          simp only at e
          obtain ⟨e1, e2, e3, e4, e5⟩ := e
          subst e1 e2 e3 e4 e5
          rfl
        subst ew
        exact ⟨a1, a2, a3, a4, a5, by simpa using a6, a7, a8, a9⟩
    · cases h2
  · cases h
theorem DKs.ints {G : GH} (ns : List Int) : DKs G (ns.map D.int) := .of fun d h => by
  obtain ⟨n, _, rfl⟩ := List.mem_map.mp h
  unfold DK; trivial
theorem Pl.Ok.dk {p : Pl} (h : p.Ok) (G : GH) : DK G p.d := by
  unfold Pl.d DK
  refine .of fun d hd => ?_
  simp only [List.mem_cons, List.not_mem_nil, or_false] at hd
  rcases hd with rfl | rfl | rfl
  · unfold DK; trivial
  · unfold DK; exact .ints _
  · unfold DK
    refine .of fun d hd => ?_
    obtain ⟨w, hw, rfl⟩ := List.mem_map.mp hd
    unfold Wr.d DK
    refine .of fun d hd => ?_
    simp only [List.mem_cons, List.not_mem_nil, or_false] at hd
    rcases hd with rfl | rfl | rfl | rfl | rfl <;> unfold DK <;> first | trivial | (rw [(h.wr w hw).sl, sizeLine_eq]; omega)
/-- a list or a tuple -/
def IsSeq (G : GH) (v : D) (xs : List D) : Prop := v = .tup xs ∨ ∃ a, v = .ref a ∧ G a = some (.lst xs)
theorem IsSeq.ext {G G' : GH} {v : D} {xs : List D} (h : IsSeq G v xs) (e : Ext G G') : IsSeq G' v xs := by
  rcases h with h | ⟨a, h1, h2⟩
  · exact .inl h
  · exact .inr ⟨a, h1, e a _ h2⟩
theorem IsSeq.j {G : GH} {v : D} {xs : List D} (h : IsSeq G v xs) {I : List D → (GH → Prop) → GH → Prop} (q : ∀ ok, (∀ G', Ext G G' → ok G') → I xs ok G) : seqJ v G I := by
  rcases h with rfl | ⟨a, rfl, h2⟩
  · exact q _ fun _ _ => trivial
  · exact ⟨xs, h2, q _ fun G' e => e a _ h2⟩
theorem IsSeq.i {G : GH} {v : D} {xs : List D} (h : IsSeq G v xs) {I : List D → (GH → Prop) → GH → Prop} (q : ∀ ok, (∀ G', Ext G G' → ok G') → I xs ok G) : seqI v G I := by
  rcases h with rfl | ⟨a, rfl, h2⟩
  · exact q _ fun _ _ => trivial
  · exact ⟨xs, h2, q _ fun G' e => e a _ h2⟩
theorem IsSeq.j1 {G G1 : GH} {v : D} {xs : List D} (h : IsSeq G v xs) (x : Ext G G1) {I : List D → (GH → Prop) → GH → Prop} (q : ∀ ok, (∀ G', Ext G G' → ok G') → I xs ok G1) : seqJ v G1 I := by
  rcases h with rfl | ⟨a, rfl, h2⟩
  · exact q _ fun _ _ => trivial
  · exact ⟨xs, x a _ h2, q _ fun G' e => e a _ h2⟩
theorem IsSeq.i1 {G G1 : GH} {v : D} {xs : List D} (h : IsSeq G v xs) (x : Ext G G1) {I : List D → (GH → Prop) → GH → Prop} (q : ∀ ok, (∀ G', Ext G G' → ok G') → I xs ok G1) : seqI v G1 I := by
  rcases h with rfl | ⟨a, rfl, h2⟩
  · exact q _ fun _ _ => trivial
  · exact ⟨xs, x a _ h2, q _ fun G' e => e a _ h2⟩
theorem IsSeq.len {G : GH} {v : D} {xs : List D} (h : IsSeq G v xs) {Q : KD} (q : Q (.int xs.length) G) : biQ .len [v] G Q := by
  rcases h with rfl | ⟨a, rfl, h2⟩
  · exact q
  · exact ⟨xs, h2, q⟩
theorem IsSeq.at {G : GH} {v : D} {xs : List D} (h : IsSeq G v xs) {i : Int} {d : D} (e : atI xs i = some d) {Q : KD} (q : Q d G) : subQ v (.int i) G Q := by
  rcases h with rfl | ⟨a, rfl, h2⟩
  · exact ⟨d, e, q⟩
  · exact ⟨xs, d, h2, e, q⟩
theorem atI_nat {α : Type} {xs : List α} {i : Int} {j : Nat} {d : α} (h : i = j) (e : xs[j]? = some d) : atI xs i = some d := by
  have hl := (List.getElem?_eq_some_iff.mp e).1
  unfold atI ixN
  rw [h, if_pos (by omega), if_pos (by omega)]
  simpa using e
theorem IsSeq.pl {G : GH} {xs : List D} : IsSeq G (.tup xs) xs := .inl rfl
/-! ### paces, ticks -/
def isPaceD (p : Pl) : D → Bool
  | .tup xs => decide (xs.length = p.writes.length) && (List.zip xs p.writes).all fun q => isFromD q.1 q.2.lo q.2.hi
  | _ => false
def PaceOk (p : Pl) (rs : List Int) : Prop := rs.length = p.writes.length ∧ ∀ q ∈ List.zip rs p.writes, q.2.lo ≤ q.1 ∧ q.1 ≤ q.2.hi
theorem PaceOk.pace {p : Pl} {rs : List Int} (h : PaceOk p rs) : isPaceD p (.tup (rs.map D.int)) = true := by
  simp only [isPaceD, List.length_map, h.1, decide_true, Bool.true_and, List.all_eq_true]
  intro q hq
  rw [List.zip_map_left] at hq
  obtain ⟨q', h', rfl⟩ := List.mem_map.mp hq
  have := h.2 q' h'
  simp [isFromD, this]
def ticksL : Int → List Int → List Int
  | _, [] => []
  | t, r :: rs => (t + r) :: ticksL (t + r) rs
theorem ticksL_len : ∀ (t : Int) (rs : List Int), (ticksL t rs).length = rs.length
  | _, [] => rfl
  | t, r :: rs => by simp [ticksL, ticksL_len (t + r) rs]
def stayOf (p : Pl) (w : Wr) : Int := p.stays.getD w.ink.toNat 0
def seenS (p : Pl) (ts : List Int) (cell tick : Int) : Str := (List.zip p.writes ts).foldl (fun f q => if q.1.cell = cell ∧ q.2 ≤ tick ∧ tick < q.2 + stayOf p q.1 then q.1.sign else f) "."
def cellsL (n : Int) : List Int := (List.range n.toNat).map fun i : Nat => (i : Int)
def boardS (p : Pl) (ts : List Int) (tick : Int) : Str := Txt.join "" ((cellsL p.cells).map fun c => seenS p ts c tick)
def storyS (p : Pl) (ts : List Int) (cell last : Int) : Str := Txt.join "" ((cellsL (last + 1)).map fun t => seenS p ts cell t)
def sp_is_pace : DSp := fun ds G W Q => ∃ p v, ds = [p.d, v] ∧ Pl.Ok p ∧ DK G v ∧ ∀ G', Ext G G' → Q (.bl (isPaceD p v)) G'
def sp_need_pace : DSp := fun ds G W Q => ∃ p v, ds = [p.d, v] ∧ Pl.Ok p ∧ DK G v ∧ ∀ G', Ext G G' → if isPaceD p v = true then Q .non G' else W ⟨"BadPace", []⟩ G'
def sp_ticks_of : DSp := fun ds G W Q => ∃ rs : List Int, ds = [.tup (rs.map D.int)] ∧ rs.length ≤ 1000 ∧ ∀ a G', G a = none → Ext G G' → G' a = some (.lst ((ticksL 0 rs).map D.int)) → Q (.ref a) G'
def sp_ticks : DSp := fun ds G W Q => ∃ v u, ds = [v, u] ∧ DK G v ∧ DK G u ∧ ∀ G', Ext G G' → (isPlanD v = false → W ⟨"BadPlan", []⟩ G') ∧ ∀ p, v = p.d → Pl.Ok p → (isPaceD p u = false → W ⟨"BadPace", []⟩ G') ∧ ∀ rs, u = .tup (rs.map D.int) → PaceOk p rs → Q (.tup ((ticksL 0 rs).map D.int)) G'
def sp_need_cell : DSp := fun ds G W Q => ∃ p v, ds = [p.d, v] ∧ Pl.Ok p ∧ known G v ∧ if isFromD v 0 (p.cells - 1) = true then Q .non G else W ⟨"NoCell", []⟩ G
def sp_need_tick : DSp := fun ds G W Q => ∃ v most, ds = [v, .int most] ∧ known G v ∧ if isFromD v 0 most = true then Q .non G else W ⟨"BadTick", []⟩ G
def sp_stay_of : DSp := fun ds G W Q => ∃ p w, ds = [p.d, w.d] ∧ Wr.Ok p w ∧ Q (.int (stayOf p w)) G
def sp_seen_at : DSp := fun ds G W Q => ∃ p T ts cell tick, ds = [p.d, T, .int cell, .int tick] ∧ Pl.Ok p ∧ IsSeq G T (ts.map D.int) ∧ Q (.str (seenS p ts cell tick)) G
def sp_seen : DSp := fun ds G W Q => ∃ v u c t, ds = [v, u, c, t] ∧ DK G v ∧ DK G u ∧ DK G c ∧ DK G t ∧ ∀ G', Ext G G' → (isPlanD v = false → W ⟨"BadPlan", []⟩ G') ∧ ∀ p, v = p.d → Pl.Ok p → (isPaceD p u = false → W ⟨"BadPace", []⟩ G') ∧ ∀ rs, u = .tup (rs.map D.int) → PaceOk p rs →
  (isFromD c 0 (p.cells - 1) = false → W ⟨"NoCell", []⟩ G') ∧ ∀ i, c = .int i → 0 ≤ i → i < p.cells → (isFromD t 0 1000 = false → W ⟨"BadTick", []⟩ G') ∧ ∀ j, t = .int j → 0 ≤ j → j ≤ 1000 → Q (.str (seenS p (ticksL 0 rs) i j)) G'
def sp_board_at : DSp := fun ds G W Q => ∃ p T ts tick, ds = [p.d, T, .int tick] ∧ Pl.Ok p ∧ IsSeq G T (ts.map D.int) ∧ ∀ G', Ext G G' → Q (.str (boardS p ts tick)) G'
def sp_board : DSp := fun ds G W Q => ∃ v u t, ds = [v, u, t] ∧ DK G v ∧ DK G u ∧ DK G t ∧ ∀ G', Ext G G' → (isPlanD v = false → W ⟨"BadPlan", []⟩ G') ∧ ∀ p, v = p.d → Pl.Ok p → (isPaceD p u = false → W ⟨"BadPace", []⟩ G') ∧ ∀ rs, u = .tup (rs.map D.int) → PaceOk p rs →
  (isFromD t 0 1000 = false → W ⟨"BadTick", []⟩ G') ∧ ∀ j, t = .int j → 0 ≤ j → j ≤ 1000 → Q (.str (boardS p (ticksL 0 rs) j)) G'
def sp_story : DSp := fun ds G W Q => ∃ v u c t, ds = [v, u, c, t] ∧ DK G v ∧ DK G u ∧ DK G c ∧ DK G t ∧ ∀ G', Ext G G' → (isPlanD v = false → W ⟨"BadPlan", []⟩ G') ∧ ∀ p, v = p.d → Pl.Ok p → (isPaceD p u = false → W ⟨"BadPace", []⟩ G') ∧ ∀ rs, u = .tup (rs.map D.int) → PaceOk p rs →
  (isFromD c 0 (p.cells - 1) = false → W ⟨"NoCell", []⟩ G') ∧ ∀ i, c = .int i → 0 ≤ i → i < p.cells → (isFromD t 0 200 = false → W ⟨"BadTick", []⟩ G') ∧ ∀ j, t = .int j → 0 ≤ j → j ≤ 200 → Q (.str (storyS p (ticksL 0 rs) i j)) G'
theorem paceD_inv {p : Pl} {v : D} (h : isPaceD p v = true) : ∃ rs, v = .tup (rs.map D.int) ∧ PaceOk p rs := by
  cases v <;> try (exact nomatch (show false = true from h))
  rename_i xs
  simp only [isPaceD, Bool.and_eq_true, decide_eq_true_eq, List.all_eq_true] at h
  obtain ⟨hl, h⟩ := h
  suffices key : ∀ (xs : List D) (ws : List Wr), xs.length = ws.length → (∀ q ∈ List.zip xs ws, isFromD q.1 q.2.lo q.2.hi = true) → ∃ rs : List Int, xs = rs.map D.int ∧ rs.length = ws.length ∧ ∀ q ∈ List.zip rs ws, q.2.lo ≤ q.1 ∧ q.1 ≤ q.2.hi by
    obtain ⟨rs, e, a, b⟩ := key xs p.writes hl h
    exact ⟨rs, by rw [e], a, b⟩
  intro xs
  induction xs with
  | nil =>
    intro ws hl h
    cases ws with
    | nil => exact ⟨[], rfl, rfl, by simp⟩
    | cons w ws => simp at hl
  | cons x xs ih =>
    intro ws hl h
    cases ws with
    | nil => simp at hl
    | cons w ws =>
      obtain ⟨rs, e, a, b⟩ := ih ws (by simpa using hl) fun q hq => h q (by simp [hq])
      obtain ⟨i, e1, e2, e3⟩ := isFromD_inv (h (x, w) (by simp))
      have e1 : x = .int i := e1
      refine ⟨i :: rs, by rw [e1, e]; rfl, by simp [a], ?_⟩
      intro q hq
      simp only [List.zip_cons_cons, List.mem_cons] at hq
      rcases hq with rfl | hq
      · exact ⟨e2, e3⟩
      · exact b q hq
theorem zip_pace : ∀ (xs : List D) (ws : List Wr), (zipD xs (ws.map Wr.d)).map (fun d => match d with | .tup [x, .tup [_, _, _, .int lo, .int hi]] => .bl (isFromD x lo hi) | _ => D.non) = ((List.zip xs ws).map fun q => isFromD q.1 q.2.lo q.2.hi).map D.bl
  | [], _ => rfl
  | _ :: _, [] => rfl
  | x :: xs, w :: ws => by
    have ih := zip_pace xs ws
    unfold zipD at ih ⊢
    simp only [List.map_cons, List.zipWith_cons_cons, List.zip_cons_cons, ih]
    rfl
theorem ticksL_snoc : ∀ (l : List Int) (t n : Int), ticksL t (l ++ [n]) = ticksL t l ++ [t + l.sum + n]
  | [], t, n => by simp [ticksL]
  | r :: l, t, n => by
    simp only [List.cons_append, ticksL, ticksL_snoc l (t + r) n, List.sum_cons]
    congr 3
    omega
section
variable {Φ : Nat → DSp} {W : WE} {ds : List D} {G : GH} {Q : KD}
theorem run_is_pace (h1 : Φ f_is_from = sp_is_from) (h : sp_is_pace ds G W Q) : run Φ W N_is_pace.length b_is_pace ds G Q := by
  obtain ⟨p, v, rfl, po, kn, q⟩ := h
  simp only [run, N_is_pace, b_is_pace, Pl.d, exs, ex, ev, evs, evO, evI, evT, evTs, cmpQ, List.getElem?_cons_zero, List.getElem?_cons_succ, List.set_cons_zero, List.set_cons_succ, Option.some.injEq, exists_eq_left', exists_eq_left, exists_eq_right, exists_eq, exists_eq', dwipe, exists_eq_right', D.int.injEq, D.str.injEq, D.bl.injEq, D.tup.injEq, D.ref.injEq, D.rol.injEq, GO.lst.injEq, GO.ins.injEq, GO.dK.injEq, GO.dT.injEq, List.cons.injEq, tgLen, List.length_cons, List.length_nil, List.length_map, List.map_cons, List.map_nil, List.replicate_succ, List.replicate_zero, List.nil_append, List.cons_append, true_and, and_true, if_true, Bool.not_true, Bool.not_false, Bool.false_eq_true, if_false, gup_same, reduceCtorEq, false_and, and_false, exists_false, exists_const, inst_i, inst_b, inst_s, inst_t, atI_0, atI_1, atI_2, atI_3, atI_4, eqNN_nat, ix41, ix42, ix43, gup_gup, and_assoc, exists_and_left, oQ0, oQ1, oQ2, oQ3, oQ4, oQ5, oQ6, oQ7, oQ8, oQ9, oQ10, oQ11, oQ12, oQ13, oQ14, oQ15, oQ16, oQ17, oQ18, oQ19, oQ20, oQ21, oQ22, oQ23, oQ24, oQ25, oQ26, oQ27, oQ28, oQ29, oQ30, oQ31, oQ32, oQ33, oQ34, oQ35, oQ36, oQ37, oQ38, oQ39, oQ40, oQ41, oQ42, oQ43, oQ44, oQ45, oQ46, oQ47, oQ48, oQ49, oQ50, oQ51, oQ52, oQ53, oQ54, oQ55, oQ56, oQ57, oQ58, oQ59, oQ60, oQ61, oQ62, oQ63, oQ64, oQ65, oQ66, oQ67, oQ68, oQ69, oQ70, oQ71, oQ72, oQ73, oQ74, oQ75, oQ76, oQ77, oQ78, oQ79, oQ80, oQ81, oQ82, oQ83, oQ84, oQ85, oQ86, oQ87, oQ88, oQ89, oQ90, oQ91, oQ92, oQ93, oQ94, oQ95, oQ96, oQ97, oQ98, oQ99, oQ100, oQ101, oQ102, oQ103, oQ104, oQ105, oQ106, oQ107, oQ108, oQ109, oQ110, oQ111, oQ112, oQ113, oQ114, oQ115, oQ116, oQ117, oQ118, oQ119, oQ120, oQ121, oQ122, oQ123, oQ124, oQ125, oQ126, oQ127, oQ128, oQ129, oQ130, oQ131, oQ132, oQ133, oQ134, oQ135, oQ136, oQ137, oQ138, oQ139, oQ140, oQ141, oQ142, oQ143, oQ144, oQ145, oQ146, oQ147, oQ148, oQ149, oQ150, oQ151, oQ152, oQ153, oQ154, oQ155, oQ156, oQ157, oQ158, oQ159, h1, dwipe]
  refine ⟨kn.known, ?_⟩
  cases v <;> simp only [exs, ex, ev, evs, evO, evI, evT, evTs, cmpQ, List.getElem?_cons_zero, List.getElem?_cons_succ, List.set_cons_zero, List.set_cons_succ, Option.some.injEq, exists_eq_left', exists_eq_left, exists_eq_right, exists_eq, exists_eq', dwipe, exists_eq_right', D.int.injEq, D.str.injEq, D.bl.injEq, D.tup.injEq, D.ref.injEq, D.rol.injEq, GO.lst.injEq, GO.ins.injEq, GO.dK.injEq, GO.dT.injEq, List.cons.injEq, tgLen, List.length_cons, List.length_nil, List.length_map, List.map_cons, List.map_nil, List.replicate_succ, List.replicate_zero, List.nil_append, List.cons_append, true_and, and_true, if_true, Bool.not_true, Bool.not_false, Bool.false_eq_true, if_false, gup_same, reduceCtorEq, false_and, and_false, exists_false, exists_const, inst_i, inst_b, inst_s, inst_t, atI_0, atI_1, atI_2, atI_3, atI_4, eqNN_nat, ix41, ix42, ix43, gup_gup, and_assoc, exists_and_left, oQ0, oQ1, oQ2, oQ3, oQ4, oQ5, oQ6, oQ7, oQ8, oQ9, oQ10, oQ11, oQ12, oQ13, oQ14, oQ15, oQ16, oQ17, oQ18, oQ19, oQ20, oQ21, oQ22, oQ23, oQ24, oQ25, oQ26, oQ27, oQ28, oQ29, oQ30, oQ31, oQ32, oQ33, oQ34, oQ35, oQ36, oQ37, oQ38, oQ39, oQ40, oQ41, oQ42, oQ43, oQ44, oQ45, oQ46, oQ47, oQ48, oQ49, oQ50, oQ51, oQ52, oQ53, oQ54, oQ55, oQ56, oQ57, oQ58, oQ59, oQ60, oQ61, oQ62, oQ63, oQ64, oQ65, oQ66, oQ67, oQ68, oQ69, oQ70, oQ71, oQ72, oQ73, oQ74, oQ75, oQ76, oQ77, oQ78, oQ79, oQ80, oQ81, oQ82, oQ83, oQ84, oQ85, oQ86, oQ87, oQ88, oQ89, oQ90, oQ91, oQ92, oQ93, oQ94, oQ95, oQ96, oQ97, oQ98, oQ99, oQ100, oQ101, oQ102, oQ103, oQ104, oQ105, oQ106, oQ107, oQ108, oQ109, oQ110, oQ111, oQ112, oQ113, oQ114, oQ115, oQ116, oQ117, oQ118, oQ119, oQ120, oQ121, oQ122, oQ123, oQ124, oQ125, oQ126, oQ127, oQ128, oQ129, oQ130, oQ131, oQ132, oQ133, oQ134, oQ135, oQ136, oQ137, oQ138, oQ139, oQ140, oQ141, oQ142, oQ143, oQ144, oQ145, oQ146, oQ147, oQ148, oQ149, oQ150, oQ151, oQ152, oQ153, oQ154, oQ155, oQ156, oQ157, oQ158, oQ159] <;> try exact q G (Ext.refl G)
  rename_i xs
  have kx : DKs G xs := by unfold DK at kn; exact kn
  cases c : decide (xs.length = p.writes.length) <;> simp only [isPaceD, c, Bool.true_and, Bool.false_and, exs, ex, ev, evs, evO, evI, evT, evTs, cmpQ, List.getElem?_cons_zero, List.getElem?_cons_succ, List.set_cons_zero, List.set_cons_succ, Option.some.injEq, exists_eq_left', exists_eq_left, exists_eq_right, exists_eq, exists_eq', dwipe, exists_eq_right', D.int.injEq, D.str.injEq, D.bl.injEq, D.tup.injEq, D.ref.injEq, D.rol.injEq, GO.lst.injEq, GO.ins.injEq, GO.dK.injEq, GO.dT.injEq, List.cons.injEq, tgLen, List.length_cons, List.length_nil, List.length_map, List.map_cons, List.map_nil, List.replicate_succ, List.replicate_zero, List.nil_append, List.cons_append, true_and, and_true, if_true, Bool.not_true, Bool.not_false, Bool.false_eq_true, if_false, gup_same, reduceCtorEq, false_and, and_false, exists_false, exists_const, inst_i, inst_b, inst_s, inst_t, atI_0, atI_1, atI_2, atI_3, atI_4, eqNN_nat, ix41, ix42, ix43, gup_gup, and_assoc, exists_and_left, oQ0, oQ1, oQ2, oQ3, oQ4, oQ5, oQ6, oQ7, oQ8, oQ9, oQ10, oQ11, oQ12, oQ13, oQ14, oQ15, oQ16, oQ17, oQ18, oQ19, oQ20, oQ21, oQ22, oQ23, oQ24, oQ25, oQ26, oQ27, oQ28, oQ29, oQ30, oQ31, oQ32, oQ33, oQ34, oQ35, oQ36, oQ37, oQ38, oQ39, oQ40, oQ41, oQ42, oQ43, oQ44, oQ45, oQ46, oQ47, oQ48, oQ49, oQ50, oQ51, oQ52, oQ53, oQ54, oQ55, oQ56, oQ57, oQ58, oQ59, oQ60, oQ61, oQ62, oQ63, oQ64, oQ65, oQ66, oQ67, oQ68, oQ69, oQ70, oQ71, oQ72, oQ73, oQ74, oQ75, oQ76, oQ77, oQ78, oQ79, oQ80, oQ81, oQ82, oQ83, oQ84, oQ85, oQ86, oQ87, oQ88, oQ89, oQ90, oQ91, oQ92, oQ93, oQ94, oQ95, oQ96, oQ97, oQ98, oQ99, oQ100, oQ101, oQ102, oQ103, oQ104, oQ105, oQ106, oQ107, oQ108, oQ109, oQ110, oQ111, oQ112, oQ113, oQ114, oQ115, oQ116, oQ117, oQ118, oQ119, oQ120, oQ121, oQ122, oQ123, oQ124, oQ125, oQ126, oQ127, oQ128, oQ129, oQ130, oQ131, oQ132, oQ133, oQ134, oQ135, oQ136, oQ137, oQ138, oQ139, oQ140, oQ141, oQ142, oQ143, oQ144, oQ145, oQ146, oQ147, oQ148, oQ149, oQ150, oQ151, oQ152, oQ153, oQ154, oQ155, oQ156, oQ157, oQ158, oQ159] at q ⊢
  · exact q G (Ext.refl G)
  have hl : xs.length = p.writes.length := of_decide_eq_true c
  intro a ha
  have l8 := po.w8
  refine compL_map (fun d => match d with | .tup [x, .tup [_, _, _, .int lo, .int hi]] => .bl (isFromD x lo hi) | _ => .non) ha ?_ (fun _ _ => trivial) ?_ ?_
  · unfold zipD
    rw [List.length_zipWith, sizeLine_eq, List.length_map]
    omega
  · intro i d G1 hd x K hK
    obtain ⟨u, w, e2, e3, rfl⟩ := zipD_get hd
    rw [List.getElem?_map] at e3
    obtain ⟨w, e4, rfl⟩ := Option.map_eq_some_iff.mp e3
    simp only [Wr.d, exs, ex, ev, evs, evO, evI, evT, evTs, cmpQ, List.getElem?_cons_zero, List.getElem?_cons_succ, List.set_cons_zero, List.set_cons_succ, Option.some.injEq, exists_eq_left', exists_eq_left, exists_eq_right, exists_eq, exists_eq', dwipe, exists_eq_right', D.int.injEq, D.str.injEq, D.bl.injEq, D.tup.injEq, D.ref.injEq, D.rol.injEq, GO.lst.injEq, GO.ins.injEq, GO.dK.injEq, GO.dT.injEq, List.cons.injEq, tgLen, List.length_cons, List.length_nil, List.length_map, List.map_cons, List.map_nil, List.replicate_succ, List.replicate_zero, List.nil_append, List.cons_append, true_and, and_true, if_true, Bool.not_true, Bool.not_false, Bool.false_eq_true, if_false, gup_same, reduceCtorEq, false_and, and_false, exists_false, exists_const, inst_i, inst_b, inst_s, inst_t, atI_0, atI_1, atI_2, atI_3, atI_4, eqNN_nat, ix41, ix42, ix43, gup_gup, and_assoc, exists_and_left, oQ0, oQ1, oQ2, oQ3, oQ4, oQ5, oQ6, oQ7, oQ8, oQ9, oQ10, oQ11, oQ12, oQ13, oQ14, oQ15, oQ16, oQ17, oQ18, oQ19, oQ20, oQ21, oQ22, oQ23, oQ24, oQ25, oQ26, oQ27, oQ28, oQ29, oQ30, oQ31, oQ32, oQ33, oQ34, oQ35, oQ36, oQ37, oQ38, oQ39, oQ40, oQ41, oQ42, oQ43, oQ44, oQ45, oQ46, oQ47, oQ48, oQ49, oQ50, oQ51, oQ52, oQ53, oQ54, oQ55, oQ56, oQ57, oQ58, oQ59, oQ60, oQ61, oQ62, oQ63, oQ64, oQ65, oQ66, oQ67, oQ68, oQ69, oQ70, oQ71, oQ72, oQ73, oQ74, oQ75, oQ76, oQ77, oQ78, oQ79, oQ80, oQ81, oQ82, oQ83, oQ84, oQ85, oQ86, oQ87, oQ88, oQ89, oQ90, oQ91, oQ92, oQ93, oQ94, oQ95, oQ96, oQ97, oQ98, oQ99, oQ100, oQ101, oQ102, oQ103, oQ104, oQ105, oQ106, oQ107, oQ108, oQ109, oQ110, oQ111, oQ112, oQ113, oQ114, oQ115, oQ116, oQ117, oQ118, oQ119, oQ120, oQ121, oQ122, oQ123, oQ124, oQ125, oQ126, oQ127, oQ128, oQ129, oQ130, oQ131, oQ132, oQ133, oQ134, oQ135, oQ136, oQ137, oQ138, oQ139, oQ140, oQ141, oQ142, oQ143, oQ144, oQ145, oQ146, oQ147, oQ148, oQ149, oQ150, oQ151, oQ152, oQ153, oQ154, oQ155, oQ156, oQ157, oQ158, oQ159] at hK ⊢
    refine ⟨u, w.lo, w.hi, rfl, ((kx.mem (List.mem_of_getElem? e2)).ext x).known, hK G1 (Ext.refl G1)⟩
  · intro G1 x1 e2
    refine ⟨_, by rw [e2, zip_pace], ?_⟩
    have ea : (((List.zip xs p.writes).map fun q => isFromD q.1 q.2.lo q.2.hi).all id) = (List.zip xs p.writes).all fun q => isFromD q.1 q.2.lo q.2.hi := by simp [List.all_map, Function.comp_def]
    rw [ea]
    exact q G1 x1
theorem run_need_pace (h1 : Φ f_is_pace = sp_is_pace) (h : sp_need_pace ds G W Q) : run Φ W N_need_pace.length b_need_pace ds G Q := by
  obtain ⟨p, v, rfl, po, kn, q⟩ := h
  simp only [run, N_need_pace, b_need_pace, exs, ex, ev, evs, evO, evI, evT, evTs, cmpQ, List.getElem?_cons_zero, List.getElem?_cons_succ, List.set_cons_zero, List.set_cons_succ, Option.some.injEq, exists_eq_left', exists_eq_left, exists_eq_right, exists_eq, exists_eq', dwipe, exists_eq_right', D.int.injEq, D.str.injEq, D.bl.injEq, D.tup.injEq, D.ref.injEq, D.rol.injEq, GO.lst.injEq, GO.ins.injEq, GO.dK.injEq, GO.dT.injEq, List.cons.injEq, tgLen, List.length_cons, List.length_nil, List.length_map, List.map_cons, List.map_nil, List.replicate_succ, List.replicate_zero, List.nil_append, List.cons_append, true_and, and_true, if_true, Bool.not_true, Bool.not_false, Bool.false_eq_true, if_false, gup_same, reduceCtorEq, false_and, and_false, exists_false, exists_const, inst_i, inst_b, inst_s, inst_t, atI_0, atI_1, atI_2, atI_3, atI_4, eqNN_nat, ix41, ix42, ix43, gup_gup, and_assoc, exists_and_left, oQ0, oQ1, oQ2, oQ3, oQ4, oQ5, oQ6, oQ7, oQ8, oQ9, oQ10, oQ11, oQ12, oQ13, oQ14, oQ15, oQ16, oQ17, oQ18, oQ19, oQ20, oQ21, oQ22, oQ23, oQ24, oQ25, oQ26, oQ27, oQ28, oQ29, oQ30, oQ31, oQ32, oQ33, oQ34, oQ35, oQ36, oQ37, oQ38, oQ39, oQ40, oQ41, oQ42, oQ43, oQ44, oQ45, oQ46, oQ47, oQ48, oQ49, oQ50, oQ51, oQ52, oQ53, oQ54, oQ55, oQ56, oQ57, oQ58, oQ59, oQ60, oQ61, oQ62, oQ63, oQ64, oQ65, oQ66, oQ67, oQ68, oQ69, oQ70, oQ71, oQ72, oQ73, oQ74, oQ75, oQ76, oQ77, oQ78, oQ79, oQ80, oQ81, oQ82, oQ83, oQ84, oQ85, oQ86, oQ87, oQ88, oQ89, oQ90, oQ91, oQ92, oQ93, oQ94, oQ95, oQ96, oQ97, oQ98, oQ99, oQ100, oQ101, oQ102, oQ103, oQ104, oQ105, oQ106, oQ107, oQ108, oQ109, oQ110, oQ111, oQ112, oQ113, oQ114, oQ115, oQ116, oQ117, oQ118, oQ119, oQ120, oQ121, oQ122, oQ123, oQ124, oQ125, oQ126, oQ127, oQ128, oQ129, oQ130, oQ131, oQ132, oQ133, oQ134, oQ135, oQ136, oQ137, oQ138, oQ139, oQ140, oQ141, oQ142, oQ143, oQ144, oQ145, oQ146, oQ147, oQ148, oQ149, oQ150, oQ151, oQ152, oQ153, oQ154, oQ155, oQ156, oQ157, oQ158, oQ159, h1]
  refine ⟨p, v, rfl, po, kn, fun G' x => ?_⟩
  have q := q G' x
  cases c : isPaceD p v <;> simp only [c, exs, ex, ev, evs, evO, evI, evT, evTs, cmpQ, List.getElem?_cons_zero, List.getElem?_cons_succ, List.set_cons_zero, List.set_cons_succ, Option.some.injEq, exists_eq_left', exists_eq_left, exists_eq_right, exists_eq, exists_eq', dwipe, exists_eq_right', D.int.injEq, D.str.injEq, D.bl.injEq, D.tup.injEq, D.ref.injEq, D.rol.injEq, GO.lst.injEq, GO.ins.injEq, GO.dK.injEq, GO.dT.injEq, List.cons.injEq, tgLen, List.length_cons, List.length_nil, List.length_map, List.map_cons, List.map_nil, List.replicate_succ, List.replicate_zero, List.nil_append, List.cons_append, true_and, and_true, if_true, Bool.not_true, Bool.not_false, Bool.false_eq_true, if_false, gup_same, reduceCtorEq, false_and, and_false, exists_false, exists_const, inst_i, inst_b, inst_s, inst_t, atI_0, atI_1, atI_2, atI_3, atI_4, eqNN_nat, ix41, ix42, ix43, gup_gup, and_assoc, exists_and_left, oQ0, oQ1, oQ2, oQ3, oQ4, oQ5, oQ6, oQ7, oQ8, oQ9, oQ10, oQ11, oQ12, oQ13, oQ14, oQ15, oQ16, oQ17, oQ18, oQ19, oQ20, oQ21, oQ22, oQ23, oQ24, oQ25, oQ26, oQ27, oQ28, oQ29, oQ30, oQ31, oQ32, oQ33, oQ34, oQ35, oQ36, oQ37, oQ38, oQ39, oQ40, oQ41, oQ42, oQ43, oQ44, oQ45, oQ46, oQ47, oQ48, oQ49, oQ50, oQ51, oQ52, oQ53, oQ54, oQ55, oQ56, oQ57, oQ58, oQ59, oQ60, oQ61, oQ62, oQ63, oQ64, oQ65, oQ66, oQ67, oQ68, oQ69, oQ70, oQ71, oQ72, oQ73, oQ74, oQ75, oQ76, oQ77, oQ78, oQ79, oQ80, oQ81, oQ82, oQ83, oQ84, oQ85, oQ86, oQ87, oQ88, oQ89, oQ90, oQ91, oQ92, oQ93, oQ94, oQ95, oQ96, oQ97, oQ98, oQ99, oQ100, oQ101, oQ102, oQ103, oQ104, oQ105, oQ106, oQ107, oQ108, oQ109, oQ110, oQ111, oQ112, oQ113, oQ114, oQ115, oQ116, oQ117, oQ118, oQ119, oQ120, oQ121, oQ122, oQ123, oQ124, oQ125, oQ126, oQ127, oQ128, oQ129, oQ130, oQ131, oQ132, oQ133, oQ134, oQ135, oQ136, oQ137, oQ138, oQ139, oQ140, oQ141, oQ142, oQ143, oQ144, oQ145, oQ146, oQ147, oQ148, oQ149, oQ150, oQ151, oQ152, oQ153, oQ154, oQ155, oQ156, oQ157, oQ158, oQ159] at q ⊢ <;> exact q
theorem run_ticks_of (h : sp_ticks_of ds G W Q) : run Φ W N_ticks_of.length b_ticks_of ds G Q := by
  obtain ⟨rs, rfl, hl, q⟩ := h
  simp only [run, N_ticks_of, b_ticks_of, exs, ex, ev, evs, evO, evI, evT, evTs, cmpQ, List.getElem?_cons_zero, List.getElem?_cons_succ, List.set_cons_zero, List.set_cons_succ, Option.some.injEq, exists_eq_left', exists_eq_left, exists_eq_right, exists_eq, exists_eq', dwipe, exists_eq_right', D.int.injEq, D.str.injEq, D.bl.injEq, D.tup.injEq, D.ref.injEq, D.rol.injEq, GO.lst.injEq, GO.ins.injEq, GO.dK.injEq, GO.dT.injEq, List.cons.injEq, tgLen, List.length_cons, List.length_nil, List.length_map, List.map_cons, List.map_nil, List.replicate_succ, List.replicate_zero, List.nil_append, List.cons_append, true_and, and_true, if_true, Bool.not_true, Bool.not_false, Bool.false_eq_true, if_false, gup_same, reduceCtorEq, false_and, and_false, exists_false, exists_const, inst_i, inst_b, inst_s, inst_t, atI_0, atI_1, atI_2, atI_3, atI_4, eqNN_nat, ix41, ix42, ix43, gup_gup, and_assoc, exists_and_left, oQ0, oQ1, oQ2, oQ3, oQ4, oQ5, oQ6, oQ7, oQ8, oQ9, oQ10, oQ11, oQ12, oQ13, oQ14, oQ15, oQ16, oQ17, oQ18, oQ19, oQ20, oQ21, oQ22, oQ23, oQ24, oQ25, oQ26, oQ27, oQ28, oQ29, oQ30, oQ31, oQ32, oQ33, oQ34, oQ35, oQ36, oQ37, oQ38, oQ39, oQ40, oQ41, oQ42, oQ43, oQ44, oQ45, oQ46, oQ47, oQ48, oQ49, oQ50, oQ51, oQ52, oQ53, oQ54, oQ55, oQ56, oQ57, oQ58, oQ59, oQ60, oQ61, oQ62, oQ63, oQ64, oQ65, oQ66, oQ67, oQ68, oQ69, oQ70, oQ71, oQ72, oQ73, oQ74, oQ75, oQ76, oQ77, oQ78, oQ79, oQ80, oQ81, oQ82, oQ83, oQ84, oQ85, oQ86, oQ87, oQ88, oQ89, oQ90, oQ91, oQ92, oQ93, oQ94, oQ95, oQ96, oQ97, oQ98, oQ99, oQ100, oQ101, oQ102, oQ103, oQ104, oQ105, oQ106, oQ107, oQ108, oQ109, oQ110, oQ111, oQ112, oQ113, oQ114, oQ115, oQ116, oQ117, oQ118, oQ119, oQ120, oQ121, oQ122, oQ123, oQ124, oQ125, oQ126, oQ127, oQ128, oQ129, oQ130, oQ131, oQ132, oQ133, oQ134, oQ135, oQ136, oQ137, oQ138, oQ139, oQ140, oQ141, oQ142, oQ143, oQ144, oQ145, oQ146, oQ147, oQ148, oQ149, oQ150, oQ151, oQ152, oQ153, oQ154, oQ155, oQ156, oQ157, oQ158, oQ159]
  intro a ha
  refine forL_of (fun i σ G' => ∃ now d, now = (rs.take i).sum ∧ σ = [some (.tup (rs.map D.int)), some (.ref a), some (.int now), d] ∧ Ext G G' ∧ G' a = some (.lst ((ticksL 0 (rs.take i)).map D.int))) ⟨0, none, by simp, rfl, Ext.new ha, by simp [gup_same, ticksL]⟩ ?_ ?_
  · rintro i d σ G' hd ⟨now, d', e1, rfl, x, e2⟩ K hK
    refine ⟨trivial, ?_⟩
    rw [List.getElem?_map] at hd
    obtain ⟨n, e3, rfl⟩ := Option.map_eq_some_iff.mp hd
    have hi := (List.getElem?_eq_some_iff.mp e3).1
    have tk : rs.take (i + 1) = rs.take i ++ [n] := by rw [List.take_succ, e3]; rfl
    simp only [exs, ex, ev, evs, evO, evI, evT, evTs, cmpQ, List.getElem?_cons_zero, List.getElem?_cons_succ, List.set_cons_zero, List.set_cons_succ, Option.some.injEq, exists_eq_left', exists_eq_left, exists_eq_right, exists_eq, exists_eq', dwipe, exists_eq_right', D.int.injEq, D.str.injEq, D.bl.injEq, D.tup.injEq, D.ref.injEq, D.rol.injEq, GO.lst.injEq, GO.ins.injEq, GO.dK.injEq, GO.dT.injEq, List.cons.injEq, tgLen, List.length_cons, List.length_nil, List.length_map, List.map_cons, List.map_nil, List.replicate_succ, List.replicate_zero, List.nil_append, List.cons_append, true_and, and_true, if_true, Bool.not_true, Bool.not_false, Bool.false_eq_true, if_false, gup_same, reduceCtorEq, false_and, and_false, exists_false, exists_const, inst_i, inst_b, inst_s, inst_t, atI_0, atI_1, atI_2, atI_3, atI_4, eqNN_nat, ix41, ix42, ix43, gup_gup, and_assoc, exists_and_left, oQ0, oQ1, oQ2, oQ3, oQ4, oQ5, oQ6, oQ7, oQ8, oQ9, oQ10, oQ11, oQ12, oQ13, oQ14, oQ15, oQ16, oQ17, oQ18, oQ19, oQ20, oQ21, oQ22, oQ23, oQ24, oQ25, oQ26, oQ27, oQ28, oQ29, oQ30, oQ31, oQ32, oQ33, oQ34, oQ35, oQ36, oQ37, oQ38, oQ39, oQ40, oQ41, oQ42, oQ43, oQ44, oQ45, oQ46, oQ47, oQ48, oQ49, oQ50, oQ51, oQ52, oQ53, oQ54, oQ55, oQ56, oQ57, oQ58, oQ59, oQ60, oQ61, oQ62, oQ63, oQ64, oQ65, oQ66, oQ67, oQ68, oQ69, oQ70, oQ71, oQ72, oQ73, oQ74, oQ75, oQ76, oQ77, oQ78, oQ79, oQ80, oQ81, oQ82, oQ83, oQ84, oQ85, oQ86, oQ87, oQ88, oQ89, oQ90, oQ91, oQ92, oQ93, oQ94, oQ95, oQ96, oQ97, oQ98, oQ99, oQ100, oQ101, oQ102, oQ103, oQ104, oQ105, oQ106, oQ107, oQ108, oQ109, oQ110, oQ111, oQ112, oQ113, oQ114, oQ115, oQ116, oQ117, oQ118, oQ119, oQ120, oQ121, oQ122, oQ123, oQ124, oQ125, oQ126, oQ127, oQ128, oQ129, oQ130, oQ131, oQ132, oQ133, oQ134, oQ135, oQ136, oQ137, oQ138, oQ139, oQ140, oQ141, oQ142, oQ143, oQ144, oQ145, oQ146, oQ147, oQ148, oQ149, oQ150, oQ151, oQ152, oQ153, oQ154, oQ155, oQ156, oQ157, oQ158, oQ159, e2]
    refine ⟨?_, hK _ _ ⟨now + n, _, ?_, rfl, Ext.upd ha x, ?_⟩⟩
    · rw [ticksL_len, List.length_take, sizeLine_eq]; omega
    · rw [tk, e1]; simp
    · rw [gup_same, tk, ticksL_snoc, e1]; simp
  · rintro σ G' ⟨now, d', e1, rfl, x, e2⟩
    refine ⟨trivial, ?_⟩
    simp only [exs, ex, ev, evs, evO, evI, evT, evTs, cmpQ, List.getElem?_cons_zero, List.getElem?_cons_succ, List.set_cons_zero, List.set_cons_succ, Option.some.injEq, exists_eq_left', exists_eq_left, exists_eq_right, exists_eq, exists_eq', dwipe, exists_eq_right', D.int.injEq, D.str.injEq, D.bl.injEq, D.tup.injEq, D.ref.injEq, D.rol.injEq, GO.lst.injEq, GO.ins.injEq, GO.dK.injEq, GO.dT.injEq, List.cons.injEq, tgLen, List.length_cons, List.length_nil, List.length_map, List.map_cons, List.map_nil, List.replicate_succ, List.replicate_zero, List.nil_append, List.cons_append, true_and, and_true, if_true, Bool.not_true, Bool.not_false, Bool.false_eq_true, if_false, gup_same, reduceCtorEq, false_and, and_false, exists_false, exists_const, inst_i, inst_b, inst_s, inst_t, atI_0, atI_1, atI_2, atI_3, atI_4, eqNN_nat, ix41, ix42, ix43, gup_gup, and_assoc, exists_and_left, oQ0, oQ1, oQ2, oQ3, oQ4, oQ5, oQ6, oQ7, oQ8, oQ9, oQ10, oQ11, oQ12, oQ13, oQ14, oQ15, oQ16, oQ17, oQ18, oQ19, oQ20, oQ21, oQ22, oQ23, oQ24, oQ25, oQ26, oQ27, oQ28, oQ29, oQ30, oQ31, oQ32, oQ33, oQ34, oQ35, oQ36, oQ37, oQ38, oQ39, oQ40, oQ41, oQ42, oQ43, oQ44, oQ45, oQ46, oQ47, oQ48, oQ49, oQ50, oQ51, oQ52, oQ53, oQ54, oQ55, oQ56, oQ57, oQ58, oQ59, oQ60, oQ61, oQ62, oQ63, oQ64, oQ65, oQ66, oQ67, oQ68, oQ69, oQ70, oQ71, oQ72, oQ73, oQ74, oQ75, oQ76, oQ77, oQ78, oQ79, oQ80, oQ81, oQ82, oQ83, oQ84, oQ85, oQ86, oQ87, oQ88, oQ89, oQ90, oQ91, oQ92, oQ93, oQ94, oQ95, oQ96, oQ97, oQ98, oQ99, oQ100, oQ101, oQ102, oQ103, oQ104, oQ105, oQ106, oQ107, oQ108, oQ109, oQ110, oQ111, oQ112, oQ113, oQ114, oQ115, oQ116, oQ117, oQ118, oQ119, oQ120, oQ121, oQ122, oQ123, oQ124, oQ125, oQ126, oQ127, oQ128, oQ129, oQ130, oQ131, oQ132, oQ133, oQ134, oQ135, oQ136, oQ137, oQ138, oQ139, oQ140, oQ141, oQ142, oQ143, oQ144, oQ145, oQ146, oQ147, oQ148, oQ149, oQ150, oQ151, oQ152, oQ153, oQ154, oQ155, oQ156, oQ157, oQ158, oQ159]
    refine q a G' ha x ?_
    rw [e2]
    simp
theorem run_need_cell (h1 : Φ f_is_from = sp_is_from) (h : sp_need_cell ds G W Q) : run Φ W N_need_cell.length b_need_cell ds G Q := by
  obtain ⟨p, v, rfl, po, kn, q⟩ := h
  simp only [run, N_need_cell, b_need_cell, Pl.d, exs, ex, ev, evs, evO, evI, evT, evTs, cmpQ, List.getElem?_cons_zero, List.getElem?_cons_succ, List.set_cons_zero, List.set_cons_succ, Option.some.injEq, exists_eq_left', exists_eq_left, exists_eq_right, exists_eq, exists_eq', dwipe, exists_eq_right', D.int.injEq, D.str.injEq, D.bl.injEq, D.tup.injEq, D.ref.injEq, D.rol.injEq, GO.lst.injEq, GO.ins.injEq, GO.dK.injEq, GO.dT.injEq, List.cons.injEq, tgLen, List.length_cons, List.length_nil, List.length_map, List.map_cons, List.map_nil, List.replicate_succ, List.replicate_zero, List.nil_append, List.cons_append, true_and, and_true, if_true, Bool.not_true, Bool.not_false, Bool.false_eq_true, if_false, gup_same, reduceCtorEq, false_and, and_false, exists_false, exists_const, inst_i, inst_b, inst_s, inst_t, atI_0, atI_1, atI_2, atI_3, atI_4, eqNN_nat, ix41, ix42, ix43, gup_gup, and_assoc, exists_and_left, oQ0, oQ1, oQ2, oQ3, oQ4, oQ5, oQ6, oQ7, oQ8, oQ9, oQ10, oQ11, oQ12, oQ13, oQ14, oQ15, oQ16, oQ17, oQ18, oQ19, oQ20, oQ21, oQ22, oQ23, oQ24, oQ25, oQ26, oQ27, oQ28, oQ29, oQ30, oQ31, oQ32, oQ33, oQ34, oQ35, oQ36, oQ37, oQ38, oQ39, oQ40, oQ41, oQ42, oQ43, oQ44, oQ45, oQ46, oQ47, oQ48, oQ49, oQ50, oQ51, oQ52, oQ53, oQ54, oQ55, oQ56, oQ57, oQ58, oQ59, oQ60, oQ61, oQ62, oQ63, oQ64, oQ65, oQ66, oQ67, oQ68, oQ69, oQ70, oQ71, oQ72, oQ73, oQ74, oQ75, oQ76, oQ77, oQ78, oQ79, oQ80, oQ81, oQ82, oQ83, oQ84, oQ85, oQ86, oQ87, oQ88, oQ89, oQ90, oQ91, oQ92, oQ93, oQ94, oQ95, oQ96, oQ97, oQ98, oQ99, oQ100, oQ101, oQ102, oQ103, oQ104, oQ105, oQ106, oQ107, oQ108, oQ109, oQ110, oQ111, oQ112, oQ113, oQ114, oQ115, oQ116, oQ117, oQ118, oQ119, oQ120, oQ121, oQ122, oQ123, oQ124, oQ125, oQ126, oQ127, oQ128, oQ129, oQ130, oQ131, oQ132, oQ133, oQ134, oQ135, oQ136, oQ137, oQ138, oQ139, oQ140, oQ141, oQ142, oQ143, oQ144, oQ145, oQ146, oQ147, oQ148, oQ149, oQ150, oQ151, oQ152, oQ153, oQ154, oQ155, oQ156, oQ157, oQ158, oQ159, h1]
  refine ⟨v, 0, _, rfl, kn, ?_⟩
  cases c : isFromD v 0 (p.cells - 1) <;> simp only [c, exs, ex, ev, evs, evO, evI, evT, evTs, cmpQ, List.getElem?_cons_zero, List.getElem?_cons_succ, List.set_cons_zero, List.set_cons_succ, Option.some.injEq, exists_eq_left', exists_eq_left, exists_eq_right, exists_eq, exists_eq', dwipe, exists_eq_right', D.int.injEq, D.str.injEq, D.bl.injEq, D.tup.injEq, D.ref.injEq, D.rol.injEq, GO.lst.injEq, GO.ins.injEq, GO.dK.injEq, GO.dT.injEq, List.cons.injEq, tgLen, List.length_cons, List.length_nil, List.length_map, List.map_cons, List.map_nil, List.replicate_succ, List.replicate_zero, List.nil_append, List.cons_append, true_and, and_true, if_true, Bool.not_true, Bool.not_false, Bool.false_eq_true, if_false, gup_same, reduceCtorEq, false_and, and_false, exists_false, exists_const, inst_i, inst_b, inst_s, inst_t, atI_0, atI_1, atI_2, atI_3, atI_4, eqNN_nat, ix41, ix42, ix43, gup_gup, and_assoc, exists_and_left, oQ0, oQ1, oQ2, oQ3, oQ4, oQ5, oQ6, oQ7, oQ8, oQ9, oQ10, oQ11, oQ12, oQ13, oQ14, oQ15, oQ16, oQ17, oQ18, oQ19, oQ20, oQ21, oQ22, oQ23, oQ24, oQ25, oQ26, oQ27, oQ28, oQ29, oQ30, oQ31, oQ32, oQ33, oQ34, oQ35, oQ36, oQ37, oQ38, oQ39, oQ40, oQ41, oQ42, oQ43, oQ44, oQ45, oQ46, oQ47, oQ48, oQ49, oQ50, oQ51, oQ52, oQ53, oQ54, oQ55, oQ56, oQ57, oQ58, oQ59, oQ60, oQ61, oQ62, oQ63, oQ64, oQ65, oQ66, oQ67, oQ68, oQ69, oQ70, oQ71, oQ72, oQ73, oQ74, oQ75, oQ76, oQ77, oQ78, oQ79, oQ80, oQ81, oQ82, oQ83, oQ84, oQ85, oQ86, oQ87, oQ88, oQ89, oQ90, oQ91, oQ92, oQ93, oQ94, oQ95, oQ96, oQ97, oQ98, oQ99, oQ100, oQ101, oQ102, oQ103, oQ104, oQ105, oQ106, oQ107, oQ108, oQ109, oQ110, oQ111, oQ112, oQ113, oQ114, oQ115, oQ116, oQ117, oQ118, oQ119, oQ120, oQ121, oQ122, oQ123, oQ124, oQ125, oQ126, oQ127, oQ128, oQ129, oQ130, oQ131, oQ132, oQ133, oQ134, oQ135, oQ136, oQ137, oQ138, oQ139, oQ140, oQ141, oQ142, oQ143, oQ144, oQ145, oQ146, oQ147, oQ148, oQ149, oQ150, oQ151, oQ152, oQ153, oQ154, oQ155, oQ156, oQ157, oQ158, oQ159] at q ⊢ <;> exact q
theorem run_need_tick (h1 : Φ f_is_from = sp_is_from) (h : sp_need_tick ds G W Q) : run Φ W N_need_tick.length b_need_tick ds G Q := by
  obtain ⟨v, most, rfl, kn, q⟩ := h
  simp only [run, N_need_tick, b_need_tick, exs, ex, ev, evs, evO, evI, evT, evTs, cmpQ, List.getElem?_cons_zero, List.getElem?_cons_succ, List.set_cons_zero, List.set_cons_succ, Option.some.injEq, exists_eq_left', exists_eq_left, exists_eq_right, exists_eq, exists_eq', dwipe, exists_eq_right', D.int.injEq, D.str.injEq, D.bl.injEq, D.tup.injEq, D.ref.injEq, D.rol.injEq, GO.lst.injEq, GO.ins.injEq, GO.dK.injEq, GO.dT.injEq, List.cons.injEq, tgLen, List.length_cons, List.length_nil, List.length_map, List.map_cons, List.map_nil, List.replicate_succ, List.replicate_zero, List.nil_append, List.cons_append, true_and, and_true, if_true, Bool.not_true, Bool.not_false, Bool.false_eq_true, if_false, gup_same, reduceCtorEq, false_and, and_false, exists_false, exists_const, inst_i, inst_b, inst_s, inst_t, atI_0, atI_1, atI_2, atI_3, atI_4, eqNN_nat, ix41, ix42, ix43, gup_gup, and_assoc, exists_and_left, oQ0, oQ1, oQ2, oQ3, oQ4, oQ5, oQ6, oQ7, oQ8, oQ9, oQ10, oQ11, oQ12, oQ13, oQ14, oQ15, oQ16, oQ17, oQ18, oQ19, oQ20, oQ21, oQ22, oQ23, oQ24, oQ25, oQ26, oQ27, oQ28, oQ29, oQ30, oQ31, oQ32, oQ33, oQ34, oQ35, oQ36, oQ37, oQ38, oQ39, oQ40, oQ41, oQ42, oQ43, oQ44, oQ45, oQ46, oQ47, oQ48, oQ49, oQ50, oQ51, oQ52, oQ53, oQ54, oQ55, oQ56, oQ57, oQ58, oQ59, oQ60, oQ61, oQ62, oQ63, oQ64, oQ65, oQ66, oQ67, oQ68, oQ69, oQ70, oQ71, oQ72, oQ73, oQ74, oQ75, oQ76, oQ77, oQ78, oQ79, oQ80, oQ81, oQ82, oQ83, oQ84, oQ85, oQ86, oQ87, oQ88, oQ89, oQ90, oQ91, oQ92, oQ93, oQ94, oQ95, oQ96, oQ97, oQ98, oQ99, oQ100, oQ101, oQ102, oQ103, oQ104, oQ105, oQ106, oQ107, oQ108, oQ109, oQ110, oQ111, oQ112, oQ113, oQ114, oQ115, oQ116, oQ117, oQ118, oQ119, oQ120, oQ121, oQ122, oQ123, oQ124, oQ125, oQ126, oQ127, oQ128, oQ129, oQ130, oQ131, oQ132, oQ133, oQ134, oQ135, oQ136, oQ137, oQ138, oQ139, oQ140, oQ141, oQ142, oQ143, oQ144, oQ145, oQ146, oQ147, oQ148, oQ149, oQ150, oQ151, oQ152, oQ153, oQ154, oQ155, oQ156, oQ157, oQ158, oQ159, h1]
  refine ⟨v, 0, _, rfl, kn, ?_⟩
  cases c : isFromD v 0 most <;> simp only [c, exs, ex, ev, evs, evO, evI, evT, evTs, cmpQ, List.getElem?_cons_zero, List.getElem?_cons_succ, List.set_cons_zero, List.set_cons_succ, Option.some.injEq, exists_eq_left', exists_eq_left, exists_eq_right, exists_eq, exists_eq', dwipe, exists_eq_right', D.int.injEq, D.str.injEq, D.bl.injEq, D.tup.injEq, D.ref.injEq, D.rol.injEq, GO.lst.injEq, GO.ins.injEq, GO.dK.injEq, GO.dT.injEq, List.cons.injEq, tgLen, List.length_cons, List.length_nil, List.length_map, List.map_cons, List.map_nil, List.replicate_succ, List.replicate_zero, List.nil_append, List.cons_append, true_and, and_true, if_true, Bool.not_true, Bool.not_false, Bool.false_eq_true, if_false, gup_same, reduceCtorEq, false_and, and_false, exists_false, exists_const, inst_i, inst_b, inst_s, inst_t, atI_0, atI_1, atI_2, atI_3, atI_4, eqNN_nat, ix41, ix42, ix43, gup_gup, and_assoc, exists_and_left, oQ0, oQ1, oQ2, oQ3, oQ4, oQ5, oQ6, oQ7, oQ8, oQ9, oQ10, oQ11, oQ12, oQ13, oQ14, oQ15, oQ16, oQ17, oQ18, oQ19, oQ20, oQ21, oQ22, oQ23, oQ24, oQ25, oQ26, oQ27, oQ28, oQ29, oQ30, oQ31, oQ32, oQ33, oQ34, oQ35, oQ36, oQ37, oQ38, oQ39, oQ40, oQ41, oQ42, oQ43, oQ44, oQ45, oQ46, oQ47, oQ48, oQ49, oQ50, oQ51, oQ52, oQ53, oQ54, oQ55, oQ56, oQ57, oQ58, oQ59, oQ60, oQ61, oQ62, oQ63, oQ64, oQ65, oQ66, oQ67, oQ68, oQ69, oQ70, oQ71, oQ72, oQ73, oQ74, oQ75, oQ76, oQ77, oQ78, oQ79, oQ80, oQ81, oQ82, oQ83, oQ84, oQ85, oQ86, oQ87, oQ88, oQ89, oQ90, oQ91, oQ92, oQ93, oQ94, oQ95, oQ96, oQ97, oQ98, oQ99, oQ100, oQ101, oQ102, oQ103, oQ104, oQ105, oQ106, oQ107, oQ108, oQ109, oQ110, oQ111, oQ112, oQ113, oQ114, oQ115, oQ116, oQ117, oQ118, oQ119, oQ120, oQ121, oQ122, oQ123, oQ124, oQ125, oQ126, oQ127, oQ128, oQ129, oQ130, oQ131, oQ132, oQ133, oQ134, oQ135, oQ136, oQ137, oQ138, oQ139, oQ140, oQ141, oQ142, oQ143, oQ144, oQ145, oQ146, oQ147, oQ148, oQ149, oQ150, oQ151, oQ152, oQ153, oQ154, oQ155, oQ156, oQ157, oQ158, oQ159] at q ⊢ <;> exact q
theorem run_stay_of (h : sp_stay_of ds G W Q) : run Φ W N_stay_of.length b_stay_of ds G Q := by
  obtain ⟨p, w, rfl, wo, q⟩ := h
  simp only [run, N_stay_of, b_stay_of, Pl.d, Wr.d, exs, ex, ev, evs, evO, evI, evT, evTs, cmpQ, List.getElem?_cons_zero, List.getElem?_cons_succ, List.set_cons_zero, List.set_cons_succ, Option.some.injEq, exists_eq_left', exists_eq_left, exists_eq_right, exists_eq, exists_eq', dwipe, exists_eq_right', D.int.injEq, D.str.injEq, D.bl.injEq, D.tup.injEq, D.ref.injEq, D.rol.injEq, GO.lst.injEq, GO.ins.injEq, GO.dK.injEq, GO.dT.injEq, List.cons.injEq, tgLen, List.length_cons, List.length_nil, List.length_map, List.map_cons, List.map_nil, List.replicate_succ, List.replicate_zero, List.nil_append, List.cons_append, true_and, and_true, if_true, Bool.not_true, Bool.not_false, Bool.false_eq_true, if_false, gup_same, reduceCtorEq, false_and, and_false, exists_false, exists_const, inst_i, inst_b, inst_s, inst_t, atI_0, atI_1, atI_2, atI_3, atI_4, eqNN_nat, ix41, ix42, ix43, gup_gup, and_assoc, exists_and_left, oQ0, oQ1, oQ2, oQ3, oQ4, oQ5, oQ6, oQ7, oQ8, oQ9, oQ10, oQ11, oQ12, oQ13, oQ14, oQ15, oQ16, oQ17, oQ18, oQ19, oQ20, oQ21, oQ22, oQ23, oQ24, oQ25, oQ26, oQ27, oQ28, oQ29, oQ30, oQ31, oQ32, oQ33, oQ34, oQ35, oQ36, oQ37, oQ38, oQ39, oQ40, oQ41, oQ42, oQ43, oQ44, oQ45, oQ46, oQ47, oQ48, oQ49, oQ50, oQ51, oQ52, oQ53, oQ54, oQ55, oQ56, oQ57, oQ58, oQ59, oQ60, oQ61, oQ62, oQ63, oQ64, oQ65, oQ66, oQ67, oQ68, oQ69, oQ70, oQ71, oQ72, oQ73, oQ74, oQ75, oQ76, oQ77, oQ78, oQ79, oQ80, oQ81, oQ82, oQ83, oQ84, oQ85, oQ86, oQ87, oQ88, oQ89, oQ90, oQ91, oQ92, oQ93, oQ94, oQ95, oQ96, oQ97, oQ98, oQ99, oQ100, oQ101, oQ102, oQ103, oQ104, oQ105, oQ106, oQ107, oQ108, oQ109, oQ110, oQ111, oQ112, oQ113, oQ114, oQ115, oQ116, oQ117, oQ118, oQ119, oQ120, oQ121, oQ122, oQ123, oQ124, oQ125, oQ126, oQ127, oQ128, oQ129, oQ130, oQ131, oQ132, oQ133, oQ134, oQ135, oQ136, oQ137, oQ138, oQ139, oQ140, oQ141, oQ142, oQ143, oQ144, oQ145, oQ146, oQ147, oQ148, oQ149, oQ150, oQ151, oQ152, oQ153, oQ154, oQ155, oQ156, oQ157, oQ158, oQ159]
  have h0 := wo.i0; have h1 := wo.i1
  refine ⟨_, atI_nat (j := w.ink.toNat) (by omega) (d := .int (stayOf p w)) ?_, q⟩
  rw [List.getElem?_map, List.getElem?_eq_getElem (by omega)]
  unfold stayOf
  rw [List.getD_eq_getElem?_getD, List.getElem?_eq_getElem (by omega)]
  rfl
theorem run_seen_at (h1 : Φ f_stay_of = sp_stay_of) (h : sp_seen_at ds G W Q) : run Φ W N_seen_at.length b_seen_at ds G Q := by
  obtain ⟨p, T, ts, cell, tick, rfl, po, hT, q⟩ := h
  simp only [run, N_seen_at, b_seen_at, Pl.d, exs, ex, ev, evs, evO, evI, evT, evTs, cmpQ, List.getElem?_cons_zero, List.getElem?_cons_succ, List.set_cons_zero, List.set_cons_succ, Option.some.injEq, exists_eq_left', exists_eq_left, exists_eq_right, exists_eq, exists_eq', dwipe, exists_eq_right', D.int.injEq, D.str.injEq, D.bl.injEq, D.tup.injEq, D.ref.injEq, D.rol.injEq, GO.lst.injEq, GO.ins.injEq, GO.dK.injEq, GO.dT.injEq, List.cons.injEq, tgLen, List.length_cons, List.length_nil, List.length_map, List.map_cons, List.map_nil, List.replicate_succ, List.replicate_zero, List.nil_append, List.cons_append, true_and, and_true, if_true, Bool.not_true, Bool.not_false, Bool.false_eq_true, if_false, gup_same, reduceCtorEq, false_and, and_false, exists_false, exists_const, inst_i, inst_b, inst_s, inst_t, atI_0, atI_1, atI_2, atI_3, atI_4, eqNN_nat, ix41, ix42, ix43, gup_gup, and_assoc, exists_and_left, oQ0, oQ1, oQ2, oQ3, oQ4, oQ5, oQ6, oQ7, oQ8, oQ9, oQ10, oQ11, oQ12, oQ13, oQ14, oQ15, oQ16, oQ17, oQ18, oQ19, oQ20, oQ21, oQ22, oQ23, oQ24, oQ25, oQ26, oQ27, oQ28, oQ29, oQ30, oQ31, oQ32, oQ33, oQ34, oQ35, oQ36, oQ37, oQ38, oQ39, oQ40, oQ41, oQ42, oQ43, oQ44, oQ45, oQ46, oQ47, oQ48, oQ49, oQ50, oQ51, oQ52, oQ53, oQ54, oQ55, oQ56, oQ57, oQ58, oQ59, oQ60, oQ61, oQ62, oQ63, oQ64, oQ65, oQ66, oQ67, oQ68, oQ69, oQ70, oQ71, oQ72, oQ73, oQ74, oQ75, oQ76, oQ77, oQ78, oQ79, oQ80, oQ81, oQ82, oQ83, oQ84, oQ85, oQ86, oQ87, oQ88, oQ89, oQ90, oQ91, oQ92, oQ93, oQ94, oQ95, oQ96, oQ97, oQ98, oQ99, oQ100, oQ101, oQ102, oQ103, oQ104, oQ105, oQ106, oQ107, oQ108, oQ109, oQ110, oQ111, oQ112, oQ113, oQ114, oQ115, oQ116, oQ117, oQ118, oQ119, oQ120, oQ121, oQ122, oQ123, oQ124, oQ125, oQ126, oQ127, oQ128, oQ129, oQ130, oQ131, oQ132, oQ133, oQ134, oQ135, oQ136, oQ137, oQ138, oQ139, oQ140, oQ141, oQ142, oQ143, oQ144, oQ145, oQ146, oQ147, oQ148, oQ149, oQ150, oQ151, oQ152, oQ153, oQ154, oQ155, oQ156, oQ157, oQ158, oQ159, h1]
  refine hT.j fun ok hok => ?_
  have pd : (D.tup [.int p.cells, .tup (p.stays.map D.int), .tup (p.writes.map Wr.d)]) = p.d := rfl
  have zl : (zipD (p.writes.map Wr.d) (ts.map D.int)).length = (List.zip p.writes ts).length := by simp [zipD]
  refine forL_of (fun i σ G' => G' = G ∧ ∃ e f, σ = [some p.d, some T, some (.int cell), some (.int tick), some (.str (((List.zip p.writes ts).take i).foldl (fun f q => if q.1.cell = cell ∧ q.2 ≤ tick ∧ tick < q.2 + stayOf p q.1 then q.1.sign else f) ".")), e, f]) ⟨rfl, none, none, rfl⟩ ?_ ?_
  · rintro i d σ G' hd ⟨rfl, e, f, rfl⟩ K hK
    refine ⟨hok _ (Ext.refl _), ?_⟩
    obtain ⟨u, w, e1, e2, rfl⟩ := zipD_get hd
    rw [List.getElem?_map] at e1 e2
    obtain ⟨wr, e3, rfl⟩ := Option.map_eq_some_iff.mp e1
    obtain ⟨t, e4, rfl⟩ := Option.map_eq_some_iff.mp e2
    have wok := po.wr wr (List.mem_of_getElem? e3)
    have ez : (List.zip p.writes ts)[i]? = some (wr, t) := by rw [List.getElem?_zip_eq_some]; exact ⟨e3, e4⟩
    have tk : (List.zip p.writes ts).take (i + 1) = (List.zip p.writes ts).take i ++ [(wr, t)] := by rw [List.take_succ, ez]; rfl
    have fin := hK
    simp only [tk, List.foldl_append, List.foldl_cons, List.foldl_nil] at fin
    generalize ((List.zip p.writes ts).take i).foldl (fun f q => if q.1.cell = cell ∧ q.2 ≤ tick ∧ tick < q.2 + stayOf p q.1 then q.1.sign else f) ("." : Str) = F at fin ⊢
    simp only [Wr.d, exs, ex, ev, evs, evO, evI, evT, evTs, cmpQ, List.getElem?_cons_zero, List.getElem?_cons_succ, List.set_cons_zero, List.set_cons_succ, Option.some.injEq, exists_eq_left', exists_eq_left, exists_eq_right, exists_eq, exists_eq', dwipe, exists_eq_right', D.int.injEq, D.str.injEq, D.bl.injEq, D.tup.injEq, D.ref.injEq, D.rol.injEq, GO.lst.injEq, GO.ins.injEq, GO.dK.injEq, GO.dT.injEq, List.cons.injEq, tgLen, List.length_cons, List.length_nil, List.length_map, List.map_cons, List.map_nil, List.replicate_succ, List.replicate_zero, List.nil_append, List.cons_append, true_and, and_true, if_true, Bool.not_true, Bool.not_false, Bool.false_eq_true, if_false, gup_same, reduceCtorEq, false_and, and_false, exists_false, exists_const, inst_i, inst_b, inst_s, inst_t, atI_0, atI_1, atI_2, atI_3, atI_4, eqNN_nat, ix41, ix42, ix43, gup_gup, and_assoc, exists_and_left, oQ0, oQ1, oQ2, oQ3, oQ4, oQ5, oQ6, oQ7, oQ8, oQ9, oQ10, oQ11, oQ12, oQ13, oQ14, oQ15, oQ16, oQ17, oQ18, oQ19, oQ20, oQ21, oQ22, oQ23, oQ24, oQ25, oQ26, oQ27, oQ28, oQ29, oQ30, oQ31, oQ32, oQ33, oQ34, oQ35, oQ36, oQ37, oQ38, oQ39, oQ40, oQ41, oQ42, oQ43, oQ44, oQ45, oQ46, oQ47, oQ48, oQ49, oQ50, oQ51, oQ52, oQ53, oQ54, oQ55, oQ56, oQ57, oQ58, oQ59, oQ60, oQ61, oQ62, oQ63, oQ64, oQ65, oQ66, oQ67, oQ68, oQ69, oQ70, oQ71, oQ72, oQ73, oQ74, oQ75, oQ76, oQ77, oQ78, oQ79, oQ80, oQ81, oQ82, oQ83, oQ84, oQ85, oQ86, oQ87, oQ88, oQ89, oQ90, oQ91, oQ92, oQ93, oQ94, oQ95, oQ96, oQ97, oQ98, oQ99, oQ100, oQ101, oQ102, oQ103, oQ104, oQ105, oQ106, oQ107, oQ108, oQ109, oQ110, oQ111, oQ112, oQ113, oQ114, oQ115, oQ116, oQ117, oQ118, oQ119, oQ120, oQ121, oQ122, oQ123, oQ124, oQ125, oQ126, oQ127, oQ128, oQ129, oQ130, oQ131, oQ132, oQ133, oQ134, oQ135, oQ136, oQ137, oQ138, oQ139, oQ140, oQ141, oQ142, oQ143, oQ144, oQ145, oQ146, oQ147, oQ148, oQ149, oQ150, oQ151, oQ152, oQ153, oQ154, oQ155, oQ156, oQ157, oQ158, oQ159]
    by_cases c1 : wr.cell = cell
    · rw [if_pos (decide_eq_true c1)]
      by_cases c2 : t ≤ tick
      · rw [if_pos (decide_eq_true c2)]
        refine ⟨p, wr, rfl, wok, ?_⟩
        by_cases c3 : tick < t + stayOf p wr
        · simp only [exs, ex, ev, evs, evO, evI, evT, evTs, cmpQ, List.getElem?_cons_zero, List.getElem?_cons_succ, List.set_cons_zero, List.set_cons_succ, Option.some.injEq, exists_eq_left', exists_eq_left, exists_eq_right, exists_eq, exists_eq', dwipe, exists_eq_right', D.int.injEq, D.str.injEq, D.bl.injEq, D.tup.injEq, D.ref.injEq, D.rol.injEq, GO.lst.injEq, GO.ins.injEq, GO.dK.injEq, GO.dT.injEq, List.cons.injEq, tgLen, List.length_cons, List.length_nil, List.length_map, List.map_cons, List.map_nil, List.replicate_succ, List.replicate_zero, List.nil_append, List.cons_append, true_and, and_true, if_true, Bool.not_true, Bool.not_false, Bool.false_eq_true, if_false, gup_same, reduceCtorEq, false_and, and_false, exists_false, exists_const, inst_i, inst_b, inst_s, inst_t, atI_0, atI_1, atI_2, atI_3, atI_4, eqNN_nat, ix41, ix42, ix43, gup_gup, and_assoc, exists_and_left, oQ0, oQ1, oQ2, oQ3, oQ4, oQ5, oQ6, oQ7, oQ8, oQ9, oQ10, oQ11, oQ12, oQ13, oQ14, oQ15, oQ16, oQ17, oQ18, oQ19, oQ20, oQ21, oQ22, oQ23, oQ24, oQ25, oQ26, oQ27, oQ28, oQ29, oQ30, oQ31, oQ32, oQ33, oQ34, oQ35, oQ36, oQ37, oQ38, oQ39, oQ40, oQ41, oQ42, oQ43, oQ44, oQ45, oQ46, oQ47, oQ48, oQ49, oQ50, oQ51, oQ52, oQ53, oQ54, oQ55, oQ56, oQ57, oQ58, oQ59, oQ60, oQ61, oQ62, oQ63, oQ64, oQ65, oQ66, oQ67, oQ68, oQ69, oQ70, oQ71, oQ72, oQ73, oQ74, oQ75, oQ76, oQ77, oQ78, oQ79, oQ80, oQ81, oQ82, oQ83, oQ84, oQ85, oQ86, oQ87, oQ88, oQ89, oQ90, oQ91, oQ92, oQ93, oQ94, oQ95, oQ96, oQ97, oQ98, oQ99, oQ100, oQ101, oQ102, oQ103, oQ104, oQ105, oQ106, oQ107, oQ108, oQ109, oQ110, oQ111, oQ112, oQ113, oQ114, oQ115, oQ116, oQ117, oQ118, oQ119, oQ120, oQ121, oQ122, oQ123, oQ124, oQ125, oQ126, oQ127, oQ128, oQ129, oQ130, oQ131, oQ132, oQ133, oQ134, oQ135, oQ136, oQ137, oQ138, oQ139, oQ140, oQ141, oQ142, oQ143, oQ144, oQ145, oQ146, oQ147, oQ148, oQ149, oQ150, oQ151, oQ152, oQ153, oQ154, oQ155, oQ156, oQ157, oQ158, oQ159, decide_eq_true c3]
          exact fin _ _ ⟨rfl, _, _, by rw [if_pos ⟨c1, c2, c3⟩]⟩
        · simp only [exs, ex, ev, evs, evO, evI, evT, evTs, cmpQ, List.getElem?_cons_zero, List.getElem?_cons_succ, List.set_cons_zero, List.set_cons_succ, Option.some.injEq, exists_eq_left', exists_eq_left, exists_eq_right, exists_eq, exists_eq', dwipe, exists_eq_right', D.int.injEq, D.str.injEq, D.bl.injEq, D.tup.injEq, D.ref.injEq, D.rol.injEq, GO.lst.injEq, GO.ins.injEq, GO.dK.injEq, GO.dT.injEq, List.cons.injEq, tgLen, List.length_cons, List.length_nil, List.length_map, List.map_cons, List.map_nil, List.replicate_succ, List.replicate_zero, List.nil_append, List.cons_append, true_and, and_true, if_true, Bool.not_true, Bool.not_false, Bool.false_eq_true, if_false, gup_same, reduceCtorEq, false_and, and_false, exists_false, exists_const, inst_i, inst_b, inst_s, inst_t, atI_0, atI_1, atI_2, atI_3, atI_4, eqNN_nat, ix41, ix42, ix43, gup_gup, and_assoc, exists_and_left, oQ0, oQ1, oQ2, oQ3, oQ4, oQ5, oQ6, oQ7, oQ8, oQ9, oQ10, oQ11, oQ12, oQ13, oQ14, oQ15, oQ16, oQ17, oQ18, oQ19, oQ20, oQ21, oQ22, oQ23, oQ24, oQ25, oQ26, oQ27, oQ28, oQ29, oQ30, oQ31, oQ32, oQ33, oQ34, oQ35, oQ36, oQ37, oQ38, oQ39, oQ40, oQ41, oQ42, oQ43, oQ44, oQ45, oQ46, oQ47, oQ48, oQ49, oQ50, oQ51, oQ52, oQ53, oQ54, oQ55, oQ56, oQ57, oQ58, oQ59, oQ60, oQ61, oQ62, oQ63, oQ64, oQ65, oQ66, oQ67, oQ68, oQ69, oQ70, oQ71, oQ72, oQ73, oQ74, oQ75, oQ76, oQ77, oQ78, oQ79, oQ80, oQ81, oQ82, oQ83, oQ84, oQ85, oQ86, oQ87, oQ88, oQ89, oQ90, oQ91, oQ92, oQ93, oQ94, oQ95, oQ96, oQ97, oQ98, oQ99, oQ100, oQ101, oQ102, oQ103, oQ104, oQ105, oQ106, oQ107, oQ108, oQ109, oQ110, oQ111, oQ112, oQ113, oQ114, oQ115, oQ116, oQ117, oQ118, oQ119, oQ120, oQ121, oQ122, oQ123, oQ124, oQ125, oQ126, oQ127, oQ128, oQ129, oQ130, oQ131, oQ132, oQ133, oQ134, oQ135, oQ136, oQ137, oQ138, oQ139, oQ140, oQ141, oQ142, oQ143, oQ144, oQ145, oQ146, oQ147, oQ148, oQ149, oQ150, oQ151, oQ152, oQ153, oQ154, oQ155, oQ156, oQ157, oQ158, oQ159, decide_eq_false c3]
          exact fin _ _ ⟨rfl, _, _, by rw [if_neg (fun z => c3 z.2.2)]⟩
      · rw [if_neg (by simpa using c2)]
        exact fin _ _ ⟨rfl, _, _, by rw [if_neg (fun z => c2 z.2.1)]⟩
    · rw [if_neg (by simpa using c1)]
      exact fin _ _ ⟨rfl, _, _, by rw [if_neg (fun z => c1 z.1)]⟩
  · rintro σ G' ⟨rfl, e, f, rfl⟩
    refine ⟨hok _ (Ext.refl _), ?_⟩
    simp only [exs, ex, ev, evs, evO, evI, evT, evTs, cmpQ, List.getElem?_cons_zero, List.getElem?_cons_succ, List.set_cons_zero, List.set_cons_succ, Option.some.injEq, exists_eq_left', exists_eq_left, exists_eq_right, exists_eq, exists_eq', dwipe, exists_eq_right', D.int.injEq, D.str.injEq, D.bl.injEq, D.tup.injEq, D.ref.injEq, D.rol.injEq, GO.lst.injEq, GO.ins.injEq, GO.dK.injEq, GO.dT.injEq, List.cons.injEq, tgLen, List.length_cons, List.length_nil, List.length_map, List.map_cons, List.map_nil, List.replicate_succ, List.replicate_zero, List.nil_append, List.cons_append, true_and, and_true, if_true, Bool.not_true, Bool.not_false, Bool.false_eq_true, if_false, gup_same, reduceCtorEq, false_and, and_false, exists_false, exists_const, inst_i, inst_b, inst_s, inst_t, atI_0, atI_1, atI_2, atI_3, atI_4, eqNN_nat, ix41, ix42, ix43, gup_gup, and_assoc, exists_and_left, oQ0, oQ1, oQ2, oQ3, oQ4, oQ5, oQ6, oQ7, oQ8, oQ9, oQ10, oQ11, oQ12, oQ13, oQ14, oQ15, oQ16, oQ17, oQ18, oQ19, oQ20, oQ21, oQ22, oQ23, oQ24, oQ25, oQ26, oQ27, oQ28, oQ29, oQ30, oQ31, oQ32, oQ33, oQ34, oQ35, oQ36, oQ37, oQ38, oQ39, oQ40, oQ41, oQ42, oQ43, oQ44, oQ45, oQ46, oQ47, oQ48, oQ49, oQ50, oQ51, oQ52, oQ53, oQ54, oQ55, oQ56, oQ57, oQ58, oQ59, oQ60, oQ61, oQ62, oQ63, oQ64, oQ65, oQ66, oQ67, oQ68, oQ69, oQ70, oQ71, oQ72, oQ73, oQ74, oQ75, oQ76, oQ77, oQ78, oQ79, oQ80, oQ81, oQ82, oQ83, oQ84, oQ85, oQ86, oQ87, oQ88, oQ89, oQ90, oQ91, oQ92, oQ93, oQ94, oQ95, oQ96, oQ97, oQ98, oQ99, oQ100, oQ101, oQ102, oQ103, oQ104, oQ105, oQ106, oQ107, oQ108, oQ109, oQ110, oQ111, oQ112, oQ113, oQ114, oQ115, oQ116, oQ117, oQ118, oQ119, oQ120, oQ121, oQ122, oQ123, oQ124, oQ125, oQ126, oQ127, oQ128, oQ129, oQ130, oQ131, oQ132, oQ133, oQ134, oQ135, oQ136, oQ137, oQ138, oQ139, oQ140, oQ141, oQ142, oQ143, oQ144, oQ145, oQ146, oQ147, oQ148, oQ149, oQ150, oQ151, oQ152, oQ153, oQ154, oQ155, oQ156, oQ157, oQ158, oQ159]
    rw [zl, List.take_length]
    exact q
theorem run_ticks (h1 : Φ f_need_plan = sp_need_plan) (h2 : Φ f_need_pace = sp_need_pace) (h3 : Φ f_ticks_of = sp_ticks_of) (h : sp_ticks ds G W Q) : run Φ W N_ticks.length b_ticks ds G Q := by
  obtain ⟨v, u, rfl, kv, ku, q⟩ := h
  simp only [run, N_ticks, b_ticks, exs, ex, ev, evs, evO, evI, evT, evTs, cmpQ, List.getElem?_cons_zero, List.getElem?_cons_succ, List.set_cons_zero, List.set_cons_succ, Option.some.injEq, exists_eq_left', exists_eq_left, exists_eq_right, exists_eq, exists_eq', dwipe, exists_eq_right', D.int.injEq, D.str.injEq, D.bl.injEq, D.tup.injEq, D.ref.injEq, D.rol.injEq, GO.lst.injEq, GO.ins.injEq, GO.dK.injEq, GO.dT.injEq, List.cons.injEq, tgLen, List.length_cons, List.length_nil, List.length_map, List.map_cons, List.map_nil, List.replicate_succ, List.replicate_zero, List.nil_append, List.cons_append, true_and, and_true, if_true, Bool.not_true, Bool.not_false, Bool.false_eq_true, if_false, gup_same, reduceCtorEq, false_and, and_false, exists_false, exists_const, inst_i, inst_b, inst_s, inst_t, atI_0, atI_1, atI_2, atI_3, atI_4, eqNN_nat, ix41, ix42, ix43, gup_gup, and_assoc, exists_and_left, oQ0, oQ1, oQ2, oQ3, oQ4, oQ5, oQ6, oQ7, oQ8, oQ9, oQ10, oQ11, oQ12, oQ13, oQ14, oQ15, oQ16, oQ17, oQ18, oQ19, oQ20, oQ21, oQ22, oQ23, oQ24, oQ25, oQ26, oQ27, oQ28, oQ29, oQ30, oQ31, oQ32, oQ33, oQ34, oQ35, oQ36, oQ37, oQ38, oQ39, oQ40, oQ41, oQ42, oQ43, oQ44, oQ45, oQ46, oQ47, oQ48, oQ49, oQ50, oQ51, oQ52, oQ53, oQ54, oQ55, oQ56, oQ57, oQ58, oQ59, oQ60, oQ61, oQ62, oQ63, oQ64, oQ65, oQ66, oQ67, oQ68, oQ69, oQ70, oQ71, oQ72, oQ73, oQ74, oQ75, oQ76, oQ77, oQ78, oQ79, oQ80, oQ81, oQ82, oQ83, oQ84, oQ85, oQ86, oQ87, oQ88, oQ89, oQ90, oQ91, oQ92, oQ93, oQ94, oQ95, oQ96, oQ97, oQ98, oQ99, oQ100, oQ101, oQ102, oQ103, oQ104, oQ105, oQ106, oQ107, oQ108, oQ109, oQ110, oQ111, oQ112, oQ113, oQ114, oQ115, oQ116, oQ117, oQ118, oQ119, oQ120, oQ121, oQ122, oQ123, oQ124, oQ125, oQ126, oQ127, oQ128, oQ129, oQ130, oQ131, oQ132, oQ133, oQ134, oQ135, oQ136, oQ137, oQ138, oQ139, oQ140, oQ141, oQ142, oQ143, oQ144, oQ145, oQ146, oQ147, oQ148, oQ149, oQ150, oQ151, oQ152, oQ153, oQ154, oQ155, oQ156, oQ157, oQ158, oQ159, h1, h2, h3]
  refine ⟨v, rfl, kv, fun G1 x1 => ?_⟩
  have q1 := fun G' x => q G' (x1.trans x)
  cases c : isPlanD v <;> simp only [exs, ex, ev, evs, evO, evI, evT, evTs, cmpQ, List.getElem?_cons_zero, List.getElem?_cons_succ, List.set_cons_zero, List.set_cons_succ, Option.some.injEq, exists_eq_left', exists_eq_left, exists_eq_right, exists_eq, exists_eq', dwipe, exists_eq_right', D.int.injEq, D.str.injEq, D.bl.injEq, D.tup.injEq, D.ref.injEq, D.rol.injEq, GO.lst.injEq, GO.ins.injEq, GO.dK.injEq, GO.dT.injEq, List.cons.injEq, tgLen, List.length_cons, List.length_nil, List.length_map, List.map_cons, List.map_nil, List.replicate_succ, List.replicate_zero, List.nil_append, List.cons_append, true_and, and_true, if_true, Bool.not_true, Bool.not_false, Bool.false_eq_true, if_false, gup_same, reduceCtorEq, false_and, and_false, exists_false, exists_const, inst_i, inst_b, inst_s, inst_t, atI_0, atI_1, atI_2, atI_3, atI_4, eqNN_nat, ix41, ix42, ix43, gup_gup, and_assoc, exists_and_left, oQ0, oQ1, oQ2, oQ3, oQ4, oQ5, oQ6, oQ7, oQ8, oQ9, oQ10, oQ11, oQ12, oQ13, oQ14, oQ15, oQ16, oQ17, oQ18, oQ19, oQ20, oQ21, oQ22, oQ23, oQ24, oQ25, oQ26, oQ27, oQ28, oQ29, oQ30, oQ31, oQ32, oQ33, oQ34, oQ35, oQ36, oQ37, oQ38, oQ39, oQ40, oQ41, oQ42, oQ43, oQ44, oQ45, oQ46, oQ47, oQ48, oQ49, oQ50, oQ51, oQ52, oQ53, oQ54, oQ55, oQ56, oQ57, oQ58, oQ59, oQ60, oQ61, oQ62, oQ63, oQ64, oQ65, oQ66, oQ67, oQ68, oQ69, oQ70, oQ71, oQ72, oQ73, oQ74, oQ75, oQ76, oQ77, oQ78, oQ79, oQ80, oQ81, oQ82, oQ83, oQ84, oQ85, oQ86, oQ87, oQ88, oQ89, oQ90, oQ91, oQ92, oQ93, oQ94, oQ95, oQ96, oQ97, oQ98, oQ99, oQ100, oQ101, oQ102, oQ103, oQ104, oQ105, oQ106, oQ107, oQ108, oQ109, oQ110, oQ111, oQ112, oQ113, oQ114, oQ115, oQ116, oQ117, oQ118, oQ119, oQ120, oQ121, oQ122, oQ123, oQ124, oQ125, oQ126, oQ127, oQ128, oQ129, oQ130, oQ131, oQ132, oQ133, oQ134, oQ135, oQ136, oQ137, oQ138, oQ139, oQ140, oQ141, oQ142, oQ143, oQ144, oQ145, oQ146, oQ147, oQ148, oQ149, oQ150, oQ151, oQ152, oQ153, oQ154, oQ155, oQ156, oQ157, oQ158, oQ159]
  · exact (q G1 x1).1 c
  obtain ⟨p, rfl, po⟩ := plan_inv c
  refine ⟨p, u, rfl, po, ku.ext x1, fun G2 x2 => ?_⟩
  cases c2 : isPaceD p u <;> simp only [exs, ex, ev, evs, evO, evI, evT, evTs, cmpQ, List.getElem?_cons_zero, List.getElem?_cons_succ, List.set_cons_zero, List.set_cons_succ, Option.some.injEq, exists_eq_left', exists_eq_left, exists_eq_right, exists_eq, exists_eq', dwipe, exists_eq_right', D.int.injEq, D.str.injEq, D.bl.injEq, D.tup.injEq, D.ref.injEq, D.rol.injEq, GO.lst.injEq, GO.ins.injEq, GO.dK.injEq, GO.dT.injEq, List.cons.injEq, tgLen, List.length_cons, List.length_nil, List.length_map, List.map_cons, List.map_nil, List.replicate_succ, List.replicate_zero, List.nil_append, List.cons_append, true_and, and_true, if_true, Bool.not_true, Bool.not_false, Bool.false_eq_true, if_false, gup_same, reduceCtorEq, false_and, and_false, exists_false, exists_const, inst_i, inst_b, inst_s, inst_t, atI_0, atI_1, atI_2, atI_3, atI_4, eqNN_nat, ix41, ix42, ix43, gup_gup, and_assoc, exists_and_left, oQ0, oQ1, oQ2, oQ3, oQ4, oQ5, oQ6, oQ7, oQ8, oQ9, oQ10, oQ11, oQ12, oQ13, oQ14, oQ15, oQ16, oQ17, oQ18, oQ19, oQ20, oQ21, oQ22, oQ23, oQ24, oQ25, oQ26, oQ27, oQ28, oQ29, oQ30, oQ31, oQ32, oQ33, oQ34, oQ35, oQ36, oQ37, oQ38, oQ39, oQ40, oQ41, oQ42, oQ43, oQ44, oQ45, oQ46, oQ47, oQ48, oQ49, oQ50, oQ51, oQ52, oQ53, oQ54, oQ55, oQ56, oQ57, oQ58, oQ59, oQ60, oQ61, oQ62, oQ63, oQ64, oQ65, oQ66, oQ67, oQ68, oQ69, oQ70, oQ71, oQ72, oQ73, oQ74, oQ75, oQ76, oQ77, oQ78, oQ79, oQ80, oQ81, oQ82, oQ83, oQ84, oQ85, oQ86, oQ87, oQ88, oQ89, oQ90, oQ91, oQ92, oQ93, oQ94, oQ95, oQ96, oQ97, oQ98, oQ99, oQ100, oQ101, oQ102, oQ103, oQ104, oQ105, oQ106, oQ107, oQ108, oQ109, oQ110, oQ111, oQ112, oQ113, oQ114, oQ115, oQ116, oQ117, oQ118, oQ119, oQ120, oQ121, oQ122, oQ123, oQ124, oQ125, oQ126, oQ127, oQ128, oQ129, oQ130, oQ131, oQ132, oQ133, oQ134, oQ135, oQ136, oQ137, oQ138, oQ139, oQ140, oQ141, oQ142, oQ143, oQ144, oQ145, oQ146, oQ147, oQ148, oQ149, oQ150, oQ151, oQ152, oQ153, oQ154, oQ155, oQ156, oQ157, oQ158, oQ159]
  · exact ((q G2 (x1.trans x2)).2 p rfl po).1 c2
  obtain ⟨rs, rfl, ro⟩ := paceD_inv c2
  refine ⟨rs, rfl, by have := ro.1; have := po.w8; omega, fun a G3 ha x3 e => ?_⟩
  simp only [exs, ex, ev, evs, evO, evI, evT, evTs, cmpQ, List.getElem?_cons_zero, List.getElem?_cons_succ, List.set_cons_zero, List.set_cons_succ, Option.some.injEq, exists_eq_left', exists_eq_left, exists_eq_right, exists_eq, exists_eq', dwipe, exists_eq_right', D.int.injEq, D.str.injEq, D.bl.injEq, D.tup.injEq, D.ref.injEq, D.rol.injEq, GO.lst.injEq, GO.ins.injEq, GO.dK.injEq, GO.dT.injEq, List.cons.injEq, tgLen, List.length_cons, List.length_nil, List.length_map, List.map_cons, List.map_nil, List.replicate_succ, List.replicate_zero, List.nil_append, List.cons_append, true_and, and_true, if_true, Bool.not_true, Bool.not_false, Bool.false_eq_true, if_false, gup_same, reduceCtorEq, false_and, and_false, exists_false, exists_const, inst_i, inst_b, inst_s, inst_t, atI_0, atI_1, atI_2, atI_3, atI_4, eqNN_nat, ix41, ix42, ix43, gup_gup, and_assoc, exists_and_left, oQ0, oQ1, oQ2, oQ3, oQ4, oQ5, oQ6, oQ7, oQ8, oQ9, oQ10, oQ11, oQ12, oQ13, oQ14, oQ15, oQ16, oQ17, oQ18, oQ19, oQ20, oQ21, oQ22, oQ23, oQ24, oQ25, oQ26, oQ27, oQ28, oQ29, oQ30, oQ31, oQ32, oQ33, oQ34, oQ35, oQ36, oQ37, oQ38, oQ39, oQ40, oQ41, oQ42, oQ43, oQ44, oQ45, oQ46, oQ47, oQ48, oQ49, oQ50, oQ51, oQ52, oQ53, oQ54, oQ55, oQ56, oQ57, oQ58, oQ59, oQ60, oQ61, oQ62, oQ63, oQ64, oQ65, oQ66, oQ67, oQ68, oQ69, oQ70, oQ71, oQ72, oQ73, oQ74, oQ75, oQ76, oQ77, oQ78, oQ79, oQ80, oQ81, oQ82, oQ83, oQ84, oQ85, oQ86, oQ87, oQ88, oQ89, oQ90, oQ91, oQ92, oQ93, oQ94, oQ95, oQ96, oQ97, oQ98, oQ99, oQ100, oQ101, oQ102, oQ103, oQ104, oQ105, oQ106, oQ107, oQ108, oQ109, oQ110, oQ111, oQ112, oQ113, oQ114, oQ115, oQ116, oQ117, oQ118, oQ119, oQ120, oQ121, oQ122, oQ123, oQ124, oQ125, oQ126, oQ127, oQ128, oQ129, oQ130, oQ131, oQ132, oQ133, oQ134, oQ135, oQ136, oQ137, oQ138, oQ139, oQ140, oQ141, oQ142, oQ143, oQ144, oQ145, oQ146, oQ147, oQ148, oQ149, oQ150, oQ151, oQ152, oQ153, oQ154, oQ155, oQ156, oQ157, oQ158, oQ159, e]
  exact ((q G3 ((x1.trans x2).trans x3)).2 p rfl po).2 rs rfl ro
end
end Ink
set_option Elab.async false
set_option linter.all false
set_option maxRecDepth 100000
set_option maxHeartbeats 4000000
/-! Ink, part U: what is seen, boards, stories. -/
namespace Ink
open PySem PySem.Spec PyProof.Rows L2
theorem seenS_len {p : Pl} (po : p.Ok) (ts : List Int) (c t : Int) : (seenS p ts c t).length = 1 := by
  unfold seenS
  have key : ∀ (l : List (Wr × Int)) (f : Str), f.length = 1 → (∀ q ∈ l, q.1 ∈ p.writes) → (l.foldl (fun f q => if q.1.cell = c ∧ q.2 ≤ t ∧ t < q.2 + stayOf p q.1 then q.1.sign else f) f).length = 1 := by
    intro l
    induction l with
    | nil => intro f h _; exact h
    | cons q l ih =>
      intro f h hm
      rw [List.foldl_cons]
      refine ih _ ?_ fun q' h' => hm q' (List.mem_cons_of_mem _ h')
      split
      · exact (po.wr _ (hm q List.mem_cons_self)).sl
      · exact h
  exact key _ _ (by decide) fun q hq => (List.of_mem_zip hq).1
theorem sum_ones : ∀ (l : List Str), (∀ x ∈ l, x.length = 1) → (l.map (·.length)).sum = l.length
  | [], _ => rfl
  | x :: l, h => by
    rw [List.map_cons, List.sum_cons, h x List.mem_cons_self, sum_ones l fun y hy => h y (List.mem_cons_of_mem _ hy), List.length_cons]
    omega
theorem rangeL_cells (n : Int) : rangeL 0 n.toNat = (cellsL n).map D.int := by
  unfold rangeL cellsL
  rw [List.map_map]
  apply List.map_congr_left
  intro i _
  simp
section
variable {Φ : Nat → DSp} {W : WE} {ds : List D} {G : GH} {Q : KD}
theorem run_seen (h1 : Φ f_need_plan = sp_need_plan) (h2 : Φ f_need_pace = sp_need_pace) (h3 : Φ f_ticks_of = sp_ticks_of) (h4 : Φ f_need_cell = sp_need_cell) (h5 : Φ f_need_tick = sp_need_tick) (h6 : Φ f_seen_at = sp_seen_at) (h : sp_seen ds G W Q) : run Φ W N_seen.length b_seen ds G Q := by
  obtain ⟨v, u, ce, ti, rfl, kv, ku, kc, kt, q⟩ := h
  simp only [run, N_seen, b_seen, exs, ex, ev, evs, evO, evI, evT, evTs, cmpQ, List.getElem?_cons_zero, List.getElem?_cons_succ, List.set_cons_zero, List.set_cons_succ, Option.some.injEq, exists_eq_left', exists_eq_left, exists_eq_right, exists_eq, exists_eq', dwipe, exists_eq_right', D.int.injEq, D.str.injEq, D.bl.injEq, D.tup.injEq, D.ref.injEq, D.rol.injEq, GO.lst.injEq, GO.ins.injEq, GO.dK.injEq, GO.dT.injEq, List.cons.injEq, tgLen, List.length_cons, List.length_nil, List.length_map, List.map_cons, List.map_nil, List.replicate_succ, List.replicate_zero, List.nil_append, List.cons_append, true_and, and_true, if_true, Bool.not_true, Bool.not_false, Bool.false_eq_true, if_false, gup_same, reduceCtorEq, false_and, and_false, exists_false, exists_const, inst_i, inst_b, inst_s, inst_t, atI_0, atI_1, atI_2, atI_3, atI_4, eqNN_nat, ix41, ix42, ix43, gup_gup, and_assoc, exists_and_left, oQ0, oQ1, oQ2, oQ3, oQ4, oQ5, oQ6, oQ7, oQ8, oQ9, oQ10, oQ11, oQ12, oQ13, oQ14, oQ15, oQ16, oQ17, oQ18, oQ19, oQ20, oQ21, oQ22, oQ23, oQ24, oQ25, oQ26, oQ27, oQ28, oQ29, oQ30, oQ31, oQ32, oQ33, oQ34, oQ35, oQ36, oQ37, oQ38, oQ39, oQ40, oQ41, oQ42, oQ43, oQ44, oQ45, oQ46, oQ47, oQ48, oQ49, oQ50, oQ51, oQ52, oQ53, oQ54, oQ55, oQ56, oQ57, oQ58, oQ59, oQ60, oQ61, oQ62, oQ63, oQ64, oQ65, oQ66, oQ67, oQ68, oQ69, oQ70, oQ71, oQ72, oQ73, oQ74, oQ75, oQ76, oQ77, oQ78, oQ79, oQ80, oQ81, oQ82, oQ83, oQ84, oQ85, oQ86, oQ87, oQ88, oQ89, oQ90, oQ91, oQ92, oQ93, oQ94, oQ95, oQ96, oQ97, oQ98, oQ99, oQ100, oQ101, oQ102, oQ103, oQ104, oQ105, oQ106, oQ107, oQ108, oQ109, oQ110, oQ111, oQ112, oQ113, oQ114, oQ115, oQ116, oQ117, oQ118, oQ119, oQ120, oQ121, oQ122, oQ123, oQ124, oQ125, oQ126, oQ127, oQ128, oQ129, oQ130, oQ131, oQ132, oQ133, oQ134, oQ135, oQ136, oQ137, oQ138, oQ139, oQ140, oQ141, oQ142, oQ143, oQ144, oQ145, oQ146, oQ147, oQ148, oQ149, oQ150, oQ151, oQ152, oQ153, oQ154, oQ155, oQ156, oQ157, oQ158, oQ159, h1, h2, h3, h4, h5, h6]
  refine ⟨v, rfl, kv, fun G1 x1 => ?_⟩
  cases c : isPlanD v <;> simp only [exs, ex, ev, evs, evO, evI, evT, evTs, cmpQ, List.getElem?_cons_zero, List.getElem?_cons_succ, List.set_cons_zero, List.set_cons_succ, Option.some.injEq, exists_eq_left', exists_eq_left, exists_eq_right, exists_eq, exists_eq', dwipe, exists_eq_right', D.int.injEq, D.str.injEq, D.bl.injEq, D.tup.injEq, D.ref.injEq, D.rol.injEq, GO.lst.injEq, GO.ins.injEq, GO.dK.injEq, GO.dT.injEq, List.cons.injEq, tgLen, List.length_cons, List.length_nil, List.length_map, List.map_cons, List.map_nil, List.replicate_succ, List.replicate_zero, List.nil_append, List.cons_append, true_and, and_true, if_true, Bool.not_true, Bool.not_false, Bool.false_eq_true, if_false, gup_same, reduceCtorEq, false_and, and_false, exists_false, exists_const, inst_i, inst_b, inst_s, inst_t, atI_0, atI_1, atI_2, atI_3, atI_4, eqNN_nat, ix41, ix42, ix43, gup_gup, and_assoc, exists_and_left, oQ0, oQ1, oQ2, oQ3, oQ4, oQ5, oQ6, oQ7, oQ8, oQ9, oQ10, oQ11, oQ12, oQ13, oQ14, oQ15, oQ16, oQ17, oQ18, oQ19, oQ20, oQ21, oQ22, oQ23, oQ24, oQ25, oQ26, oQ27, oQ28, oQ29, oQ30, oQ31, oQ32, oQ33, oQ34, oQ35, oQ36, oQ37, oQ38, oQ39, oQ40, oQ41, oQ42, oQ43, oQ44, oQ45, oQ46, oQ47, oQ48, oQ49, oQ50, oQ51, oQ52, oQ53, oQ54, oQ55, oQ56, oQ57, oQ58, oQ59, oQ60, oQ61, oQ62, oQ63, oQ64, oQ65, oQ66, oQ67, oQ68, oQ69, oQ70, oQ71, oQ72, oQ73, oQ74, oQ75, oQ76, oQ77, oQ78, oQ79, oQ80, oQ81, oQ82, oQ83, oQ84, oQ85, oQ86, oQ87, oQ88, oQ89, oQ90, oQ91, oQ92, oQ93, oQ94, oQ95, oQ96, oQ97, oQ98, oQ99, oQ100, oQ101, oQ102, oQ103, oQ104, oQ105, oQ106, oQ107, oQ108, oQ109, oQ110, oQ111, oQ112, oQ113, oQ114, oQ115, oQ116, oQ117, oQ118, oQ119, oQ120, oQ121, oQ122, oQ123, oQ124, oQ125, oQ126, oQ127, oQ128, oQ129, oQ130, oQ131, oQ132, oQ133, oQ134, oQ135, oQ136, oQ137, oQ138, oQ139, oQ140, oQ141, oQ142, oQ143, oQ144, oQ145, oQ146, oQ147, oQ148, oQ149, oQ150, oQ151, oQ152, oQ153, oQ154, oQ155, oQ156, oQ157, oQ158, oQ159]
  · exact (q G1 x1).1 c
  obtain ⟨p, rfl, po⟩ := plan_inv c
  refine ⟨p, u, rfl, po, ku.ext x1, fun G2 x2 => ?_⟩
  cases c2 : isPaceD p u <;> simp only [exs, ex, ev, evs, evO, evI, evT, evTs, cmpQ, List.getElem?_cons_zero, List.getElem?_cons_succ, List.set_cons_zero, List.set_cons_succ, Option.some.injEq, exists_eq_left', exists_eq_left, exists_eq_right, exists_eq, exists_eq', dwipe, exists_eq_right', D.int.injEq, D.str.injEq, D.bl.injEq, D.tup.injEq, D.ref.injEq, D.rol.injEq, GO.lst.injEq, GO.ins.injEq, GO.dK.injEq, GO.dT.injEq, List.cons.injEq, tgLen, List.length_cons, List.length_nil, List.length_map, List.map_cons, List.map_nil, List.replicate_succ, List.replicate_zero, List.nil_append, List.cons_append, true_and, and_true, if_true, Bool.not_true, Bool.not_false, Bool.false_eq_true, if_false, gup_same, reduceCtorEq, false_and, and_false, exists_false, exists_const, inst_i, inst_b, inst_s, inst_t, atI_0, atI_1, atI_2, atI_3, atI_4, eqNN_nat, ix41, ix42, ix43, gup_gup, and_assoc, exists_and_left, oQ0, oQ1, oQ2, oQ3, oQ4, oQ5, oQ6, oQ7, oQ8, oQ9, oQ10, oQ11, oQ12, oQ13, oQ14, oQ15, oQ16, oQ17, oQ18, oQ19, oQ20, oQ21, oQ22, oQ23, oQ24, oQ25, oQ26, oQ27, oQ28, oQ29, oQ30, oQ31, oQ32, oQ33, oQ34, oQ35, oQ36, oQ37, oQ38, oQ39, oQ40, oQ41, oQ42, oQ43, oQ44, oQ45, oQ46, oQ47, oQ48, oQ49, oQ50, oQ51, oQ52, oQ53, oQ54, oQ55, oQ56, oQ57, oQ58, oQ59, oQ60, oQ61, oQ62, oQ63, oQ64, oQ65, oQ66, oQ67, oQ68, oQ69, oQ70, oQ71, oQ72, oQ73, oQ74, oQ75, oQ76, oQ77, oQ78, oQ79, oQ80, oQ81, oQ82, oQ83, oQ84, oQ85, oQ86, oQ87, oQ88, oQ89, oQ90, oQ91, oQ92, oQ93, oQ94, oQ95, oQ96, oQ97, oQ98, oQ99, oQ100, oQ101, oQ102, oQ103, oQ104, oQ105, oQ106, oQ107, oQ108, oQ109, oQ110, oQ111, oQ112, oQ113, oQ114, oQ115, oQ116, oQ117, oQ118, oQ119, oQ120, oQ121, oQ122, oQ123, oQ124, oQ125, oQ126, oQ127, oQ128, oQ129, oQ130, oQ131, oQ132, oQ133, oQ134, oQ135, oQ136, oQ137, oQ138, oQ139, oQ140, oQ141, oQ142, oQ143, oQ144, oQ145, oQ146, oQ147, oQ148, oQ149, oQ150, oQ151, oQ152, oQ153, oQ154, oQ155, oQ156, oQ157, oQ158, oQ159]
  · exact ((q G2 (x1.trans x2)).2 p rfl po).1 c2
  obtain ⟨rs, rfl, ro⟩ := paceD_inv c2
  refine ⟨p, ce, rfl, po, (kc.ext (x1.trans x2)).known, ?_⟩
  cases c3 : isFromD ce 0 (p.cells - 1) <;> simp only [exs, ex, ev, evs, evO, evI, evT, evTs, cmpQ, List.getElem?_cons_zero, List.getElem?_cons_succ, List.set_cons_zero, List.set_cons_succ, Option.some.injEq, exists_eq_left', exists_eq_left, exists_eq_right, exists_eq, exists_eq', dwipe, exists_eq_right', D.int.injEq, D.str.injEq, D.bl.injEq, D.tup.injEq, D.ref.injEq, D.rol.injEq, GO.lst.injEq, GO.ins.injEq, GO.dK.injEq, GO.dT.injEq, List.cons.injEq, tgLen, List.length_cons, List.length_nil, List.length_map, List.map_cons, List.map_nil, List.replicate_succ, List.replicate_zero, List.nil_append, List.cons_append, true_and, and_true, if_true, Bool.not_true, Bool.not_false, Bool.false_eq_true, if_false, gup_same, reduceCtorEq, false_and, and_false, exists_false, exists_const, inst_i, inst_b, inst_s, inst_t, atI_0, atI_1, atI_2, atI_3, atI_4, eqNN_nat, ix41, ix42, ix43, gup_gup, and_assoc, exists_and_left, oQ0, oQ1, oQ2, oQ3, oQ4, oQ5, oQ6, oQ7, oQ8, oQ9, oQ10, oQ11, oQ12, oQ13, oQ14, oQ15, oQ16, oQ17, oQ18, oQ19, oQ20, oQ21, oQ22, oQ23, oQ24, oQ25, oQ26, oQ27, oQ28, oQ29, oQ30, oQ31, oQ32, oQ33, oQ34, oQ35, oQ36, oQ37, oQ38, oQ39, oQ40, oQ41, oQ42, oQ43, oQ44, oQ45, oQ46, oQ47, oQ48, oQ49, oQ50, oQ51, oQ52, oQ53, oQ54, oQ55, oQ56, oQ57, oQ58, oQ59, oQ60, oQ61, oQ62, oQ63, oQ64, oQ65, oQ66, oQ67, oQ68, oQ69, oQ70, oQ71, oQ72, oQ73, oQ74, oQ75, oQ76, oQ77, oQ78, oQ79, oQ80, oQ81, oQ82, oQ83, oQ84, oQ85, oQ86, oQ87, oQ88, oQ89, oQ90, oQ91, oQ92, oQ93, oQ94, oQ95, oQ96, oQ97, oQ98, oQ99, oQ100, oQ101, oQ102, oQ103, oQ104, oQ105, oQ106, oQ107, oQ108, oQ109, oQ110, oQ111, oQ112, oQ113, oQ114, oQ115, oQ116, oQ117, oQ118, oQ119, oQ120, oQ121, oQ122, oQ123, oQ124, oQ125, oQ126, oQ127, oQ128, oQ129, oQ130, oQ131, oQ132, oQ133, oQ134, oQ135, oQ136, oQ137, oQ138, oQ139, oQ140, oQ141, oQ142, oQ143, oQ144, oQ145, oQ146, oQ147, oQ148, oQ149, oQ150, oQ151, oQ152, oQ153, oQ154, oQ155, oQ156, oQ157, oQ158, oQ159]
  · exact (((q G2 (x1.trans x2)).2 p rfl po).2 rs rfl ro).1 c3
  obtain ⟨i, rfl, i1, i2⟩ := isFromD_inv c3
  refine ⟨ti, 1000, rfl, (kt.ext (x1.trans x2)).known, ?_⟩
  cases c4 : isFromD ti 0 1000 <;> simp only [exs, ex, ev, evs, evO, evI, evT, evTs, cmpQ, List.getElem?_cons_zero, List.getElem?_cons_succ, List.set_cons_zero, List.set_cons_succ, Option.some.injEq, exists_eq_left', exists_eq_left, exists_eq_right, exists_eq, exists_eq', dwipe, exists_eq_right', D.int.injEq, D.str.injEq, D.bl.injEq, D.tup.injEq, D.ref.injEq, D.rol.injEq, GO.lst.injEq, GO.ins.injEq, GO.dK.injEq, GO.dT.injEq, List.cons.injEq, tgLen, List.length_cons, List.length_nil, List.length_map, List.map_cons, List.map_nil, List.replicate_succ, List.replicate_zero, List.nil_append, List.cons_append, true_and, and_true, if_true, Bool.not_true, Bool.not_false, Bool.false_eq_true, if_false, gup_same, reduceCtorEq, false_and, and_false, exists_false, exists_const, inst_i, inst_b, inst_s, inst_t, atI_0, atI_1, atI_2, atI_3, atI_4, eqNN_nat, ix41, ix42, ix43, gup_gup, and_assoc, exists_and_left, oQ0, oQ1, oQ2, oQ3, oQ4, oQ5, oQ6, oQ7, oQ8, oQ9, oQ10, oQ11, oQ12, oQ13, oQ14, oQ15, oQ16, oQ17, oQ18, oQ19, oQ20, oQ21, oQ22, oQ23, oQ24, oQ25, oQ26, oQ27, oQ28, oQ29, oQ30, oQ31, oQ32, oQ33, oQ34, oQ35, oQ36, oQ37, oQ38, oQ39, oQ40, oQ41, oQ42, oQ43, oQ44, oQ45, oQ46, oQ47, oQ48, oQ49, oQ50, oQ51, oQ52, oQ53, oQ54, oQ55, oQ56, oQ57, oQ58, oQ59, oQ60, oQ61, oQ62, oQ63, oQ64, oQ65, oQ66, oQ67, oQ68, oQ69, oQ70, oQ71, oQ72, oQ73, oQ74, oQ75, oQ76, oQ77, oQ78, oQ79, oQ80, oQ81, oQ82, oQ83, oQ84, oQ85, oQ86, oQ87, oQ88, oQ89, oQ90, oQ91, oQ92, oQ93, oQ94, oQ95, oQ96, oQ97, oQ98, oQ99, oQ100, oQ101, oQ102, oQ103, oQ104, oQ105, oQ106, oQ107, oQ108, oQ109, oQ110, oQ111, oQ112, oQ113, oQ114, oQ115, oQ116, oQ117, oQ118, oQ119, oQ120, oQ121, oQ122, oQ123, oQ124, oQ125, oQ126, oQ127, oQ128, oQ129, oQ130, oQ131, oQ132, oQ133, oQ134, oQ135, oQ136, oQ137, oQ138, oQ139, oQ140, oQ141, oQ142, oQ143, oQ144, oQ145, oQ146, oQ147, oQ148, oQ149, oQ150, oQ151, oQ152, oQ153, oQ154, oQ155, oQ156, oQ157, oQ158, oQ159]
  · exact ((((q G2 (x1.trans x2)).2 p rfl po).2 rs rfl ro).2 i rfl i1 (by omega)).1 c4
  obtain ⟨j, rfl, j1, j2⟩ := isFromD_inv c4
  refine ⟨rs, rfl, by have := ro.1; have := po.w8; omega, fun a G3 ha x3 e => ?_⟩
  exact ⟨p, .ref a, ticksL 0 rs, i, j, rfl, po, .inr ⟨a, rfl, e⟩, ((((q G3 ((x1.trans x2).trans x3)).2 p rfl po).2 rs rfl ro).2 i rfl i1 (by omega)).2 j rfl j1 j2⟩
theorem run_board_at (h1 : Φ f_seen_at = sp_seen_at) (h : sp_board_at ds G W Q) : run Φ W N_board_at.length b_board_at ds G Q := by
  obtain ⟨p, T, ts, tick, rfl, po, hT, q⟩ := h
  simp only [run, N_board_at, b_board_at, Pl.d, exs, ex, ev, evs, evO, evI, evT, evTs, cmpQ, List.getElem?_cons_zero, List.getElem?_cons_succ, List.set_cons_zero, List.set_cons_succ, Option.some.injEq, exists_eq_left', exists_eq_left, exists_eq_right, exists_eq, exists_eq', dwipe, exists_eq_right', D.int.injEq, D.str.injEq, D.bl.injEq, D.tup.injEq, D.ref.injEq, D.rol.injEq, GO.lst.injEq, GO.ins.injEq, GO.dK.injEq, GO.dT.injEq, List.cons.injEq, tgLen, List.length_cons, List.length_nil, List.length_map, List.map_cons, List.map_nil, List.replicate_succ, List.replicate_zero, List.nil_append, List.cons_append, true_and, and_true, if_true, Bool.not_true, Bool.not_false, Bool.false_eq_true, if_false, gup_same, reduceCtorEq, false_and, and_false, exists_false, exists_const, inst_i, inst_b, inst_s, inst_t, atI_0, atI_1, atI_2, atI_3, atI_4, eqNN_nat, ix41, ix42, ix43, gup_gup, and_assoc, exists_and_left, oQ0, oQ1, oQ2, oQ3, oQ4, oQ5, oQ6, oQ7, oQ8, oQ9, oQ10, oQ11, oQ12, oQ13, oQ14, oQ15, oQ16, oQ17, oQ18, oQ19, oQ20, oQ21, oQ22, oQ23, oQ24, oQ25, oQ26, oQ27, oQ28, oQ29, oQ30, oQ31, oQ32, oQ33, oQ34, oQ35, oQ36, oQ37, oQ38, oQ39, oQ40, oQ41, oQ42, oQ43, oQ44, oQ45, oQ46, oQ47, oQ48, oQ49, oQ50, oQ51, oQ52, oQ53, oQ54, oQ55, oQ56, oQ57, oQ58, oQ59, oQ60, oQ61, oQ62, oQ63, oQ64, oQ65, oQ66, oQ67, oQ68, oQ69, oQ70, oQ71, oQ72, oQ73, oQ74, oQ75, oQ76, oQ77, oQ78, oQ79, oQ80, oQ81, oQ82, oQ83, oQ84, oQ85, oQ86, oQ87, oQ88, oQ89, oQ90, oQ91, oQ92, oQ93, oQ94, oQ95, oQ96, oQ97, oQ98, oQ99, oQ100, oQ101, oQ102, oQ103, oQ104, oQ105, oQ106, oQ107, oQ108, oQ109, oQ110, oQ111, oQ112, oQ113, oQ114, oQ115, oQ116, oQ117, oQ118, oQ119, oQ120, oQ121, oQ122, oQ123, oQ124, oQ125, oQ126, oQ127, oQ128, oQ129, oQ130, oQ131, oQ132, oQ133, oQ134, oQ135, oQ136, oQ137, oQ138, oQ139, oQ140, oQ141, oQ142, oQ143, oQ144, oQ145, oQ146, oQ147, oQ148, oQ149, oQ150, oQ151, oQ152, oQ153, oQ154, oQ155, oQ156, oQ157, oQ158, oQ159, h1]
  have c1 := po.c1; have c4 := po.c4
  refine ⟨by omega, by omega, fun a ha => ?_⟩
  have cl : (cellsL p.cells).length = p.cells.toNat := by simp [cellsL]
  rw [rangeL_cells]
  refine compL_map (fun d => match d with | .int c => .str (seenS p ts c tick) | _ => .non) ha (by rw [List.length_map, cl, sizeLine_eq]; omega) (fun _ _ => trivial) ?_ ?_
  · intro i d G1 hd x K hK
    rw [List.getElem?_map] at hd
    obtain ⟨c, e3, rfl⟩ := Option.map_eq_some_iff.mp hd
    simp only [exs, ex, ev, evs, evO, evI, evT, evTs, cmpQ, List.getElem?_cons_zero, List.getElem?_cons_succ, List.set_cons_zero, List.set_cons_succ, Option.some.injEq, exists_eq_left', exists_eq_left, exists_eq_right, exists_eq, exists_eq', dwipe, exists_eq_right', D.int.injEq, D.str.injEq, D.bl.injEq, D.tup.injEq, D.ref.injEq, D.rol.injEq, GO.lst.injEq, GO.ins.injEq, GO.dK.injEq, GO.dT.injEq, List.cons.injEq, tgLen, List.length_cons, List.length_nil, List.length_map, List.map_cons, List.map_nil, List.replicate_succ, List.replicate_zero, List.nil_append, List.cons_append, true_and, and_true, if_true, Bool.not_true, Bool.not_false, Bool.false_eq_true, if_false, gup_same, reduceCtorEq, false_and, and_false, exists_false, exists_const, inst_i, inst_b, inst_s, inst_t, atI_0, atI_1, atI_2, atI_3, atI_4, eqNN_nat, ix41, ix42, ix43, gup_gup, and_assoc, exists_and_left, oQ0, oQ1, oQ2, oQ3, oQ4, oQ5, oQ6, oQ7, oQ8, oQ9, oQ10, oQ11, oQ12, oQ13, oQ14, oQ15, oQ16, oQ17, oQ18, oQ19, oQ20, oQ21, oQ22, oQ23, oQ24, oQ25, oQ26, oQ27, oQ28, oQ29, oQ30, oQ31, oQ32, oQ33, oQ34, oQ35, oQ36, oQ37, oQ38, oQ39, oQ40, oQ41, oQ42, oQ43, oQ44, oQ45, oQ46, oQ47, oQ48, oQ49, oQ50, oQ51, oQ52, oQ53, oQ54, oQ55, oQ56, oQ57, oQ58, oQ59, oQ60, oQ61, oQ62, oQ63, oQ64, oQ65, oQ66, oQ67, oQ68, oQ69, oQ70, oQ71, oQ72, oQ73, oQ74, oQ75, oQ76, oQ77, oQ78, oQ79, oQ80, oQ81, oQ82, oQ83, oQ84, oQ85, oQ86, oQ87, oQ88, oQ89, oQ90, oQ91, oQ92, oQ93, oQ94, oQ95, oQ96, oQ97, oQ98, oQ99, oQ100, oQ101, oQ102, oQ103, oQ104, oQ105, oQ106, oQ107, oQ108, oQ109, oQ110, oQ111, oQ112, oQ113, oQ114, oQ115, oQ116, oQ117, oQ118, oQ119, oQ120, oQ121, oQ122, oQ123, oQ124, oQ125, oQ126, oQ127, oQ128, oQ129, oQ130, oQ131, oQ132, oQ133, oQ134, oQ135, oQ136, oQ137, oQ138, oQ139, oQ140, oQ141, oQ142, oQ143, oQ144, oQ145, oQ146, oQ147, oQ148, oQ149, oQ150, oQ151, oQ152, oQ153, oQ154, oQ155, oQ156, oQ157, oQ158, oQ159]
    exact ⟨p, T, ts, c, tick, rfl, po, hT.ext x, hK G1 (Ext.refl _)⟩
  · intro G1 x1 e
    refine ⟨(cellsL p.cells).map fun c => seenS p ts c tick, by rw [e, List.map_map, List.map_map]; rfl, ?_, ?_⟩
    · rw [sum_ones _ fun x hx => by
        obtain ⟨c, _, rfl⟩ := List.mem_map.mp hx
        exact seenS_len po ts c tick]
      rw [List.length_map, cl]
      have : (Str.ofString "").length = 0 := by decide
      rw [this]
      omega
    · exact q G1 x1
theorem run_board (h1 : Φ f_need_plan = sp_need_plan) (h2 : Φ f_need_pace = sp_need_pace) (h3 : Φ f_ticks_of = sp_ticks_of) (h5 : Φ f_need_tick = sp_need_tick) (h6 : Φ f_board_at = sp_board_at) (h : sp_board ds G W Q) : run Φ W N_board.length b_board ds G Q := by
  obtain ⟨v, u, ti, rfl, kv, ku, kt, q⟩ := h
  simp only [run, N_board, b_board, exs, ex, ev, evs, evO, evI, evT, evTs, cmpQ, List.getElem?_cons_zero, List.getElem?_cons_succ, List.set_cons_zero, List.set_cons_succ, Option.some.injEq, exists_eq_left', exists_eq_left, exists_eq_right, exists_eq, exists_eq', dwipe, exists_eq_right', D.int.injEq, D.str.injEq, D.bl.injEq, D.tup.injEq, D.ref.injEq, D.rol.injEq, GO.lst.injEq, GO.ins.injEq, GO.dK.injEq, GO.dT.injEq, List.cons.injEq, tgLen, List.length_cons, List.length_nil, List.length_map, List.map_cons, List.map_nil, List.replicate_succ, List.replicate_zero, List.nil_append, List.cons_append, true_and, and_true, if_true, Bool.not_true, Bool.not_false, Bool.false_eq_true, if_false, gup_same, reduceCtorEq, false_and, and_false, exists_false, exists_const, inst_i, inst_b, inst_s, inst_t, atI_0, atI_1, atI_2, atI_3, atI_4, eqNN_nat, ix41, ix42, ix43, gup_gup, and_assoc, exists_and_left, oQ0, oQ1, oQ2, oQ3, oQ4, oQ5, oQ6, oQ7, oQ8, oQ9, oQ10, oQ11, oQ12, oQ13, oQ14, oQ15, oQ16, oQ17, oQ18, oQ19, oQ20, oQ21, oQ22, oQ23, oQ24, oQ25, oQ26, oQ27, oQ28, oQ29, oQ30, oQ31, oQ32, oQ33, oQ34, oQ35, oQ36, oQ37, oQ38, oQ39, oQ40, oQ41, oQ42, oQ43, oQ44, oQ45, oQ46, oQ47, oQ48, oQ49, oQ50, oQ51, oQ52, oQ53, oQ54, oQ55, oQ56, oQ57, oQ58, oQ59, oQ60, oQ61, oQ62, oQ63, oQ64, oQ65, oQ66, oQ67, oQ68, oQ69, oQ70, oQ71, oQ72, oQ73, oQ74, oQ75, oQ76, oQ77, oQ78, oQ79, oQ80, oQ81, oQ82, oQ83, oQ84, oQ85, oQ86, oQ87, oQ88, oQ89, oQ90, oQ91, oQ92, oQ93, oQ94, oQ95, oQ96, oQ97, oQ98, oQ99, oQ100, oQ101, oQ102, oQ103, oQ104, oQ105, oQ106, oQ107, oQ108, oQ109, oQ110, oQ111, oQ112, oQ113, oQ114, oQ115, oQ116, oQ117, oQ118, oQ119, oQ120, oQ121, oQ122, oQ123, oQ124, oQ125, oQ126, oQ127, oQ128, oQ129, oQ130, oQ131, oQ132, oQ133, oQ134, oQ135, oQ136, oQ137, oQ138, oQ139, oQ140, oQ141, oQ142, oQ143, oQ144, oQ145, oQ146, oQ147, oQ148, oQ149, oQ150, oQ151, oQ152, oQ153, oQ154, oQ155, oQ156, oQ157, oQ158, oQ159, h1, h2, h3, h5, h6]
  refine ⟨v, rfl, kv, fun G1 x1 => ?_⟩
  cases c : isPlanD v <;> simp only [exs, ex, ev, evs, evO, evI, evT, evTs, cmpQ, List.getElem?_cons_zero, List.getElem?_cons_succ, List.set_cons_zero, List.set_cons_succ, Option.some.injEq, exists_eq_left', exists_eq_left, exists_eq_right, exists_eq, exists_eq', dwipe, exists_eq_right', D.int.injEq, D.str.injEq, D.bl.injEq, D.tup.injEq, D.ref.injEq, D.rol.injEq, GO.lst.injEq, GO.ins.injEq, GO.dK.injEq, GO.dT.injEq, List.cons.injEq, tgLen, List.length_cons, List.length_nil, List.length_map, List.map_cons, List.map_nil, List.replicate_succ, List.replicate_zero, List.nil_append, List.cons_append, true_and, and_true, if_true, Bool.not_true, Bool.not_false, Bool.false_eq_true, if_false, gup_same, reduceCtorEq, false_and, and_false, exists_false, exists_const, inst_i, inst_b, inst_s, inst_t, atI_0, atI_1, atI_2, atI_3, atI_4, eqNN_nat, ix41, ix42, ix43, gup_gup, and_assoc, exists_and_left, oQ0, oQ1, oQ2, oQ3, oQ4, oQ5, oQ6, oQ7, oQ8, oQ9, oQ10, oQ11, oQ12, oQ13, oQ14, oQ15, oQ16, oQ17, oQ18, oQ19, oQ20, oQ21, oQ22, oQ23, oQ24, oQ25, oQ26, oQ27, oQ28, oQ29, oQ30, oQ31, oQ32, oQ33, oQ34, oQ35, oQ36, oQ37, oQ38, oQ39, oQ40, oQ41, oQ42, oQ43, oQ44, oQ45, oQ46, oQ47, oQ48, oQ49, oQ50, oQ51, oQ52, oQ53, oQ54, oQ55, oQ56, oQ57, oQ58, oQ59, oQ60, oQ61, oQ62, oQ63, oQ64, oQ65, oQ66, oQ67, oQ68, oQ69, oQ70, oQ71, oQ72, oQ73, oQ74, oQ75, oQ76, oQ77, oQ78, oQ79, oQ80, oQ81, oQ82, oQ83, oQ84, oQ85, oQ86, oQ87, oQ88, oQ89, oQ90, oQ91, oQ92, oQ93, oQ94, oQ95, oQ96, oQ97, oQ98, oQ99, oQ100, oQ101, oQ102, oQ103, oQ104, oQ105, oQ106, oQ107, oQ108, oQ109, oQ110, oQ111, oQ112, oQ113, oQ114, oQ115, oQ116, oQ117, oQ118, oQ119, oQ120, oQ121, oQ122, oQ123, oQ124, oQ125, oQ126, oQ127, oQ128, oQ129, oQ130, oQ131, oQ132, oQ133, oQ134, oQ135, oQ136, oQ137, oQ138, oQ139, oQ140, oQ141, oQ142, oQ143, oQ144, oQ145, oQ146, oQ147, oQ148, oQ149, oQ150, oQ151, oQ152, oQ153, oQ154, oQ155, oQ156, oQ157, oQ158, oQ159]
  · exact (q G1 x1).1 c
  obtain ⟨p, rfl, po⟩ := plan_inv c
  refine ⟨p, u, rfl, po, ku.ext x1, fun G2 x2 => ?_⟩
  cases c2 : isPaceD p u <;> simp only [exs, ex, ev, evs, evO, evI, evT, evTs, cmpQ, List.getElem?_cons_zero, List.getElem?_cons_succ, List.set_cons_zero, List.set_cons_succ, Option.some.injEq, exists_eq_left', exists_eq_left, exists_eq_right, exists_eq, exists_eq', dwipe, exists_eq_right', D.int.injEq, D.str.injEq, D.bl.injEq, D.tup.injEq, D.ref.injEq, D.rol.injEq, GO.lst.injEq, GO.ins.injEq, GO.dK.injEq, GO.dT.injEq, List.cons.injEq, tgLen, List.length_cons, List.length_nil, List.length_map, List.map_cons, List.map_nil, List.replicate_succ, List.replicate_zero, List.nil_append, List.cons_append, true_and, and_true, if_true, Bool.not_true, Bool.not_false, Bool.false_eq_true, if_false, gup_same, reduceCtorEq, false_and, and_false, exists_false, exists_const, inst_i, inst_b, inst_s, inst_t, atI_0, atI_1, atI_2, atI_3, atI_4, eqNN_nat, ix41, ix42, ix43, gup_gup, and_assoc, exists_and_left, oQ0, oQ1, oQ2, oQ3, oQ4, oQ5, oQ6, oQ7, oQ8, oQ9, oQ10, oQ11, oQ12, oQ13, oQ14, oQ15, oQ16, oQ17, oQ18, oQ19, oQ20, oQ21, oQ22, oQ23, oQ24, oQ25, oQ26, oQ27, oQ28, oQ29, oQ30, oQ31, oQ32, oQ33, oQ34, oQ35, oQ36, oQ37, oQ38, oQ39, oQ40, oQ41, oQ42, oQ43, oQ44, oQ45, oQ46, oQ47, oQ48, oQ49, oQ50, oQ51, oQ52, oQ53, oQ54, oQ55, oQ56, oQ57, oQ58, oQ59, oQ60, oQ61, oQ62, oQ63, oQ64, oQ65, oQ66, oQ67, oQ68, oQ69, oQ70, oQ71, oQ72, oQ73, oQ74, oQ75, oQ76, oQ77, oQ78, oQ79, oQ80, oQ81, oQ82, oQ83, oQ84, oQ85, oQ86, oQ87, oQ88, oQ89, oQ90, oQ91, oQ92, oQ93, oQ94, oQ95, oQ96, oQ97, oQ98, oQ99, oQ100, oQ101, oQ102, oQ103, oQ104, oQ105, oQ106, oQ107, oQ108, oQ109, oQ110, oQ111, oQ112, oQ113, oQ114, oQ115, oQ116, oQ117, oQ118, oQ119, oQ120, oQ121, oQ122, oQ123, oQ124, oQ125, oQ126, oQ127, oQ128, oQ129, oQ130, oQ131, oQ132, oQ133, oQ134, oQ135, oQ136, oQ137, oQ138, oQ139, oQ140, oQ141, oQ142, oQ143, oQ144, oQ145, oQ146, oQ147, oQ148, oQ149, oQ150, oQ151, oQ152, oQ153, oQ154, oQ155, oQ156, oQ157, oQ158, oQ159]
  · exact ((q G2 (x1.trans x2)).2 p rfl po).1 c2
  obtain ⟨rs, rfl, ro⟩ := paceD_inv c2
  refine ⟨ti, 1000, rfl, (kt.ext (x1.trans x2)).known, ?_⟩
  cases c4 : isFromD ti 0 1000 <;> simp only [exs, ex, ev, evs, evO, evI, evT, evTs, cmpQ, List.getElem?_cons_zero, List.getElem?_cons_succ, List.set_cons_zero, List.set_cons_succ, Option.some.injEq, exists_eq_left', exists_eq_left, exists_eq_right, exists_eq, exists_eq', dwipe, exists_eq_right', D.int.injEq, D.str.injEq, D.bl.injEq, D.tup.injEq, D.ref.injEq, D.rol.injEq, GO.lst.injEq, GO.ins.injEq, GO.dK.injEq, GO.dT.injEq, List.cons.injEq, tgLen, List.length_cons, List.length_nil, List.length_map, List.map_cons, List.map_nil, List.replicate_succ, List.replicate_zero, List.nil_append, List.cons_append, true_and, and_true, if_true, Bool.not_true, Bool.not_false, Bool.false_eq_true, if_false, gup_same, reduceCtorEq, false_and, and_false, exists_false, exists_const, inst_i, inst_b, inst_s, inst_t, atI_0, atI_1, atI_2, atI_3, atI_4, eqNN_nat, ix41, ix42, ix43, gup_gup, and_assoc, exists_and_left, oQ0, oQ1, oQ2, oQ3, oQ4, oQ5, oQ6, oQ7, oQ8, oQ9, oQ10, oQ11, oQ12, oQ13, oQ14, oQ15, oQ16, oQ17, oQ18, oQ19, oQ20, oQ21, oQ22, oQ23, oQ24, oQ25, oQ26, oQ27, oQ28, oQ29, oQ30, oQ31, oQ32, oQ33, oQ34, oQ35, oQ36, oQ37, oQ38, oQ39, oQ40, oQ41, oQ42, oQ43, oQ44, oQ45, oQ46, oQ47, oQ48, oQ49, oQ50, oQ51, oQ52, oQ53, oQ54, oQ55, oQ56, oQ57, oQ58, oQ59, oQ60, oQ61, oQ62, oQ63, oQ64, oQ65, oQ66, oQ67, oQ68, oQ69, oQ70, oQ71, oQ72, oQ73, oQ74, oQ75, oQ76, oQ77, oQ78, oQ79, oQ80, oQ81, oQ82, oQ83, oQ84, oQ85, oQ86, oQ87, oQ88, oQ89, oQ90, oQ91, oQ92, oQ93, oQ94, oQ95, oQ96, oQ97, oQ98, oQ99, oQ100, oQ101, oQ102, oQ103, oQ104, oQ105, oQ106, oQ107, oQ108, oQ109, oQ110, oQ111, oQ112, oQ113, oQ114, oQ115, oQ116, oQ117, oQ118, oQ119, oQ120, oQ121, oQ122, oQ123, oQ124, oQ125, oQ126, oQ127, oQ128, oQ129, oQ130, oQ131, oQ132, oQ133, oQ134, oQ135, oQ136, oQ137, oQ138, oQ139, oQ140, oQ141, oQ142, oQ143, oQ144, oQ145, oQ146, oQ147, oQ148, oQ149, oQ150, oQ151, oQ152, oQ153, oQ154, oQ155, oQ156, oQ157, oQ158, oQ159]
  · exact (((q G2 (x1.trans x2)).2 p rfl po).2 rs rfl ro).1 c4
  obtain ⟨j, rfl, j1, j2⟩ := isFromD_inv c4
  refine ⟨rs, rfl, by have := ro.1; have := po.w8; omega, fun a G3 ha x3 e => ?_⟩
  exact ⟨p, .ref a, ticksL 0 rs, j, rfl, po, .inr ⟨a, rfl, e⟩, fun G4 x4 => (((q G4 (((x1.trans x2).trans x3).trans x4)).2 p rfl po).2 rs rfl ro).2 j rfl j1 j2⟩
theorem run_story (h1 : Φ f_need_plan = sp_need_plan) (h2 : Φ f_need_pace = sp_need_pace) (h3 : Φ f_ticks_of = sp_ticks_of) (h4 : Φ f_need_cell = sp_need_cell) (h5 : Φ f_need_tick = sp_need_tick) (h6 : Φ f_seen_at = sp_seen_at) (h : sp_story ds G W Q) : run Φ W N_story.length b_story ds G Q := by
  obtain ⟨v, u, ce, ti, rfl, kv, ku, kc, kt, q⟩ := h
  simp only [run, N_story, b_story, exs, ex, ev, evs, evO, evI, evT, evTs, cmpQ, List.getElem?_cons_zero, List.getElem?_cons_succ, List.set_cons_zero, List.set_cons_succ, Option.some.injEq, exists_eq_left', exists_eq_left, exists_eq_right, exists_eq, exists_eq', dwipe, exists_eq_right', D.int.injEq, D.str.injEq, D.bl.injEq, D.tup.injEq, D.ref.injEq, D.rol.injEq, GO.lst.injEq, GO.ins.injEq, GO.dK.injEq, GO.dT.injEq, List.cons.injEq, tgLen, List.length_cons, List.length_nil, List.length_map, List.map_cons, List.map_nil, List.replicate_succ, List.replicate_zero, List.nil_append, List.cons_append, true_and, and_true, if_true, Bool.not_true, Bool.not_false, Bool.false_eq_true, if_false, gup_same, reduceCtorEq, false_and, and_false, exists_false, exists_const, inst_i, inst_b, inst_s, inst_t, atI_0, atI_1, atI_2, atI_3, atI_4, eqNN_nat, ix41, ix42, ix43, gup_gup, and_assoc, exists_and_left, oQ0, oQ1, oQ2, oQ3, oQ4, oQ5, oQ6, oQ7, oQ8, oQ9, oQ10, oQ11, oQ12, oQ13, oQ14, oQ15, oQ16, oQ17, oQ18, oQ19, oQ20, oQ21, oQ22, oQ23, oQ24, oQ25, oQ26, oQ27, oQ28, oQ29, oQ30, oQ31, oQ32, oQ33, oQ34, oQ35, oQ36, oQ37, oQ38, oQ39, oQ40, oQ41, oQ42, oQ43, oQ44, oQ45, oQ46, oQ47, oQ48, oQ49, oQ50, oQ51, oQ52, oQ53, oQ54, oQ55, oQ56, oQ57, oQ58, oQ59, oQ60, oQ61, oQ62, oQ63, oQ64, oQ65, oQ66, oQ67, oQ68, oQ69, oQ70, oQ71, oQ72, oQ73, oQ74, oQ75, oQ76, oQ77, oQ78, oQ79, oQ80, oQ81, oQ82, oQ83, oQ84, oQ85, oQ86, oQ87, oQ88, oQ89, oQ90, oQ91, oQ92, oQ93, oQ94, oQ95, oQ96, oQ97, oQ98, oQ99, oQ100, oQ101, oQ102, oQ103, oQ104, oQ105, oQ106, oQ107, oQ108, oQ109, oQ110, oQ111, oQ112, oQ113, oQ114, oQ115, oQ116, oQ117, oQ118, oQ119, oQ120, oQ121, oQ122, oQ123, oQ124, oQ125, oQ126, oQ127, oQ128, oQ129, oQ130, oQ131, oQ132, oQ133, oQ134, oQ135, oQ136, oQ137, oQ138, oQ139, oQ140, oQ141, oQ142, oQ143, oQ144, oQ145, oQ146, oQ147, oQ148, oQ149, oQ150, oQ151, oQ152, oQ153, oQ154, oQ155, oQ156, oQ157, oQ158, oQ159, h1, h2, h3, h4, h5, h6]
  refine ⟨v, rfl, kv, fun G1 x1 => ?_⟩
  cases c : isPlanD v <;> simp only [exs, ex, ev, evs, evO, evI, evT, evTs, cmpQ, List.getElem?_cons_zero, List.getElem?_cons_succ, List.set_cons_zero, List.set_cons_succ, Option.some.injEq, exists_eq_left', exists_eq_left, exists_eq_right, exists_eq, exists_eq', dwipe, exists_eq_right', D.int.injEq, D.str.injEq, D.bl.injEq, D.tup.injEq, D.ref.injEq, D.rol.injEq, GO.lst.injEq, GO.ins.injEq, GO.dK.injEq, GO.dT.injEq, List.cons.injEq, tgLen, List.length_cons, List.length_nil, List.length_map, List.map_cons, List.map_nil, List.replicate_succ, List.replicate_zero, List.nil_append, List.cons_append, true_and, and_true, if_true, Bool.not_true, Bool.not_false, Bool.false_eq_true, if_false, gup_same, reduceCtorEq, false_and, and_false, exists_false, exists_const, inst_i, inst_b, inst_s, inst_t, atI_0, atI_1, atI_2, atI_3, atI_4, eqNN_nat, ix41, ix42, ix43, gup_gup, and_assoc, exists_and_left, oQ0, oQ1, oQ2, oQ3, oQ4, oQ5, oQ6, oQ7, oQ8, oQ9, oQ10, oQ11, oQ12, oQ13, oQ14, oQ15, oQ16, oQ17, oQ18, oQ19, oQ20, oQ21, oQ22, oQ23, oQ24, oQ25, oQ26, oQ27, oQ28, oQ29, oQ30, oQ31, oQ32, oQ33, oQ34, oQ35, oQ36, oQ37, oQ38, oQ39, oQ40, oQ41, oQ42, oQ43, oQ44, oQ45, oQ46, oQ47, oQ48, oQ49, oQ50, oQ51, oQ52, oQ53, oQ54, oQ55, oQ56, oQ57, oQ58, oQ59, oQ60, oQ61, oQ62, oQ63, oQ64, oQ65, oQ66, oQ67, oQ68, oQ69, oQ70, oQ71, oQ72, oQ73, oQ74, oQ75, oQ76, oQ77, oQ78, oQ79, oQ80, oQ81, oQ82, oQ83, oQ84, oQ85, oQ86, oQ87, oQ88, oQ89, oQ90, oQ91, oQ92, oQ93, oQ94, oQ95, oQ96, oQ97, oQ98, oQ99, oQ100, oQ101, oQ102, oQ103, oQ104, oQ105, oQ106, oQ107, oQ108, oQ109, oQ110, oQ111, oQ112, oQ113, oQ114, oQ115, oQ116, oQ117, oQ118, oQ119, oQ120, oQ121, oQ122, oQ123, oQ124, oQ125, oQ126, oQ127, oQ128, oQ129, oQ130, oQ131, oQ132, oQ133, oQ134, oQ135, oQ136, oQ137, oQ138, oQ139, oQ140, oQ141, oQ142, oQ143, oQ144, oQ145, oQ146, oQ147, oQ148, oQ149, oQ150, oQ151, oQ152, oQ153, oQ154, oQ155, oQ156, oQ157, oQ158, oQ159]
  · exact (q G1 x1).1 c
  obtain ⟨p, rfl, po⟩ := plan_inv c
  refine ⟨p, u, rfl, po, ku.ext x1, fun G2 x2 => ?_⟩
  cases c2 : isPaceD p u <;> simp only [exs, ex, ev, evs, evO, evI, evT, evTs, cmpQ, List.getElem?_cons_zero, List.getElem?_cons_succ, List.set_cons_zero, List.set_cons_succ, Option.some.injEq, exists_eq_left', exists_eq_left, exists_eq_right, exists_eq, exists_eq', dwipe, exists_eq_right', D.int.injEq, D.str.injEq, D.bl.injEq, D.tup.injEq, D.ref.injEq, D.rol.injEq, GO.lst.injEq, GO.ins.injEq, GO.dK.injEq, GO.dT.injEq, List.cons.injEq, tgLen, List.length_cons, List.length_nil, List.length_map, List.map_cons, List.map_nil, List.replicate_succ, List.replicate_zero, List.nil_append, List.cons_append, true_and, and_true, if_true, Bool.not_true, Bool.not_false, Bool.false_eq_true, if_false, gup_same, reduceCtorEq, false_and, and_false, exists_false, exists_const, inst_i, inst_b, inst_s, inst_t, atI_0, atI_1, atI_2, atI_3, atI_4, eqNN_nat, ix41, ix42, ix43, gup_gup, and_assoc, exists_and_left, oQ0, oQ1, oQ2, oQ3, oQ4, oQ5, oQ6, oQ7, oQ8, oQ9, oQ10, oQ11, oQ12, oQ13, oQ14, oQ15, oQ16, oQ17, oQ18, oQ19, oQ20, oQ21, oQ22, oQ23, oQ24, oQ25, oQ26, oQ27, oQ28, oQ29, oQ30, oQ31, oQ32, oQ33, oQ34, oQ35, oQ36, oQ37, oQ38, oQ39, oQ40, oQ41, oQ42, oQ43, oQ44, oQ45, oQ46, oQ47, oQ48, oQ49, oQ50, oQ51, oQ52, oQ53, oQ54, oQ55, oQ56, oQ57, oQ58, oQ59, oQ60, oQ61, oQ62, oQ63, oQ64, oQ65, oQ66, oQ67, oQ68, oQ69, oQ70, oQ71, oQ72, oQ73, oQ74, oQ75, oQ76, oQ77, oQ78, oQ79, oQ80, oQ81, oQ82, oQ83, oQ84, oQ85, oQ86, oQ87, oQ88, oQ89, oQ90, oQ91, oQ92, oQ93, oQ94, oQ95, oQ96, oQ97, oQ98, oQ99, oQ100, oQ101, oQ102, oQ103, oQ104, oQ105, oQ106, oQ107, oQ108, oQ109, oQ110, oQ111, oQ112, oQ113, oQ114, oQ115, oQ116, oQ117, oQ118, oQ119, oQ120, oQ121, oQ122, oQ123, oQ124, oQ125, oQ126, oQ127, oQ128, oQ129, oQ130, oQ131, oQ132, oQ133, oQ134, oQ135, oQ136, oQ137, oQ138, oQ139, oQ140, oQ141, oQ142, oQ143, oQ144, oQ145, oQ146, oQ147, oQ148, oQ149, oQ150, oQ151, oQ152, oQ153, oQ154, oQ155, oQ156, oQ157, oQ158, oQ159]
  · exact ((q G2 (x1.trans x2)).2 p rfl po).1 c2
  obtain ⟨rs, rfl, ro⟩ := paceD_inv c2
  refine ⟨p, ce, rfl, po, (kc.ext (x1.trans x2)).known, ?_⟩
  cases c3 : isFromD ce 0 (p.cells - 1) <;> simp only [exs, ex, ev, evs, evO, evI, evT, evTs, cmpQ, List.getElem?_cons_zero, List.getElem?_cons_succ, List.set_cons_zero, List.set_cons_succ, Option.some.injEq, exists_eq_left', exists_eq_left, exists_eq_right, exists_eq, exists_eq', dwipe, exists_eq_right', D.int.injEq, D.str.injEq, D.bl.injEq, D.tup.injEq, D.ref.injEq, D.rol.injEq, GO.lst.injEq, GO.ins.injEq, GO.dK.injEq, GO.dT.injEq, List.cons.injEq, tgLen, List.length_cons, List.length_nil, List.length_map, List.map_cons, List.map_nil, List.replicate_succ, List.replicate_zero, List.nil_append, List.cons_append, true_and, and_true, if_true, Bool.not_true, Bool.not_false, Bool.false_eq_true, if_false, gup_same, reduceCtorEq, false_and, and_false, exists_false, exists_const, inst_i, inst_b, inst_s, inst_t, atI_0, atI_1, atI_2, atI_3, atI_4, eqNN_nat, ix41, ix42, ix43, gup_gup, and_assoc, exists_and_left, oQ0, oQ1, oQ2, oQ3, oQ4, oQ5, oQ6, oQ7, oQ8, oQ9, oQ10, oQ11, oQ12, oQ13, oQ14, oQ15, oQ16, oQ17, oQ18, oQ19, oQ20, oQ21, oQ22, oQ23, oQ24, oQ25, oQ26, oQ27, oQ28, oQ29, oQ30, oQ31, oQ32, oQ33, oQ34, oQ35, oQ36, oQ37, oQ38, oQ39, oQ40, oQ41, oQ42, oQ43, oQ44, oQ45, oQ46, oQ47, oQ48, oQ49, oQ50, oQ51, oQ52, oQ53, oQ54, oQ55, oQ56, oQ57, oQ58, oQ59, oQ60, oQ61, oQ62, oQ63, oQ64, oQ65, oQ66, oQ67, oQ68, oQ69, oQ70, oQ71, oQ72, oQ73, oQ74, oQ75, oQ76, oQ77, oQ78, oQ79, oQ80, oQ81, oQ82, oQ83, oQ84, oQ85, oQ86, oQ87, oQ88, oQ89, oQ90, oQ91, oQ92, oQ93, oQ94, oQ95, oQ96, oQ97, oQ98, oQ99, oQ100, oQ101, oQ102, oQ103, oQ104, oQ105, oQ106, oQ107, oQ108, oQ109, oQ110, oQ111, oQ112, oQ113, oQ114, oQ115, oQ116, oQ117, oQ118, oQ119, oQ120, oQ121, oQ122, oQ123, oQ124, oQ125, oQ126, oQ127, oQ128, oQ129, oQ130, oQ131, oQ132, oQ133, oQ134, oQ135, oQ136, oQ137, oQ138, oQ139, oQ140, oQ141, oQ142, oQ143, oQ144, oQ145, oQ146, oQ147, oQ148, oQ149, oQ150, oQ151, oQ152, oQ153, oQ154, oQ155, oQ156, oQ157, oQ158, oQ159]
  · exact (((q G2 (x1.trans x2)).2 p rfl po).2 rs rfl ro).1 c3
  obtain ⟨i, rfl, i1, i2⟩ := isFromD_inv c3
  refine ⟨ti, 200, rfl, (kt.ext (x1.trans x2)).known, ?_⟩
  cases c4 : isFromD ti 0 200 <;> simp only [exs, ex, ev, evs, evO, evI, evT, evTs, cmpQ, List.getElem?_cons_zero, List.getElem?_cons_succ, List.set_cons_zero, List.set_cons_succ, Option.some.injEq, exists_eq_left', exists_eq_left, exists_eq_right, exists_eq, exists_eq', dwipe, exists_eq_right', D.int.injEq, D.str.injEq, D.bl.injEq, D.tup.injEq, D.ref.injEq, D.rol.injEq, GO.lst.injEq, GO.ins.injEq, GO.dK.injEq, GO.dT.injEq, List.cons.injEq, tgLen, List.length_cons, List.length_nil, List.length_map, List.map_cons, List.map_nil, List.replicate_succ, List.replicate_zero, List.nil_append, List.cons_append, true_and, and_true, if_true, Bool.not_true, Bool.not_false, Bool.false_eq_true, if_false, gup_same, reduceCtorEq, false_and, and_false, exists_false, exists_const, inst_i, inst_b, inst_s, inst_t, atI_0, atI_1, atI_2, atI_3, atI_4, eqNN_nat, ix41, ix42, ix43, gup_gup, and_assoc, exists_and_left, oQ0, oQ1, oQ2, oQ3, oQ4, oQ5, oQ6, oQ7, oQ8, oQ9, oQ10, oQ11, oQ12, oQ13, oQ14, oQ15, oQ16, oQ17, oQ18, oQ19, oQ20, oQ21, oQ22, oQ23, oQ24, oQ25, oQ26, oQ27, oQ28, oQ29, oQ30, oQ31, oQ32, oQ33, oQ34, oQ35, oQ36, oQ37, oQ38, oQ39, oQ40, oQ41, oQ42, oQ43, oQ44, oQ45, oQ46, oQ47, oQ48, oQ49, oQ50, oQ51, oQ52, oQ53, oQ54, oQ55, oQ56, oQ57, oQ58, oQ59, oQ60, oQ61, oQ62, oQ63, oQ64, oQ65, oQ66, oQ67, oQ68, oQ69, oQ70, oQ71, oQ72, oQ73, oQ74, oQ75, oQ76, oQ77, oQ78, oQ79, oQ80, oQ81, oQ82, oQ83, oQ84, oQ85, oQ86, oQ87, oQ88, oQ89, oQ90, oQ91, oQ92, oQ93, oQ94, oQ95, oQ96, oQ97, oQ98, oQ99, oQ100, oQ101, oQ102, oQ103, oQ104, oQ105, oQ106, oQ107, oQ108, oQ109, oQ110, oQ111, oQ112, oQ113, oQ114, oQ115, oQ116, oQ117, oQ118, oQ119, oQ120, oQ121, oQ122, oQ123, oQ124, oQ125, oQ126, oQ127, oQ128, oQ129, oQ130, oQ131, oQ132, oQ133, oQ134, oQ135, oQ136, oQ137, oQ138, oQ139, oQ140, oQ141, oQ142, oQ143, oQ144, oQ145, oQ146, oQ147, oQ148, oQ149, oQ150, oQ151, oQ152, oQ153, oQ154, oQ155, oQ156, oQ157, oQ158, oQ159]
  · exact ((((q G2 (x1.trans x2)).2 p rfl po).2 rs rfl ro).2 i rfl i1 (by omega)).1 c4
  obtain ⟨j, rfl, j1, j2⟩ := isFromD_inv c4
  simp only [exs, ex, ev, evs, evO, evI, evT, evTs, cmpQ, List.getElem?_cons_zero, List.getElem?_cons_succ, List.set_cons_zero, List.set_cons_succ, Option.some.injEq, exists_eq_left', exists_eq_left, exists_eq_right, exists_eq, exists_eq', dwipe, exists_eq_right', D.int.injEq, D.str.injEq, D.bl.injEq, D.tup.injEq, D.ref.injEq, D.rol.injEq, GO.lst.injEq, GO.ins.injEq, GO.dK.injEq, GO.dT.injEq, List.cons.injEq, tgLen, List.length_cons, List.length_nil, List.length_map, List.map_cons, List.map_nil, List.replicate_succ, List.replicate_zero, List.nil_append, List.cons_append, true_and, and_true, if_true, Bool.not_true, Bool.not_false, Bool.false_eq_true, if_false, gup_same, reduceCtorEq, false_and, and_false, exists_false, exists_const, inst_i, inst_b, inst_s, inst_t, atI_0, atI_1, atI_2, atI_3, atI_4, eqNN_nat, ix41, ix42, ix43, gup_gup, and_assoc, exists_and_left, oQ0, oQ1, oQ2, oQ3, oQ4, oQ5, oQ6, oQ7, oQ8, oQ9, oQ10, oQ11, oQ12, oQ13, oQ14, oQ15, oQ16, oQ17, oQ18, oQ19, oQ20, oQ21, oQ22, oQ23, oQ24, oQ25, oQ26, oQ27, oQ28, oQ29, oQ30, oQ31, oQ32, oQ33, oQ34, oQ35, oQ36, oQ37, oQ38, oQ39, oQ40, oQ41, oQ42, oQ43, oQ44, oQ45, oQ46, oQ47, oQ48, oQ49, oQ50, oQ51, oQ52, oQ53, oQ54, oQ55, oQ56, oQ57, oQ58, oQ59, oQ60, oQ61, oQ62, oQ63, oQ64, oQ65, oQ66, oQ67, oQ68, oQ69, oQ70, oQ71, oQ72, oQ73, oQ74, oQ75, oQ76, oQ77, oQ78, oQ79, oQ80, oQ81, oQ82, oQ83, oQ84, oQ85, oQ86, oQ87, oQ88, oQ89, oQ90, oQ91, oQ92, oQ93, oQ94, oQ95, oQ96, oQ97, oQ98, oQ99, oQ100, oQ101, oQ102, oQ103, oQ104, oQ105, oQ106, oQ107, oQ108, oQ109, oQ110, oQ111, oQ112, oQ113, oQ114, oQ115, oQ116, oQ117, oQ118, oQ119, oQ120, oQ121, oQ122, oQ123, oQ124, oQ125, oQ126, oQ127, oQ128, oQ129, oQ130, oQ131, oQ132, oQ133, oQ134, oQ135, oQ136, oQ137, oQ138, oQ139, oQ140, oQ141, oQ142, oQ143, oQ144, oQ145, oQ146, oQ147, oQ148, oQ149, oQ150, oQ151, oQ152, oQ153, oQ154, oQ155, oQ156, oQ157, oQ158, oQ159]
  refine ⟨by omega, by omega, fun a ha => ?_⟩
  have cl : (cellsL (j + 1)).length = (j + 1).toNat := by simp [cellsL]
  rw [rangeL_cells]
  refine compL_map (fun d => match d with | .int c => .str (seenS p (ticksL 0 rs) i c) | _ => .non) ha (by rw [List.length_map, cl, sizeLine_eq]; omega) (fun _ _ => trivial) ?_ ?_
  · intro n d G3 hd x K hK
    rw [List.getElem?_map] at hd
    obtain ⟨c, e3, rfl⟩ := Option.map_eq_some_iff.mp hd
    simp only [exs, ex, ev, evs, evO, evI, evT, evTs, cmpQ, List.getElem?_cons_zero, List.getElem?_cons_succ, List.set_cons_zero, List.set_cons_succ, Option.some.injEq, exists_eq_left', exists_eq_left, exists_eq_right, exists_eq, exists_eq', dwipe, exists_eq_right', D.int.injEq, D.str.injEq, D.bl.injEq, D.tup.injEq, D.ref.injEq, D.rol.injEq, GO.lst.injEq, GO.ins.injEq, GO.dK.injEq, GO.dT.injEq, List.cons.injEq, tgLen, List.length_cons, List.length_nil, List.length_map, List.map_cons, List.map_nil, List.replicate_succ, List.replicate_zero, List.nil_append, List.cons_append, true_and, and_true, if_true, Bool.not_true, Bool.not_false, Bool.false_eq_true, if_false, gup_same, reduceCtorEq, false_and, and_false, exists_false, exists_const, inst_i, inst_b, inst_s, inst_t, atI_0, atI_1, atI_2, atI_3, atI_4, eqNN_nat, ix41, ix42, ix43, gup_gup, and_assoc, exists_and_left, oQ0, oQ1, oQ2, oQ3, oQ4, oQ5, oQ6, oQ7, oQ8, oQ9, oQ10, oQ11, oQ12, oQ13, oQ14, oQ15, oQ16, oQ17, oQ18, oQ19, oQ20, oQ21, oQ22, oQ23, oQ24, oQ25, oQ26, oQ27, oQ28, oQ29, oQ30, oQ31, oQ32, oQ33, oQ34, oQ35, oQ36, oQ37, oQ38, oQ39, oQ40, oQ41, oQ42, oQ43, oQ44, oQ45, oQ46, oQ47, oQ48, oQ49, oQ50, oQ51, oQ52, oQ53, oQ54, oQ55, oQ56, oQ57, oQ58, oQ59, oQ60, oQ61, oQ62, oQ63, oQ64, oQ65, oQ66, oQ67, oQ68, oQ69, oQ70, oQ71, oQ72, oQ73, oQ74, oQ75, oQ76, oQ77, oQ78, oQ79, oQ80, oQ81, oQ82, oQ83, oQ84, oQ85, oQ86, oQ87, oQ88, oQ89, oQ90, oQ91, oQ92, oQ93, oQ94, oQ95, oQ96, oQ97, oQ98, oQ99, oQ100, oQ101, oQ102, oQ103, oQ104, oQ105, oQ106, oQ107, oQ108, oQ109, oQ110, oQ111, oQ112, oQ113, oQ114, oQ115, oQ116, oQ117, oQ118, oQ119, oQ120, oQ121, oQ122, oQ123, oQ124, oQ125, oQ126, oQ127, oQ128, oQ129, oQ130, oQ131, oQ132, oQ133, oQ134, oQ135, oQ136, oQ137, oQ138, oQ139, oQ140, oQ141, oQ142, oQ143, oQ144, oQ145, oQ146, oQ147, oQ148, oQ149, oQ150, oQ151, oQ152, oQ153, oQ154, oQ155, oQ156, oQ157, oQ158, oQ159]
    refine ⟨rs, rfl, by have := ro.1; have := po.w8; omega, fun a' G4 ha' x4 e4 => ?_⟩
    exact ⟨p, .ref a', ticksL 0 rs, i, c, rfl, po, .inr ⟨a', rfl, e4⟩, hK G4 x4⟩
  · intro G3 x3 e
    refine ⟨(cellsL (j + 1)).map fun c => seenS p (ticksL 0 rs) i c, by rw [e, List.map_map, List.map_map]; rfl, ?_, ?_⟩
    · rw [sum_ones _ fun x hx => by
        obtain ⟨c, _, rfl⟩ := List.mem_map.mp hx
        exact seenS_len po (ticksL 0 rs) i c]
      rw [List.length_map, cl]
      have : (Str.ofString "").length = 0 := by decide
      rw [this]
      omega
    · exact ((((q G3 ((x1.trans x2).trans x3)).2 p rfl po).2 rs rfl ro).2 i rfl i1 (by omega)).2 j rfl j1 j2
theorem Wr.d_inj {w w' : Wr} (h : w.d = w'.d) : w = w' := by
  cases w; cases w'
  simp only [Wr.d, D.tup.injEq, List.cons.injEq, D.int.injEq, D.str.injEq, and_true] at h
  obtain ⟨e1, e2, e3, e4, e5⟩ := h
  subst e1 e2 e3 e4 e5
  rfl
theorem ints_inj {a b : List Int} (h : a.map D.int = b.map D.int) : a = b := List.map_inj_right (fun _ _ e => by cases e; rfl) |>.mp h
theorem Pl.d_inj {p p' : Pl} (h : p.d = p'.d) : p = p' := by
  cases p; cases p'
  simp only [Pl.d, D.tup.injEq, List.cons.injEq, D.int.injEq, and_true] at h
  obtain ⟨e1, e2, e3⟩ := h
  have e2 := ints_inj e2
  have e3 := List.map_inj_right (fun _ _ e => Wr.d_inj e) |>.mp e3
  subst e1 e2 e3
  rfl
theorem dk_ints {rs : List Int} : DK G (.tup (rs.map D.int)) := by unfold DK; exact .ints rs
variable {p : Pl} {rs : List Int}
theorem ticks_ok (po : p.Ok) (ro : PaceOk p rs) (q : ∀ G', Ext G G' → Q (.tup ((ticksL 0 rs).map D.int)) G') : sp_ticks [p.d, .tup (rs.map D.int)] G W Q := by
  refine ⟨_, _, rfl, po.dk _, dk_ints, fun G' x => ⟨fun c => (by rw [po.plan] at c; cases c), fun p' ep po' => ?_⟩⟩
  cases Pl.d_inj ep
  refine ⟨fun c => (by rw [ro.pace] at c; cases c), fun rs' er ro' => ?_⟩
  have er := ints_inj (by simpa using er)
  subst er
  exact q G' x
theorem seen_ok (po : p.Ok) (ro : PaceOk p rs) {c t : Int} (c0 : 0 ≤ c) (c1 : c < p.cells) (t0 : 0 ≤ t) (t1 : t ≤ 1000) (q : ∀ G', Ext G G' → Q (.str (seenS p (ticksL 0 rs) c t)) G') : sp_seen [p.d, .tup (rs.map D.int), .int c, .int t] G W Q := by
  refine ⟨_, _, _, _, rfl, po.dk _, dk_ints, by unfold DK; trivial, by unfold DK; trivial, fun G' x => ⟨fun c => (by rw [po.plan] at c; cases c), fun p' ep po' => ?_⟩⟩
  cases Pl.d_inj ep
  refine ⟨fun c => (by rw [ro.pace] at c; cases c), fun rs' er ro' => ?_⟩
  have er := ints_inj (by simpa using er)
  subst er
  have b : c ≤ p.cells - 1 := by omega
  refine ⟨fun e => (by simp [isFromD, c0, b] at e), fun i ei _ _ => ⟨fun e => (by simp [isFromD, t0, t1] at e), fun j ej _ _ => ?_⟩⟩
  cases ei; cases ej
  exact q G' x
theorem board_ok (po : p.Ok) (ro : PaceOk p rs) {t : Int} (t0 : 0 ≤ t) (t1 : t ≤ 1000) (q : ∀ G', Ext G G' → Q (.str (boardS p (ticksL 0 rs) t)) G') : sp_board [p.d, .tup (rs.map D.int), .int t] G W Q := by
  refine ⟨_, _, _, rfl, po.dk _, dk_ints, by unfold DK; trivial, fun G' x => ⟨fun c => (by rw [po.plan] at c; cases c), fun p' ep po' => ?_⟩⟩
  cases Pl.d_inj ep
  refine ⟨fun c => (by rw [ro.pace] at c; cases c), fun rs' er ro' => ?_⟩
  have er := ints_inj (by simpa using er)
  subst er
  refine ⟨fun e => (by simp [isFromD, t0, t1] at e), fun j ej _ _ => ?_⟩
  cases ej
  exact q G' x
theorem story_ok (po : p.Ok) (ro : PaceOk p rs) {c t : Int} (c0 : 0 ≤ c) (c1 : c < p.cells) (t0 : 0 ≤ t) (t1 : t ≤ 200) (q : ∀ G', Ext G G' → Q (.str (storyS p (ticksL 0 rs) c t)) G') : sp_story [p.d, .tup (rs.map D.int), .int c, .int t] G W Q := by
  refine ⟨_, _, _, _, rfl, po.dk _, dk_ints, by unfold DK; trivial, by unfold DK; trivial, fun G' x => ⟨fun c => (by rw [po.plan] at c; cases c), fun p' ep po' => ?_⟩⟩
  cases Pl.d_inj ep
  refine ⟨fun c => (by rw [ro.pace] at c; cases c), fun rs' er ro' => ?_⟩
  have er := ints_inj (by simpa using er)
  subst er
  have b : c ≤ p.cells - 1 := by omega
  refine ⟨fun e => (by simp [isFromD, c0, b] at e), fun i ei _ _ => ⟨fun e => (by simp [isFromD, t0, t1] at e), fun j ej _ _ => ?_⟩⟩
  cases ei; cases ej
  exact q G' x
end
end Ink
set_option Elab.async false
set_option linter.all false
set_option maxRecDepth 100000
set_option maxHeartbeats 4000000
/-! Ink, part V: the laws' helpers: alike, picks, drawn plans. -/
namespace Ink
open PySem PySem.Spec PyProof.Rows L2
/-- n lists and tuples deep at the most -/
def Fits : Nat → PyData → Prop
  | 0, .none => True | 0, .bool _ => True | 0, .int _ => True | 0, .str _ => True
  | 0, _ => False
  | _ + 1, .none => True | _ + 1, .bool _ => True | _ + 1, .int _ => True | _ + 1, .str _ => True
  | n + 1, .tuple ps => ps.length ≤ 16777216 ∧ ∀ p ∈ ps, Fits n p
  | n + 1, .list ps => ps.length ≤ 16777216 ∧ ∀ p ∈ ps, Fits n p
  | _ + 1, _ => False
def sp_law_alike (n : Nat) : DSp := fun ds G W Q => ∃ x y p, ds = [x, y] ∧ IsP G x p ∧ IsP G y p ∧ Fits n p ∧ ∀ G', Ext G G' → Q (.bl true) G'
mutual
theorem IsP.ext {G G' : GH} (e : Ext G G') : ∀ {p : PyData} {d : D}, IsP G d p → IsP G' d p
  | _, _, .non => .non
  | _, _, .bl b => .bl b
  | _, _, .int b => .int b
  | _, _, .str b => .str b
  | _, _, .tup h => .tup (IsPs.ext e h)
  | _, _, .rol h => .rol (IsPs.ext e h)
  | _, _, .lst a h => .lst (e _ _ a) (IsPs.ext e h)
theorem IsPs.ext {G G' : GH} (e : Ext G G') : ∀ {p : List PyData} {d : List D}, IsPs G d p → IsPs G' d p
  | _, _, .nil => .nil
  | _, _, .cons a b => .cons (IsP.ext e a) (IsPs.ext e b)
end
theorem IsPs.len {G : GH} : ∀ {ds : List D} {ps : List PyData}, IsPs G ds ps → ds.length = ps.length
  | _, _, .nil => rfl
  | _, _, .cons _ b => by simp [b.len]
theorem IsPs.get {G : GH} : ∀ {ds : List D} {ps : List PyData} {i : Nat} {p : PyData}, IsPs G ds ps → ps[i]? = some p → ∃ d, ds[i]? = some d ∧ IsP G d p
  | _, _, 0, _, .cons a b, h => by simp at h; subst h; exact ⟨_, rfl, a⟩
  | _, _, i + 1, _, .cons a b, h => by simpa using b.get (i := i) (by simpa using h)
  | _, _, _, _, .nil, h => by simp at h
/-- a sequence of any kind -/
def SeqV (G : GH) (x : D) (xs : List D) : Prop := x = .tup xs ∨ x = .rol xs ∨ ∃ a, x = .ref a ∧ G a = some (.lst xs)
theorem SeqV.ext {G G' : GH} (e : Ext G G') {x : D} {xs : List D} (h : SeqV G x xs) : SeqV G' x xs := by
  rcases h with h | h | ⟨a, h1, h2⟩
  · exact .inl h
  · exact .inr (.inl h)
  · exact .inr (.inr ⟨a, h1, e a _ h2⟩)
theorem SeqV.len {G : GH} {x : D} {xs : List D} (h : SeqV G x xs) {Q : KD} (q : Q (.int xs.length) G) : biQ .len [x] G Q := by
  rcases h with rfl | rfl | ⟨a, rfl, h2⟩
  · exact q
  · exact q
  · exact ⟨xs, h2, q⟩
theorem SeqV.at {G : GH} {x : D} {xs : List D} (h : SeqV G x xs) {i : Int} {d : D} (e : atI xs i = some d) {Q : KD} (q : Q d G) : subQ x (.int i) G Q := by
  rcases h with rfl | rfl | ⟨a, rfl, h2⟩
  · exact ⟨d, e, q⟩
  · exact ⟨d, e, q⟩
  · exact ⟨xs, d, h2, e, q⟩
theorem SeqV.known {G : GH} {x : D} {xs : List D} (h : SeqV G x xs) : known G x ∧ isInst (tyD G x) [.tuple, .list] = true ∧ isInst (tyD G x) [.dict] = false := by
  rcases h with rfl | rfl | ⟨a, rfl, h2⟩
  · exact ⟨trivial, rfl, rfl⟩
  · exact ⟨trivial, rfl, rfl⟩
  · refine ⟨?_, ?_, ?_⟩
    · show knG (G a); rw [h2]; trivial
    · show isInst (tyG (G a)) _ = _; rw [h2]; rfl
    · show isInst (tyG (G a)) _ = _; rw [h2]; rfl
theorem IsP.seq {G : GH} {x : D} {ps : List PyData} {b : Bool} (h : IsP G x (if b = true then .list ps else .tuple ps)) : ∃ xs, SeqV G x xs ∧ IsPs G xs ps ∧ isInst (tyD G x) [.list] = b := by
  cases b with
  | true =>
    have h : IsP G x (.list ps) := h
    cases h with
    | rol h => exact ⟨_, .inr (.inl rfl), h, rfl⟩
    | lst a h =>
      refine ⟨_, .inr (.inr ⟨_, rfl, a⟩), h, ?_⟩
      show isInst (tyG (G _)) _ = _
      rw [a]; rfl
  | false =>
    have h : IsP G x (.tuple ps) := h
    cases h with
    | tup h => exact ⟨_, .inl rfl, h, rfl⟩
theorem upS_self {Φ : Nat → DSp} {i : Nat} {s : DSp} : upS Φ i s i = s := if_pos rfl
theorem eqDeep_nil {G : GH} {a b : Addr} {P : Bool → Prop} (h1 : G a = some (.lst [])) (h2 : G b = some (.lst [])) (q : P true) : eqDeep (.ref a) (.ref b) G P :=
  ⟨.list [], .list [], .lst h1 .nil, .lst h2 .nil, rfl, rfl, q⟩
theorem rangeL_get {n i : Nat} {d : D} (h : (rangeL 0 n)[i]? = some d) : i < n ∧ d = .int i := by
  unfold rangeL at h
  rw [List.getElem?_map] at h
  obtain ⟨j, e, rfl⟩ := Option.map_eq_some_iff.mp h
  have hi := (List.getElem?_eq_some_iff.mp e).1
  have : j = i := by
    rw [List.getElem?_range (by simpa using hi)] at e
    exact (Option.some.inj e).symm
  subst this
  exact ⟨by simpa using hi, by simp⟩
section
variable {Φ : Nat → DSp} {W : WE} {ds : List D} {G : GH} {Q : KD}
theorem alike_seq (n : Nat) {x y : D} {b : Bool} {ps : List PyData} (hx : IsP G x (if b = true then .list ps else .tuple ps)) (hy : IsP G y (if b = true then .list ps else .tuple ps)) (hl : ps.length ≤ 16777216) (hf : ∀ p ∈ ps, Fits n p) (q : ∀ G', Ext G G' → Q (.bl true) G') :
    run (upS Φ f_law_alike (below sp_law_alike (n + 1))) W N_law_alike.length b_law_alike [x, y] G Q := by
  obtain ⟨xs, sx, px, bx⟩ := hx.seq
  obtain ⟨ys, sy, py, by_⟩ := hy.seq
  obtain ⟨kx, tx, dx⟩ := sx.known
  obtain ⟨ky, ty, dy⟩ := sy.known
  simp only [run, N_law_alike, b_law_alike, exs, ex, ev, evs, evO, evI, evT, evTs, cmpQ, List.getElem?_cons_zero, List.getElem?_cons_succ, List.set_cons_zero, List.set_cons_succ, Option.some.injEq, exists_eq_left', exists_eq_left, exists_eq_right, exists_eq, exists_eq', dwipe, exists_eq_right', D.int.injEq, D.str.injEq, D.bl.injEq, D.tup.injEq, D.ref.injEq, D.rol.injEq, GO.lst.injEq, GO.ins.injEq, GO.dK.injEq, GO.dT.injEq, List.cons.injEq, tgLen, List.length_cons, List.length_nil, List.length_map, List.map_cons, List.map_nil, List.replicate_succ, List.replicate_zero, List.nil_append, List.cons_append, true_and, and_true, if_true, Bool.not_true, Bool.not_false, Bool.false_eq_true, if_false, gup_same, reduceCtorEq, false_and, and_false, exists_false, exists_const, inst_i, inst_b, inst_s, inst_t, atI_0, atI_1, atI_2, atI_3, atI_4, eqNN_nat, ix41, ix42, ix43, gup_gup, and_assoc, exists_and_left, oQ0, oQ1, oQ2, oQ3, oQ4, oQ5, oQ6, oQ7, oQ8, oQ9, oQ10, oQ11, oQ12, oQ13, oQ14, oQ15, oQ16, oQ17, oQ18, oQ19, oQ20, oQ21, oQ22, oQ23, oQ24, oQ25, oQ26, oQ27, oQ28, oQ29, oQ30, oQ31, oQ32, oQ33, oQ34, oQ35, oQ36, oQ37, oQ38, oQ39, oQ40, oQ41, oQ42, oQ43, oQ44, oQ45, oQ46, oQ47, oQ48, oQ49, oQ50, oQ51, oQ52, oQ53, oQ54, oQ55, oQ56, oQ57, oQ58, oQ59, oQ60, oQ61, oQ62, oQ63, oQ64, oQ65, oQ66, oQ67, oQ68, oQ69, oQ70, oQ71, oQ72, oQ73, oQ74, oQ75, oQ76, oQ77, oQ78, oQ79, oQ80, oQ81, oQ82, oQ83, oQ84, oQ85, oQ86, oQ87, oQ88, oQ89, oQ90, oQ91, oQ92, oQ93, oQ94, oQ95, oQ96, oQ97, oQ98, oQ99, oQ100, oQ101, oQ102, oQ103, oQ104, oQ105, oQ106, oQ107, oQ108, oQ109, oQ110, oQ111, oQ112, oQ113, oQ114, oQ115, oQ116, oQ117, oQ118, oQ119, oQ120, oQ121, oQ122, oQ123, oQ124, oQ125, oQ126, oQ127, oQ128, oQ129, oQ130, oQ131, oQ132, oQ133, oQ134, oQ135, oQ136, oQ137, oQ138, oQ139, oQ140, oQ141, oQ142, oQ143, oQ144, oQ145, oQ146, oQ147, oQ148, oQ149, oQ150, oQ151, oQ152, oQ153, oQ154, oQ155, oQ156, oQ157, oQ158, oQ159, upS_self, below, kx, ky, tx, ty, bx, by_]
  refine sx.len ?_
  refine sy.len ?_
  have el : xs.length = ys.length := by rw [px.len, py.len]
  simp only [exs, ex, ev, evs, evO, evI, evT, evTs, cmpQ, List.getElem?_cons_zero, List.getElem?_cons_succ, List.set_cons_zero, List.set_cons_succ, Option.some.injEq, exists_eq_left', exists_eq_left, exists_eq_right, exists_eq, exists_eq', dwipe, exists_eq_right', D.int.injEq, D.str.injEq, D.bl.injEq, D.tup.injEq, D.ref.injEq, D.rol.injEq, GO.lst.injEq, GO.ins.injEq, GO.dK.injEq, GO.dT.injEq, List.cons.injEq, tgLen, List.length_cons, List.length_nil, List.length_map, List.map_cons, List.map_nil, List.replicate_succ, List.replicate_zero, List.nil_append, List.cons_append, true_and, and_true, if_true, Bool.not_true, Bool.not_false, Bool.false_eq_true, if_false, gup_same, reduceCtorEq, false_and, and_false, exists_false, exists_const, inst_i, inst_b, inst_s, inst_t, atI_0, atI_1, atI_2, atI_3, atI_4, eqNN_nat, ix41, ix42, ix43, gup_gup, and_assoc, exists_and_left, oQ0, oQ1, oQ2, oQ3, oQ4, oQ5, oQ6, oQ7, oQ8, oQ9, oQ10, oQ11, oQ12, oQ13, oQ14, oQ15, oQ16, oQ17, oQ18, oQ19, oQ20, oQ21, oQ22, oQ23, oQ24, oQ25, oQ26, oQ27, oQ28, oQ29, oQ30, oQ31, oQ32, oQ33, oQ34, oQ35, oQ36, oQ37, oQ38, oQ39, oQ40, oQ41, oQ42, oQ43, oQ44, oQ45, oQ46, oQ47, oQ48, oQ49, oQ50, oQ51, oQ52, oQ53, oQ54, oQ55, oQ56, oQ57, oQ58, oQ59, oQ60, oQ61, oQ62, oQ63, oQ64, oQ65, oQ66, oQ67, oQ68, oQ69, oQ70, oQ71, oQ72, oQ73, oQ74, oQ75, oQ76, oQ77, oQ78, oQ79, oQ80, oQ81, oQ82, oQ83, oQ84, oQ85, oQ86, oQ87, oQ88, oQ89, oQ90, oQ91, oQ92, oQ93, oQ94, oQ95, oQ96, oQ97, oQ98, oQ99, oQ100, oQ101, oQ102, oQ103, oQ104, oQ105, oQ106, oQ107, oQ108, oQ109, oQ110, oQ111, oQ112, oQ113, oQ114, oQ115, oQ116, oQ117, oQ118, oQ119, oQ120, oQ121, oQ122, oQ123, oQ124, oQ125, oQ126, oQ127, oQ128, oQ129, oQ130, oQ131, oQ132, oQ133, oQ134, oQ135, oQ136, oQ137, oQ138, oQ139, oQ140, oQ141, oQ142, oQ143, oQ144, oQ145, oQ146, oQ147, oQ148, oQ149, oQ150, oQ151, oQ152, oQ153, oQ154, oQ155, oQ156, oQ157, oQ158, oQ159, el, decide_true]
  refine sy.len ?_
  simp only [exs, ex, ev, evs, evO, evI, evT, evTs, cmpQ, List.getElem?_cons_zero, List.getElem?_cons_succ, List.set_cons_zero, List.set_cons_succ, Option.some.injEq, exists_eq_left', exists_eq_left, exists_eq_right, exists_eq, exists_eq', dwipe, exists_eq_right', D.int.injEq, D.str.injEq, D.bl.injEq, D.tup.injEq, D.ref.injEq, D.rol.injEq, GO.lst.injEq, GO.ins.injEq, GO.dK.injEq, GO.dT.injEq, List.cons.injEq, tgLen, List.length_cons, List.length_nil, List.length_map, List.map_cons, List.map_nil, List.replicate_succ, List.replicate_zero, List.nil_append, List.cons_append, true_and, and_true, if_true, Bool.not_true, Bool.not_false, Bool.false_eq_true, if_false, gup_same, reduceCtorEq, false_and, and_false, exists_false, exists_const, inst_i, inst_b, inst_s, inst_t, atI_0, atI_1, atI_2, atI_3, atI_4, eqNN_nat, ix41, ix42, ix43, gup_gup, and_assoc, exists_and_left, oQ0, oQ1, oQ2, oQ3, oQ4, oQ5, oQ6, oQ7, oQ8, oQ9, oQ10, oQ11, oQ12, oQ13, oQ14, oQ15, oQ16, oQ17, oQ18, oQ19, oQ20, oQ21, oQ22, oQ23, oQ24, oQ25, oQ26, oQ27, oQ28, oQ29, oQ30, oQ31, oQ32, oQ33, oQ34, oQ35, oQ36, oQ37, oQ38, oQ39, oQ40, oQ41, oQ42, oQ43, oQ44, oQ45, oQ46, oQ47, oQ48, oQ49, oQ50, oQ51, oQ52, oQ53, oQ54, oQ55, oQ56, oQ57, oQ58, oQ59, oQ60, oQ61, oQ62, oQ63, oQ64, oQ65, oQ66, oQ67, oQ68, oQ69, oQ70, oQ71, oQ72, oQ73, oQ74, oQ75, oQ76, oQ77, oQ78, oQ79, oQ80, oQ81, oQ82, oQ83, oQ84, oQ85, oQ86, oQ87, oQ88, oQ89, oQ90, oQ91, oQ92, oQ93, oQ94, oQ95, oQ96, oQ97, oQ98, oQ99, oQ100, oQ101, oQ102, oQ103, oQ104, oQ105, oQ106, oQ107, oQ108, oQ109, oQ110, oQ111, oQ112, oQ113, oQ114, oQ115, oQ116, oQ117, oQ118, oQ119, oQ120, oQ121, oQ122, oQ123, oQ124, oQ125, oQ126, oQ127, oQ128, oQ129, oQ130, oQ131, oQ132, oQ133, oQ134, oQ135, oQ136, oQ137, oQ138, oQ139, oQ140, oQ141, oQ142, oQ143, oQ144, oQ145, oQ146, oQ147, oQ148, oQ149, oQ150, oQ151, oQ152, oQ153, oQ154, oQ155, oQ156, oQ157, oQ158, oQ159]
  have hy2 : ys.length ≤ 16777216 := by rw [py.len]; exact hl
  refine ⟨by omega, by omega, fun a ha => ?_⟩
  refine compL_filter (fun _ => false) (fun d => d) ha (by simp [rangeL, sizeLine_eq]; omega) (fun _ _ => trivial) ?_ ?_
  · intro i d G1 hd x1 K N hK hN
    obtain ⟨hi, rfl⟩ := rangeL_get hd
    simp only [exs, ex, ev, evs, evO, evI, evT, evTs, cmpQ, List.getElem?_cons_zero, List.getElem?_cons_succ, List.set_cons_zero, List.set_cons_succ, Option.some.injEq, exists_eq_left', exists_eq_left, exists_eq_right, exists_eq, exists_eq', dwipe, exists_eq_right', D.int.injEq, D.str.injEq, D.bl.injEq, D.tup.injEq, D.ref.injEq, D.rol.injEq, GO.lst.injEq, GO.ins.injEq, GO.dK.injEq, GO.dT.injEq, List.cons.injEq, tgLen, List.length_cons, List.length_nil, List.length_map, List.map_cons, List.map_nil, List.replicate_succ, List.replicate_zero, List.nil_append, List.cons_append, true_and, and_true, if_true, Bool.not_true, Bool.not_false, Bool.false_eq_true, if_false, gup_same, reduceCtorEq, false_and, and_false, exists_false, exists_const, inst_i, inst_b, inst_s, inst_t, atI_0, atI_1, atI_2, atI_3, atI_4, eqNN_nat, ix41, ix42, ix43, gup_gup, and_assoc, exists_and_left, oQ0, oQ1, oQ2, oQ3, oQ4, oQ5, oQ6, oQ7, oQ8, oQ9, oQ10, oQ11, oQ12, oQ13, oQ14, oQ15, oQ16, oQ17, oQ18, oQ19, oQ20, oQ21, oQ22, oQ23, oQ24, oQ25, oQ26, oQ27, oQ28, oQ29, oQ30, oQ31, oQ32, oQ33, oQ34, oQ35, oQ36, oQ37, oQ38, oQ39, oQ40, oQ41, oQ42, oQ43, oQ44, oQ45, oQ46, oQ47, oQ48, oQ49, oQ50, oQ51, oQ52, oQ53, oQ54, oQ55, oQ56, oQ57, oQ58, oQ59, oQ60, oQ61, oQ62, oQ63, oQ64, oQ65, oQ66, oQ67, oQ68, oQ69, oQ70, oQ71, oQ72, oQ73, oQ74, oQ75, oQ76, oQ77, oQ78, oQ79, oQ80, oQ81, oQ82, oQ83, oQ84, oQ85, oQ86, oQ87, oQ88, oQ89, oQ90, oQ91, oQ92, oQ93, oQ94, oQ95, oQ96, oQ97, oQ98, oQ99, oQ100, oQ101, oQ102, oQ103, oQ104, oQ105, oQ106, oQ107, oQ108, oQ109, oQ110, oQ111, oQ112, oQ113, oQ114, oQ115, oQ116, oQ117, oQ118, oQ119, oQ120, oQ121, oQ122, oQ123, oQ124, oQ125, oQ126, oQ127, oQ128, oQ129, oQ130, oQ131, oQ132, oQ133, oQ134, oQ135, oQ136, oQ137, oQ138, oQ139, oQ140, oQ141, oQ142, oQ143, oQ144, oQ145, oQ146, oQ147, oQ148, oQ149, oQ150, oQ151, oQ152, oQ153, oQ154, oQ155, oQ156, oQ157, oQ158, oQ159]
    have hi' : i < ps.length := by rw [← py.len]; simpa using hi
    obtain ⟨u, e1, p1⟩ := px.get (List.getElem?_eq_getElem hi')
    obtain ⟨v, e2, p2⟩ := py.get (List.getElem?_eq_getElem hi')
    refine (sx.ext x1).at (atI_nat rfl e1) ?_
    refine (sy.ext x1).at (atI_nat rfl e2) ?_
    refine ⟨u, v, _, rfl, p1.ext x1, p2.ext x1, hf _ (List.getElem_mem _), fun G2 x2 => ?_⟩
    simp only [exs, ex, ev, evs, evO, evI, evT, evTs, cmpQ, List.getElem?_cons_zero, List.getElem?_cons_succ, List.set_cons_zero, List.set_cons_succ, Option.some.injEq, exists_eq_left', exists_eq_left, exists_eq_right, exists_eq, exists_eq', dwipe, exists_eq_right', D.int.injEq, D.str.injEq, D.bl.injEq, D.tup.injEq, D.ref.injEq, D.rol.injEq, GO.lst.injEq, GO.ins.injEq, GO.dK.injEq, GO.dT.injEq, List.cons.injEq, tgLen, List.length_cons, List.length_nil, List.length_map, List.map_cons, List.map_nil, List.replicate_succ, List.replicate_zero, List.nil_append, List.cons_append, true_and, and_true, if_true, Bool.not_true, Bool.not_false, Bool.false_eq_true, if_false, gup_same, reduceCtorEq, false_and, and_false, exists_false, exists_const, inst_i, inst_b, inst_s, inst_t, atI_0, atI_1, atI_2, atI_3, atI_4, eqNN_nat, ix41, ix42, ix43, gup_gup, and_assoc, exists_and_left, oQ0, oQ1, oQ2, oQ3, oQ4, oQ5, oQ6, oQ7, oQ8, oQ9, oQ10, oQ11, oQ12, oQ13, oQ14, oQ15, oQ16, oQ17, oQ18, oQ19, oQ20, oQ21, oQ22, oQ23, oQ24, oQ25, oQ26, oQ27, oQ28, oQ29, oQ30, oQ31, oQ32, oQ33, oQ34, oQ35, oQ36, oQ37, oQ38, oQ39, oQ40, oQ41, oQ42, oQ43, oQ44, oQ45, oQ46, oQ47, oQ48, oQ49, oQ50, oQ51, oQ52, oQ53, oQ54, oQ55, oQ56, oQ57, oQ58, oQ59, oQ60, oQ61, oQ62, oQ63, oQ64, oQ65, oQ66, oQ67, oQ68, oQ69, oQ70, oQ71, oQ72, oQ73, oQ74, oQ75, oQ76, oQ77, oQ78, oQ79, oQ80, oQ81, oQ82, oQ83, oQ84, oQ85, oQ86, oQ87, oQ88, oQ89, oQ90, oQ91, oQ92, oQ93, oQ94, oQ95, oQ96, oQ97, oQ98, oQ99, oQ100, oQ101, oQ102, oQ103, oQ104, oQ105, oQ106, oQ107, oQ108, oQ109, oQ110, oQ111, oQ112, oQ113, oQ114, oQ115, oQ116, oQ117, oQ118, oQ119, oQ120, oQ121, oQ122, oQ123, oQ124, oQ125, oQ126, oQ127, oQ128, oQ129, oQ130, oQ131, oQ132, oQ133, oQ134, oQ135, oQ136, oQ137, oQ138, oQ139, oQ140, oQ141, oQ142, oQ143, oQ144, oQ145, oQ146, oQ147, oQ148, oQ149, oQ150, oQ151, oQ152, oQ153, oQ154, oQ155, oQ156, oQ157, oQ158, oQ159]
    exact hN rfl G2 x2
  · intro G1 x1 e a2 ha2
    have e' : G1 a = some (.lst []) := by rw [e]; simp
    have ne : a ≠ a2 := gne_none e' ha2
    refine eqDeep_nil (by rw [gup_ne ne]; exact e') gup_same (q _ (x1.trans (Ext.new ha2)))
theorem run_law_alike (n : Nat) (h : sp_law_alike n ds G W Q) : run (upS Φ f_law_alike (below sp_law_alike n)) W N_law_alike.length b_law_alike ds G Q := by
  obtain ⟨x, y, p, rfl, hx, hy, hf, q⟩ := h
  cases p with
  | none =>
    cases hx; cases hy
    simp only [run, N_law_alike, b_law_alike, exs, ex, ev, evs, evO, evI, evT, evTs, cmpQ, List.getElem?_cons_zero, List.getElem?_cons_succ, List.set_cons_zero, List.set_cons_succ, Option.some.injEq, exists_eq_left', exists_eq_left, exists_eq_right, exists_eq, exists_eq', dwipe, exists_eq_right', D.int.injEq, D.str.injEq, D.bl.injEq, D.tup.injEq, D.ref.injEq, D.rol.injEq, GO.lst.injEq, GO.ins.injEq, GO.dK.injEq, GO.dT.injEq, List.cons.injEq, tgLen, List.length_cons, List.length_nil, List.length_map, List.map_cons, List.map_nil, List.replicate_succ, List.replicate_zero, List.nil_append, List.cons_append, true_and, and_true, if_true, Bool.not_true, Bool.not_false, Bool.false_eq_true, if_false, gup_same, reduceCtorEq, false_and, and_false, exists_false, exists_const, inst_i, inst_b, inst_s, inst_t, atI_0, atI_1, atI_2, atI_3, atI_4, eqNN_nat, ix41, ix42, ix43, gup_gup, and_assoc, exists_and_left, oQ0, oQ1, oQ2, oQ3, oQ4, oQ5, oQ6, oQ7, oQ8, oQ9, oQ10, oQ11, oQ12, oQ13, oQ14, oQ15, oQ16, oQ17, oQ18, oQ19, oQ20, oQ21, oQ22, oQ23, oQ24, oQ25, oQ26, oQ27, oQ28, oQ29, oQ30, oQ31, oQ32, oQ33, oQ34, oQ35, oQ36, oQ37, oQ38, oQ39, oQ40, oQ41, oQ42, oQ43, oQ44, oQ45, oQ46, oQ47, oQ48, oQ49, oQ50, oQ51, oQ52, oQ53, oQ54, oQ55, oQ56, oQ57, oQ58, oQ59, oQ60, oQ61, oQ62, oQ63, oQ64, oQ65, oQ66, oQ67, oQ68, oQ69, oQ70, oQ71, oQ72, oQ73, oQ74, oQ75, oQ76, oQ77, oQ78, oQ79, oQ80, oQ81, oQ82, oQ83, oQ84, oQ85, oQ86, oQ87, oQ88, oQ89, oQ90, oQ91, oQ92, oQ93, oQ94, oQ95, oQ96, oQ97, oQ98, oQ99, oQ100, oQ101, oQ102, oQ103, oQ104, oQ105, oQ106, oQ107, oQ108, oQ109, oQ110, oQ111, oQ112, oQ113, oQ114, oQ115, oQ116, oQ117, oQ118, oQ119, oQ120, oQ121, oQ122, oQ123, oQ124, oQ125, oQ126, oQ127, oQ128, oQ129, oQ130, oQ131, oQ132, oQ133, oQ134, oQ135, oQ136, oQ137, oQ138, oQ139, oQ140, oQ141, oQ142, oQ143, oQ144, oQ145, oQ146, oQ147, oQ148, oQ149, oQ150, oQ151, oQ152, oQ153, oQ154, oQ155, oQ156, oQ157, oQ158, oQ159]
    exact q G (Ext.refl G)
  | bool b =>
    cases hx; cases hy
    simp only [run, N_law_alike, b_law_alike, exs, ex, ev, evs, evO, evI, evT, evTs, cmpQ, List.getElem?_cons_zero, List.getElem?_cons_succ, List.set_cons_zero, List.set_cons_succ, Option.some.injEq, exists_eq_left', exists_eq_left, exists_eq_right, exists_eq, exists_eq', dwipe, exists_eq_right', D.int.injEq, D.str.injEq, D.bl.injEq, D.tup.injEq, D.ref.injEq, D.rol.injEq, GO.lst.injEq, GO.ins.injEq, GO.dK.injEq, GO.dT.injEq, List.cons.injEq, tgLen, List.length_cons, List.length_nil, List.length_map, List.map_cons, List.map_nil, List.replicate_succ, List.replicate_zero, List.nil_append, List.cons_append, true_and, and_true, if_true, Bool.not_true, Bool.not_false, Bool.false_eq_true, if_false, gup_same, reduceCtorEq, false_and, and_false, exists_false, exists_const, inst_i, inst_b, inst_s, inst_t, atI_0, atI_1, atI_2, atI_3, atI_4, eqNN_nat, ix41, ix42, ix43, gup_gup, and_assoc, exists_and_left, oQ0, oQ1, oQ2, oQ3, oQ4, oQ5, oQ6, oQ7, oQ8, oQ9, oQ10, oQ11, oQ12, oQ13, oQ14, oQ15, oQ16, oQ17, oQ18, oQ19, oQ20, oQ21, oQ22, oQ23, oQ24, oQ25, oQ26, oQ27, oQ28, oQ29, oQ30, oQ31, oQ32, oQ33, oQ34, oQ35, oQ36, oQ37, oQ38, oQ39, oQ40, oQ41, oQ42, oQ43, oQ44, oQ45, oQ46, oQ47, oQ48, oQ49, oQ50, oQ51, oQ52, oQ53, oQ54, oQ55, oQ56, oQ57, oQ58, oQ59, oQ60, oQ61, oQ62, oQ63, oQ64, oQ65, oQ66, oQ67, oQ68, oQ69, oQ70, oQ71, oQ72, oQ73, oQ74, oQ75, oQ76, oQ77, oQ78, oQ79, oQ80, oQ81, oQ82, oQ83, oQ84, oQ85, oQ86, oQ87, oQ88, oQ89, oQ90, oQ91, oQ92, oQ93, oQ94, oQ95, oQ96, oQ97, oQ98, oQ99, oQ100, oQ101, oQ102, oQ103, oQ104, oQ105, oQ106, oQ107, oQ108, oQ109, oQ110, oQ111, oQ112, oQ113, oQ114, oQ115, oQ116, oQ117, oQ118, oQ119, oQ120, oQ121, oQ122, oQ123, oQ124, oQ125, oQ126, oQ127, oQ128, oQ129, oQ130, oQ131, oQ132, oQ133, oQ134, oQ135, oQ136, oQ137, oQ138, oQ139, oQ140, oQ141, oQ142, oQ143, oQ144, oQ145, oQ146, oQ147, oQ148, oQ149, oQ150, oQ151, oQ152, oQ153, oQ154, oQ155, oQ156, oQ157, oQ158, oQ159, decide_true]
    exact q G (Ext.refl G)
  | int i =>
    cases hx; cases hy
    simp only [run, N_law_alike, b_law_alike, exs, ex, ev, evs, evO, evI, evT, evTs, cmpQ, List.getElem?_cons_zero, List.getElem?_cons_succ, List.set_cons_zero, List.set_cons_succ, Option.some.injEq, exists_eq_left', exists_eq_left, exists_eq_right, exists_eq, exists_eq', dwipe, exists_eq_right', D.int.injEq, D.str.injEq, D.bl.injEq, D.tup.injEq, D.ref.injEq, D.rol.injEq, GO.lst.injEq, GO.ins.injEq, GO.dK.injEq, GO.dT.injEq, List.cons.injEq, tgLen, List.length_cons, List.length_nil, List.length_map, List.map_cons, List.map_nil, List.replicate_succ, List.replicate_zero, List.nil_append, List.cons_append, true_and, and_true, if_true, Bool.not_true, Bool.not_false, Bool.false_eq_true, if_false, gup_same, reduceCtorEq, false_and, and_false, exists_false, exists_const, inst_i, inst_b, inst_s, inst_t, atI_0, atI_1, atI_2, atI_3, atI_4, eqNN_nat, ix41, ix42, ix43, gup_gup, and_assoc, exists_and_left, oQ0, oQ1, oQ2, oQ3, oQ4, oQ5, oQ6, oQ7, oQ8, oQ9, oQ10, oQ11, oQ12, oQ13, oQ14, oQ15, oQ16, oQ17, oQ18, oQ19, oQ20, oQ21, oQ22, oQ23, oQ24, oQ25, oQ26, oQ27, oQ28, oQ29, oQ30, oQ31, oQ32, oQ33, oQ34, oQ35, oQ36, oQ37, oQ38, oQ39, oQ40, oQ41, oQ42, oQ43, oQ44, oQ45, oQ46, oQ47, oQ48, oQ49, oQ50, oQ51, oQ52, oQ53, oQ54, oQ55, oQ56, oQ57, oQ58, oQ59, oQ60, oQ61, oQ62, oQ63, oQ64, oQ65, oQ66, oQ67, oQ68, oQ69, oQ70, oQ71, oQ72, oQ73, oQ74, oQ75, oQ76, oQ77, oQ78, oQ79, oQ80, oQ81, oQ82, oQ83, oQ84, oQ85, oQ86, oQ87, oQ88, oQ89, oQ90, oQ91, oQ92, oQ93, oQ94, oQ95, oQ96, oQ97, oQ98, oQ99, oQ100, oQ101, oQ102, oQ103, oQ104, oQ105, oQ106, oQ107, oQ108, oQ109, oQ110, oQ111, oQ112, oQ113, oQ114, oQ115, oQ116, oQ117, oQ118, oQ119, oQ120, oQ121, oQ122, oQ123, oQ124, oQ125, oQ126, oQ127, oQ128, oQ129, oQ130, oQ131, oQ132, oQ133, oQ134, oQ135, oQ136, oQ137, oQ138, oQ139, oQ140, oQ141, oQ142, oQ143, oQ144, oQ145, oQ146, oQ147, oQ148, oQ149, oQ150, oQ151, oQ152, oQ153, oQ154, oQ155, oQ156, oQ157, oQ158, oQ159, decide_true]
    exact q G (Ext.refl G)
  | str x =>
    cases hx; cases hy
    simp only [run, N_law_alike, b_law_alike, exs, ex, ev, evs, evO, evI, evT, evTs, cmpQ, List.getElem?_cons_zero, List.getElem?_cons_succ, List.set_cons_zero, List.set_cons_succ, Option.some.injEq, exists_eq_left', exists_eq_left, exists_eq_right, exists_eq, exists_eq', dwipe, exists_eq_right', D.int.injEq, D.str.injEq, D.bl.injEq, D.tup.injEq, D.ref.injEq, D.rol.injEq, GO.lst.injEq, GO.ins.injEq, GO.dK.injEq, GO.dT.injEq, List.cons.injEq, tgLen, List.length_cons, List.length_nil, List.length_map, List.map_cons, List.map_nil, List.replicate_succ, List.replicate_zero, List.nil_append, List.cons_append, true_and, and_true, if_true, Bool.not_true, Bool.not_false, Bool.false_eq_true, if_false, gup_same, reduceCtorEq, false_and, and_false, exists_false, exists_const, inst_i, inst_b, inst_s, inst_t, atI_0, atI_1, atI_2, atI_3, atI_4, eqNN_nat, ix41, ix42, ix43, gup_gup, and_assoc, exists_and_left, oQ0, oQ1, oQ2, oQ3, oQ4, oQ5, oQ6, oQ7, oQ8, oQ9, oQ10, oQ11, oQ12, oQ13, oQ14, oQ15, oQ16, oQ17, oQ18, oQ19, oQ20, oQ21, oQ22, oQ23, oQ24, oQ25, oQ26, oQ27, oQ28, oQ29, oQ30, oQ31, oQ32, oQ33, oQ34, oQ35, oQ36, oQ37, oQ38, oQ39, oQ40, oQ41, oQ42, oQ43, oQ44, oQ45, oQ46, oQ47, oQ48, oQ49, oQ50, oQ51, oQ52, oQ53, oQ54, oQ55, oQ56, oQ57, oQ58, oQ59, oQ60, oQ61, oQ62, oQ63, oQ64, oQ65, oQ66, oQ67, oQ68, oQ69, oQ70, oQ71, oQ72, oQ73, oQ74, oQ75, oQ76, oQ77, oQ78, oQ79, oQ80, oQ81, oQ82, oQ83, oQ84, oQ85, oQ86, oQ87, oQ88, oQ89, oQ90, oQ91, oQ92, oQ93, oQ94, oQ95, oQ96, oQ97, oQ98, oQ99, oQ100, oQ101, oQ102, oQ103, oQ104, oQ105, oQ106, oQ107, oQ108, oQ109, oQ110, oQ111, oQ112, oQ113, oQ114, oQ115, oQ116, oQ117, oQ118, oQ119, oQ120, oQ121, oQ122, oQ123, oQ124, oQ125, oQ126, oQ127, oQ128, oQ129, oQ130, oQ131, oQ132, oQ133, oQ134, oQ135, oQ136, oQ137, oQ138, oQ139, oQ140, oQ141, oQ142, oQ143, oQ144, oQ145, oQ146, oQ147, oQ148, oQ149, oQ150, oQ151, oQ152, oQ153, oQ154, oQ155, oQ156, oQ157, oQ158, oQ159, decide_true]
    exact q G (Ext.refl G)
  | tuple ps =>
    cases n with
    | zero => exact hf.elim
    | succ n => exact alike_seq n (b := false) hx hy hf.1 hf.2 q
  | list ps =>
    cases n with
    | zero => exact hf.elim
    | succ n => exact alike_seq n (b := true) hx hy hf.1 hf.2 q
  | _ => cases n <;> exact hf.elim
/-- a list or a tuple apart from the row -/
def SeqR (G : GH) (r : Addr) (v : D) (xs : List D) : Prop := v = .tup xs ∨ ∃ a, v = .ref a ∧ a ≠ r ∧ G a = some (.lst xs)
theorem SeqR.ext {G G' : GH} {r : Addr} {v : D} {xs : List D} (e : ExtB r G G') (h : SeqR G r v xs) : SeqR G' r v xs := by
  rcases h with h | ⟨a, h1, h2, h3⟩
  · exact .inl h
  · exact .inr ⟨a, h1, h2, e a _ h2 h3⟩
theorem SeqR.seq {G : GH} {r : Addr} {v : D} {xs : List D} (h : SeqR G r v xs) : IsSeq G v xs := by
  rcases h with h | ⟨a, h1, h2, h3⟩
  · exact .inl h
  · exact .inr ⟨a, h1, h3⟩
def sp_law_pick : DSp := fun ds G W Q => ∃ r S v xs, ds = [.ref r, v] ∧ Row G r S ∧ SeqR G r v xs ∧ 0 < xs.length ∧ xs.length < 1073741824 ∧ ∀ d ∈ xs, ∀ G', RowE r S G G' → Q d G'
theorem run_law_pick (h1 : Φ f_law_taken = sp_law_taken) (h : sp_law_pick ds G W Q) : run Φ W N_law_pick.length b_law_pick ds G Q := by
  obtain ⟨r, S, v, xs, rfl, hr, sv, l0, l1, q⟩ := h
  simp only [run, N_law_pick, b_law_pick, exs, ex, ev, evs, evO, evI, evT, evTs, cmpQ, List.getElem?_cons_zero, List.getElem?_cons_succ, List.set_cons_zero, List.set_cons_succ, Option.some.injEq, exists_eq_left', exists_eq_left, exists_eq_right, exists_eq, exists_eq', dwipe, exists_eq_right', D.int.injEq, D.str.injEq, D.bl.injEq, D.tup.injEq, D.ref.injEq, D.rol.injEq, GO.lst.injEq, GO.ins.injEq, GO.dK.injEq, GO.dT.injEq, List.cons.injEq, tgLen, List.length_cons, List.length_nil, List.length_map, List.map_cons, List.map_nil, List.replicate_succ, List.replicate_zero, List.nil_append, List.cons_append, true_and, and_true, if_true, Bool.not_true, Bool.not_false, Bool.false_eq_true, if_false, gup_same, reduceCtorEq, false_and, and_false, exists_false, exists_const, inst_i, inst_b, inst_s, inst_t, atI_0, atI_1, atI_2, atI_3, atI_4, eqNN_nat, ix41, ix42, ix43, gup_gup, and_assoc, exists_and_left, oQ0, oQ1, oQ2, oQ3, oQ4, oQ5, oQ6, oQ7, oQ8, oQ9, oQ10, oQ11, oQ12, oQ13, oQ14, oQ15, oQ16, oQ17, oQ18, oQ19, oQ20, oQ21, oQ22, oQ23, oQ24, oQ25, oQ26, oQ27, oQ28, oQ29, oQ30, oQ31, oQ32, oQ33, oQ34, oQ35, oQ36, oQ37, oQ38, oQ39, oQ40, oQ41, oQ42, oQ43, oQ44, oQ45, oQ46, oQ47, oQ48, oQ49, oQ50, oQ51, oQ52, oQ53, oQ54, oQ55, oQ56, oQ57, oQ58, oQ59, oQ60, oQ61, oQ62, oQ63, oQ64, oQ65, oQ66, oQ67, oQ68, oQ69, oQ70, oQ71, oQ72, oQ73, oQ74, oQ75, oQ76, oQ77, oQ78, oQ79, oQ80, oQ81, oQ82, oQ83, oQ84, oQ85, oQ86, oQ87, oQ88, oQ89, oQ90, oQ91, oQ92, oQ93, oQ94, oQ95, oQ96, oQ97, oQ98, oQ99, oQ100, oQ101, oQ102, oQ103, oQ104, oQ105, oQ106, oQ107, oQ108, oQ109, oQ110, oQ111, oQ112, oQ113, oQ114, oQ115, oQ116, oQ117, oQ118, oQ119, oQ120, oQ121, oQ122, oQ123, oQ124, oQ125, oQ126, oQ127, oQ128, oQ129, oQ130, oQ131, oQ132, oQ133, oQ134, oQ135, oQ136, oQ137, oQ138, oQ139, oQ140, oQ141, oQ142, oQ143, oQ144, oQ145, oQ146, oQ147, oQ148, oQ149, oQ150, oQ151, oQ152, oQ153, oQ154, oQ155, oQ156, oQ157, oQ158, oQ159, h1]
  refine sv.seq.len ?_
  refine ⟨r, S, _, rfl, hr, by omega, by omega, fun i G' i0 i1 e => ?_⟩
  have hi : i.toNat < xs.length := by omega
  refine (sv.ext e.ext).seq.at (atI_nat (j := i.toNat) (by omega) (List.getElem?_eq_getElem hi)) (q _ (List.getElem_mem hi) G' e)
def sp_law_ticks : DSp := fun ds G W Q => ∃ v rs t, ds = [v, .int t] ∧ IsSeq G v (List.map D.int rs) ∧ rs.length ≤ 100000 ∧ ∀ a G', G a = none → Ext G G' → G' a = some (.lst ((ticksL t rs).map D.int)) → Q (.ref a) G'
theorem run_law_ticks (h : sp_law_ticks ds G W Q) : run Φ W N_law_ticks.length b_law_ticks ds G Q := by
  obtain ⟨v, rs, t, rfl, hv, hl, q⟩ := h
  simp only [run, N_law_ticks, b_law_ticks, exs, ex, ev, evs, evO, evI, evT, evTs, cmpQ, List.getElem?_cons_zero, List.getElem?_cons_succ, List.set_cons_zero, List.set_cons_succ, Option.some.injEq, exists_eq_left', exists_eq_left, exists_eq_right, exists_eq, exists_eq', dwipe, exists_eq_right', D.int.injEq, D.str.injEq, D.bl.injEq, D.tup.injEq, D.ref.injEq, D.rol.injEq, GO.lst.injEq, GO.ins.injEq, GO.dK.injEq, GO.dT.injEq, List.cons.injEq, tgLen, List.length_cons, List.length_nil, List.length_map, List.map_cons, List.map_nil, List.replicate_succ, List.replicate_zero, List.nil_append, List.cons_append, true_and, and_true, if_true, Bool.not_true, Bool.not_false, Bool.false_eq_true, if_false, gup_same, reduceCtorEq, false_and, and_false, exists_false, exists_const, inst_i, inst_b, inst_s, inst_t, atI_0, atI_1, atI_2, atI_3, atI_4, eqNN_nat, ix41, ix42, ix43, gup_gup, and_assoc, exists_and_left, oQ0, oQ1, oQ2, oQ3, oQ4, oQ5, oQ6, oQ7, oQ8, oQ9, oQ10, oQ11, oQ12, oQ13, oQ14, oQ15, oQ16, oQ17, oQ18, oQ19, oQ20, oQ21, oQ22, oQ23, oQ24, oQ25, oQ26, oQ27, oQ28, oQ29, oQ30, oQ31, oQ32, oQ33, oQ34, oQ35, oQ36, oQ37, oQ38, oQ39, oQ40, oQ41, oQ42, oQ43, oQ44, oQ45, oQ46, oQ47, oQ48, oQ49, oQ50, oQ51, oQ52, oQ53, oQ54, oQ55, oQ56, oQ57, oQ58, oQ59, oQ60, oQ61, oQ62, oQ63, oQ64, oQ65, oQ66, oQ67, oQ68, oQ69, oQ70, oQ71, oQ72, oQ73, oQ74, oQ75, oQ76, oQ77, oQ78, oQ79, oQ80, oQ81, oQ82, oQ83, oQ84, oQ85, oQ86, oQ87, oQ88, oQ89, oQ90, oQ91, oQ92, oQ93, oQ94, oQ95, oQ96, oQ97, oQ98, oQ99, oQ100, oQ101, oQ102, oQ103, oQ104, oQ105, oQ106, oQ107, oQ108, oQ109, oQ110, oQ111, oQ112, oQ113, oQ114, oQ115, oQ116, oQ117, oQ118, oQ119, oQ120, oQ121, oQ122, oQ123, oQ124, oQ125, oQ126, oQ127, oQ128, oQ129, oQ130, oQ131, oQ132, oQ133, oQ134, oQ135, oQ136, oQ137, oQ138, oQ139, oQ140, oQ141, oQ142, oQ143, oQ144, oQ145, oQ146, oQ147, oQ148, oQ149, oQ150, oQ151, oQ152, oQ153, oQ154, oQ155, oQ156, oQ157, oQ158, oQ159]
  intro a ha
  refine hv.i1 (Ext.new ha) fun ok hok => ?_
  refine forL_of (fun i σ G' => ∃ now d, now = t + (rs.take i).sum ∧ σ = [some v, some (.int now), some (.ref a), d] ∧ Ext G G' ∧ G' a = some (.lst ((ticksL t (rs.take i)).map D.int))) ⟨t, none, by simp, rfl, Ext.new ha, by simp [gup_same, ticksL]⟩ ?_ ?_
  · rintro i d σ G' hd ⟨now, d', e1, rfl, x, e2⟩ K hK
    refine ⟨hok _ x, ?_⟩
    rw [List.getElem?_map] at hd
    obtain ⟨n, e3, rfl⟩ := Option.map_eq_some_iff.mp hd
    have hi := (List.getElem?_eq_some_iff.mp e3).1
    have tk : rs.take (i + 1) = rs.take i ++ [n] := by rw [List.take_succ, e3]; rfl
    simp only [exs, ex, ev, evs, evO, evI, evT, evTs, cmpQ, List.getElem?_cons_zero, List.getElem?_cons_succ, List.set_cons_zero, List.set_cons_succ, Option.some.injEq, exists_eq_left', exists_eq_left, exists_eq_right, exists_eq, exists_eq', dwipe, exists_eq_right', D.int.injEq, D.str.injEq, D.bl.injEq, D.tup.injEq, D.ref.injEq, D.rol.injEq, GO.lst.injEq, GO.ins.injEq, GO.dK.injEq, GO.dT.injEq, List.cons.injEq, tgLen, List.length_cons, List.length_nil, List.length_map, List.map_cons, List.map_nil, List.replicate_succ, List.replicate_zero, List.nil_append, List.cons_append, true_and, and_true, if_true, Bool.not_true, Bool.not_false, Bool.false_eq_true, if_false, gup_same, reduceCtorEq, false_and, and_false, exists_false, exists_const, inst_i, inst_b, inst_s, inst_t, atI_0, atI_1, atI_2, atI_3, atI_4, eqNN_nat, ix41, ix42, ix43, gup_gup, and_assoc, exists_and_left, oQ0, oQ1, oQ2, oQ3, oQ4, oQ5, oQ6, oQ7, oQ8, oQ9, oQ10, oQ11, oQ12, oQ13, oQ14, oQ15, oQ16, oQ17, oQ18, oQ19, oQ20, oQ21, oQ22, oQ23, oQ24, oQ25, oQ26, oQ27, oQ28, oQ29, oQ30, oQ31, oQ32, oQ33, oQ34, oQ35, oQ36, oQ37, oQ38, oQ39, oQ40, oQ41, oQ42, oQ43, oQ44, oQ45, oQ46, oQ47, oQ48, oQ49, oQ50, oQ51, oQ52, oQ53, oQ54, oQ55, oQ56, oQ57, oQ58, oQ59, oQ60, oQ61, oQ62, oQ63, oQ64, oQ65, oQ66, oQ67, oQ68, oQ69, oQ70, oQ71, oQ72, oQ73, oQ74, oQ75, oQ76, oQ77, oQ78, oQ79, oQ80, oQ81, oQ82, oQ83, oQ84, oQ85, oQ86, oQ87, oQ88, oQ89, oQ90, oQ91, oQ92, oQ93, oQ94, oQ95, oQ96, oQ97, oQ98, oQ99, oQ100, oQ101, oQ102, oQ103, oQ104, oQ105, oQ106, oQ107, oQ108, oQ109, oQ110, oQ111, oQ112, oQ113, oQ114, oQ115, oQ116, oQ117, oQ118, oQ119, oQ120, oQ121, oQ122, oQ123, oQ124, oQ125, oQ126, oQ127, oQ128, oQ129, oQ130, oQ131, oQ132, oQ133, oQ134, oQ135, oQ136, oQ137, oQ138, oQ139, oQ140, oQ141, oQ142, oQ143, oQ144, oQ145, oQ146, oQ147, oQ148, oQ149, oQ150, oQ151, oQ152, oQ153, oQ154, oQ155, oQ156, oQ157, oQ158, oQ159, e2]
    refine ⟨?_, hK _ _ ⟨now + n, _, ?_, rfl, Ext.upd ha x, ?_⟩⟩
    · rw [ticksL_len, List.length_take, sizeLine_eq]; omega
    · rw [tk, e1]; simp; omega
    · rw [gup_same, tk, ticksL_snoc, e1]; simp
  · rintro σ G' ⟨now, d', e1, rfl, x, e2⟩
    refine ⟨hok _ x, ?_⟩
    simp only [exs, ex, ev, evs, evO, evI, evT, evTs, cmpQ, List.getElem?_cons_zero, List.getElem?_cons_succ, List.set_cons_zero, List.set_cons_succ, Option.some.injEq, exists_eq_left', exists_eq_left, exists_eq_right, exists_eq, exists_eq', dwipe, exists_eq_right', D.int.injEq, D.str.injEq, D.bl.injEq, D.tup.injEq, D.ref.injEq, D.rol.injEq, GO.lst.injEq, GO.ins.injEq, GO.dK.injEq, GO.dT.injEq, List.cons.injEq, tgLen, List.length_cons, List.length_nil, List.length_map, List.map_cons, List.map_nil, List.replicate_succ, List.replicate_zero, List.nil_append, List.cons_append, true_and, and_true, if_true, Bool.not_true, Bool.not_false, Bool.false_eq_true, if_false, gup_same, reduceCtorEq, false_and, and_false, exists_false, exists_const, inst_i, inst_b, inst_s, inst_t, atI_0, atI_1, atI_2, atI_3, atI_4, eqNN_nat, ix41, ix42, ix43, gup_gup, and_assoc, exists_and_left, oQ0, oQ1, oQ2, oQ3, oQ4, oQ5, oQ6, oQ7, oQ8, oQ9, oQ10, oQ11, oQ12, oQ13, oQ14, oQ15, oQ16, oQ17, oQ18, oQ19, oQ20, oQ21, oQ22, oQ23, oQ24, oQ25, oQ26, oQ27, oQ28, oQ29, oQ30, oQ31, oQ32, oQ33, oQ34, oQ35, oQ36, oQ37, oQ38, oQ39, oQ40, oQ41, oQ42, oQ43, oQ44, oQ45, oQ46, oQ47, oQ48, oQ49, oQ50, oQ51, oQ52, oQ53, oQ54, oQ55, oQ56, oQ57, oQ58, oQ59, oQ60, oQ61, oQ62, oQ63, oQ64, oQ65, oQ66, oQ67, oQ68, oQ69, oQ70, oQ71, oQ72, oQ73, oQ74, oQ75, oQ76, oQ77, oQ78, oQ79, oQ80, oQ81, oQ82, oQ83, oQ84, oQ85, oQ86, oQ87, oQ88, oQ89, oQ90, oQ91, oQ92, oQ93, oQ94, oQ95, oQ96, oQ97, oQ98, oQ99, oQ100, oQ101, oQ102, oQ103, oQ104, oQ105, oQ106, oQ107, oQ108, oQ109, oQ110, oQ111, oQ112, oQ113, oQ114, oQ115, oQ116, oQ117, oQ118, oQ119, oQ120, oQ121, oQ122, oQ123, oQ124, oQ125, oQ126, oQ127, oQ128, oQ129, oQ130, oQ131, oQ132, oQ133, oQ134, oQ135, oQ136, oQ137, oQ138, oQ139, oQ140, oQ141, oQ142, oQ143, oQ144, oQ145, oQ146, oQ147, oQ148, oQ149, oQ150, oQ151, oQ152, oQ153, oQ154, oQ155, oQ156, oQ157, oQ158, oQ159]
    refine q a G' ha x ?_
    rw [e2]
    simp
theorem run_law_seen (h : sp_seen_at ds G W Q) : run Φ W N_law_seen.length b_law_seen ds G Q := by
  obtain ⟨p, T, ts, cell, tick, rfl, po, hT, q⟩ := h
  simp only [run, N_law_seen, b_law_seen, Pl.d, exs, ex, ev, evs, evO, evI, evT, evTs, cmpQ, List.getElem?_cons_zero, List.getElem?_cons_succ, List.set_cons_zero, List.set_cons_succ, Option.some.injEq, exists_eq_left', exists_eq_left, exists_eq_right, exists_eq, exists_eq', dwipe, exists_eq_right', D.int.injEq, D.str.injEq, D.bl.injEq, D.tup.injEq, D.ref.injEq, D.rol.injEq, GO.lst.injEq, GO.ins.injEq, GO.dK.injEq, GO.dT.injEq, List.cons.injEq, tgLen, List.length_cons, List.length_nil, List.length_map, List.map_cons, List.map_nil, List.replicate_succ, List.replicate_zero, List.nil_append, List.cons_append, true_and, and_true, if_true, Bool.not_true, Bool.not_false, Bool.false_eq_true, if_false, gup_same, reduceCtorEq, false_and, and_false, exists_false, exists_const, inst_i, inst_b, inst_s, inst_t, atI_0, atI_1, atI_2, atI_3, atI_4, eqNN_nat, ix41, ix42, ix43, gup_gup, and_assoc, exists_and_left, oQ0, oQ1, oQ2, oQ3, oQ4, oQ5, oQ6, oQ7, oQ8, oQ9, oQ10, oQ11, oQ12, oQ13, oQ14, oQ15, oQ16, oQ17, oQ18, oQ19, oQ20, oQ21, oQ22, oQ23, oQ24, oQ25, oQ26, oQ27, oQ28, oQ29, oQ30, oQ31, oQ32, oQ33, oQ34, oQ35, oQ36, oQ37, oQ38, oQ39, oQ40, oQ41, oQ42, oQ43, oQ44, oQ45, oQ46, oQ47, oQ48, oQ49, oQ50, oQ51, oQ52, oQ53, oQ54, oQ55, oQ56, oQ57, oQ58, oQ59, oQ60, oQ61, oQ62, oQ63, oQ64, oQ65, oQ66, oQ67, oQ68, oQ69, oQ70, oQ71, oQ72, oQ73, oQ74, oQ75, oQ76, oQ77, oQ78, oQ79, oQ80, oQ81, oQ82, oQ83, oQ84, oQ85, oQ86, oQ87, oQ88, oQ89, oQ90, oQ91, oQ92, oQ93, oQ94, oQ95, oQ96, oQ97, oQ98, oQ99, oQ100, oQ101, oQ102, oQ103, oQ104, oQ105, oQ106, oQ107, oQ108, oQ109, oQ110, oQ111, oQ112, oQ113, oQ114, oQ115, oQ116, oQ117, oQ118, oQ119, oQ120, oQ121, oQ122, oQ123, oQ124, oQ125, oQ126, oQ127, oQ128, oQ129, oQ130, oQ131, oQ132, oQ133, oQ134, oQ135, oQ136, oQ137, oQ138, oQ139, oQ140, oQ141, oQ142, oQ143, oQ144, oQ145, oQ146, oQ147, oQ148, oQ149, oQ150, oQ151, oQ152, oQ153, oQ154, oQ155, oQ156, oQ157, oQ158, oQ159]
  refine hT.j fun ok hok => ?_
  have zl : (zipD (p.writes.map Wr.d) (ts.map D.int)).length = (List.zip p.writes ts).length := by simp [zipD]
  refine forL_of (fun i σ G' => G' = G ∧ ∃ e f, σ = [some p.d, some T, some (.int cell), some (.int tick), some (.str (((List.zip p.writes ts).take i).foldl (fun f q => if q.1.cell = cell ∧ q.2 ≤ tick ∧ tick < q.2 + stayOf p q.1 then q.1.sign else f) ".")), e, f]) ⟨rfl, none, none, rfl⟩ ?_ ?_
  · rintro i d σ G' hd ⟨rfl, e, f, rfl⟩ K hK
    refine ⟨hok _ (Ext.refl _), ?_⟩
    obtain ⟨u, w, e1, e2, rfl⟩ := zipD_get hd
    rw [List.getElem?_map] at e1 e2
    obtain ⟨wr, e3, rfl⟩ := Option.map_eq_some_iff.mp e1
    obtain ⟨t, e4, rfl⟩ := Option.map_eq_some_iff.mp e2
    have wok := po.wr wr (List.mem_of_getElem? e3)
    have ez : (List.zip p.writes ts)[i]? = some (wr, t) := by rw [List.getElem?_zip_eq_some]; exact ⟨e3, e4⟩
    have tk : (List.zip p.writes ts).take (i + 1) = (List.zip p.writes ts).take i ++ [(wr, t)] := by rw [List.take_succ, ez]; rfl
    have fin := hK
    simp only [tk, List.foldl_append, List.foldl_cons, List.foldl_nil] at fin
    generalize ((List.zip p.writes ts).take i).foldl (fun f q => if q.1.cell = cell ∧ q.2 ≤ tick ∧ tick < q.2 + stayOf p q.1 then q.1.sign else f) (".": Str) = F at fin ⊢
    have i0 := wok.i0; have i1 := wok.i1
    have es : atI (p.stays.map D.int) wr.ink = some (.int (stayOf p wr)) := by
      refine atI_nat (j := wr.ink.toNat) (by omega) ?_
      rw [List.getElem?_map, List.getElem?_eq_getElem (by omega)]
      unfold stayOf
      rw [List.getD_eq_getElem?_getD, List.getElem?_eq_getElem (by omega)]
      rfl
    simp only [Wr.d, Pl.d, exs, ex, ev, evs, evO, evI, evT, evTs, cmpQ, List.getElem?_cons_zero, List.getElem?_cons_succ, List.set_cons_zero, List.set_cons_succ, Option.some.injEq, exists_eq_left', exists_eq_left, exists_eq_right, exists_eq, exists_eq', dwipe, exists_eq_right', D.int.injEq, D.str.injEq, D.bl.injEq, D.tup.injEq, D.ref.injEq, D.rol.injEq, GO.lst.injEq, GO.ins.injEq, GO.dK.injEq, GO.dT.injEq, List.cons.injEq, tgLen, List.length_cons, List.length_nil, List.length_map, List.map_cons, List.map_nil, List.replicate_succ, List.replicate_zero, List.nil_append, List.cons_append, true_and, and_true, if_true, Bool.not_true, Bool.not_false, Bool.false_eq_true, if_false, gup_same, reduceCtorEq, false_and, and_false, exists_false, exists_const, inst_i, inst_b, inst_s, inst_t, atI_0, atI_1, atI_2, atI_3, atI_4, eqNN_nat, ix41, ix42, ix43, gup_gup, and_assoc, exists_and_left, oQ0, oQ1, oQ2, oQ3, oQ4, oQ5, oQ6, oQ7, oQ8, oQ9, oQ10, oQ11, oQ12, oQ13, oQ14, oQ15, oQ16, oQ17, oQ18, oQ19, oQ20, oQ21, oQ22, oQ23, oQ24, oQ25, oQ26, oQ27, oQ28, oQ29, oQ30, oQ31, oQ32, oQ33, oQ34, oQ35, oQ36, oQ37, oQ38, oQ39, oQ40, oQ41, oQ42, oQ43, oQ44, oQ45, oQ46, oQ47, oQ48, oQ49, oQ50, oQ51, oQ52, oQ53, oQ54, oQ55, oQ56, oQ57, oQ58, oQ59, oQ60, oQ61, oQ62, oQ63, oQ64, oQ65, oQ66, oQ67, oQ68, oQ69, oQ70, oQ71, oQ72, oQ73, oQ74, oQ75, oQ76, oQ77, oQ78, oQ79, oQ80, oQ81, oQ82, oQ83, oQ84, oQ85, oQ86, oQ87, oQ88, oQ89, oQ90, oQ91, oQ92, oQ93, oQ94, oQ95, oQ96, oQ97, oQ98, oQ99, oQ100, oQ101, oQ102, oQ103, oQ104, oQ105, oQ106, oQ107, oQ108, oQ109, oQ110, oQ111, oQ112, oQ113, oQ114, oQ115, oQ116, oQ117, oQ118, oQ119, oQ120, oQ121, oQ122, oQ123, oQ124, oQ125, oQ126, oQ127, oQ128, oQ129, oQ130, oQ131, oQ132, oQ133, oQ134, oQ135, oQ136, oQ137, oQ138, oQ139, oQ140, oQ141, oQ142, oQ143, oQ144, oQ145, oQ146, oQ147, oQ148, oQ149, oQ150, oQ151, oQ152, oQ153, oQ154, oQ155, oQ156, oQ157, oQ158, oQ159]
    by_cases c1 : wr.cell = cell
    · rw [if_pos (decide_eq_true c1)]
      by_cases c2 : t ≤ tick
      · simp only [exs, ex, ev, evs, evO, evI, evT, evTs, cmpQ, List.getElem?_cons_zero, List.getElem?_cons_succ, List.set_cons_zero, List.set_cons_succ, Option.some.injEq, exists_eq_left', exists_eq_left, exists_eq_right, exists_eq, exists_eq', dwipe, exists_eq_right', D.int.injEq, D.str.injEq, D.bl.injEq, D.tup.injEq, D.ref.injEq, D.rol.injEq, GO.lst.injEq, GO.ins.injEq, GO.dK.injEq, GO.dT.injEq, List.cons.injEq, tgLen, List.length_cons, List.length_nil, List.length_map, List.map_cons, List.map_nil, List.replicate_succ, List.replicate_zero, List.nil_append, List.cons_append, true_and, and_true, if_true, Bool.not_true, Bool.not_false, Bool.false_eq_true, if_false, gup_same, reduceCtorEq, false_and, and_false, exists_false, exists_const, inst_i, inst_b, inst_s, inst_t, atI_0, atI_1, atI_2, atI_3, atI_4, eqNN_nat, ix41, ix42, ix43, gup_gup, and_assoc, exists_and_left, oQ0, oQ1, oQ2, oQ3, oQ4, oQ5, oQ6, oQ7, oQ8, oQ9, oQ10, oQ11, oQ12, oQ13, oQ14, oQ15, oQ16, oQ17, oQ18, oQ19, oQ20, oQ21, oQ22, oQ23, oQ24, oQ25, oQ26, oQ27, oQ28, oQ29, oQ30, oQ31, oQ32, oQ33, oQ34, oQ35, oQ36, oQ37, oQ38, oQ39, oQ40, oQ41, oQ42, oQ43, oQ44, oQ45, oQ46, oQ47, oQ48, oQ49, oQ50, oQ51, oQ52, oQ53, oQ54, oQ55, oQ56, oQ57, oQ58, oQ59, oQ60, oQ61, oQ62, oQ63, oQ64, oQ65, oQ66, oQ67, oQ68, oQ69, oQ70, oQ71, oQ72, oQ73, oQ74, oQ75, oQ76, oQ77, oQ78, oQ79, oQ80, oQ81, oQ82, oQ83, oQ84, oQ85, oQ86, oQ87, oQ88, oQ89, oQ90, oQ91, oQ92, oQ93, oQ94, oQ95, oQ96, oQ97, oQ98, oQ99, oQ100, oQ101, oQ102, oQ103, oQ104, oQ105, oQ106, oQ107, oQ108, oQ109, oQ110, oQ111, oQ112, oQ113, oQ114, oQ115, oQ116, oQ117, oQ118, oQ119, oQ120, oQ121, oQ122, oQ123, oQ124, oQ125, oQ126, oQ127, oQ128, oQ129, oQ130, oQ131, oQ132, oQ133, oQ134, oQ135, oQ136, oQ137, oQ138, oQ139, oQ140, oQ141, oQ142, oQ143, oQ144, oQ145, oQ146, oQ147, oQ148, oQ149, oQ150, oQ151, oQ152, oQ153, oQ154, oQ155, oQ156, oQ157, oQ158, oQ159, decide_eq_true c2]
        refine ⟨_, es, ?_⟩
        by_cases c3 : tick < t + stayOf p wr
        · simp only [exs, ex, ev, evs, evO, evI, evT, evTs, cmpQ, List.getElem?_cons_zero, List.getElem?_cons_succ, List.set_cons_zero, List.set_cons_succ, Option.some.injEq, exists_eq_left', exists_eq_left, exists_eq_right, exists_eq, exists_eq', dwipe, exists_eq_right', D.int.injEq, D.str.injEq, D.bl.injEq, D.tup.injEq, D.ref.injEq, D.rol.injEq, GO.lst.injEq, GO.ins.injEq, GO.dK.injEq, GO.dT.injEq, List.cons.injEq, tgLen, List.length_cons, List.length_nil, List.length_map, List.map_cons, List.map_nil, List.replicate_succ, List.replicate_zero, List.nil_append, List.cons_append, true_and, and_true, if_true, Bool.not_true, Bool.not_false, Bool.false_eq_true, if_false, gup_same, reduceCtorEq, false_and, and_false, exists_false, exists_const, inst_i, inst_b, inst_s, inst_t, atI_0, atI_1, atI_2, atI_3, atI_4, eqNN_nat, ix41, ix42, ix43, gup_gup, and_assoc, exists_and_left, oQ0, oQ1, oQ2, oQ3, oQ4, oQ5, oQ6, oQ7, oQ8, oQ9, oQ10, oQ11, oQ12, oQ13, oQ14, oQ15, oQ16, oQ17, oQ18, oQ19, oQ20, oQ21, oQ22, oQ23, oQ24, oQ25, oQ26, oQ27, oQ28, oQ29, oQ30, oQ31, oQ32, oQ33, oQ34, oQ35, oQ36, oQ37, oQ38, oQ39, oQ40, oQ41, oQ42, oQ43, oQ44, oQ45, oQ46, oQ47, oQ48, oQ49, oQ50, oQ51, oQ52, oQ53, oQ54, oQ55, oQ56, oQ57, oQ58, oQ59, oQ60, oQ61, oQ62, oQ63, oQ64, oQ65, oQ66, oQ67, oQ68, oQ69, oQ70, oQ71, oQ72, oQ73, oQ74, oQ75, oQ76, oQ77, oQ78, oQ79, oQ80, oQ81, oQ82, oQ83, oQ84, oQ85, oQ86, oQ87, oQ88, oQ89, oQ90, oQ91, oQ92, oQ93, oQ94, oQ95, oQ96, oQ97, oQ98, oQ99, oQ100, oQ101, oQ102, oQ103, oQ104, oQ105, oQ106, oQ107, oQ108, oQ109, oQ110, oQ111, oQ112, oQ113, oQ114, oQ115, oQ116, oQ117, oQ118, oQ119, oQ120, oQ121, oQ122, oQ123, oQ124, oQ125, oQ126, oQ127, oQ128, oQ129, oQ130, oQ131, oQ132, oQ133, oQ134, oQ135, oQ136, oQ137, oQ138, oQ139, oQ140, oQ141, oQ142, oQ143, oQ144, oQ145, oQ146, oQ147, oQ148, oQ149, oQ150, oQ151, oQ152, oQ153, oQ154, oQ155, oQ156, oQ157, oQ158, oQ159, decide_eq_true c3]
          exact fin _ _ ⟨rfl, _, _, by rw [if_pos ⟨c1, c2, c3⟩]; rfl⟩
        · simp only [exs, ex, ev, evs, evO, evI, evT, evTs, cmpQ, List.getElem?_cons_zero, List.getElem?_cons_succ, List.set_cons_zero, List.set_cons_succ, Option.some.injEq, exists_eq_left', exists_eq_left, exists_eq_right, exists_eq, exists_eq', dwipe, exists_eq_right', D.int.injEq, D.str.injEq, D.bl.injEq, D.tup.injEq, D.ref.injEq, D.rol.injEq, GO.lst.injEq, GO.ins.injEq, GO.dK.injEq, GO.dT.injEq, List.cons.injEq, tgLen, List.length_cons, List.length_nil, List.length_map, List.map_cons, List.map_nil, List.replicate_succ, List.replicate_zero, List.nil_append, List.cons_append, true_and, and_true, if_true, Bool.not_true, Bool.not_false, Bool.false_eq_true, if_false, gup_same, reduceCtorEq, false_and, and_false, exists_false, exists_const, inst_i, inst_b, inst_s, inst_t, atI_0, atI_1, atI_2, atI_3, atI_4, eqNN_nat, ix41, ix42, ix43, gup_gup, and_assoc, exists_and_left, oQ0, oQ1, oQ2, oQ3, oQ4, oQ5, oQ6, oQ7, oQ8, oQ9, oQ10, oQ11, oQ12, oQ13, oQ14, oQ15, oQ16, oQ17, oQ18, oQ19, oQ20, oQ21, oQ22, oQ23, oQ24, oQ25, oQ26, oQ27, oQ28, oQ29, oQ30, oQ31, oQ32, oQ33, oQ34, oQ35, oQ36, oQ37, oQ38, oQ39, oQ40, oQ41, oQ42, oQ43, oQ44, oQ45, oQ46, oQ47, oQ48, oQ49, oQ50, oQ51, oQ52, oQ53, oQ54, oQ55, oQ56, oQ57, oQ58, oQ59, oQ60, oQ61, oQ62, oQ63, oQ64, oQ65, oQ66, oQ67, oQ68, oQ69, oQ70, oQ71, oQ72, oQ73, oQ74, oQ75, oQ76, oQ77, oQ78, oQ79, oQ80, oQ81, oQ82, oQ83, oQ84, oQ85, oQ86, oQ87, oQ88, oQ89, oQ90, oQ91, oQ92, oQ93, oQ94, oQ95, oQ96, oQ97, oQ98, oQ99, oQ100, oQ101, oQ102, oQ103, oQ104, oQ105, oQ106, oQ107, oQ108, oQ109, oQ110, oQ111, oQ112, oQ113, oQ114, oQ115, oQ116, oQ117, oQ118, oQ119, oQ120, oQ121, oQ122, oQ123, oQ124, oQ125, oQ126, oQ127, oQ128, oQ129, oQ130, oQ131, oQ132, oQ133, oQ134, oQ135, oQ136, oQ137, oQ138, oQ139, oQ140, oQ141, oQ142, oQ143, oQ144, oQ145, oQ146, oQ147, oQ148, oQ149, oQ150, oQ151, oQ152, oQ153, oQ154, oQ155, oQ156, oQ157, oQ158, oQ159, decide_eq_false c3]
          exact fin _ _ ⟨rfl, _, _, by rw [if_neg (fun z => c3 z.2.2)]; rfl⟩
      · simp only [exs, ex, ev, evs, evO, evI, evT, evTs, cmpQ, List.getElem?_cons_zero, List.getElem?_cons_succ, List.set_cons_zero, List.set_cons_succ, Option.some.injEq, exists_eq_left', exists_eq_left, exists_eq_right, exists_eq, exists_eq', dwipe, exists_eq_right', D.int.injEq, D.str.injEq, D.bl.injEq, D.tup.injEq, D.ref.injEq, D.rol.injEq, GO.lst.injEq, GO.ins.injEq, GO.dK.injEq, GO.dT.injEq, List.cons.injEq, tgLen, List.length_cons, List.length_nil, List.length_map, List.map_cons, List.map_nil, List.replicate_succ, List.replicate_zero, List.nil_append, List.cons_append, true_and, and_true, if_true, Bool.not_true, Bool.not_false, Bool.false_eq_true, if_false, gup_same, reduceCtorEq, false_and, and_false, exists_false, exists_const, inst_i, inst_b, inst_s, inst_t, atI_0, atI_1, atI_2, atI_3, atI_4, eqNN_nat, ix41, ix42, ix43, gup_gup, and_assoc, exists_and_left, oQ0, oQ1, oQ2, oQ3, oQ4, oQ5, oQ6, oQ7, oQ8, oQ9, oQ10, oQ11, oQ12, oQ13, oQ14, oQ15, oQ16, oQ17, oQ18, oQ19, oQ20, oQ21, oQ22, oQ23, oQ24, oQ25, oQ26, oQ27, oQ28, oQ29, oQ30, oQ31, oQ32, oQ33, oQ34, oQ35, oQ36, oQ37, oQ38, oQ39, oQ40, oQ41, oQ42, oQ43, oQ44, oQ45, oQ46, oQ47, oQ48, oQ49, oQ50, oQ51, oQ52, oQ53, oQ54, oQ55, oQ56, oQ57, oQ58, oQ59, oQ60, oQ61, oQ62, oQ63, oQ64, oQ65, oQ66, oQ67, oQ68, oQ69, oQ70, oQ71, oQ72, oQ73, oQ74, oQ75, oQ76, oQ77, oQ78, oQ79, oQ80, oQ81, oQ82, oQ83, oQ84, oQ85, oQ86, oQ87, oQ88, oQ89, oQ90, oQ91, oQ92, oQ93, oQ94, oQ95, oQ96, oQ97, oQ98, oQ99, oQ100, oQ101, oQ102, oQ103, oQ104, oQ105, oQ106, oQ107, oQ108, oQ109, oQ110, oQ111, oQ112, oQ113, oQ114, oQ115, oQ116, oQ117, oQ118, oQ119, oQ120, oQ121, oQ122, oQ123, oQ124, oQ125, oQ126, oQ127, oQ128, oQ129, oQ130, oQ131, oQ132, oQ133, oQ134, oQ135, oQ136, oQ137, oQ138, oQ139, oQ140, oQ141, oQ142, oQ143, oQ144, oQ145, oQ146, oQ147, oQ148, oQ149, oQ150, oQ151, oQ152, oQ153, oQ154, oQ155, oQ156, oQ157, oQ158, oQ159, decide_eq_false c2]
        exact fin _ _ ⟨rfl, _, _, by rw [if_neg (fun z => c2 z.2.1)]; rfl⟩
    · rw [if_neg (by simpa using c1)]
      exact fin _ _ ⟨rfl, _, _, by rw [if_neg (fun z => c1 z.1)]; rfl⟩
  · rintro σ G' ⟨rfl, e, f, rfl⟩
    refine ⟨hok _ (Ext.refl _), ?_⟩
    simp only [exs, ex, ev, evs, evO, evI, evT, evTs, cmpQ, List.getElem?_cons_zero, List.getElem?_cons_succ, List.set_cons_zero, List.set_cons_succ, Option.some.injEq, exists_eq_left', exists_eq_left, exists_eq_right, exists_eq, exists_eq', dwipe, exists_eq_right', D.int.injEq, D.str.injEq, D.bl.injEq, D.tup.injEq, D.ref.injEq, D.rol.injEq, GO.lst.injEq, GO.ins.injEq, GO.dK.injEq, GO.dT.injEq, List.cons.injEq, tgLen, List.length_cons, List.length_nil, List.length_map, List.map_cons, List.map_nil, List.replicate_succ, List.replicate_zero, List.nil_append, List.cons_append, true_and, and_true, if_true, Bool.not_true, Bool.not_false, Bool.false_eq_true, if_false, gup_same, reduceCtorEq, false_and, and_false, exists_false, exists_const, inst_i, inst_b, inst_s, inst_t, atI_0, atI_1, atI_2, atI_3, atI_4, eqNN_nat, ix41, ix42, ix43, gup_gup, and_assoc, exists_and_left, oQ0, oQ1, oQ2, oQ3, oQ4, oQ5, oQ6, oQ7, oQ8, oQ9, oQ10, oQ11, oQ12, oQ13, oQ14, oQ15, oQ16, oQ17, oQ18, oQ19, oQ20, oQ21, oQ22, oQ23, oQ24, oQ25, oQ26, oQ27, oQ28, oQ29, oQ30, oQ31, oQ32, oQ33, oQ34, oQ35, oQ36, oQ37, oQ38, oQ39, oQ40, oQ41, oQ42, oQ43, oQ44, oQ45, oQ46, oQ47, oQ48, oQ49, oQ50, oQ51, oQ52, oQ53, oQ54, oQ55, oQ56, oQ57, oQ58, oQ59, oQ60, oQ61, oQ62, oQ63, oQ64, oQ65, oQ66, oQ67, oQ68, oQ69, oQ70, oQ71, oQ72, oQ73, oQ74, oQ75, oQ76, oQ77, oQ78, oQ79, oQ80, oQ81, oQ82, oQ83, oQ84, oQ85, oQ86, oQ87, oQ88, oQ89, oQ90, oQ91, oQ92, oQ93, oQ94, oQ95, oQ96, oQ97, oQ98, oQ99, oQ100, oQ101, oQ102, oQ103, oQ104, oQ105, oQ106, oQ107, oQ108, oQ109, oQ110, oQ111, oQ112, oQ113, oQ114, oQ115, oQ116, oQ117, oQ118, oQ119, oQ120, oQ121, oQ122, oQ123, oQ124, oQ125, oQ126, oQ127, oQ128, oQ129, oQ130, oQ131, oQ132, oQ133, oQ134, oQ135, oQ136, oQ137, oQ138, oQ139, oQ140, oQ141, oQ142, oQ143, oQ144, oQ145, oQ146, oQ147, oQ148, oQ149, oQ150, oQ151, oQ152, oQ153, oQ154, oQ155, oQ156, oQ157, oQ158, oQ159]
    rw [zl, List.take_length]
    exact q
end
end Ink
set_option Elab.async false
set_option linter.all false
set_option maxRecDepth 100000
set_option maxHeartbeats 4000000
/-! Ink, part X: drawn plans. -/
namespace Ink
open PySem PySem.Spec PyProof.Rows L2
/-- what a drawn plan is -/
structure Drawn (most wide : Int) (p : Pl) : Prop where
  ok : p.Ok
  most : p.writes.length ≤ most
  cells : p.cells ≤ 2
  inks : p.stays.length ≤ 3
  stays : ∀ s ∈ p.stays, s ≤ 6
  lo : ∀ w ∈ p.writes, w.lo ≤ 3 ∧ w.hi ≤ w.lo + wide
def sp_law_plan : DSp := fun ds G W Q => ∃ r S most wide, ds = [.ref r, .int most, .int wide] ∧ Row G r S ∧ 0 ≤ most ∧ most ≤ 8 ∧ 0 ≤ wide ∧ wide ≤ 40 ∧ ∀ p G', RowE r S G G' → Drawn most wide p → Q p.d G'
theorem inSigns_abc : inSigns "a" = true ∧ inSigns "b" = true ∧ inSigns "c" = true := by decide +kernel
section
variable {Φ : Nat → DSp} {W : WE} {ds : List D} {G : GH} {Q : KD}
theorem taken_ok {r : Addr} {S : Src} {many : Int} (hr : Row G r S) (h0 : 0 < many) (h1 : many < 1073741824) (q : ∀ v G', 0 ≤ v → v < many → RowE r S G G' → Q (.int v) G') : sp_law_taken [.ref r, .int many] G W Q := ⟨r, S, many, rfl, hr, h0, h1, q⟩
/-- one of the things at p -/
theorem pick_ok {r : Addr} {S : Src} {p : Addr} {xs : List D} (hr : Row G r S) (hp : G p = none) (h0 : 0 < xs.length) (h1 : xs.length < 1073741824) (q : ∀ d ∈ xs, ∀ G', RowE r S G G' → Q d G') : sp_law_pick [.ref r, .ref p] (gup G p (.lst xs)) W Q := by
  have e : RowE r S G (gup G p (.lst xs)) := (hr.e (Ext.refl G)).add hr hp
  exact ⟨r, S, .ref p, xs, rfl, e.row, .inr ⟨p, rfl, hr.ne hp, gup_same⟩, h0, h1, fun d hd G' x => q d hd G' (e.trans x)⟩
theorem run_law_plan (h1 : Φ f_law_taken = sp_law_taken) (h2 : Φ f_law_pick = sp_law_pick) (h : sp_law_plan ds G W Q) : run Φ W N_law_plan.length b_law_plan ds G Q := by
  obtain ⟨r, S, most, wide, rfl, hr, m0, m8, w0, w40, q⟩ := h
  simp only [run, N_law_plan, b_law_plan, exs, ex, ev, evs, evO, evI, evT, evTs, cmpQ, List.getElem?_cons_zero, List.getElem?_cons_succ, List.set_cons_zero, List.set_cons_succ, Option.some.injEq, exists_eq_left', exists_eq_left, exists_eq_right, exists_eq, exists_eq', dwipe, exists_eq_right', D.int.injEq, D.str.injEq, D.bl.injEq, D.tup.injEq, D.ref.injEq, D.rol.injEq, GO.lst.injEq, GO.ins.injEq, GO.dK.injEq, GO.dT.injEq, List.cons.injEq, tgLen, List.length_cons, List.length_nil, List.length_map, List.map_cons, List.map_nil, List.replicate_succ, List.replicate_zero, List.nil_append, List.cons_append, true_and, and_true, if_true, Bool.not_true, Bool.not_false, Bool.false_eq_true, if_false, gup_same, reduceCtorEq, false_and, and_false, exists_false, exists_const, inst_i, inst_b, inst_s, inst_t, atI_0, atI_1, atI_2, atI_3, atI_4, eqNN_nat, ix41, ix42, ix43, gup_gup, and_assoc, exists_and_left, oQ0, oQ1, oQ2, oQ3, oQ4, oQ5, oQ6, oQ7, oQ8, oQ9, oQ10, oQ11, oQ12, oQ13, oQ14, oQ15, oQ16, oQ17, oQ18, oQ19, oQ20, oQ21, oQ22, oQ23, oQ24, oQ25, oQ26, oQ27, oQ28, oQ29, oQ30, oQ31, oQ32, oQ33, oQ34, oQ35, oQ36, oQ37, oQ38, oQ39, oQ40, oQ41, oQ42, oQ43, oQ44, oQ45, oQ46, oQ47, oQ48, oQ49, oQ50, oQ51, oQ52, oQ53, oQ54, oQ55, oQ56, oQ57, oQ58, oQ59, oQ60, oQ61, oQ62, oQ63, oQ64, oQ65, oQ66, oQ67, oQ68, oQ69, oQ70, oQ71, oQ72, oQ73, oQ74, oQ75, oQ76, oQ77, oQ78, oQ79, oQ80, oQ81, oQ82, oQ83, oQ84, oQ85, oQ86, oQ87, oQ88, oQ89, oQ90, oQ91, oQ92, oQ93, oQ94, oQ95, oQ96, oQ97, oQ98, oQ99, oQ100, oQ101, oQ102, oQ103, oQ104, oQ105, oQ106, oQ107, oQ108, oQ109, oQ110, oQ111, oQ112, oQ113, oQ114, oQ115, oQ116, oQ117, oQ118, oQ119, oQ120, oQ121, oQ122, oQ123, oQ124, oQ125, oQ126, oQ127, oQ128, oQ129, oQ130, oQ131, oQ132, oQ133, oQ134, oQ135, oQ136, oQ137, oQ138, oQ139, oQ140, oQ141, oQ142, oQ143, oQ144, oQ145, oQ146, oQ147, oQ148, oQ149, oQ150, oQ151, oQ152, oQ153, oQ154, oQ155, oQ156, oQ157, oQ158, oQ159, h1, h2]
  refine taken_ok hr (by decide) (by decide) fun v1 G1 a1 b1 x1 => ?_
  simp only [exs, ex, ev, evs, evO, evI, evT, evTs, cmpQ, List.getElem?_cons_zero, List.getElem?_cons_succ, List.set_cons_zero, List.set_cons_succ, Option.some.injEq, exists_eq_left', exists_eq_left, exists_eq_right, exists_eq, exists_eq', dwipe, exists_eq_right', D.int.injEq, D.str.injEq, D.bl.injEq, D.tup.injEq, D.ref.injEq, D.rol.injEq, GO.lst.injEq, GO.ins.injEq, GO.dK.injEq, GO.dT.injEq, List.cons.injEq, tgLen, List.length_cons, List.length_nil, List.length_map, List.map_cons, List.map_nil, List.replicate_succ, List.replicate_zero, List.nil_append, List.cons_append, true_and, and_true, if_true, Bool.not_true, Bool.not_false, Bool.false_eq_true, if_false, gup_same, reduceCtorEq, false_and, and_false, exists_false, exists_const, inst_i, inst_b, inst_s, inst_t, atI_0, atI_1, atI_2, atI_3, atI_4, eqNN_nat, ix41, ix42, ix43, gup_gup, and_assoc, exists_and_left, oQ0, oQ1, oQ2, oQ3, oQ4, oQ5, oQ6, oQ7, oQ8, oQ9, oQ10, oQ11, oQ12, oQ13, oQ14, oQ15, oQ16, oQ17, oQ18, oQ19, oQ20, oQ21, oQ22, oQ23, oQ24, oQ25, oQ26, oQ27, oQ28, oQ29, oQ30, oQ31, oQ32, oQ33, oQ34, oQ35, oQ36, oQ37, oQ38, oQ39, oQ40, oQ41, oQ42, oQ43, oQ44, oQ45, oQ46, oQ47, oQ48, oQ49, oQ50, oQ51, oQ52, oQ53, oQ54, oQ55, oQ56, oQ57, oQ58, oQ59, oQ60, oQ61, oQ62, oQ63, oQ64, oQ65, oQ66, oQ67, oQ68, oQ69, oQ70, oQ71, oQ72, oQ73, oQ74, oQ75, oQ76, oQ77, oQ78, oQ79, oQ80, oQ81, oQ82, oQ83, oQ84, oQ85, oQ86, oQ87, oQ88, oQ89, oQ90, oQ91, oQ92, oQ93, oQ94, oQ95, oQ96, oQ97, oQ98, oQ99, oQ100, oQ101, oQ102, oQ103, oQ104, oQ105, oQ106, oQ107, oQ108, oQ109, oQ110, oQ111, oQ112, oQ113, oQ114, oQ115, oQ116, oQ117, oQ118, oQ119, oQ120, oQ121, oQ122, oQ123, oQ124, oQ125, oQ126, oQ127, oQ128, oQ129, oQ130, oQ131, oQ132, oQ133, oQ134, oQ135, oQ136, oQ137, oQ138, oQ139, oQ140, oQ141, oQ142, oQ143, oQ144, oQ145, oQ146, oQ147, oQ148, oQ149, oQ150, oQ151, oQ152, oQ153, oQ154, oQ155, oQ156, oQ157, oQ158, oQ159]
  refine taken_ok x1.row (by decide) (by decide) fun v2 G2 a2 b2 x2 => ?_
  simp only [exs, ex, ev, evs, evO, evI, evT, evTs, cmpQ, List.getElem?_cons_zero, List.getElem?_cons_succ, List.set_cons_zero, List.set_cons_succ, Option.some.injEq, exists_eq_left', exists_eq_left, exists_eq_right, exists_eq, exists_eq', dwipe, exists_eq_right', D.int.injEq, D.str.injEq, D.bl.injEq, D.tup.injEq, D.ref.injEq, D.rol.injEq, GO.lst.injEq, GO.ins.injEq, GO.dK.injEq, GO.dT.injEq, List.cons.injEq, tgLen, List.length_cons, List.length_nil, List.length_map, List.map_cons, List.map_nil, List.replicate_succ, List.replicate_zero, List.nil_append, List.cons_append, true_and, and_true, if_true, Bool.not_true, Bool.not_false, Bool.false_eq_true, if_false, gup_same, reduceCtorEq, false_and, and_false, exists_false, exists_const, inst_i, inst_b, inst_s, inst_t, atI_0, atI_1, atI_2, atI_3, atI_4, eqNN_nat, ix41, ix42, ix43, gup_gup, and_assoc, exists_and_left, oQ0, oQ1, oQ2, oQ3, oQ4, oQ5, oQ6, oQ7, oQ8, oQ9, oQ10, oQ11, oQ12, oQ13, oQ14, oQ15, oQ16, oQ17, oQ18, oQ19, oQ20, oQ21, oQ22, oQ23, oQ24, oQ25, oQ26, oQ27, oQ28, oQ29, oQ30, oQ31, oQ32, oQ33, oQ34, oQ35, oQ36, oQ37, oQ38, oQ39, oQ40, oQ41, oQ42, oQ43, oQ44, oQ45, oQ46, oQ47, oQ48, oQ49, oQ50, oQ51, oQ52, oQ53, oQ54, oQ55, oQ56, oQ57, oQ58, oQ59, oQ60, oQ61, oQ62, oQ63, oQ64, oQ65, oQ66, oQ67, oQ68, oQ69, oQ70, oQ71, oQ72, oQ73, oQ74, oQ75, oQ76, oQ77, oQ78, oQ79, oQ80, oQ81, oQ82, oQ83, oQ84, oQ85, oQ86, oQ87, oQ88, oQ89, oQ90, oQ91, oQ92, oQ93, oQ94, oQ95, oQ96, oQ97, oQ98, oQ99, oQ100, oQ101, oQ102, oQ103, oQ104, oQ105, oQ106, oQ107, oQ108, oQ109, oQ110, oQ111, oQ112, oQ113, oQ114, oQ115, oQ116, oQ117, oQ118, oQ119, oQ120, oQ121, oQ122, oQ123, oQ124, oQ125, oQ126, oQ127, oQ128, oQ129, oQ130, oQ131, oQ132, oQ133, oQ134, oQ135, oQ136, oQ137, oQ138, oQ139, oQ140, oQ141, oQ142, oQ143, oQ144, oQ145, oQ146, oQ147, oQ148, oQ149, oQ150, oQ151, oQ152, oQ153, oQ154, oQ155, oQ156, oQ157, oQ158, oQ159]
  have y2 := x1.trans x2
  refine ⟨by omega, by omega, fun pl hpl => ?_⟩
  have nl := y2.row.ne hpl
  have p0 := y2.none hpl
  -- the stays
  refine compL_of (fun i G' => ∃ ss : List Int, ss.length = i ∧ (∀ s ∈ ss, 1 ≤ s ∧ s ≤ 6) ∧ RowE r S G G' ∧ G' pl = some (.lst (ss.map D.int))) ⟨[], rfl, by simp, y2.upd hr p0, by simp [gup_same]⟩ ?_ ?_
  · rintro i d G3 hd ⟨ss, hl, hs, x3, e3⟩ K hK
    refine ⟨trivial, ?_⟩
    obtain ⟨hi, rfl⟩ := rangeL_get hd
    try simp only [exs, ex, ev, evs, evO, evI, evT, evTs, cmpQ, List.getElem?_cons_zero, List.getElem?_cons_succ, List.set_cons_zero, List.set_cons_succ, Option.some.injEq, exists_eq_left', exists_eq_left, exists_eq_right, exists_eq, exists_eq', dwipe, exists_eq_right', D.int.injEq, D.str.injEq, D.bl.injEq, D.tup.injEq, D.ref.injEq, D.rol.injEq, GO.lst.injEq, GO.ins.injEq, GO.dK.injEq, GO.dT.injEq, List.cons.injEq, tgLen, List.length_cons, List.length_nil, List.length_map, List.map_cons, List.map_nil, List.replicate_succ, List.replicate_zero, List.nil_append, List.cons_append, true_and, and_true, if_true, Bool.not_true, Bool.not_false, Bool.false_eq_true, if_false, gup_same, reduceCtorEq, false_and, and_false, exists_false, exists_const, inst_i, inst_b, inst_s, inst_t, atI_0, atI_1, atI_2, atI_3, atI_4, eqNN_nat, ix41, ix42, ix43, gup_gup, and_assoc, exists_and_left, oQ0, oQ1, oQ2, oQ3, oQ4, oQ5, oQ6, oQ7, oQ8, oQ9, oQ10, oQ11, oQ12, oQ13, oQ14, oQ15, oQ16, oQ17, oQ18, oQ19, oQ20, oQ21, oQ22, oQ23, oQ24, oQ25, oQ26, oQ27, oQ28, oQ29, oQ30, oQ31, oQ32, oQ33, oQ34, oQ35, oQ36, oQ37, oQ38, oQ39, oQ40, oQ41, oQ42, oQ43, oQ44, oQ45, oQ46, oQ47, oQ48, oQ49, oQ50, oQ51, oQ52, oQ53, oQ54, oQ55, oQ56, oQ57, oQ58, oQ59, oQ60, oQ61, oQ62, oQ63, oQ64, oQ65, oQ66, oQ67, oQ68, oQ69, oQ70, oQ71, oQ72, oQ73, oQ74, oQ75, oQ76, oQ77, oQ78, oQ79, oQ80, oQ81, oQ82, oQ83, oQ84, oQ85, oQ86, oQ87, oQ88, oQ89, oQ90, oQ91, oQ92, oQ93, oQ94, oQ95, oQ96, oQ97, oQ98, oQ99, oQ100, oQ101, oQ102, oQ103, oQ104, oQ105, oQ106, oQ107, oQ108, oQ109, oQ110, oQ111, oQ112, oQ113, oQ114, oQ115, oQ116, oQ117, oQ118, oQ119, oQ120, oQ121, oQ122, oQ123, oQ124, oQ125, oQ126, oQ127, oQ128, oQ129, oQ130, oQ131, oQ132, oQ133, oQ134, oQ135, oQ136, oQ137, oQ138, oQ139, oQ140, oQ141, oQ142, oQ143, oQ144, oQ145, oQ146, oQ147, oQ148, oQ149, oQ150, oQ151, oQ152, oQ153, oQ154, oQ155, oQ156, oQ157, oQ158, oQ159]
    refine taken_ok x3.row (by decide) (by decide) fun v3 G4 a3 b3 x4 => ?_
    try simp only [exs, ex, ev, evs, evO, evI, evT, evTs, cmpQ, List.getElem?_cons_zero, List.getElem?_cons_succ, List.set_cons_zero, List.set_cons_succ, Option.some.injEq, exists_eq_left', exists_eq_left, exists_eq_right, exists_eq, exists_eq', dwipe, exists_eq_right', D.int.injEq, D.str.injEq, D.bl.injEq, D.tup.injEq, D.ref.injEq, D.rol.injEq, GO.lst.injEq, GO.ins.injEq, GO.dK.injEq, GO.dT.injEq, List.cons.injEq, tgLen, List.length_cons, List.length_nil, List.length_map, List.map_cons, List.map_nil, List.replicate_succ, List.replicate_zero, List.nil_append, List.cons_append, true_and, and_true, if_true, Bool.not_true, Bool.not_false, Bool.false_eq_true, if_false, gup_same, reduceCtorEq, false_and, and_false, exists_false, exists_const, inst_i, inst_b, inst_s, inst_t, atI_0, atI_1, atI_2, atI_3, atI_4, eqNN_nat, ix41, ix42, ix43, gup_gup, and_assoc, exists_and_left, oQ0, oQ1, oQ2, oQ3, oQ4, oQ5, oQ6, oQ7, oQ8, oQ9, oQ10, oQ11, oQ12, oQ13, oQ14, oQ15, oQ16, oQ17, oQ18, oQ19, oQ20, oQ21, oQ22, oQ23, oQ24, oQ25, oQ26, oQ27, oQ28, oQ29, oQ30, oQ31, oQ32, oQ33, oQ34, oQ35, oQ36, oQ37, oQ38, oQ39, oQ40, oQ41, oQ42, oQ43, oQ44, oQ45, oQ46, oQ47, oQ48, oQ49, oQ50, oQ51, oQ52, oQ53, oQ54, oQ55, oQ56, oQ57, oQ58, oQ59, oQ60, oQ61, oQ62, oQ63, oQ64, oQ65, oQ66, oQ67, oQ68, oQ69, oQ70, oQ71, oQ72, oQ73, oQ74, oQ75, oQ76, oQ77, oQ78, oQ79, oQ80, oQ81, oQ82, oQ83, oQ84, oQ85, oQ86, oQ87, oQ88, oQ89, oQ90, oQ91, oQ92, oQ93, oQ94, oQ95, oQ96, oQ97, oQ98, oQ99, oQ100, oQ101, oQ102, oQ103, oQ104, oQ105, oQ106, oQ107, oQ108, oQ109, oQ110, oQ111, oQ112, oQ113, oQ114, oQ115, oQ116, oQ117, oQ118, oQ119, oQ120, oQ121, oQ122, oQ123, oQ124, oQ125, oQ126, oQ127, oQ128, oQ129, oQ130, oQ131, oQ132, oQ133, oQ134, oQ135, oQ136, oQ137, oQ138, oQ139, oQ140, oQ141, oQ142, oQ143, oQ144, oQ145, oQ146, oQ147, oQ148, oQ149, oQ150, oQ151, oQ152, oQ153, oQ154, oQ155, oQ156, oQ157, oQ158, oQ159]
    have e4 := x4.ext pl _ nl e3
    refine ⟨_, e4, ?_, hK _ ⟨ss ++ [1 + v3], by simp [hl], ?_, (x3.trans x4).upd hr p0, by rw [gup_same]; simp⟩⟩
    · rw [List.length_map, hl, sizeLine_eq]; omega
    · intro s hs'
      rcases List.mem_append.mp hs' with z | z
      · exact hs s z
      · simp at z; omega
  rintro G3 ⟨ss, hl, hs, x3, e3⟩
  refine ⟨trivial, ?_⟩
  have hl : (ss.length : Int) = 1 + v2 := by rw [hl]; simp [rangeL]; omega
  simp only [exs, ex, ev, evs, evO, evI, evT, evTs, cmpQ, List.getElem?_cons_zero, List.getElem?_cons_succ, List.set_cons_zero, List.set_cons_succ, Option.some.injEq, exists_eq_left', exists_eq_left, exists_eq_right, exists_eq, exists_eq', dwipe, exists_eq_right', D.int.injEq, D.str.injEq, D.bl.injEq, D.tup.injEq, D.ref.injEq, D.rol.injEq, GO.lst.injEq, GO.ins.injEq, GO.dK.injEq, GO.dT.injEq, List.cons.injEq, tgLen, List.length_cons, List.length_nil, List.length_map, List.map_cons, List.map_nil, List.replicate_succ, List.replicate_zero, List.nil_append, List.cons_append, true_and, and_true, if_true, Bool.not_true, Bool.not_false, Bool.false_eq_true, if_false, gup_same, reduceCtorEq, false_and, and_false, exists_false, exists_const, inst_i, inst_b, inst_s, inst_t, atI_0, atI_1, atI_2, atI_3, atI_4, eqNN_nat, ix41, ix42, ix43, gup_gup, and_assoc, exists_and_left, oQ0, oQ1, oQ2, oQ3, oQ4, oQ5, oQ6, oQ7, oQ8, oQ9, oQ10, oQ11, oQ12, oQ13, oQ14, oQ15, oQ16, oQ17, oQ18, oQ19, oQ20, oQ21, oQ22, oQ23, oQ24, oQ25, oQ26, oQ27, oQ28, oQ29, oQ30, oQ31, oQ32, oQ33, oQ34, oQ35, oQ36, oQ37, oQ38, oQ39, oQ40, oQ41, oQ42, oQ43, oQ44, oQ45, oQ46, oQ47, oQ48, oQ49, oQ50, oQ51, oQ52, oQ53, oQ54, oQ55, oQ56, oQ57, oQ58, oQ59, oQ60, oQ61, oQ62, oQ63, oQ64, oQ65, oQ66, oQ67, oQ68, oQ69, oQ70, oQ71, oQ72, oQ73, oQ74, oQ75, oQ76, oQ77, oQ78, oQ79, oQ80, oQ81, oQ82, oQ83, oQ84, oQ85, oQ86, oQ87, oQ88, oQ89, oQ90, oQ91, oQ92, oQ93, oQ94, oQ95, oQ96, oQ97, oQ98, oQ99, oQ100, oQ101, oQ102, oQ103, oQ104, oQ105, oQ106, oQ107, oQ108, oQ109, oQ110, oQ111, oQ112, oQ113, oQ114, oQ115, oQ116, oQ117, oQ118, oQ119, oQ120, oQ121, oQ122, oQ123, oQ124, oQ125, oQ126, oQ127, oQ128, oQ129, oQ130, oQ131, oQ132, oQ133, oQ134, oQ135, oQ136, oQ137, oQ138, oQ139, oQ140, oQ141, oQ142, oQ143, oQ144, oQ145, oQ146, oQ147, oQ148, oQ149, oQ150, oQ151, oQ152, oQ153, oQ154, oQ155, oQ156, oQ157, oQ158, oQ159, e3]
  intro pw hpw
  have nw := x3.row.ne hpw
  have w0' := x3.none hpw
  refine taken_ok (x3.add hr hpw).row (by omega) (by omega) fun n G4 n0 n1 x4 => ?_
  refine ⟨n, rfl, by omega, by omega, ?_⟩
  have y4 := (x3.upd hr w0').trans x4
  have ew : G4 pw = some (.lst []) := x4.ext pw _ nw gup_same
  -- the writes
  refine forL_of (fun i σ G' => ∃ ws : List Wr, ∃ e1 e2 e3 e4, ws.length = i ∧ (∀ w ∈ ws, (w.lo ≤ 3 ∧ w.hi ≤ w.lo + wide) ∧ Wr.Ok ⟨1 + v1, ss, []⟩ w) ∧ RowE r S G G' ∧ G' pw = some (.lst (ws.map Wr.d)) ∧
    σ = [some (.ref r), some (.int most), some (.int wide), some (.int (1 + v1)), some (.int (1 + v2)), some (.tup (ss.map D.int)), e1, some (.ref pw), e2, e3, e4]) ⟨[], _, _, _, _, rfl, by simp, y4, by simpa using ew, rfl⟩ ?_ ?_
  · rintro i d σ G5 hd ⟨ws, e1, e2, e3, e4, hwl, hws, x5, ew, rfl⟩ K hK
    refine ⟨trivial, ?_⟩
    obtain ⟨hi, rfl⟩ := rangeL_get hd
    try simp only [exs, ex, ev, evs, evO, evI, evT, evTs, cmpQ, List.getElem?_cons_zero, List.getElem?_cons_succ, List.set_cons_zero, List.set_cons_succ, Option.some.injEq, exists_eq_left', exists_eq_left, exists_eq_right, exists_eq, exists_eq', dwipe, exists_eq_right', D.int.injEq, D.str.injEq, D.bl.injEq, D.tup.injEq, D.ref.injEq, D.rol.injEq, GO.lst.injEq, GO.ins.injEq, GO.dK.injEq, GO.dT.injEq, List.cons.injEq, tgLen, List.length_cons, List.length_nil, List.length_map, List.map_cons, List.map_nil, List.replicate_succ, List.replicate_zero, List.nil_append, List.cons_append, true_and, and_true, if_true, Bool.not_true, Bool.not_false, Bool.false_eq_true, if_false, gup_same, reduceCtorEq, false_and, and_false, exists_false, exists_const, inst_i, inst_b, inst_s, inst_t, atI_0, atI_1, atI_2, atI_3, atI_4, eqNN_nat, ix41, ix42, ix43, gup_gup, and_assoc, exists_and_left, oQ0, oQ1, oQ2, oQ3, oQ4, oQ5, oQ6, oQ7, oQ8, oQ9, oQ10, oQ11, oQ12, oQ13, oQ14, oQ15, oQ16, oQ17, oQ18, oQ19, oQ20, oQ21, oQ22, oQ23, oQ24, oQ25, oQ26, oQ27, oQ28, oQ29, oQ30, oQ31, oQ32, oQ33, oQ34, oQ35, oQ36, oQ37, oQ38, oQ39, oQ40, oQ41, oQ42, oQ43, oQ44, oQ45, oQ46, oQ47, oQ48, oQ49, oQ50, oQ51, oQ52, oQ53, oQ54, oQ55, oQ56, oQ57, oQ58, oQ59, oQ60, oQ61, oQ62, oQ63, oQ64, oQ65, oQ66, oQ67, oQ68, oQ69, oQ70, oQ71, oQ72, oQ73, oQ74, oQ75, oQ76, oQ77, oQ78, oQ79, oQ80, oQ81, oQ82, oQ83, oQ84, oQ85, oQ86, oQ87, oQ88, oQ89, oQ90, oQ91, oQ92, oQ93, oQ94, oQ95, oQ96, oQ97, oQ98, oQ99, oQ100, oQ101, oQ102, oQ103, oQ104, oQ105, oQ106, oQ107, oQ108, oQ109, oQ110, oQ111, oQ112, oQ113, oQ114, oQ115, oQ116, oQ117, oQ118, oQ119, oQ120, oQ121, oQ122, oQ123, oQ124, oQ125, oQ126, oQ127, oQ128, oQ129, oQ130, oQ131, oQ132, oQ133, oQ134, oQ135, oQ136, oQ137, oQ138, oQ139, oQ140, oQ141, oQ142, oQ143, oQ144, oQ145, oQ146, oQ147, oQ148, oQ149, oQ150, oQ151, oQ152, oQ153, oQ154, oQ155, oQ156, oQ157, oQ158, oQ159]
    intro p1 hp1
    refine pick_ok x5.row hp1 (by simp) (by simp) fun lo hlo G6 x6 => ?_
    try simp only [exs, ex, ev, evs, evO, evI, evT, evTs, cmpQ, List.getElem?_cons_zero, List.getElem?_cons_succ, List.set_cons_zero, List.set_cons_succ, Option.some.injEq, exists_eq_left', exists_eq_left, exists_eq_right, exists_eq, exists_eq', dwipe, exists_eq_right', D.int.injEq, D.str.injEq, D.bl.injEq, D.tup.injEq, D.ref.injEq, D.rol.injEq, GO.lst.injEq, GO.ins.injEq, GO.dK.injEq, GO.dT.injEq, List.cons.injEq, tgLen, List.length_cons, List.length_nil, List.length_map, List.map_cons, List.map_nil, List.replicate_succ, List.replicate_zero, List.nil_append, List.cons_append, true_and, and_true, if_true, Bool.not_true, Bool.not_false, Bool.false_eq_true, if_false, gup_same, reduceCtorEq, false_and, and_false, exists_false, exists_const, inst_i, inst_b, inst_s, inst_t, atI_0, atI_1, atI_2, atI_3, atI_4, eqNN_nat, ix41, ix42, ix43, gup_gup, and_assoc, exists_and_left, oQ0, oQ1, oQ2, oQ3, oQ4, oQ5, oQ6, oQ7, oQ8, oQ9, oQ10, oQ11, oQ12, oQ13, oQ14, oQ15, oQ16, oQ17, oQ18, oQ19, oQ20, oQ21, oQ22, oQ23, oQ24, oQ25, oQ26, oQ27, oQ28, oQ29, oQ30, oQ31, oQ32, oQ33, oQ34, oQ35, oQ36, oQ37, oQ38, oQ39, oQ40, oQ41, oQ42, oQ43, oQ44, oQ45, oQ46, oQ47, oQ48, oQ49, oQ50, oQ51, oQ52, oQ53, oQ54, oQ55, oQ56, oQ57, oQ58, oQ59, oQ60, oQ61, oQ62, oQ63, oQ64, oQ65, oQ66, oQ67, oQ68, oQ69, oQ70, oQ71, oQ72, oQ73, oQ74, oQ75, oQ76, oQ77, oQ78, oQ79, oQ80, oQ81, oQ82, oQ83, oQ84, oQ85, oQ86, oQ87, oQ88, oQ89, oQ90, oQ91, oQ92, oQ93, oQ94, oQ95, oQ96, oQ97, oQ98, oQ99, oQ100, oQ101, oQ102, oQ103, oQ104, oQ105, oQ106, oQ107, oQ108, oQ109, oQ110, oQ111, oQ112, oQ113, oQ114, oQ115, oQ116, oQ117, oQ118, oQ119, oQ120, oQ121, oQ122, oQ123, oQ124, oQ125, oQ126, oQ127, oQ128, oQ129, oQ130, oQ131, oQ132, oQ133, oQ134, oQ135, oQ136, oQ137, oQ138, oQ139, oQ140, oQ141, oQ142, oQ143, oQ144, oQ145, oQ146, oQ147, oQ148, oQ149, oQ150, oQ151, oQ152, oQ153, oQ154, oQ155, oQ156, oQ157, oQ158, oQ159]
    obtain ⟨lo, rfl, lo0, lo3⟩ : ∃ i : Int, lo = .int i ∧ 0 ≤ i ∧ i ≤ 3 := by
      simp only [List.mem_cons, List.not_mem_nil, or_false] at hlo
      rcases hlo with rfl | rfl | rfl | rfl | rfl <;> exact ⟨_, rfl, by decide, by decide⟩
    intro p2 hp2
    refine pick_ok x6.row hp2 (by simp) (by simp) fun sg hsg G7 x7 => ?_
    try simp only [exs, ex, ev, evs, evO, evI, evT, evTs, cmpQ, List.getElem?_cons_zero, List.getElem?_cons_succ, List.set_cons_zero, List.set_cons_succ, Option.some.injEq, exists_eq_left', exists_eq_left, exists_eq_right, exists_eq, exists_eq', dwipe, exists_eq_right', D.int.injEq, D.str.injEq, D.bl.injEq, D.tup.injEq, D.ref.injEq, D.rol.injEq, GO.lst.injEq, GO.ins.injEq, GO.dK.injEq, GO.dT.injEq, List.cons.injEq, tgLen, List.length_cons, List.length_nil, List.length_map, List.map_cons, List.map_nil, List.replicate_succ, List.replicate_zero, List.nil_append, List.cons_append, true_and, and_true, if_true, Bool.not_true, Bool.not_false, Bool.false_eq_true, if_false, gup_same, reduceCtorEq, false_and, and_false, exists_false, exists_const, inst_i, inst_b, inst_s, inst_t, atI_0, atI_1, atI_2, atI_3, atI_4, eqNN_nat, ix41, ix42, ix43, gup_gup, and_assoc, exists_and_left, oQ0, oQ1, oQ2, oQ3, oQ4, oQ5, oQ6, oQ7, oQ8, oQ9, oQ10, oQ11, oQ12, oQ13, oQ14, oQ15, oQ16, oQ17, oQ18, oQ19, oQ20, oQ21, oQ22, oQ23, oQ24, oQ25, oQ26, oQ27, oQ28, oQ29, oQ30, oQ31, oQ32, oQ33, oQ34, oQ35, oQ36, oQ37, oQ38, oQ39, oQ40, oQ41, oQ42, oQ43, oQ44, oQ45, oQ46, oQ47, oQ48, oQ49, oQ50, oQ51, oQ52, oQ53, oQ54, oQ55, oQ56, oQ57, oQ58, oQ59, oQ60, oQ61, oQ62, oQ63, oQ64, oQ65, oQ66, oQ67, oQ68, oQ69, oQ70, oQ71, oQ72, oQ73, oQ74, oQ75, oQ76, oQ77, oQ78, oQ79, oQ80, oQ81, oQ82, oQ83, oQ84, oQ85, oQ86, oQ87, oQ88, oQ89, oQ90, oQ91, oQ92, oQ93, oQ94, oQ95, oQ96, oQ97, oQ98, oQ99, oQ100, oQ101, oQ102, oQ103, oQ104, oQ105, oQ106, oQ107, oQ108, oQ109, oQ110, oQ111, oQ112, oQ113, oQ114, oQ115, oQ116, oQ117, oQ118, oQ119, oQ120, oQ121, oQ122, oQ123, oQ124, oQ125, oQ126, oQ127, oQ128, oQ129, oQ130, oQ131, oQ132, oQ133, oQ134, oQ135, oQ136, oQ137, oQ138, oQ139, oQ140, oQ141, oQ142, oQ143, oQ144, oQ145, oQ146, oQ147, oQ148, oQ149, oQ150, oQ151, oQ152, oQ153, oQ154, oQ155, oQ156, oQ157, oQ158, oQ159]
    obtain ⟨sg, rfl, sl, si⟩ : ∃ x : Str, sg = .str x ∧ x.length = 1 ∧ inSigns x = true := by
      simp only [List.mem_cons, List.not_mem_nil, or_false] at hsg
      rcases hsg with rfl | rfl | rfl
      · exact ⟨_, rfl, by decide, inSigns_abc.1⟩
      · exact ⟨_, rfl, by decide, inSigns_abc.2.1⟩
      · exact ⟨_, rfl, by decide, inSigns_abc.2.2⟩
    have ew7 : G7 pw = some (.lst (ws.map Wr.d)) := x7.ext pw _ nw (x6.ext pw _ nw ew)
    refine ⟨⟨_, ew7⟩, ?_⟩
    refine taken_ok x7.row (by omega) (by omega) fun ce G8 c0 c1 x8 => ?_
    refine taken_ok x8.row (by omega) (by omega) fun ik G9 k0 k1 x9 => ?_
    refine taken_ok x9.row (by omega) (by omega) fun dh G10 d0 d1 x10 => ?_
    try simp only [exs, ex, ev, evs, evO, evI, evT, evTs, cmpQ, List.getElem?_cons_zero, List.getElem?_cons_succ, List.set_cons_zero, List.set_cons_succ, Option.some.injEq, exists_eq_left', exists_eq_left, exists_eq_right, exists_eq, exists_eq', dwipe, exists_eq_right', D.int.injEq, D.str.injEq, D.bl.injEq, D.tup.injEq, D.ref.injEq, D.rol.injEq, GO.lst.injEq, GO.ins.injEq, GO.dK.injEq, GO.dT.injEq, List.cons.injEq, tgLen, List.length_cons, List.length_nil, List.length_map, List.map_cons, List.map_nil, List.replicate_succ, List.replicate_zero, List.nil_append, List.cons_append, true_and, and_true, if_true, Bool.not_true, Bool.not_false, Bool.false_eq_true, if_false, gup_same, reduceCtorEq, false_and, and_false, exists_false, exists_const, inst_i, inst_b, inst_s, inst_t, atI_0, atI_1, atI_2, atI_3, atI_4, eqNN_nat, ix41, ix42, ix43, gup_gup, and_assoc, exists_and_left, oQ0, oQ1, oQ2, oQ3, oQ4, oQ5, oQ6, oQ7, oQ8, oQ9, oQ10, oQ11, oQ12, oQ13, oQ14, oQ15, oQ16, oQ17, oQ18, oQ19, oQ20, oQ21, oQ22, oQ23, oQ24, oQ25, oQ26, oQ27, oQ28, oQ29, oQ30, oQ31, oQ32, oQ33, oQ34, oQ35, oQ36, oQ37, oQ38, oQ39, oQ40, oQ41, oQ42, oQ43, oQ44, oQ45, oQ46, oQ47, oQ48, oQ49, oQ50, oQ51, oQ52, oQ53, oQ54, oQ55, oQ56, oQ57, oQ58, oQ59, oQ60, oQ61, oQ62, oQ63, oQ64, oQ65, oQ66, oQ67, oQ68, oQ69, oQ70, oQ71, oQ72, oQ73, oQ74, oQ75, oQ76, oQ77, oQ78, oQ79, oQ80, oQ81, oQ82, oQ83, oQ84, oQ85, oQ86, oQ87, oQ88, oQ89, oQ90, oQ91, oQ92, oQ93, oQ94, oQ95, oQ96, oQ97, oQ98, oQ99, oQ100, oQ101, oQ102, oQ103, oQ104, oQ105, oQ106, oQ107, oQ108, oQ109, oQ110, oQ111, oQ112, oQ113, oQ114, oQ115, oQ116, oQ117, oQ118, oQ119, oQ120, oQ121, oQ122, oQ123, oQ124, oQ125, oQ126, oQ127, oQ128, oQ129, oQ130, oQ131, oQ132, oQ133, oQ134, oQ135, oQ136, oQ137, oQ138, oQ139, oQ140, oQ141, oQ142, oQ143, oQ144, oQ145, oQ146, oQ147, oQ148, oQ149, oQ150, oQ151, oQ152, oQ153, oQ154, oQ155, oQ156, oQ157, oQ158, oQ159]
    have ew10 : G10 pw = some (.lst (ws.map Wr.d)) := x10.ext pw _ nw (x9.ext pw _ nw (x8.ext pw _ nw ew7))
    refine ⟨_, ew10, ?_, hK _ _ ⟨ws ++ [⟨ce, sg, ik, lo, lo + dh⟩], _, _, _, _, by simp [hwl], ?_, ((((((x5.trans x6).trans x7).trans x8).trans x9).trans x10)).upd hr w0', ?_, rfl⟩⟩
    · rw [List.length_map, hwl, sizeLine_eq]; omega
    · intro w hw
      rcases List.mem_append.mp hw with z | z
      · exact hws w z
      · simp only [List.mem_cons, List.not_mem_nil, or_false] at z
        subst z
        exact ⟨⟨lo3, by show lo + dh ≤ lo + wide; omega⟩, ⟨c0, c1, sl, si, k0, by show ik < (ss.length : Int); omega, lo0, by show lo ≤ lo + dh; omega, by show lo + dh ≤ 50; omega⟩⟩
    · rw [gup_same]; simp [Wr.d]
  · rintro σ G5 ⟨ws, e1, e2, e3, e4, hwl, hws, x5, ew, rfl⟩
    refine ⟨trivial, ?_⟩
    simp only [exs, ex, ev, evs, evO, evI, evT, evTs, cmpQ, List.getElem?_cons_zero, List.getElem?_cons_succ, List.set_cons_zero, List.set_cons_succ, Option.some.injEq, exists_eq_left', exists_eq_left, exists_eq_right, exists_eq, exists_eq', dwipe, exists_eq_right', D.int.injEq, D.str.injEq, D.bl.injEq, D.tup.injEq, D.ref.injEq, D.rol.injEq, GO.lst.injEq, GO.ins.injEq, GO.dK.injEq, GO.dT.injEq, List.cons.injEq, tgLen, List.length_cons, List.length_nil, List.length_map, List.map_cons, List.map_nil, List.replicate_succ, List.replicate_zero, List.nil_append, List.cons_append, true_and, and_true, if_true, Bool.not_true, Bool.not_false, Bool.false_eq_true, if_false, gup_same, reduceCtorEq, false_and, and_false, exists_false, exists_const, inst_i, inst_b, inst_s, inst_t, atI_0, atI_1, atI_2, atI_3, atI_4, eqNN_nat, ix41, ix42, ix43, gup_gup, and_assoc, exists_and_left, oQ0, oQ1, oQ2, oQ3, oQ4, oQ5, oQ6, oQ7, oQ8, oQ9, oQ10, oQ11, oQ12, oQ13, oQ14, oQ15, oQ16, oQ17, oQ18, oQ19, oQ20, oQ21, oQ22, oQ23, oQ24, oQ25, oQ26, oQ27, oQ28, oQ29, oQ30, oQ31, oQ32, oQ33, oQ34, oQ35, oQ36, oQ37, oQ38, oQ39, oQ40, oQ41, oQ42, oQ43, oQ44, oQ45, oQ46, oQ47, oQ48, oQ49, oQ50, oQ51, oQ52, oQ53, oQ54, oQ55, oQ56, oQ57, oQ58, oQ59, oQ60, oQ61, oQ62, oQ63, oQ64, oQ65, oQ66, oQ67, oQ68, oQ69, oQ70, oQ71, oQ72, oQ73, oQ74, oQ75, oQ76, oQ77, oQ78, oQ79, oQ80, oQ81, oQ82, oQ83, oQ84, oQ85, oQ86, oQ87, oQ88, oQ89, oQ90, oQ91, oQ92, oQ93, oQ94, oQ95, oQ96, oQ97, oQ98, oQ99, oQ100, oQ101, oQ102, oQ103, oQ104, oQ105, oQ106, oQ107, oQ108, oQ109, oQ110, oQ111, oQ112, oQ113, oQ114, oQ115, oQ116, oQ117, oQ118, oQ119, oQ120, oQ121, oQ122, oQ123, oQ124, oQ125, oQ126, oQ127, oQ128, oQ129, oQ130, oQ131, oQ132, oQ133, oQ134, oQ135, oQ136, oQ137, oQ138, oQ139, oQ140, oQ141, oQ142, oQ143, oQ144, oQ145, oQ146, oQ147, oQ148, oQ149, oQ150, oQ151, oQ152, oQ153, oQ154, oQ155, oQ156, oQ157, oQ158, oQ159, ew]
    have hwl : (ws.length : Int) = n := by rw [hwl]; simp [rangeL]; omega
    refine q ⟨1 + v1, ss, ws⟩ G5 x5 ⟨⟨by show 1 ≤ 1 + v1; omega, by show 1 + v1 ≤ 4; omega, by show 1 ≤ ss.length; omega, by show ss.length ≤ 4; omega, fun s h => ⟨(hs s h).1, by have := (hs s h).2; omega⟩, by show ws.length ≤ 8; omega, fun w h => ?_⟩, by show (ws.length : Int) ≤ most; omega, by show 1 + v1 ≤ 2; omega, by show ss.length ≤ 3; omega, fun s h => (hs s h).2, fun w h => (hws w h).1⟩
    have o := (hws w h).2
    exact ⟨o.c0, o.c1, o.sl, o.si, o.i0, o.i1, o.l0, o.lh, o.h5⟩
end
end Ink
set_option Elab.async false
set_option linter.all false
set_option maxRecDepth 100000
set_option maxHeartbeats 8000000
/-! law k00 -/
namespace Ink
open PySem PySem.Spec PyProof.Rows L2
theorem exs_cons {Φ : Nat → DSp} {W : WE} {s : Sm} {ss : Sms} {E : DEnds} {σ : DSt} {G : GH} : exs Φ W (.cons s ss) E σ G = ex Φ W s { E with nx := fun σ1 G1 => exs Φ W ss E σ1 G1 } σ G := rfl
theorem exs_nil {Φ : Nat → DSp} {W : WE} {E : DEnds} {σ : DSt} {G : GH} : exs Φ W .nil E σ G = E.nx σ G := rfl
theorem row_new {G : GH} {S : Src} {r : Addr} {s : Int} (h : SrcAt G S) (hr : G r = none) : Row (gup G r (.lst [S.sd, .int 0, .int s, .int 0])) r S := by
  refine ⟨0, s, 0, ?_, Int.le_refl _, gup_same⟩
  rcases h with h | ⟨a, h1, h2⟩
  · exact .inl h
  · have ne : a ≠ r := gne_none h2 hr
    exact .inr ⟨a, h1, ne, by rw [gup_ne ne]; exact h2⟩
theorem alloc_ok {G : GH} {o : GO} {Q : KD} (h : ∀ p G', G p = none → Ext G G' → G' p = some o → Q (.ref p) G') : ∀ p, G p = none → Q (.ref p) (gup G p o) := fun p hp => h p _ hp (Ext.new hp) gup_same
theorem isP_ints {G : GH} : ∀ ns : List Int, IsPs G (ns.map D.int) (ns.map PyData.int)
  | [] => .nil
  | n :: ns => .cons (.int n) (isP_ints ns)
theorem fits_ints {n : Nat} {ns : List Int} (h : ns.length ≤ 16777216) : Fits (n + 1) (.tuple (ns.map PyData.int)) := ⟨by simpa using h, fun p hp => by
  obtain ⟨i, _, rfl⟩ := List.mem_map.mp hp
  cases n <;> trivial⟩
section
variable {Φ : Nat → DSp} {W : WE} {ds : List D} {G : GH} {Q : KD}
/-- the drawn pace -/
theorem pace_comp {r : Addr} {S : Src} {p : Pl} {G0 : GH} {σ : DSt} {Qf : GH → Prop} {a : Addr} (h1 : Φ f_law_taken = sp_law_taken) (po : p.Ok) (hr : Row G0 r S) (ha : G0 a = none) {elt : DSt → GH → KD → Prop}
    (he : ∀ (i : Nat) (w : Wr) (G1 : GH) (K' : KD), p.writes[i]? = some w → Row G1 r S → (∀ v G2, w.lo ≤ v → v ≤ w.hi → RowE r S G1 G2 → K' (.int v) G2) → elt ((dwipe σ [4]).set 4 (some w.d)) G1 K')
    (q : ∀ rs G', RowE r S G0 G' → PaceOk p rs → G' a = some (.lst (rs.map D.int)) → Qf G') :
    compL (fun _ => True) a σ [4] (fun d σ1 G2 K => K (σ1.set 4 (some d)) G2) (fun _ G K => K true G) elt Qf (p.writes.map Wr.d) (gup G0 a (.lst [])) := by
  have na := hr.ne ha
  refine compL_of (fun i G' => ∃ rs : List Int, rs.length = i ∧ (∀ (j : Nat) (v : Int) (w : Wr), rs[j]? = some v → p.writes[j]? = some w → w.lo ≤ v ∧ v ≤ w.hi) ∧ RowE r S G0 G' ∧ G' a = some (.lst (rs.map D.int))) ⟨[], rfl, by simp, (hr.e (Ext.refl _)).upd hr ha, by simp [gup_same]⟩ ?_ ?_
  · rintro i d G1 hd ⟨rs, hl, hq, x, e⟩ K' hK
    refine ⟨trivial, ?_⟩
    rw [List.getElem?_map] at hd
    obtain ⟨w, ew, rfl⟩ := Option.map_eq_some_iff.mp hd
    have hi := (List.getElem?_eq_some_iff.mp ew).1
    rw [if_pos rfl]
    refine he i w G1 _ ew x.row fun v G2 v1 v2 x2 => ?_
    have e2 := x2.ext a _ na e
    refine ⟨_, e2, ?_, hK _ ⟨rs ++ [v], by simp [hl], ?_, (x.trans x2).upd hr ha, by rw [gup_same]; simp⟩⟩
    · have := po.w8; rw [List.length_map, hl, sizeLine_eq]; omega
    · intro j v' w' h1 h2
      by_cases hj : j < rs.length
      · rw [List.getElem?_append_left hj] at h1
        exact hq j v' w' h1 h2
      · rw [List.getElem?_append_right (by omega)] at h1
        have hj2 : j = i := by
          have := (List.getElem?_eq_some_iff.mp h1).1
          simp at this; omega
        subst hj2
        rw [hl, Nat.sub_self] at h1
        simp at h1
        rw [ew] at h2
        cases h2
        rw [← h1]; exact ⟨v1, v2⟩
  · rintro G1 ⟨rs, hl, hq, x, e⟩
    refine ⟨trivial, q rs G1 x ⟨by simpa using hl, fun z hz => ?_⟩ e⟩
    obtain ⟨j, hj⟩ := List.mem_iff_getElem?.mp hz
    rw [List.getElem?_zip_eq_some] at hj
    exact hq j z.1 z.2 hj.1 hj.2
/-- what the law sees, tick by tick or cell by cell, joined -/
theorem join_comp {G0 : GH} {a : Addr} {σ : DSt} {i : Nat} {n : Int} {elt : DSt → GH → KD → Prop} {Qf : GH → Prop} (f : Int → Str) (hf : ∀ j, (f j).length = 1) (ha : G0 a = none) (h0 : 0 ≤ n) (hn : n ≤ 1000)
    (he : ∀ (j : Int) (G1 : GH) (K' : KD), 0 ≤ j → j < n → Ext G0 G1 → (∀ G2, Ext G1 G2 → K' (.str (f j)) G2) → elt ((dwipe σ [i]).set i (some (.int j))) G1 K')
    (q : ∀ G1, Ext G0 G1 → G1 a = some (.lst (((cellsL n).map f).map D.str)) → ((((cellsL n).map f).map (·.length)).sum + ((cellsL n).map f).length * (Str.ofString "").length ≤ 16777216) → Qf G1) :
    compL (fun _ => True) a σ [i] (fun d σ1 G2 K => K (σ1.set i (some d)) G2) (fun _ G K => K true G) elt Qf (rangeL 0 n.toNat) (gup G0 a (.lst [])) := by
  have cl : (cellsL n).length = n.toNat := by simp [cellsL]
  refine compL_map (fun d => match d with | .int c => .str (f c) | _ => .non) ha (by rw [rangeL_cells, List.length_map, cl, sizeLine_eq]; omega) (fun _ _ => trivial) ?_ ?_
  · intro k d G1 hd x K hK
    obtain ⟨hi, rfl⟩ := rangeL_get hd
    exact he k G1 K (by omega) (by omega) x hK
  · intro G1 x1 e
    refine q G1 x1 ?_ ?_
    · rw [e, rangeL_cells, List.map_map, List.map_map]; rfl
    · rw [sum_ones _ fun x hx => by
        obtain ⟨c, _, rfl⟩ := List.mem_map.mp hx
        exact hf c]
      rw [List.length_map, cl]
      have : (Str.ofString "").length = 0 := by decide
      rw [this]
      omega
theorem alike_str {n : Nat} {x : Str} (q : ∀ G', Ext G G' → Q (.bl true) G') : sp_law_alike n [.str x, .str x] G W Q := ⟨_, _, _, rfl, .str x, .str x, by cases n <;> trivial, q⟩
/-! values that are no plans -/
theorem dk_tup {G : GH} {xs : List D} : DK G (.tup xs) = DKs G xs := by unfold DK; rfl
theorem dk_cons {G : GH} {x : D} {xs : List D} : DKs G (x :: xs) = (DK G x ∧ DKs G xs) := by conv => lhs; unfold DKs
theorem dk_nil {G : GH} : DKs G [] = True := by unfold DKs; rfl
theorem dk_int {G : GH} {i : Int} : DK G (.int i) = True := by unfold DK; rfl
theorem dk_bl {G : GH} {i : Bool} : DK G (.bl i) = True := by unfold DK; rfl
theorem dk_non {G : GH} : DK G .non = True := by unfold DK; rfl
theorem dk_str {G : GH} {x : Str} : DK G (.str x) = (x.length ≤ sizeLine) := by unfold DK; rfl
theorem dk_is {G : GH} {ns : List Int} : DKs G (ns.map D.int) = True := propext ⟨fun _ => trivial, fun _ => .ints ns⟩
theorem dk_ref {G : GH} {a : Addr} : DK G (.ref a) = knG (G a) := by unfold DK; rfl
theorem dk_ws {G : GH} {p : Pl} (po : p.Ok) : DKs G (p.writes.map Wr.d) := by
  have := po.dk G
  simp only [Pl.d, dk_tup, dk_cons] at this
  exact this.2.2.1
theorem rep5 {x : D} : (List.replicate (Int.toNat 5) [x]).flatten = [x, x, x, x, x] := rfl
theorem rep9 {x : D} : (List.replicate (Int.toNat 9) [x]).flatten = [x, x, x, x, x, x, x, x, x] := rfl
theorem sg_A : isSignD (.str "A") = false := by decide +kernel
theorem sg_ab : isSignD (.str "ab") = false := by decide +kernel
def Bad (G : GH) (L : List D) : Prop := ∀ d ∈ L, DK G d ∧ isPlanD d = false
theorem Bad.nil {G : GH} : Bad G [] := fun d h => by simp at h
theorem Bad.cons {G : GH} {d : D} {L : List D} (h1 : DK G d) (h2 : isPlanD d = false) (t : Bad G L) : Bad G (d :: L) := fun e h => by
  rcases List.mem_cons.mp h with rfl | h
  · exact ⟨h1, h2⟩
  · exact t e h
theorem Bad.app {G : GH} {L M : List D} (a : Bad G L) (b : Bad G M) : Bad G (L ++ M) := fun e h => (List.mem_append.mp h).elim (a e) (b e)
theorem Bad.ext {G G' : GH} {L : List D} (a : Bad G L) (x : Ext G G') : Bad G' L := fun e h => ⟨(a e h).1.ext x, (a e h).2⟩
theorem odd_first {σ : DSt} {es : Exs} {i : Nat} {E : DEnds} (hes : ∀ K : List D → GH → Prop, (∀ M G', Ext G G' → Bad G' M → M.length ≤ 100 → K M G') → evs Φ es W σ G K)
    (q : ∀ o G' L, G' o = some (.lst L) → Bad G' L → L.length ≤ 100 → Ext G G' → E.nx (σ.set i (some (.ref o))) G') : ex Φ W (.asg (.nm i) (.lst es)) E σ G := by
  show evs Φ es W σ G fun ds G1 => ∀ p, G1 p = none → E.nx (σ.set i (some (.ref p))) (gup G1 p (.lst ds))
  exact hes _ fun M G' x b l p hp => q p _ M gup_same (b.ext (Ext.new hp)) l (x.trans (Ext.new hp))
theorem odd_step {σ : DSt} {es : Exs} {i : Nat} {E : DEnds} {o : Addr} {L : List D} (hσ : σ[i]? = some (some (.ref o))) (ho : G o = some (.lst L)) (B : Bad G L) (hl : L.length ≤ 10000) (hes : ∀ K : List D → GH → Prop, (∀ M G', Ext G G' → Bad G' M → M.length ≤ 100 → K M G') → evs Φ es W σ G K)
    (q : ∀ o G' L', G' o = some (.lst L') → Bad G' L' → L'.length ≤ L.length + 100 → Ext G G' → E.nx (σ.set i (some (.ref o))) G') : ex Φ W (.asg (.nm i) (.bin .add (.var i) (.lst es))) E σ G := by
  show ∃ d, σ[i]? = some (some d) ∧ evs Φ es W σ G fun ds G1 => ∀ p, G1 p = none → binQ .add d (.ref p) (gup G1 p (.lst ds)) fun d G2 => E.nx (σ.set i (some d)) G2
  refine ⟨_, hσ, hes _ fun M G' x b l p hp => ?_⟩
  have x2 := x.trans (Ext.new (o := .lst M) hp)
  refine ⟨L, M, x2 _ _ ho, gup_same, by rw [sizeLine_eq]; omega, fun p2 hp2 => ?_⟩
  exact q p2 _ _ gup_same (((B.ext x2).app (b.ext (Ext.new hp))).ext (Ext.new hp2)) (by simp; omega) (x2.trans (Ext.new hp2))
theorem run_law_k00 (h1 : Φ f_law_taken = sp_law_taken) (h2 : Φ f_law_plan = sp_law_plan) (h3 : Φ f_law_ticks = sp_law_ticks) (h4 : Φ f_is_plan = sp_is_plan) (h5 : Φ f_law_alike = sp_law_alike 6) (h6 : Φ f_ticks = sp_ticks) (h7 : Φ f_law_seen = sp_seen_at) (h8 : Φ f_story = sp_story) (h9 : Φ f_seen = sp_seen) (h10 : Φ f_board = sp_board)
    (h : sp_law ds G W Q) : run Φ W N_law_k00.length b_law_k00 ds G Q := by
  obtain ⟨S, rfl, hS, _, _, q⟩ := h
  simp only [run, N_law_k00, b_law_k00]
  (try dsimp only); rw [exs_cons]; simp only [ex, ev, evs, evO, evI, evT, evTs, cmpQ, List.getElem?_cons_zero, List.getElem?_cons_succ, List.set_cons_zero, List.set_cons_succ, Option.some.injEq, exists_eq_left', exists_eq_left, exists_eq_right, exists_eq, exists_eq', dwipe, exists_eq_right', D.int.injEq, D.str.injEq, D.bl.injEq, D.tup.injEq, D.ref.injEq, D.rol.injEq, GO.lst.injEq, GO.ins.injEq, GO.dK.injEq, GO.dT.injEq, List.cons.injEq, tgLen, List.length_cons, List.length_nil, List.length_map, List.map_cons, List.map_nil, List.replicate_succ, List.replicate_zero, List.nil_append, List.cons_append, true_and, and_true, if_true, Bool.not_true, Bool.not_false, Bool.false_eq_true, if_false, gup_same, reduceCtorEq, false_and, and_false, exists_false, exists_const, inst_i, inst_b, inst_s, inst_t, atI_0, atI_1, atI_2, atI_3, atI_4, eqNN_nat, ix41, ix42, ix43, gup_gup, and_assoc, exists_and_left, oQ0, oQ1, oQ2, oQ3, oQ4, oQ5, oQ6, oQ7, oQ8, oQ9, oQ10, oQ11, oQ12, oQ13, oQ14, oQ15, oQ16, oQ17, oQ18, oQ19, oQ20, oQ21, oQ22, oQ23, oQ24, oQ25, oQ26, oQ27, oQ28, oQ29, oQ30, oQ31, oQ32, oQ33, oQ34, oQ35, oQ36, oQ37, oQ38, oQ39, oQ40, oQ41, oQ42, oQ43, oQ44, oQ45, oQ46, oQ47, oQ48, oQ49, oQ50, oQ51, oQ52, oQ53, oQ54, oQ55, oQ56, oQ57, oQ58, oQ59, oQ60, oQ61, oQ62, oQ63, oQ64, oQ65, oQ66, oQ67, oQ68, oQ69, oQ70, oQ71, oQ72, oQ73, oQ74, oQ75, oQ76, oQ77, oQ78, oQ79, oQ80, oQ81, oQ82, oQ83, oQ84, oQ85, oQ86, oQ87, oQ88, oQ89, oQ90, oQ91, oQ92, oQ93, oQ94, oQ95, oQ96, oQ97, oQ98, oQ99, oQ100, oQ101, oQ102, oQ103, oQ104, oQ105, oQ106, oQ107, oQ108, oQ109, oQ110, oQ111, oQ112, oQ113, oQ114, oQ115, oQ116, oQ117, oQ118, oQ119, oQ120, oQ121, oQ122, oQ123, oQ124, oQ125, oQ126, oQ127, oQ128, oQ129, oQ130, oQ131, oQ132, oQ133, oQ134, oQ135, oQ136, oQ137, oQ138, oQ139, oQ140, oQ141, oQ142, oQ143, oQ144, oQ145, oQ146, oQ147, oQ148, oQ149, oQ150, oQ151, oQ152, oQ153, oQ154, oQ155, oQ156, oQ157, oQ158, oQ159]
  intro r hr0
  have hr := row_new (s := 7600) hS hr0
  (try dsimp only); rw [exs_cons]; simp only [h2, ex, ev, evs, evO, evI, evT, evTs, cmpQ, List.getElem?_cons_zero, List.getElem?_cons_succ, List.set_cons_zero, List.set_cons_succ, Option.some.injEq, exists_eq_left', exists_eq_left, exists_eq_right, exists_eq, exists_eq', dwipe, exists_eq_right', D.int.injEq, D.str.injEq, D.bl.injEq, D.tup.injEq, D.ref.injEq, D.rol.injEq, GO.lst.injEq, GO.ins.injEq, GO.dK.injEq, GO.dT.injEq, List.cons.injEq, tgLen, List.length_cons, List.length_nil, List.length_map, List.map_cons, List.map_nil, List.replicate_succ, List.replicate_zero, List.nil_append, List.cons_append, true_and, and_true, if_true, Bool.not_true, Bool.not_false, Bool.false_eq_true, if_false, gup_same, reduceCtorEq, false_and, and_false, exists_false, exists_const, inst_i, inst_b, inst_s, inst_t, atI_0, atI_1, atI_2, atI_3, atI_4, eqNN_nat, ix41, ix42, ix43, gup_gup, and_assoc, exists_and_left, oQ0, oQ1, oQ2, oQ3, oQ4, oQ5, oQ6, oQ7, oQ8, oQ9, oQ10, oQ11, oQ12, oQ13, oQ14, oQ15, oQ16, oQ17, oQ18, oQ19, oQ20, oQ21, oQ22, oQ23, oQ24, oQ25, oQ26, oQ27, oQ28, oQ29, oQ30, oQ31, oQ32, oQ33, oQ34, oQ35, oQ36, oQ37, oQ38, oQ39, oQ40, oQ41, oQ42, oQ43, oQ44, oQ45, oQ46, oQ47, oQ48, oQ49, oQ50, oQ51, oQ52, oQ53, oQ54, oQ55, oQ56, oQ57, oQ58, oQ59, oQ60, oQ61, oQ62, oQ63, oQ64, oQ65, oQ66, oQ67, oQ68, oQ69, oQ70, oQ71, oQ72, oQ73, oQ74, oQ75, oQ76, oQ77, oQ78, oQ79, oQ80, oQ81, oQ82, oQ83, oQ84, oQ85, oQ86, oQ87, oQ88, oQ89, oQ90, oQ91, oQ92, oQ93, oQ94, oQ95, oQ96, oQ97, oQ98, oQ99, oQ100, oQ101, oQ102, oQ103, oQ104, oQ105, oQ106, oQ107, oQ108, oQ109, oQ110, oQ111, oQ112, oQ113, oQ114, oQ115, oQ116, oQ117, oQ118, oQ119, oQ120, oQ121, oQ122, oQ123, oQ124, oQ125, oQ126, oQ127, oQ128, oQ129, oQ130, oQ131, oQ132, oQ133, oQ134, oQ135, oQ136, oQ137, oQ138, oQ139, oQ140, oQ141, oQ142, oQ143, oQ144, oQ145, oQ146, oQ147, oQ148, oQ149, oQ150, oQ151, oQ152, oQ153, oQ154, oQ155, oQ156, oQ157, oQ158, oQ159]
  refine ⟨r, S, 8, 4, rfl, hr, by decide, by decide, by decide, by decide, fun p G2 x2 dr => ?_⟩
  have po := dr.ok
  generalize gup G r (.lst [S.sd, .int 0, .int 7600, .int 0]) = G1 at hr x2
  (try dsimp only); rw [exs_cons]; simp only [Pl.d, h1, ex, ev, evs, evO, evI, evT, evTs, cmpQ, List.getElem?_cons_zero, List.getElem?_cons_succ, List.set_cons_zero, List.set_cons_succ, Option.some.injEq, exists_eq_left', exists_eq_left, exists_eq_right, exists_eq, exists_eq', dwipe, exists_eq_right', D.int.injEq, D.str.injEq, D.bl.injEq, D.tup.injEq, D.ref.injEq, D.rol.injEq, GO.lst.injEq, GO.ins.injEq, GO.dK.injEq, GO.dT.injEq, List.cons.injEq, tgLen, List.length_cons, List.length_nil, List.length_map, List.map_cons, List.map_nil, List.replicate_succ, List.replicate_zero, List.nil_append, List.cons_append, true_and, and_true, if_true, Bool.not_true, Bool.not_false, Bool.false_eq_true, if_false, gup_same, reduceCtorEq, false_and, and_false, exists_false, exists_const, inst_i, inst_b, inst_s, inst_t, atI_0, atI_1, atI_2, atI_3, atI_4, eqNN_nat, ix41, ix42, ix43, gup_gup, and_assoc, exists_and_left, oQ0, oQ1, oQ2, oQ3, oQ4, oQ5, oQ6, oQ7, oQ8, oQ9, oQ10, oQ11, oQ12, oQ13, oQ14, oQ15, oQ16, oQ17, oQ18, oQ19, oQ20, oQ21, oQ22, oQ23, oQ24, oQ25, oQ26, oQ27, oQ28, oQ29, oQ30, oQ31, oQ32, oQ33, oQ34, oQ35, oQ36, oQ37, oQ38, oQ39, oQ40, oQ41, oQ42, oQ43, oQ44, oQ45, oQ46, oQ47, oQ48, oQ49, oQ50, oQ51, oQ52, oQ53, oQ54, oQ55, oQ56, oQ57, oQ58, oQ59, oQ60, oQ61, oQ62, oQ63, oQ64, oQ65, oQ66, oQ67, oQ68, oQ69, oQ70, oQ71, oQ72, oQ73, oQ74, oQ75, oQ76, oQ77, oQ78, oQ79, oQ80, oQ81, oQ82, oQ83, oQ84, oQ85, oQ86, oQ87, oQ88, oQ89, oQ90, oQ91, oQ92, oQ93, oQ94, oQ95, oQ96, oQ97, oQ98, oQ99, oQ100, oQ101, oQ102, oQ103, oQ104, oQ105, oQ106, oQ107, oQ108, oQ109, oQ110, oQ111, oQ112, oQ113, oQ114, oQ115, oQ116, oQ117, oQ118, oQ119, oQ120, oQ121, oQ122, oQ123, oQ124, oQ125, oQ126, oQ127, oQ128, oQ129, oQ130, oQ131, oQ132, oQ133, oQ134, oQ135, oQ136, oQ137, oQ138, oQ139, oQ140, oQ141, oQ142, oQ143, oQ144, oQ145, oQ146, oQ147, oQ148, oQ149, oQ150, oQ151, oQ152, oQ153, oQ154, oQ155, oQ156, oQ157, oQ158, oQ159]
  intro a ha
  have na := x2.row.ne ha
  refine pace_comp h1 po x2.row ha ?_ ?_
  · intro i w G3 K' ew hr3 hK
    have wo := po.wr w (List.mem_of_getElem? ew)
    have z1 := wo.lh; have z2 := wo.h5; have z3 := wo.l0
    simp only [Wr.d, exs, ex, ev, evs, evO, evI, evT, evTs, cmpQ, List.getElem?_cons_zero, List.getElem?_cons_succ, List.set_cons_zero, List.set_cons_succ, Option.some.injEq, exists_eq_left', exists_eq_left, exists_eq_right, exists_eq, exists_eq', dwipe, exists_eq_right', D.int.injEq, D.str.injEq, D.bl.injEq, D.tup.injEq, D.ref.injEq, D.rol.injEq, GO.lst.injEq, GO.ins.injEq, GO.dK.injEq, GO.dT.injEq, List.cons.injEq, tgLen, List.length_cons, List.length_nil, List.length_map, List.map_cons, List.map_nil, List.replicate_succ, List.replicate_zero, List.nil_append, List.cons_append, true_and, and_true, if_true, Bool.not_true, Bool.not_false, Bool.false_eq_true, if_false, gup_same, reduceCtorEq, false_and, and_false, exists_false, exists_const, inst_i, inst_b, inst_s, inst_t, atI_0, atI_1, atI_2, atI_3, atI_4, eqNN_nat, ix41, ix42, ix43, gup_gup, and_assoc, exists_and_left, oQ0, oQ1, oQ2, oQ3, oQ4, oQ5, oQ6, oQ7, oQ8, oQ9, oQ10, oQ11, oQ12, oQ13, oQ14, oQ15, oQ16, oQ17, oQ18, oQ19, oQ20, oQ21, oQ22, oQ23, oQ24, oQ25, oQ26, oQ27, oQ28, oQ29, oQ30, oQ31, oQ32, oQ33, oQ34, oQ35, oQ36, oQ37, oQ38, oQ39, oQ40, oQ41, oQ42, oQ43, oQ44, oQ45, oQ46, oQ47, oQ48, oQ49, oQ50, oQ51, oQ52, oQ53, oQ54, oQ55, oQ56, oQ57, oQ58, oQ59, oQ60, oQ61, oQ62, oQ63, oQ64, oQ65, oQ66, oQ67, oQ68, oQ69, oQ70, oQ71, oQ72, oQ73, oQ74, oQ75, oQ76, oQ77, oQ78, oQ79, oQ80, oQ81, oQ82, oQ83, oQ84, oQ85, oQ86, oQ87, oQ88, oQ89, oQ90, oQ91, oQ92, oQ93, oQ94, oQ95, oQ96, oQ97, oQ98, oQ99, oQ100, oQ101, oQ102, oQ103, oQ104, oQ105, oQ106, oQ107, oQ108, oQ109, oQ110, oQ111, oQ112, oQ113, oQ114, oQ115, oQ116, oQ117, oQ118, oQ119, oQ120, oQ121, oQ122, oQ123, oQ124, oQ125, oQ126, oQ127, oQ128, oQ129, oQ130, oQ131, oQ132, oQ133, oQ134, oQ135, oQ136, oQ137, oQ138, oQ139, oQ140, oQ141, oQ142, oQ143, oQ144, oQ145, oQ146, oQ147, oQ148, oQ149, oQ150, oQ151, oQ152, oQ153, oQ154, oQ155, oQ156, oQ157, oQ158, oQ159]
    refine ⟨r, S, _, rfl, hr3, by omega, by omega, fun v G4 v0 v1 x4 => ?_⟩
    simp only [exs, ex, ev, evs, evO, evI, evT, evTs, cmpQ, List.getElem?_cons_zero, List.getElem?_cons_succ, List.set_cons_zero, List.set_cons_succ, Option.some.injEq, exists_eq_left', exists_eq_left, exists_eq_right, exists_eq, exists_eq', dwipe, exists_eq_right', D.int.injEq, D.str.injEq, D.bl.injEq, D.tup.injEq, D.ref.injEq, D.rol.injEq, GO.lst.injEq, GO.ins.injEq, GO.dK.injEq, GO.dT.injEq, List.cons.injEq, tgLen, List.length_cons, List.length_nil, List.length_map, List.map_cons, List.map_nil, List.replicate_succ, List.replicate_zero, List.nil_append, List.cons_append, true_and, and_true, if_true, Bool.not_true, Bool.not_false, Bool.false_eq_true, if_false, gup_same, reduceCtorEq, false_and, and_false, exists_false, exists_const, inst_i, inst_b, inst_s, inst_t, atI_0, atI_1, atI_2, atI_3, atI_4, eqNN_nat, ix41, ix42, ix43, gup_gup, and_assoc, exists_and_left, oQ0, oQ1, oQ2, oQ3, oQ4, oQ5, oQ6, oQ7, oQ8, oQ9, oQ10, oQ11, oQ12, oQ13, oQ14, oQ15, oQ16, oQ17, oQ18, oQ19, oQ20, oQ21, oQ22, oQ23, oQ24, oQ25, oQ26, oQ27, oQ28, oQ29, oQ30, oQ31, oQ32, oQ33, oQ34, oQ35, oQ36, oQ37, oQ38, oQ39, oQ40, oQ41, oQ42, oQ43, oQ44, oQ45, oQ46, oQ47, oQ48, oQ49, oQ50, oQ51, oQ52, oQ53, oQ54, oQ55, oQ56, oQ57, oQ58, oQ59, oQ60, oQ61, oQ62, oQ63, oQ64, oQ65, oQ66, oQ67, oQ68, oQ69, oQ70, oQ71, oQ72, oQ73, oQ74, oQ75, oQ76, oQ77, oQ78, oQ79, oQ80, oQ81, oQ82, oQ83, oQ84, oQ85, oQ86, oQ87, oQ88, oQ89, oQ90, oQ91, oQ92, oQ93, oQ94, oQ95, oQ96, oQ97, oQ98, oQ99, oQ100, oQ101, oQ102, oQ103, oQ104, oQ105, oQ106, oQ107, oQ108, oQ109, oQ110, oQ111, oQ112, oQ113, oQ114, oQ115, oQ116, oQ117, oQ118, oQ119, oQ120, oQ121, oQ122, oQ123, oQ124, oQ125, oQ126, oQ127, oQ128, oQ129, oQ130, oQ131, oQ132, oQ133, oQ134, oQ135, oQ136, oQ137, oQ138, oQ139, oQ140, oQ141, oQ142, oQ143, oQ144, oQ145, oQ146, oQ147, oQ148, oQ149, oQ150, oQ151, oQ152, oQ153, oQ154, oQ155, oQ156, oQ157, oQ158, oQ159]
    exact hK _ _ (by omega) (by omega) x4
  intro rs G3 x3 ro e3
  have rl : rs.length ≤ 8 := by have := ro.1; have := po.w8; omega
  simp only [ex, ev, evs, evO, evI, evT, evTs, cmpQ, List.getElem?_cons_zero, List.getElem?_cons_succ, List.set_cons_zero, List.set_cons_succ, Option.some.injEq, exists_eq_left', exists_eq_left, exists_eq_right, exists_eq, exists_eq', dwipe, exists_eq_right', D.int.injEq, D.str.injEq, D.bl.injEq, D.tup.injEq, D.ref.injEq, D.rol.injEq, GO.lst.injEq, GO.ins.injEq, GO.dK.injEq, GO.dT.injEq, List.cons.injEq, tgLen, List.length_cons, List.length_nil, List.length_map, List.map_cons, List.map_nil, List.replicate_succ, List.replicate_zero, List.nil_append, List.cons_append, true_and, and_true, if_true, Bool.not_true, Bool.not_false, Bool.false_eq_true, if_false, gup_same, reduceCtorEq, false_and, and_false, exists_false, exists_const, inst_i, inst_b, inst_s, inst_t, atI_0, atI_1, atI_2, atI_3, atI_4, eqNN_nat, ix41, ix42, ix43, gup_gup, and_assoc, exists_and_left, oQ0, oQ1, oQ2, oQ3, oQ4, oQ5, oQ6, oQ7, oQ8, oQ9, oQ10, oQ11, oQ12, oQ13, oQ14, oQ15, oQ16, oQ17, oQ18, oQ19, oQ20, oQ21, oQ22, oQ23, oQ24, oQ25, oQ26, oQ27, oQ28, oQ29, oQ30, oQ31, oQ32, oQ33, oQ34, oQ35, oQ36, oQ37, oQ38, oQ39, oQ40, oQ41, oQ42, oQ43, oQ44, oQ45, oQ46, oQ47, oQ48, oQ49, oQ50, oQ51, oQ52, oQ53, oQ54, oQ55, oQ56, oQ57, oQ58, oQ59, oQ60, oQ61, oQ62, oQ63, oQ64, oQ65, oQ66, oQ67, oQ68, oQ69, oQ70, oQ71, oQ72, oQ73, oQ74, oQ75, oQ76, oQ77, oQ78, oQ79, oQ80, oQ81, oQ82, oQ83, oQ84, oQ85, oQ86, oQ87, oQ88, oQ89, oQ90, oQ91, oQ92, oQ93, oQ94, oQ95, oQ96, oQ97, oQ98, oQ99, oQ100, oQ101, oQ102, oQ103, oQ104, oQ105, oQ106, oQ107, oQ108, oQ109, oQ110, oQ111, oQ112, oQ113, oQ114, oQ115, oQ116, oQ117, oQ118, oQ119, oQ120, oQ121, oQ122, oQ123, oQ124, oQ125, oQ126, oQ127, oQ128, oQ129, oQ130, oQ131, oQ132, oQ133, oQ134, oQ135, oQ136, oQ137, oQ138, oQ139, oQ140, oQ141, oQ142, oQ143, oQ144, oQ145, oQ146, oQ147, oQ148, oQ149, oQ150, oQ151, oQ152, oQ153, oQ154, oQ155, oQ156, oQ157, oQ158, oQ159, e3]
  (try dsimp only); rw [exs_cons]; simp only [h3, ex, ev, evs, evO, evI, evT, evTs, cmpQ, List.getElem?_cons_zero, List.getElem?_cons_succ, List.set_cons_zero, List.set_cons_succ, Option.some.injEq, exists_eq_left', exists_eq_left, exists_eq_right, exists_eq, exists_eq', dwipe, exists_eq_right', D.int.injEq, D.str.injEq, D.bl.injEq, D.tup.injEq, D.ref.injEq, D.rol.injEq, GO.lst.injEq, GO.ins.injEq, GO.dK.injEq, GO.dT.injEq, List.cons.injEq, tgLen, List.length_cons, List.length_nil, List.length_map, List.map_cons, List.map_nil, List.replicate_succ, List.replicate_zero, List.nil_append, List.cons_append, true_and, and_true, if_true, Bool.not_true, Bool.not_false, Bool.false_eq_true, if_false, gup_same, reduceCtorEq, false_and, and_false, exists_false, exists_const, inst_i, inst_b, inst_s, inst_t, atI_0, atI_1, atI_2, atI_3, atI_4, eqNN_nat, ix41, ix42, ix43, gup_gup, and_assoc, exists_and_left, oQ0, oQ1, oQ2, oQ3, oQ4, oQ5, oQ6, oQ7, oQ8, oQ9, oQ10, oQ11, oQ12, oQ13, oQ14, oQ15, oQ16, oQ17, oQ18, oQ19, oQ20, oQ21, oQ22, oQ23, oQ24, oQ25, oQ26, oQ27, oQ28, oQ29, oQ30, oQ31, oQ32, oQ33, oQ34, oQ35, oQ36, oQ37, oQ38, oQ39, oQ40, oQ41, oQ42, oQ43, oQ44, oQ45, oQ46, oQ47, oQ48, oQ49, oQ50, oQ51, oQ52, oQ53, oQ54, oQ55, oQ56, oQ57, oQ58, oQ59, oQ60, oQ61, oQ62, oQ63, oQ64, oQ65, oQ66, oQ67, oQ68, oQ69, oQ70, oQ71, oQ72, oQ73, oQ74, oQ75, oQ76, oQ77, oQ78, oQ79, oQ80, oQ81, oQ82, oQ83, oQ84, oQ85, oQ86, oQ87, oQ88, oQ89, oQ90, oQ91, oQ92, oQ93, oQ94, oQ95, oQ96, oQ97, oQ98, oQ99, oQ100, oQ101, oQ102, oQ103, oQ104, oQ105, oQ106, oQ107, oQ108, oQ109, oQ110, oQ111, oQ112, oQ113, oQ114, oQ115, oQ116, oQ117, oQ118, oQ119, oQ120, oQ121, oQ122, oQ123, oQ124, oQ125, oQ126, oQ127, oQ128, oQ129, oQ130, oQ131, oQ132, oQ133, oQ134, oQ135, oQ136, oQ137, oQ138, oQ139, oQ140, oQ141, oQ142, oQ143, oQ144, oQ145, oQ146, oQ147, oQ148, oQ149, oQ150, oQ151, oQ152, oQ153, oQ154, oQ155, oQ156, oQ157, oQ158, oQ159]
  refine ⟨.tup (rs.map D.int), rs, 0, rfl, .inl rfl, by omega, fun b G4 hb x4 e4 => ?_⟩
  (try dsimp only); rw [exs_cons]; simp only [h4, h5, h6, ex, ev, evs, evO, evI, evT, evTs, cmpQ, List.getElem?_cons_zero, List.getElem?_cons_succ, List.set_cons_zero, List.set_cons_succ, Option.some.injEq, exists_eq_left', exists_eq_left, exists_eq_right, exists_eq, exists_eq', dwipe, exists_eq_right', D.int.injEq, D.str.injEq, D.bl.injEq, D.tup.injEq, D.ref.injEq, D.rol.injEq, GO.lst.injEq, GO.ins.injEq, GO.dK.injEq, GO.dT.injEq, List.cons.injEq, tgLen, List.length_cons, List.length_nil, List.length_map, List.map_cons, List.map_nil, List.replicate_succ, List.replicate_zero, List.nil_append, List.cons_append, true_and, and_true, if_true, Bool.not_true, Bool.not_false, Bool.false_eq_true, if_false, gup_same, reduceCtorEq, false_and, and_false, exists_false, exists_const, inst_i, inst_b, inst_s, inst_t, atI_0, atI_1, atI_2, atI_3, atI_4, eqNN_nat, ix41, ix42, ix43, gup_gup, and_assoc, exists_and_left, oQ0, oQ1, oQ2, oQ3, oQ4, oQ5, oQ6, oQ7, oQ8, oQ9, oQ10, oQ11, oQ12, oQ13, oQ14, oQ15, oQ16, oQ17, oQ18, oQ19, oQ20, oQ21, oQ22, oQ23, oQ24, oQ25, oQ26, oQ27, oQ28, oQ29, oQ30, oQ31, oQ32, oQ33, oQ34, oQ35, oQ36, oQ37, oQ38, oQ39, oQ40, oQ41, oQ42, oQ43, oQ44, oQ45, oQ46, oQ47, oQ48, oQ49, oQ50, oQ51, oQ52, oQ53, oQ54, oQ55, oQ56, oQ57, oQ58, oQ59, oQ60, oQ61, oQ62, oQ63, oQ64, oQ65, oQ66, oQ67, oQ68, oQ69, oQ70, oQ71, oQ72, oQ73, oQ74, oQ75, oQ76, oQ77, oQ78, oQ79, oQ80, oQ81, oQ82, oQ83, oQ84, oQ85, oQ86, oQ87, oQ88, oQ89, oQ90, oQ91, oQ92, oQ93, oQ94, oQ95, oQ96, oQ97, oQ98, oQ99, oQ100, oQ101, oQ102, oQ103, oQ104, oQ105, oQ106, oQ107, oQ108, oQ109, oQ110, oQ111, oQ112, oQ113, oQ114, oQ115, oQ116, oQ117, oQ118, oQ119, oQ120, oQ121, oQ122, oQ123, oQ124, oQ125, oQ126, oQ127, oQ128, oQ129, oQ130, oQ131, oQ132, oQ133, oQ134, oQ135, oQ136, oQ137, oQ138, oQ139, oQ140, oQ141, oQ142, oQ143, oQ144, oQ145, oQ146, oQ147, oQ148, oQ149, oQ150, oQ151, oQ152, oQ153, oQ154, oQ155, oQ156, oQ157, oQ158, oQ159]
  refine ⟨p.d, rfl, po.dk _, fun G5 x5 => ?_⟩
  rw [po.plan]
  simp only [ex, ev, evs, evO, evI, evT, evTs, cmpQ, List.getElem?_cons_zero, List.getElem?_cons_succ, List.set_cons_zero, List.set_cons_succ, Option.some.injEq, exists_eq_left', exists_eq_left, exists_eq_right, exists_eq, exists_eq', dwipe, exists_eq_right', D.int.injEq, D.str.injEq, D.bl.injEq, D.tup.injEq, D.ref.injEq, D.rol.injEq, GO.lst.injEq, GO.ins.injEq, GO.dK.injEq, GO.dT.injEq, List.cons.injEq, tgLen, List.length_cons, List.length_nil, List.length_map, List.map_cons, List.map_nil, List.replicate_succ, List.replicate_zero, List.nil_append, List.cons_append, true_and, and_true, if_true, Bool.not_true, Bool.not_false, Bool.false_eq_true, if_false, gup_same, reduceCtorEq, false_and, and_false, exists_false, exists_const, inst_i, inst_b, inst_s, inst_t, atI_0, atI_1, atI_2, atI_3, atI_4, eqNN_nat, ix41, ix42, ix43, gup_gup, and_assoc, exists_and_left, oQ0, oQ1, oQ2, oQ3, oQ4, oQ5, oQ6, oQ7, oQ8, oQ9, oQ10, oQ11, oQ12, oQ13, oQ14, oQ15, oQ16, oQ17, oQ18, oQ19, oQ20, oQ21, oQ22, oQ23, oQ24, oQ25, oQ26, oQ27, oQ28, oQ29, oQ30, oQ31, oQ32, oQ33, oQ34, oQ35, oQ36, oQ37, oQ38, oQ39, oQ40, oQ41, oQ42, oQ43, oQ44, oQ45, oQ46, oQ47, oQ48, oQ49, oQ50, oQ51, oQ52, oQ53, oQ54, oQ55, oQ56, oQ57, oQ58, oQ59, oQ60, oQ61, oQ62, oQ63, oQ64, oQ65, oQ66, oQ67, oQ68, oQ69, oQ70, oQ71, oQ72, oQ73, oQ74, oQ75, oQ76, oQ77, oQ78, oQ79, oQ80, oQ81, oQ82, oQ83, oQ84, oQ85, oQ86, oQ87, oQ88, oQ89, oQ90, oQ91, oQ92, oQ93, oQ94, oQ95, oQ96, oQ97, oQ98, oQ99, oQ100, oQ101, oQ102, oQ103, oQ104, oQ105, oQ106, oQ107, oQ108, oQ109, oQ110, oQ111, oQ112, oQ113, oQ114, oQ115, oQ116, oQ117, oQ118, oQ119, oQ120, oQ121, oQ122, oQ123, oQ124, oQ125, oQ126, oQ127, oQ128, oQ129, oQ130, oQ131, oQ132, oQ133, oQ134, oQ135, oQ136, oQ137, oQ138, oQ139, oQ140, oQ141, oQ142, oQ143, oQ144, oQ145, oQ146, oQ147, oQ148, oQ149, oQ150, oQ151, oQ152, oQ153, oQ154, oQ155, oQ156, oQ157, oQ158, oQ159, decide_true]
  refine ticks_ok po ro fun G6 x6 => ?_
  have e6 : G6 b = some (.lst ((ticksL 0 rs).map D.int)) := x6 _ _ (x5 _ _ e4)
  simp only [ex, ev, evs, evO, evI, evT, evTs, cmpQ, List.getElem?_cons_zero, List.getElem?_cons_succ, List.set_cons_zero, List.set_cons_succ, Option.some.injEq, exists_eq_left', exists_eq_left, exists_eq_right, exists_eq, exists_eq', dwipe, exists_eq_right', D.int.injEq, D.str.injEq, D.bl.injEq, D.tup.injEq, D.ref.injEq, D.rol.injEq, GO.lst.injEq, GO.ins.injEq, GO.dK.injEq, GO.dT.injEq, List.cons.injEq, tgLen, List.length_cons, List.length_nil, List.length_map, List.map_cons, List.map_nil, List.replicate_succ, List.replicate_zero, List.nil_append, List.cons_append, true_and, and_true, if_true, Bool.not_true, Bool.not_false, Bool.false_eq_true, if_false, gup_same, reduceCtorEq, false_and, and_false, exists_false, exists_const, inst_i, inst_b, inst_s, inst_t, atI_0, atI_1, atI_2, atI_3, atI_4, eqNN_nat, ix41, ix42, ix43, gup_gup, and_assoc, exists_and_left, oQ0, oQ1, oQ2, oQ3, oQ4, oQ5, oQ6, oQ7, oQ8, oQ9, oQ10, oQ11, oQ12, oQ13, oQ14, oQ15, oQ16, oQ17, oQ18, oQ19, oQ20, oQ21, oQ22, oQ23, oQ24, oQ25, oQ26, oQ27, oQ28, oQ29, oQ30, oQ31, oQ32, oQ33, oQ34, oQ35, oQ36, oQ37, oQ38, oQ39, oQ40, oQ41, oQ42, oQ43, oQ44, oQ45, oQ46, oQ47, oQ48, oQ49, oQ50, oQ51, oQ52, oQ53, oQ54, oQ55, oQ56, oQ57, oQ58, oQ59, oQ60, oQ61, oQ62, oQ63, oQ64, oQ65, oQ66, oQ67, oQ68, oQ69, oQ70, oQ71, oQ72, oQ73, oQ74, oQ75, oQ76, oQ77, oQ78, oQ79, oQ80, oQ81, oQ82, oQ83, oQ84, oQ85, oQ86, oQ87, oQ88, oQ89, oQ90, oQ91, oQ92, oQ93, oQ94, oQ95, oQ96, oQ97, oQ98, oQ99, oQ100, oQ101, oQ102, oQ103, oQ104, oQ105, oQ106, oQ107, oQ108, oQ109, oQ110, oQ111, oQ112, oQ113, oQ114, oQ115, oQ116, oQ117, oQ118, oQ119, oQ120, oQ121, oQ122, oQ123, oQ124, oQ125, oQ126, oQ127, oQ128, oQ129, oQ130, oQ131, oQ132, oQ133, oQ134, oQ135, oQ136, oQ137, oQ138, oQ139, oQ140, oQ141, oQ142, oQ143, oQ144, oQ145, oQ146, oQ147, oQ148, oQ149, oQ150, oQ151, oQ152, oQ153, oQ154, oQ155, oQ156, oQ157, oQ158, oQ159, e6]
  refine ⟨_, _, _, rfl, .tup (isP_ints (ticksL 0 rs)), .tup (isP_ints (ticksL 0 rs)), fits_ints (by rw [ticksL_len]; omega), fun G7 x7 => ?_⟩
  have x37 := x4.trans (x5.trans (x6.trans x7))
  have hr7 : Row G7 r S := x3.row.ext x37
  have e7 := x7 _ _ e6
  have nb : b ≠ r := x3.row.ne hb
  simp only [ex, ev, evs, evO, evI, evT, evTs, cmpQ, List.getElem?_cons_zero, List.getElem?_cons_succ, List.set_cons_zero, List.set_cons_succ, Option.some.injEq, exists_eq_left', exists_eq_left, exists_eq_right, exists_eq, exists_eq', dwipe, exists_eq_right', D.int.injEq, D.str.injEq, D.bl.injEq, D.tup.injEq, D.ref.injEq, D.rol.injEq, GO.lst.injEq, GO.ins.injEq, GO.dK.injEq, GO.dT.injEq, List.cons.injEq, tgLen, List.length_cons, List.length_nil, List.length_map, List.map_cons, List.map_nil, List.replicate_succ, List.replicate_zero, List.nil_append, List.cons_append, true_and, and_true, if_true, Bool.not_true, Bool.not_false, Bool.false_eq_true, if_false, gup_same, reduceCtorEq, false_and, and_false, exists_false, exists_const, inst_i, inst_b, inst_s, inst_t, atI_0, atI_1, atI_2, atI_3, atI_4, eqNN_nat, ix41, ix42, ix43, gup_gup, and_assoc, exists_and_left, oQ0, oQ1, oQ2, oQ3, oQ4, oQ5, oQ6, oQ7, oQ8, oQ9, oQ10, oQ11, oQ12, oQ13, oQ14, oQ15, oQ16, oQ17, oQ18, oQ19, oQ20, oQ21, oQ22, oQ23, oQ24, oQ25, oQ26, oQ27, oQ28, oQ29, oQ30, oQ31, oQ32, oQ33, oQ34, oQ35, oQ36, oQ37, oQ38, oQ39, oQ40, oQ41, oQ42, oQ43, oQ44, oQ45, oQ46, oQ47, oQ48, oQ49, oQ50, oQ51, oQ52, oQ53, oQ54, oQ55, oQ56, oQ57, oQ58, oQ59, oQ60, oQ61, oQ62, oQ63, oQ64, oQ65, oQ66, oQ67, oQ68, oQ69, oQ70, oQ71, oQ72, oQ73, oQ74, oQ75, oQ76, oQ77, oQ78, oQ79, oQ80, oQ81, oQ82, oQ83, oQ84, oQ85, oQ86, oQ87, oQ88, oQ89, oQ90, oQ91, oQ92, oQ93, oQ94, oQ95, oQ96, oQ97, oQ98, oQ99, oQ100, oQ101, oQ102, oQ103, oQ104, oQ105, oQ106, oQ107, oQ108, oQ109, oQ110, oQ111, oQ112, oQ113, oQ114, oQ115, oQ116, oQ117, oQ118, oQ119, oQ120, oQ121, oQ122, oQ123, oQ124, oQ125, oQ126, oQ127, oQ128, oQ129, oQ130, oQ131, oQ132, oQ133, oQ134, oQ135, oQ136, oQ137, oQ138, oQ139, oQ140, oQ141, oQ142, oQ143, oQ144, oQ145, oQ146, oQ147, oQ148, oQ149, oQ150, oQ151, oQ152, oQ153, oQ154, oQ155, oQ156, oQ157, oQ158, oQ159, decide_true, exs_nil]
  clear x4 x5 x6 x7 e4 e6 x37
  have c1 := po.c1; have c4 := po.c4
  (try dsimp only); rw [exs_cons]; simp only [ex, ev, evs, evO, evI, evT, evTs, cmpQ, List.getElem?_cons_zero, List.getElem?_cons_succ, List.set_cons_zero, List.set_cons_succ, Option.some.injEq, exists_eq_left', exists_eq_left, exists_eq_right, exists_eq, exists_eq', dwipe, exists_eq_right', D.int.injEq, D.str.injEq, D.bl.injEq, D.tup.injEq, D.ref.injEq, D.rol.injEq, GO.lst.injEq, GO.ins.injEq, GO.dK.injEq, GO.dT.injEq, List.cons.injEq, tgLen, List.length_cons, List.length_nil, List.length_map, List.map_cons, List.map_nil, List.replicate_succ, List.replicate_zero, List.nil_append, List.cons_append, true_and, and_true, if_true, Bool.not_true, Bool.not_false, Bool.false_eq_true, if_false, gup_same, reduceCtorEq, false_and, and_false, exists_false, exists_const, inst_i, inst_b, inst_s, inst_t, atI_0, atI_1, atI_2, atI_3, atI_4, eqNN_nat, ix41, ix42, ix43, gup_gup, and_assoc, exists_and_left, oQ0, oQ1, oQ2, oQ3, oQ4, oQ5, oQ6, oQ7, oQ8, oQ9, oQ10, oQ11, oQ12, oQ13, oQ14, oQ15, oQ16, oQ17, oQ18, oQ19, oQ20, oQ21, oQ22, oQ23, oQ24, oQ25, oQ26, oQ27, oQ28, oQ29, oQ30, oQ31, oQ32, oQ33, oQ34, oQ35, oQ36, oQ37, oQ38, oQ39, oQ40, oQ41, oQ42, oQ43, oQ44, oQ45, oQ46, oQ47, oQ48, oQ49, oQ50, oQ51, oQ52, oQ53, oQ54, oQ55, oQ56, oQ57, oQ58, oQ59, oQ60, oQ61, oQ62, oQ63, oQ64, oQ65, oQ66, oQ67, oQ68, oQ69, oQ70, oQ71, oQ72, oQ73, oQ74, oQ75, oQ76, oQ77, oQ78, oQ79, oQ80, oQ81, oQ82, oQ83, oQ84, oQ85, oQ86, oQ87, oQ88, oQ89, oQ90, oQ91, oQ92, oQ93, oQ94, oQ95, oQ96, oQ97, oQ98, oQ99, oQ100, oQ101, oQ102, oQ103, oQ104, oQ105, oQ106, oQ107, oQ108, oQ109, oQ110, oQ111, oQ112, oQ113, oQ114, oQ115, oQ116, oQ117, oQ118, oQ119, oQ120, oQ121, oQ122, oQ123, oQ124, oQ125, oQ126, oQ127, oQ128, oQ129, oQ130, oQ131, oQ132, oQ133, oQ134, oQ135, oQ136, oQ137, oQ138, oQ139, oQ140, oQ141, oQ142, oQ143, oQ144, oQ145, oQ146, oQ147, oQ148, oQ149, oQ150, oQ151, oQ152, oQ153, oQ154, oQ155, oQ156, oQ157, oQ158, oQ159]
  (try dsimp only); rw [exs_cons]; simp only [ex, ev, evs, evO, evI, evT, evTs, cmpQ, List.getElem?_cons_zero, List.getElem?_cons_succ, List.set_cons_zero, List.set_cons_succ, Option.some.injEq, exists_eq_left', exists_eq_left, exists_eq_right, exists_eq, exists_eq', dwipe, exists_eq_right', D.int.injEq, D.str.injEq, D.bl.injEq, D.tup.injEq, D.ref.injEq, D.rol.injEq, GO.lst.injEq, GO.ins.injEq, GO.dK.injEq, GO.dT.injEq, List.cons.injEq, tgLen, List.length_cons, List.length_nil, List.length_map, List.map_cons, List.map_nil, List.replicate_succ, List.replicate_zero, List.nil_append, List.cons_append, true_and, and_true, if_true, Bool.not_true, Bool.not_false, Bool.false_eq_true, if_false, gup_same, reduceCtorEq, false_and, and_false, exists_false, exists_const, inst_i, inst_b, inst_s, inst_t, atI_0, atI_1, atI_2, atI_3, atI_4, eqNN_nat, ix41, ix42, ix43, gup_gup, and_assoc, exists_and_left, oQ0, oQ1, oQ2, oQ3, oQ4, oQ5, oQ6, oQ7, oQ8, oQ9, oQ10, oQ11, oQ12, oQ13, oQ14, oQ15, oQ16, oQ17, oQ18, oQ19, oQ20, oQ21, oQ22, oQ23, oQ24, oQ25, oQ26, oQ27, oQ28, oQ29, oQ30, oQ31, oQ32, oQ33, oQ34, oQ35, oQ36, oQ37, oQ38, oQ39, oQ40, oQ41, oQ42, oQ43, oQ44, oQ45, oQ46, oQ47, oQ48, oQ49, oQ50, oQ51, oQ52, oQ53, oQ54, oQ55, oQ56, oQ57, oQ58, oQ59, oQ60, oQ61, oQ62, oQ63, oQ64, oQ65, oQ66, oQ67, oQ68, oQ69, oQ70, oQ71, oQ72, oQ73, oQ74, oQ75, oQ76, oQ77, oQ78, oQ79, oQ80, oQ81, oQ82, oQ83, oQ84, oQ85, oQ86, oQ87, oQ88, oQ89, oQ90, oQ91, oQ92, oQ93, oQ94, oQ95, oQ96, oQ97, oQ98, oQ99, oQ100, oQ101, oQ102, oQ103, oQ104, oQ105, oQ106, oQ107, oQ108, oQ109, oQ110, oQ111, oQ112, oQ113, oQ114, oQ115, oQ116, oQ117, oQ118, oQ119, oQ120, oQ121, oQ122, oQ123, oQ124, oQ125, oQ126, oQ127, oQ128, oQ129, oQ130, oQ131, oQ132, oQ133, oQ134, oQ135, oQ136, oQ137, oQ138, oQ139, oQ140, oQ141, oQ142, oQ143, oQ144, oQ145, oQ146, oQ147, oQ148, oQ149, oQ150, oQ151, oQ152, oQ153, oQ154, oQ155, oQ156, oQ157, oQ158, oQ159]
  refine ⟨by omega, by omega, ?_⟩
  have clen : ∀ n : Int, (cellsL n).length = n.toNat := fun n => by simp [cellsL]
  refine forL_of (fun i σ G' => Ext G7 G' ∧ ∃ f8 f9, σ = [some S.sd, some (.ref r), some p.d, some (.tup (rs.map D.int)), none, some (.ref b), some (.int 30), f8, f9, none, none, none, none, none, none, none, none]) ⟨Ext.refl _, _, _, rfl⟩ ?_ ?_
  · rintro i d σ G8 hd ⟨x8, f8, f9, rfl⟩ K hK
    refine ⟨trivial, ?_⟩
    obtain ⟨hi, rfl⟩ := rangeL_get hd
    simp only [exs, ex, ev, evs, evO, evI, evT, evTs, cmpQ, List.getElem?_cons_zero, List.getElem?_cons_succ, List.set_cons_zero, List.set_cons_succ, Option.some.injEq, exists_eq_left', exists_eq_left, exists_eq_right, exists_eq, exists_eq', dwipe, exists_eq_right', D.int.injEq, D.str.injEq, D.bl.injEq, D.tup.injEq, D.ref.injEq, D.rol.injEq, GO.lst.injEq, GO.ins.injEq, GO.dK.injEq, GO.dT.injEq, List.cons.injEq, tgLen, List.length_cons, List.length_nil, List.length_map, List.map_cons, List.map_nil, List.replicate_succ, List.replicate_zero, List.nil_append, List.cons_append, true_and, and_true, if_true, Bool.not_true, Bool.not_false, Bool.false_eq_true, if_false, gup_same, reduceCtorEq, false_and, and_false, exists_false, exists_const, inst_i, inst_b, inst_s, inst_t, atI_0, atI_1, atI_2, atI_3, atI_4, eqNN_nat, ix41, ix42, ix43, gup_gup, and_assoc, exists_and_left, oQ0, oQ1, oQ2, oQ3, oQ4, oQ5, oQ6, oQ7, oQ8, oQ9, oQ10, oQ11, oQ12, oQ13, oQ14, oQ15, oQ16, oQ17, oQ18, oQ19, oQ20, oQ21, oQ22, oQ23, oQ24, oQ25, oQ26, oQ27, oQ28, oQ29, oQ30, oQ31, oQ32, oQ33, oQ34, oQ35, oQ36, oQ37, oQ38, oQ39, oQ40, oQ41, oQ42, oQ43, oQ44, oQ45, oQ46, oQ47, oQ48, oQ49, oQ50, oQ51, oQ52, oQ53, oQ54, oQ55, oQ56, oQ57, oQ58, oQ59, oQ60, oQ61, oQ62, oQ63, oQ64, oQ65, oQ66, oQ67, oQ68, oQ69, oQ70, oQ71, oQ72, oQ73, oQ74, oQ75, oQ76, oQ77, oQ78, oQ79, oQ80, oQ81, oQ82, oQ83, oQ84, oQ85, oQ86, oQ87, oQ88, oQ89, oQ90, oQ91, oQ92, oQ93, oQ94, oQ95, oQ96, oQ97, oQ98, oQ99, oQ100, oQ101, oQ102, oQ103, oQ104, oQ105, oQ106, oQ107, oQ108, oQ109, oQ110, oQ111, oQ112, oQ113, oQ114, oQ115, oQ116, oQ117, oQ118, oQ119, oQ120, oQ121, oQ122, oQ123, oQ124, oQ125, oQ126, oQ127, oQ128, oQ129, oQ130, oQ131, oQ132, oQ133, oQ134, oQ135, oQ136, oQ137, oQ138, oQ139, oQ140, oQ141, oQ142, oQ143, oQ144, oQ145, oQ146, oQ147, oQ148, oQ149, oQ150, oQ151, oQ152, oQ153, oQ154, oQ155, oQ156, oQ157, oQ158, oQ159, h7, h8, h5]
    refine ⟨by omega, by omega, fun c hc => ?_⟩
    refine join_comp (fun t => seenS p (ticksL 0 rs) i t) (fun j => seenS_len po _ _ _) hc (by omega) (by omega) ?_ ?_
    · intro j G9 K' j0 j1 x9 hK'
      try simp only [exs, ex, ev, evs, evO, evI, evT, evTs, cmpQ, List.getElem?_cons_zero, List.getElem?_cons_succ, List.set_cons_zero, List.set_cons_succ, Option.some.injEq, exists_eq_left', exists_eq_left, exists_eq_right, exists_eq, exists_eq', dwipe, exists_eq_right', D.int.injEq, D.str.injEq, D.bl.injEq, D.tup.injEq, D.ref.injEq, D.rol.injEq, GO.lst.injEq, GO.ins.injEq, GO.dK.injEq, GO.dT.injEq, List.cons.injEq, tgLen, List.length_cons, List.length_nil, List.length_map, List.map_cons, List.map_nil, List.replicate_succ, List.replicate_zero, List.nil_append, List.cons_append, true_and, and_true, if_true, Bool.not_true, Bool.not_false, Bool.false_eq_true, if_false, gup_same, reduceCtorEq, false_and, and_false, exists_false, exists_const, inst_i, inst_b, inst_s, inst_t, atI_0, atI_1, atI_2, atI_3, atI_4, eqNN_nat, ix41, ix42, ix43, gup_gup, and_assoc, exists_and_left, oQ0, oQ1, oQ2, oQ3, oQ4, oQ5, oQ6, oQ7, oQ8, oQ9, oQ10, oQ11, oQ12, oQ13, oQ14, oQ15, oQ16, oQ17, oQ18, oQ19, oQ20, oQ21, oQ22, oQ23, oQ24, oQ25, oQ26, oQ27, oQ28, oQ29, oQ30, oQ31, oQ32, oQ33, oQ34, oQ35, oQ36, oQ37, oQ38, oQ39, oQ40, oQ41, oQ42, oQ43, oQ44, oQ45, oQ46, oQ47, oQ48, oQ49, oQ50, oQ51, oQ52, oQ53, oQ54, oQ55, oQ56, oQ57, oQ58, oQ59, oQ60, oQ61, oQ62, oQ63, oQ64, oQ65, oQ66, oQ67, oQ68, oQ69, oQ70, oQ71, oQ72, oQ73, oQ74, oQ75, oQ76, oQ77, oQ78, oQ79, oQ80, oQ81, oQ82, oQ83, oQ84, oQ85, oQ86, oQ87, oQ88, oQ89, oQ90, oQ91, oQ92, oQ93, oQ94, oQ95, oQ96, oQ97, oQ98, oQ99, oQ100, oQ101, oQ102, oQ103, oQ104, oQ105, oQ106, oQ107, oQ108, oQ109, oQ110, oQ111, oQ112, oQ113, oQ114, oQ115, oQ116, oQ117, oQ118, oQ119, oQ120, oQ121, oQ122, oQ123, oQ124, oQ125, oQ126, oQ127, oQ128, oQ129, oQ130, oQ131, oQ132, oQ133, oQ134, oQ135, oQ136, oQ137, oQ138, oQ139, oQ140, oQ141, oQ142, oQ143, oQ144, oQ145, oQ146, oQ147, oQ148, oQ149, oQ150, oQ151, oQ152, oQ153, oQ154, oQ155, oQ156, oQ157, oQ158, oQ159]
      exact ⟨p, .ref b, ticksL 0 rs, i, j, rfl, po, .inr ⟨b, rfl, x9 _ _ (x8 _ _ e7)⟩, hK' G9 (Ext.refl _)⟩
    · intro G9 x9 e9 hsum
      refine ⟨_, e9, hsum, ?_⟩
      try simp only [exs, ex, ev, evs, evO, evI, evT, evTs, cmpQ, List.getElem?_cons_zero, List.getElem?_cons_succ, List.set_cons_zero, List.set_cons_succ, Option.some.injEq, exists_eq_left', exists_eq_left, exists_eq_right, exists_eq, exists_eq', dwipe, exists_eq_right', D.int.injEq, D.str.injEq, D.bl.injEq, D.tup.injEq, D.ref.injEq, D.rol.injEq, GO.lst.injEq, GO.ins.injEq, GO.dK.injEq, GO.dT.injEq, List.cons.injEq, tgLen, List.length_cons, List.length_nil, List.length_map, List.map_cons, List.map_nil, List.replicate_succ, List.replicate_zero, List.nil_append, List.cons_append, true_and, and_true, if_true, Bool.not_true, Bool.not_false, Bool.false_eq_true, if_false, gup_same, reduceCtorEq, false_and, and_false, exists_false, exists_const, inst_i, inst_b, inst_s, inst_t, atI_0, atI_1, atI_2, atI_3, atI_4, eqNN_nat, ix41, ix42, ix43, gup_gup, and_assoc, exists_and_left, oQ0, oQ1, oQ2, oQ3, oQ4, oQ5, oQ6, oQ7, oQ8, oQ9, oQ10, oQ11, oQ12, oQ13, oQ14, oQ15, oQ16, oQ17, oQ18, oQ19, oQ20, oQ21, oQ22, oQ23, oQ24, oQ25, oQ26, oQ27, oQ28, oQ29, oQ30, oQ31, oQ32, oQ33, oQ34, oQ35, oQ36, oQ37, oQ38, oQ39, oQ40, oQ41, oQ42, oQ43, oQ44, oQ45, oQ46, oQ47, oQ48, oQ49, oQ50, oQ51, oQ52, oQ53, oQ54, oQ55, oQ56, oQ57, oQ58, oQ59, oQ60, oQ61, oQ62, oQ63, oQ64, oQ65, oQ66, oQ67, oQ68, oQ69, oQ70, oQ71, oQ72, oQ73, oQ74, oQ75, oQ76, oQ77, oQ78, oQ79, oQ80, oQ81, oQ82, oQ83, oQ84, oQ85, oQ86, oQ87, oQ88, oQ89, oQ90, oQ91, oQ92, oQ93, oQ94, oQ95, oQ96, oQ97, oQ98, oQ99, oQ100, oQ101, oQ102, oQ103, oQ104, oQ105, oQ106, oQ107, oQ108, oQ109, oQ110, oQ111, oQ112, oQ113, oQ114, oQ115, oQ116, oQ117, oQ118, oQ119, oQ120, oQ121, oQ122, oQ123, oQ124, oQ125, oQ126, oQ127, oQ128, oQ129, oQ130, oQ131, oQ132, oQ133, oQ134, oQ135, oQ136, oQ137, oQ138, oQ139, oQ140, oQ141, oQ142, oQ143, oQ144, oQ145, oQ146, oQ147, oQ148, oQ149, oQ150, oQ151, oQ152, oQ153, oQ154, oQ155, oQ156, oQ157, oQ158, oQ159]
      refine story_ok po ro (by omega) (by omega) (by omega) (by omega) fun G10 x10 => ?_
      have es : storyS p (ticksL 0 rs) i 30 = Txt.join (Str.ofString "") ((cellsL (30 + 1)).map fun t => seenS p (ticksL 0 rs) i t) := rfl
      rw [es]
      refine alike_str fun G11 x11 => ?_
      simp only [exs, ex, ev, evs, evO, evI, evT, evTs, cmpQ, List.getElem?_cons_zero, List.getElem?_cons_succ, List.set_cons_zero, List.set_cons_succ, Option.some.injEq, exists_eq_left', exists_eq_left, exists_eq_right, exists_eq, exists_eq', dwipe, exists_eq_right', D.int.injEq, D.str.injEq, D.bl.injEq, D.tup.injEq, D.ref.injEq, D.rol.injEq, GO.lst.injEq, GO.ins.injEq, GO.dK.injEq, GO.dT.injEq, List.cons.injEq, tgLen, List.length_cons, List.length_nil, List.length_map, List.map_cons, List.map_nil, List.replicate_succ, List.replicate_zero, List.nil_append, List.cons_append, true_and, and_true, if_true, Bool.not_true, Bool.not_false, Bool.false_eq_true, if_false, gup_same, reduceCtorEq, false_and, and_false, exists_false, exists_const, inst_i, inst_b, inst_s, inst_t, atI_0, atI_1, atI_2, atI_3, atI_4, eqNN_nat, ix41, ix42, ix43, gup_gup, and_assoc, exists_and_left, oQ0, oQ1, oQ2, oQ3, oQ4, oQ5, oQ6, oQ7, oQ8, oQ9, oQ10, oQ11, oQ12, oQ13, oQ14, oQ15, oQ16, oQ17, oQ18, oQ19, oQ20, oQ21, oQ22, oQ23, oQ24, oQ25, oQ26, oQ27, oQ28, oQ29, oQ30, oQ31, oQ32, oQ33, oQ34, oQ35, oQ36, oQ37, oQ38, oQ39, oQ40, oQ41, oQ42, oQ43, oQ44, oQ45, oQ46, oQ47, oQ48, oQ49, oQ50, oQ51, oQ52, oQ53, oQ54, oQ55, oQ56, oQ57, oQ58, oQ59, oQ60, oQ61, oQ62, oQ63, oQ64, oQ65, oQ66, oQ67, oQ68, oQ69, oQ70, oQ71, oQ72, oQ73, oQ74, oQ75, oQ76, oQ77, oQ78, oQ79, oQ80, oQ81, oQ82, oQ83, oQ84, oQ85, oQ86, oQ87, oQ88, oQ89, oQ90, oQ91, oQ92, oQ93, oQ94, oQ95, oQ96, oQ97, oQ98, oQ99, oQ100, oQ101, oQ102, oQ103, oQ104, oQ105, oQ106, oQ107, oQ108, oQ109, oQ110, oQ111, oQ112, oQ113, oQ114, oQ115, oQ116, oQ117, oQ118, oQ119, oQ120, oQ121, oQ122, oQ123, oQ124, oQ125, oQ126, oQ127, oQ128, oQ129, oQ130, oQ131, oQ132, oQ133, oQ134, oQ135, oQ136, oQ137, oQ138, oQ139, oQ140, oQ141, oQ142, oQ143, oQ144, oQ145, oQ146, oQ147, oQ148, oQ149, oQ150, oQ151, oQ152, oQ153, oQ154, oQ155, oQ156, oQ157, oQ158, oQ159]
      exact hK _ _ ⟨x8.trans (x9.trans (x10.trans x11)), _, _, rfl⟩
  rintro σ G8 ⟨x8, f8, f9, rfl⟩
  refine ⟨trivial, ?_⟩
  (try dsimp only); rw [exs_cons]; simp only [ex, ev, evs, evO, evI, evT, evTs, cmpQ, List.getElem?_cons_zero, List.getElem?_cons_succ, List.set_cons_zero, List.set_cons_succ, Option.some.injEq, exists_eq_left', exists_eq_left, exists_eq_right, exists_eq, exists_eq', dwipe, exists_eq_right', D.int.injEq, D.str.injEq, D.bl.injEq, D.tup.injEq, D.ref.injEq, D.rol.injEq, GO.lst.injEq, GO.ins.injEq, GO.dK.injEq, GO.dT.injEq, List.cons.injEq, tgLen, List.length_cons, List.length_nil, List.length_map, List.map_cons, List.map_nil, List.replicate_succ, List.replicate_zero, List.nil_append, List.cons_append, true_and, and_true, if_true, Bool.not_true, Bool.not_false, Bool.false_eq_true, if_false, gup_same, reduceCtorEq, false_and, and_false, exists_false, exists_const, inst_i, inst_b, inst_s, inst_t, atI_0, atI_1, atI_2, atI_3, atI_4, eqNN_nat, ix41, ix42, ix43, gup_gup, and_assoc, exists_and_left, oQ0, oQ1, oQ2, oQ3, oQ4, oQ5, oQ6, oQ7, oQ8, oQ9, oQ10, oQ11, oQ12, oQ13, oQ14, oQ15, oQ16, oQ17, oQ18, oQ19, oQ20, oQ21, oQ22, oQ23, oQ24, oQ25, oQ26, oQ27, oQ28, oQ29, oQ30, oQ31, oQ32, oQ33, oQ34, oQ35, oQ36, oQ37, oQ38, oQ39, oQ40, oQ41, oQ42, oQ43, oQ44, oQ45, oQ46, oQ47, oQ48, oQ49, oQ50, oQ51, oQ52, oQ53, oQ54, oQ55, oQ56, oQ57, oQ58, oQ59, oQ60, oQ61, oQ62, oQ63, oQ64, oQ65, oQ66, oQ67, oQ68, oQ69, oQ70, oQ71, oQ72, oQ73, oQ74, oQ75, oQ76, oQ77, oQ78, oQ79, oQ80, oQ81, oQ82, oQ83, oQ84, oQ85, oQ86, oQ87, oQ88, oQ89, oQ90, oQ91, oQ92, oQ93, oQ94, oQ95, oQ96, oQ97, oQ98, oQ99, oQ100, oQ101, oQ102, oQ103, oQ104, oQ105, oQ106, oQ107, oQ108, oQ109, oQ110, oQ111, oQ112, oQ113, oQ114, oQ115, oQ116, oQ117, oQ118, oQ119, oQ120, oQ121, oQ122, oQ123, oQ124, oQ125, oQ126, oQ127, oQ128, oQ129, oQ130, oQ131, oQ132, oQ133, oQ134, oQ135, oQ136, oQ137, oQ138, oQ139, oQ140, oQ141, oQ142, oQ143, oQ144, oQ145, oQ146, oQ147, oQ148, oQ149, oQ150, oQ151, oQ152, oQ153, oQ154, oQ155, oQ156, oQ157, oQ158, oQ159]
  refine ⟨by omega, by omega, ?_⟩
  have hr8 : Row G8 r S := hr7.ext x8
  have e8 := x8 _ _ e7
  clear x8
  refine forL_of (fun i σ G' => RowE r S G8 G' ∧ ∃ f7 f8 f9 f10, σ = [some S.sd, some (.ref r), some p.d, some (.tup (rs.map D.int)), none, some (.ref b), some (.int 30), f7, f8, f9, f10, none, none, none, none, none, none]) ⟨hr8.e (Ext.refl _), _, _, _, _, rfl⟩ ?_ ?_
  · rintro i d σ G9 hd ⟨x9, f7, f8, f9, f10, rfl⟩ K hK
    refine ⟨trivial, ?_⟩
    simp only [Pl.d, exs, ex, ev, evs, evO, evI, evT, evTs, cmpQ, List.getElem?_cons_zero, List.getElem?_cons_succ, List.set_cons_zero, List.set_cons_succ, Option.some.injEq, exists_eq_left', exists_eq_left, exists_eq_right, exists_eq, exists_eq', dwipe, exists_eq_right', D.int.injEq, D.str.injEq, D.bl.injEq, D.tup.injEq, D.ref.injEq, D.rol.injEq, GO.lst.injEq, GO.ins.injEq, GO.dK.injEq, GO.dT.injEq, List.cons.injEq, tgLen, List.length_cons, List.length_nil, List.length_map, List.map_cons, List.map_nil, List.replicate_succ, List.replicate_zero, List.nil_append, List.cons_append, true_and, and_true, if_true, Bool.not_true, Bool.not_false, Bool.false_eq_true, if_false, gup_same, reduceCtorEq, false_and, and_false, exists_false, exists_const, inst_i, inst_b, inst_s, inst_t, atI_0, atI_1, atI_2, atI_3, atI_4, eqNN_nat, ix41, ix42, ix43, gup_gup, and_assoc, exists_and_left, oQ0, oQ1, oQ2, oQ3, oQ4, oQ5, oQ6, oQ7, oQ8, oQ9, oQ10, oQ11, oQ12, oQ13, oQ14, oQ15, oQ16, oQ17, oQ18, oQ19, oQ20, oQ21, oQ22, oQ23, oQ24, oQ25, oQ26, oQ27, oQ28, oQ29, oQ30, oQ31, oQ32, oQ33, oQ34, oQ35, oQ36, oQ37, oQ38, oQ39, oQ40, oQ41, oQ42, oQ43, oQ44, oQ45, oQ46, oQ47, oQ48, oQ49, oQ50, oQ51, oQ52, oQ53, oQ54, oQ55, oQ56, oQ57, oQ58, oQ59, oQ60, oQ61, oQ62, oQ63, oQ64, oQ65, oQ66, oQ67, oQ68, oQ69, oQ70, oQ71, oQ72, oQ73, oQ74, oQ75, oQ76, oQ77, oQ78, oQ79, oQ80, oQ81, oQ82, oQ83, oQ84, oQ85, oQ86, oQ87, oQ88, oQ89, oQ90, oQ91, oQ92, oQ93, oQ94, oQ95, oQ96, oQ97, oQ98, oQ99, oQ100, oQ101, oQ102, oQ103, oQ104, oQ105, oQ106, oQ107, oQ108, oQ109, oQ110, oQ111, oQ112, oQ113, oQ114, oQ115, oQ116, oQ117, oQ118, oQ119, oQ120, oQ121, oQ122, oQ123, oQ124, oQ125, oQ126, oQ127, oQ128, oQ129, oQ130, oQ131, oQ132, oQ133, oQ134, oQ135, oQ136, oQ137, oQ138, oQ139, oQ140, oQ141, oQ142, oQ143, oQ144, oQ145, oQ146, oQ147, oQ148, oQ149, oQ150, oQ151, oQ152, oQ153, oQ154, oQ155, oQ156, oQ157, oQ158, oQ159, h1, h9, h7, h5, h10]
    refine ⟨r, S, 40, rfl, x9.row, by omega, by omega, fun t G10 t0 t1 x10 => ?_⟩
    try simp only [exs, ex, ev, evs, evO, evI, evT, evTs, cmpQ, List.getElem?_cons_zero, List.getElem?_cons_succ, List.set_cons_zero, List.set_cons_succ, Option.some.injEq, exists_eq_left', exists_eq_left, exists_eq_right, exists_eq, exists_eq', dwipe, exists_eq_right', D.int.injEq, D.str.injEq, D.bl.injEq, D.tup.injEq, D.ref.injEq, D.rol.injEq, GO.lst.injEq, GO.ins.injEq, GO.dK.injEq, GO.dT.injEq, List.cons.injEq, tgLen, List.length_cons, List.length_nil, List.length_map, List.map_cons, List.map_nil, List.replicate_succ, List.replicate_zero, List.nil_append, List.cons_append, true_and, and_true, if_true, Bool.not_true, Bool.not_false, Bool.false_eq_true, if_false, gup_same, reduceCtorEq, false_and, and_false, exists_false, exists_const, inst_i, inst_b, inst_s, inst_t, atI_0, atI_1, atI_2, atI_3, atI_4, eqNN_nat, ix41, ix42, ix43, gup_gup, and_assoc, exists_and_left, oQ0, oQ1, oQ2, oQ3, oQ4, oQ5, oQ6, oQ7, oQ8, oQ9, oQ10, oQ11, oQ12, oQ13, oQ14, oQ15, oQ16, oQ17, oQ18, oQ19, oQ20, oQ21, oQ22, oQ23, oQ24, oQ25, oQ26, oQ27, oQ28, oQ29, oQ30, oQ31, oQ32, oQ33, oQ34, oQ35, oQ36, oQ37, oQ38, oQ39, oQ40, oQ41, oQ42, oQ43, oQ44, oQ45, oQ46, oQ47, oQ48, oQ49, oQ50, oQ51, oQ52, oQ53, oQ54, oQ55, oQ56, oQ57, oQ58, oQ59, oQ60, oQ61, oQ62, oQ63, oQ64, oQ65, oQ66, oQ67, oQ68, oQ69, oQ70, oQ71, oQ72, oQ73, oQ74, oQ75, oQ76, oQ77, oQ78, oQ79, oQ80, oQ81, oQ82, oQ83, oQ84, oQ85, oQ86, oQ87, oQ88, oQ89, oQ90, oQ91, oQ92, oQ93, oQ94, oQ95, oQ96, oQ97, oQ98, oQ99, oQ100, oQ101, oQ102, oQ103, oQ104, oQ105, oQ106, oQ107, oQ108, oQ109, oQ110, oQ111, oQ112, oQ113, oQ114, oQ115, oQ116, oQ117, oQ118, oQ119, oQ120, oQ121, oQ122, oQ123, oQ124, oQ125, oQ126, oQ127, oQ128, oQ129, oQ130, oQ131, oQ132, oQ133, oQ134, oQ135, oQ136, oQ137, oQ138, oQ139, oQ140, oQ141, oQ142, oQ143, oQ144, oQ145, oQ146, oQ147, oQ148, oQ149, oQ150, oQ151, oQ152, oQ153, oQ154, oQ155, oQ156, oQ157, oQ158, oQ159]
    refine ⟨r, S, _, rfl, x10.row, by omega, by omega, fun c G11 c0 c1' x11 => ?_⟩
    try simp only [exs, ex, ev, evs, evO, evI, evT, evTs, cmpQ, List.getElem?_cons_zero, List.getElem?_cons_succ, List.set_cons_zero, List.set_cons_succ, Option.some.injEq, exists_eq_left', exists_eq_left, exists_eq_right, exists_eq, exists_eq', dwipe, exists_eq_right', D.int.injEq, D.str.injEq, D.bl.injEq, D.tup.injEq, D.ref.injEq, D.rol.injEq, GO.lst.injEq, GO.ins.injEq, GO.dK.injEq, GO.dT.injEq, List.cons.injEq, tgLen, List.length_cons, List.length_nil, List.length_map, List.map_cons, List.map_nil, List.replicate_succ, List.replicate_zero, List.nil_append, List.cons_append, true_and, and_true, if_true, Bool.not_true, Bool.not_false, Bool.false_eq_true, if_false, gup_same, reduceCtorEq, false_and, and_false, exists_false, exists_const, inst_i, inst_b, inst_s, inst_t, atI_0, atI_1, atI_2, atI_3, atI_4, eqNN_nat, ix41, ix42, ix43, gup_gup, and_assoc, exists_and_left, oQ0, oQ1, oQ2, oQ3, oQ4, oQ5, oQ6, oQ7, oQ8, oQ9, oQ10, oQ11, oQ12, oQ13, oQ14, oQ15, oQ16, oQ17, oQ18, oQ19, oQ20, oQ21, oQ22, oQ23, oQ24, oQ25, oQ26, oQ27, oQ28, oQ29, oQ30, oQ31, oQ32, oQ33, oQ34, oQ35, oQ36, oQ37, oQ38, oQ39, oQ40, oQ41, oQ42, oQ43, oQ44, oQ45, oQ46, oQ47, oQ48, oQ49, oQ50, oQ51, oQ52, oQ53, oQ54, oQ55, oQ56, oQ57, oQ58, oQ59, oQ60, oQ61, oQ62, oQ63, oQ64, oQ65, oQ66, oQ67, oQ68, oQ69, oQ70, oQ71, oQ72, oQ73, oQ74, oQ75, oQ76, oQ77, oQ78, oQ79, oQ80, oQ81, oQ82, oQ83, oQ84, oQ85, oQ86, oQ87, oQ88, oQ89, oQ90, oQ91, oQ92, oQ93, oQ94, oQ95, oQ96, oQ97, oQ98, oQ99, oQ100, oQ101, oQ102, oQ103, oQ104, oQ105, oQ106, oQ107, oQ108, oQ109, oQ110, oQ111, oQ112, oQ113, oQ114, oQ115, oQ116, oQ117, oQ118, oQ119, oQ120, oQ121, oQ122, oQ123, oQ124, oQ125, oQ126, oQ127, oQ128, oQ129, oQ130, oQ131, oQ132, oQ133, oQ134, oQ135, oQ136, oQ137, oQ138, oQ139, oQ140, oQ141, oQ142, oQ143, oQ144, oQ145, oQ146, oQ147, oQ148, oQ149, oQ150, oQ151, oQ152, oQ153, oQ154, oQ155, oQ156, oQ157, oQ158, oQ159]
    have e11 : G11 b = some (.lst ((ticksL 0 rs).map D.int)) := x11.ext _ _ nb (x10.ext _ _ nb (x9.ext _ _ nb e8))
    refine seen_ok po ro c0 c1' t0 (by omega) fun G12 x12 => ?_
    refine ⟨p, .ref b, ticksL 0 rs, c, t, rfl, po, .inr ⟨b, rfl, x12 _ _ e11⟩, ?_⟩
    refine alike_str fun G13 x13 => ?_
    try simp only [exs, ex, ev, evs, evO, evI, evT, evTs, cmpQ, List.getElem?_cons_zero, List.getElem?_cons_succ, List.set_cons_zero, List.set_cons_succ, Option.some.injEq, exists_eq_left', exists_eq_left, exists_eq_right, exists_eq, exists_eq', dwipe, exists_eq_right', D.int.injEq, D.str.injEq, D.bl.injEq, D.tup.injEq, D.ref.injEq, D.rol.injEq, GO.lst.injEq, GO.ins.injEq, GO.dK.injEq, GO.dT.injEq, List.cons.injEq, tgLen, List.length_cons, List.length_nil, List.length_map, List.map_cons, List.map_nil, List.replicate_succ, List.replicate_zero, List.nil_append, List.cons_append, true_and, and_true, if_true, Bool.not_true, Bool.not_false, Bool.false_eq_true, if_false, gup_same, reduceCtorEq, false_and, and_false, exists_false, exists_const, inst_i, inst_b, inst_s, inst_t, atI_0, atI_1, atI_2, atI_3, atI_4, eqNN_nat, ix41, ix42, ix43, gup_gup, and_assoc, exists_and_left, oQ0, oQ1, oQ2, oQ3, oQ4, oQ5, oQ6, oQ7, oQ8, oQ9, oQ10, oQ11, oQ12, oQ13, oQ14, oQ15, oQ16, oQ17, oQ18, oQ19, oQ20, oQ21, oQ22, oQ23, oQ24, oQ25, oQ26, oQ27, oQ28, oQ29, oQ30, oQ31, oQ32, oQ33, oQ34, oQ35, oQ36, oQ37, oQ38, oQ39, oQ40, oQ41, oQ42, oQ43, oQ44, oQ45, oQ46, oQ47, oQ48, oQ49, oQ50, oQ51, oQ52, oQ53, oQ54, oQ55, oQ56, oQ57, oQ58, oQ59, oQ60, oQ61, oQ62, oQ63, oQ64, oQ65, oQ66, oQ67, oQ68, oQ69, oQ70, oQ71, oQ72, oQ73, oQ74, oQ75, oQ76, oQ77, oQ78, oQ79, oQ80, oQ81, oQ82, oQ83, oQ84, oQ85, oQ86, oQ87, oQ88, oQ89, oQ90, oQ91, oQ92, oQ93, oQ94, oQ95, oQ96, oQ97, oQ98, oQ99, oQ100, oQ101, oQ102, oQ103, oQ104, oQ105, oQ106, oQ107, oQ108, oQ109, oQ110, oQ111, oQ112, oQ113, oQ114, oQ115, oQ116, oQ117, oQ118, oQ119, oQ120, oQ121, oQ122, oQ123, oQ124, oQ125, oQ126, oQ127, oQ128, oQ129, oQ130, oQ131, oQ132, oQ133, oQ134, oQ135, oQ136, oQ137, oQ138, oQ139, oQ140, oQ141, oQ142, oQ143, oQ144, oQ145, oQ146, oQ147, oQ148, oQ149, oQ150, oQ151, oQ152, oQ153, oQ154, oQ155, oQ156, oQ157, oQ158, oQ159]
    refine board_ok po ro t0 (by omega) fun G14 x14 => ?_
    try simp only [exs, ex, ev, evs, evO, evI, evT, evTs, cmpQ, List.getElem?_cons_zero, List.getElem?_cons_succ, List.set_cons_zero, List.set_cons_succ, Option.some.injEq, exists_eq_left', exists_eq_left, exists_eq_right, exists_eq, exists_eq', dwipe, exists_eq_right', D.int.injEq, D.str.injEq, D.bl.injEq, D.tup.injEq, D.ref.injEq, D.rol.injEq, GO.lst.injEq, GO.ins.injEq, GO.dK.injEq, GO.dT.injEq, List.cons.injEq, tgLen, List.length_cons, List.length_nil, List.length_map, List.map_cons, List.map_nil, List.replicate_succ, List.replicate_zero, List.nil_append, List.cons_append, true_and, and_true, if_true, Bool.not_true, Bool.not_false, Bool.false_eq_true, if_false, gup_same, reduceCtorEq, false_and, and_false, exists_false, exists_const, inst_i, inst_b, inst_s, inst_t, atI_0, atI_1, atI_2, atI_3, atI_4, eqNN_nat, ix41, ix42, ix43, gup_gup, and_assoc, exists_and_left, oQ0, oQ1, oQ2, oQ3, oQ4, oQ5, oQ6, oQ7, oQ8, oQ9, oQ10, oQ11, oQ12, oQ13, oQ14, oQ15, oQ16, oQ17, oQ18, oQ19, oQ20, oQ21, oQ22, oQ23, oQ24, oQ25, oQ26, oQ27, oQ28, oQ29, oQ30, oQ31, oQ32, oQ33, oQ34, oQ35, oQ36, oQ37, oQ38, oQ39, oQ40, oQ41, oQ42, oQ43, oQ44, oQ45, oQ46, oQ47, oQ48, oQ49, oQ50, oQ51, oQ52, oQ53, oQ54, oQ55, oQ56, oQ57, oQ58, oQ59, oQ60, oQ61, oQ62, oQ63, oQ64, oQ65, oQ66, oQ67, oQ68, oQ69, oQ70, oQ71, oQ72, oQ73, oQ74, oQ75, oQ76, oQ77, oQ78, oQ79, oQ80, oQ81, oQ82, oQ83, oQ84, oQ85, oQ86, oQ87, oQ88, oQ89, oQ90, oQ91, oQ92, oQ93, oQ94, oQ95, oQ96, oQ97, oQ98, oQ99, oQ100, oQ101, oQ102, oQ103, oQ104, oQ105, oQ106, oQ107, oQ108, oQ109, oQ110, oQ111, oQ112, oQ113, oQ114, oQ115, oQ116, oQ117, oQ118, oQ119, oQ120, oQ121, oQ122, oQ123, oQ124, oQ125, oQ126, oQ127, oQ128, oQ129, oQ130, oQ131, oQ132, oQ133, oQ134, oQ135, oQ136, oQ137, oQ138, oQ139, oQ140, oQ141, oQ142, oQ143, oQ144, oQ145, oQ146, oQ147, oQ148, oQ149, oQ150, oQ151, oQ152, oQ153, oQ154, oQ155, oQ156, oQ157, oQ158, oQ159]
    refine ⟨by omega, by omega, fun l hl => ?_⟩
    refine join_comp (fun c => seenS p (ticksL 0 rs) c t) (fun j => seenS_len po _ _ _) hl (by omega) (by omega) ?_ ?_
    · intro j G15 K' j0 j1 x15 hK'
      simp only [exs, ex, ev, evs, evO, evI, evT, evTs, cmpQ, List.getElem?_cons_zero, List.getElem?_cons_succ, List.set_cons_zero, List.set_cons_succ, Option.some.injEq, exists_eq_left', exists_eq_left, exists_eq_right, exists_eq, exists_eq', dwipe, exists_eq_right', D.int.injEq, D.str.injEq, D.bl.injEq, D.tup.injEq, D.ref.injEq, D.rol.injEq, GO.lst.injEq, GO.ins.injEq, GO.dK.injEq, GO.dT.injEq, List.cons.injEq, tgLen, List.length_cons, List.length_nil, List.length_map, List.map_cons, List.map_nil, List.replicate_succ, List.replicate_zero, List.nil_append, List.cons_append, true_and, and_true, if_true, Bool.not_true, Bool.not_false, Bool.false_eq_true, if_false, gup_same, reduceCtorEq, false_and, and_false, exists_false, exists_const, inst_i, inst_b, inst_s, inst_t, atI_0, atI_1, atI_2, atI_3, atI_4, eqNN_nat, ix41, ix42, ix43, gup_gup, and_assoc, exists_and_left, oQ0, oQ1, oQ2, oQ3, oQ4, oQ5, oQ6, oQ7, oQ8, oQ9, oQ10, oQ11, oQ12, oQ13, oQ14, oQ15, oQ16, oQ17, oQ18, oQ19, oQ20, oQ21, oQ22, oQ23, oQ24, oQ25, oQ26, oQ27, oQ28, oQ29, oQ30, oQ31, oQ32, oQ33, oQ34, oQ35, oQ36, oQ37, oQ38, oQ39, oQ40, oQ41, oQ42, oQ43, oQ44, oQ45, oQ46, oQ47, oQ48, oQ49, oQ50, oQ51, oQ52, oQ53, oQ54, oQ55, oQ56, oQ57, oQ58, oQ59, oQ60, oQ61, oQ62, oQ63, oQ64, oQ65, oQ66, oQ67, oQ68, oQ69, oQ70, oQ71, oQ72, oQ73, oQ74, oQ75, oQ76, oQ77, oQ78, oQ79, oQ80, oQ81, oQ82, oQ83, oQ84, oQ85, oQ86, oQ87, oQ88, oQ89, oQ90, oQ91, oQ92, oQ93, oQ94, oQ95, oQ96, oQ97, oQ98, oQ99, oQ100, oQ101, oQ102, oQ103, oQ104, oQ105, oQ106, oQ107, oQ108, oQ109, oQ110, oQ111, oQ112, oQ113, oQ114, oQ115, oQ116, oQ117, oQ118, oQ119, oQ120, oQ121, oQ122, oQ123, oQ124, oQ125, oQ126, oQ127, oQ128, oQ129, oQ130, oQ131, oQ132, oQ133, oQ134, oQ135, oQ136, oQ137, oQ138, oQ139, oQ140, oQ141, oQ142, oQ143, oQ144, oQ145, oQ146, oQ147, oQ148, oQ149, oQ150, oQ151, oQ152, oQ153, oQ154, oQ155, oQ156, oQ157, oQ158, oQ159]
      exact ⟨p, .ref b, ticksL 0 rs, j, t, rfl, po, .inr ⟨b, rfl, x15 _ _ (x14 _ _ (x13 _ _ (x12 _ _ e11)))⟩, hK' G15 (Ext.refl _)⟩
    · intro G15 x15 e15 hsum
      refine ⟨_, e15, hsum, ?_⟩
      have es : boardS p (ticksL 0 rs) t = Txt.join (Str.ofString "") ((cellsL p.cells).map fun c => seenS p (ticksL 0 rs) c t) := rfl
      rw [es]
      refine alike_str fun G16 x16 => ?_
      simp only [exs, ex, ev, evs, evO, evI, evT, evTs, cmpQ, List.getElem?_cons_zero, List.getElem?_cons_succ, List.set_cons_zero, List.set_cons_succ, Option.some.injEq, exists_eq_left', exists_eq_left, exists_eq_right, exists_eq, exists_eq', dwipe, exists_eq_right', D.int.injEq, D.str.injEq, D.bl.injEq, D.tup.injEq, D.ref.injEq, D.rol.injEq, GO.lst.injEq, GO.ins.injEq, GO.dK.injEq, GO.dT.injEq, List.cons.injEq, tgLen, List.length_cons, List.length_nil, List.length_map, List.map_cons, List.map_nil, List.replicate_succ, List.replicate_zero, List.nil_append, List.cons_append, true_and, and_true, if_true, Bool.not_true, Bool.not_false, Bool.false_eq_true, if_false, gup_same, reduceCtorEq, false_and, and_false, exists_false, exists_const, inst_i, inst_b, inst_s, inst_t, atI_0, atI_1, atI_2, atI_3, atI_4, eqNN_nat, ix41, ix42, ix43, gup_gup, and_assoc, exists_and_left, oQ0, oQ1, oQ2, oQ3, oQ4, oQ5, oQ6, oQ7, oQ8, oQ9, oQ10, oQ11, oQ12, oQ13, oQ14, oQ15, oQ16, oQ17, oQ18, oQ19, oQ20, oQ21, oQ22, oQ23, oQ24, oQ25, oQ26, oQ27, oQ28, oQ29, oQ30, oQ31, oQ32, oQ33, oQ34, oQ35, oQ36, oQ37, oQ38, oQ39, oQ40, oQ41, oQ42, oQ43, oQ44, oQ45, oQ46, oQ47, oQ48, oQ49, oQ50, oQ51, oQ52, oQ53, oQ54, oQ55, oQ56, oQ57, oQ58, oQ59, oQ60, oQ61, oQ62, oQ63, oQ64, oQ65, oQ66, oQ67, oQ68, oQ69, oQ70, oQ71, oQ72, oQ73, oQ74, oQ75, oQ76, oQ77, oQ78, oQ79, oQ80, oQ81, oQ82, oQ83, oQ84, oQ85, oQ86, oQ87, oQ88, oQ89, oQ90, oQ91, oQ92, oQ93, oQ94, oQ95, oQ96, oQ97, oQ98, oQ99, oQ100, oQ101, oQ102, oQ103, oQ104, oQ105, oQ106, oQ107, oQ108, oQ109, oQ110, oQ111, oQ112, oQ113, oQ114, oQ115, oQ116, oQ117, oQ118, oQ119, oQ120, oQ121, oQ122, oQ123, oQ124, oQ125, oQ126, oQ127, oQ128, oQ129, oQ130, oQ131, oQ132, oQ133, oQ134, oQ135, oQ136, oQ137, oQ138, oQ139, oQ140, oQ141, oQ142, oQ143, oQ144, oQ145, oQ146, oQ147, oQ148, oQ149, oQ150, oQ151, oQ152, oQ153, oQ154, oQ155, oQ156, oQ157, oQ158, oQ159]
      have xx := x12.trans (x13.trans (x14.trans (x15.trans x16)))
      exact hK _ _ ⟨x9.trans (x10.trans (x11.trans (x11.row.e xx))), _, _, _, _, rfl⟩
  rintro σ G9 ⟨x9, f7, f8, f9, f10, rfl⟩
  refine ⟨trivial, ?_⟩
  (try dsimp only); rw [exs_cons]; simp only [Pl.d, ex, ev, evs, evO, evI, evT, evTs, cmpQ, List.getElem?_cons_zero, List.getElem?_cons_succ, List.set_cons_zero, List.set_cons_succ, Option.some.injEq, exists_eq_left', exists_eq_left, exists_eq_right, exists_eq, exists_eq', dwipe, exists_eq_right', D.int.injEq, D.str.injEq, D.bl.injEq, D.tup.injEq, D.ref.injEq, D.rol.injEq, GO.lst.injEq, GO.ins.injEq, GO.dK.injEq, GO.dT.injEq, List.cons.injEq, tgLen, List.length_cons, List.length_nil, List.length_map, List.map_cons, List.map_nil, List.replicate_succ, List.replicate_zero, List.nil_append, List.cons_append, true_and, and_true, if_true, Bool.not_true, Bool.not_false, Bool.false_eq_true, if_false, gup_same, reduceCtorEq, false_and, and_false, exists_false, exists_const, inst_i, inst_b, inst_s, inst_t, atI_0, atI_1, atI_2, atI_3, atI_4, eqNN_nat, ix41, ix42, ix43, gup_gup, and_assoc, exists_and_left, oQ0, oQ1, oQ2, oQ3, oQ4, oQ5, oQ6, oQ7, oQ8, oQ9, oQ10, oQ11, oQ12, oQ13, oQ14, oQ15, oQ16, oQ17, oQ18, oQ19, oQ20, oQ21, oQ22, oQ23, oQ24, oQ25, oQ26, oQ27, oQ28, oQ29, oQ30, oQ31, oQ32, oQ33, oQ34, oQ35, oQ36, oQ37, oQ38, oQ39, oQ40, oQ41, oQ42, oQ43, oQ44, oQ45, oQ46, oQ47, oQ48, oQ49, oQ50, oQ51, oQ52, oQ53, oQ54, oQ55, oQ56, oQ57, oQ58, oQ59, oQ60, oQ61, oQ62, oQ63, oQ64, oQ65, oQ66, oQ67, oQ68, oQ69, oQ70, oQ71, oQ72, oQ73, oQ74, oQ75, oQ76, oQ77, oQ78, oQ79, oQ80, oQ81, oQ82, oQ83, oQ84, oQ85, oQ86, oQ87, oQ88, oQ89, oQ90, oQ91, oQ92, oQ93, oQ94, oQ95, oQ96, oQ97, oQ98, oQ99, oQ100, oQ101, oQ102, oQ103, oQ104, oQ105, oQ106, oQ107, oQ108, oQ109, oQ110, oQ111, oQ112, oQ113, oQ114, oQ115, oQ116, oQ117, oQ118, oQ119, oQ120, oQ121, oQ122, oQ123, oQ124, oQ125, oQ126, oQ127, oQ128, oQ129, oQ130, oQ131, oQ132, oQ133, oQ134, oQ135, oQ136, oQ137, oQ138, oQ139, oQ140, oQ141, oQ142, oQ143, oQ144, oQ145, oQ146, oQ147, oQ148, oQ149, oQ150, oQ151, oQ152, oQ153, oQ154, oQ155, oQ156, oQ157, oQ158, oQ159]
  have cl : ∀ c : Int, isFromD (.int c) 0 (c - 1) = false := fun c => by simp only [isFromD, Bool.and_eq_false_iff, decide_eq_false_iff_not]; omega
  have ws := fun G => dk_ws (G := G) po
  rw [exs_cons]
  refine odd_first (fun K hK => ?_) fun o1 G10 L1 e10 B10 l10 x10 => ?_
  · simp only [exs, ex, ev, evs, evO, evI, evT, evTs, cmpQ, List.getElem?_cons_zero, List.getElem?_cons_succ, List.set_cons_zero, List.set_cons_succ, Option.some.injEq, exists_eq_left', exists_eq_left, exists_eq_right, exists_eq, exists_eq', dwipe, exists_eq_right', D.int.injEq, D.str.injEq, D.bl.injEq, D.tup.injEq, D.ref.injEq, D.rol.injEq, GO.lst.injEq, GO.ins.injEq, GO.dK.injEq, GO.dT.injEq, List.cons.injEq, tgLen, List.length_cons, List.length_nil, List.length_map, List.map_cons, List.map_nil, List.replicate_succ, List.replicate_zero, List.nil_append, List.cons_append, true_and, and_true, if_true, Bool.not_true, Bool.not_false, Bool.false_eq_true, if_false, gup_same, reduceCtorEq, false_and, and_false, exists_false, exists_const, inst_i, inst_b, inst_s, inst_t, atI_0, atI_1, atI_2, atI_3, atI_4, eqNN_nat, ix41, ix42, ix43, gup_gup, and_assoc, exists_and_left, oQ0, oQ1, oQ2, oQ3, oQ4, oQ5, oQ6, oQ7, oQ8, oQ9, oQ10, oQ11, oQ12, oQ13, oQ14, oQ15, oQ16, oQ17, oQ18, oQ19, oQ20, oQ21, oQ22, oQ23, oQ24, oQ25, oQ26, oQ27, oQ28, oQ29, oQ30, oQ31, oQ32, oQ33, oQ34, oQ35, oQ36, oQ37, oQ38, oQ39, oQ40, oQ41, oQ42, oQ43, oQ44, oQ45, oQ46, oQ47, oQ48, oQ49, oQ50, oQ51, oQ52, oQ53, oQ54, oQ55, oQ56, oQ57, oQ58, oQ59, oQ60, oQ61, oQ62, oQ63, oQ64, oQ65, oQ66, oQ67, oQ68, oQ69, oQ70, oQ71, oQ72, oQ73, oQ74, oQ75, oQ76, oQ77, oQ78, oQ79, oQ80, oQ81, oQ82, oQ83, oQ84, oQ85, oQ86, oQ87, oQ88, oQ89, oQ90, oQ91, oQ92, oQ93, oQ94, oQ95, oQ96, oQ97, oQ98, oQ99, oQ100, oQ101, oQ102, oQ103, oQ104, oQ105, oQ106, oQ107, oQ108, oQ109, oQ110, oQ111, oQ112, oQ113, oQ114, oQ115, oQ116, oQ117, oQ118, oQ119, oQ120, oQ121, oQ122, oQ123, oQ124, oQ125, oQ126, oQ127, oQ128, oQ129, oQ130, oQ131, oQ132, oQ133, oQ134, oQ135, oQ136, oQ137, oQ138, oQ139, oQ140, oQ141, oQ142, oQ143, oQ144, oQ145, oQ146, oQ147, oQ148, oQ149, oQ150, oQ151, oQ152, oQ153, oQ154, oQ155, oQ156, oQ157, oQ158, oQ159]
    intro p1 hp1
    refine hK _ _ (Ext.new hp1) ?_ (by simp)
    refine .cons ?_ ?_ (.cons ?_ ?_ (.cons ?_ ?_ (.cons ?_ ?_ (.cons ?_ ?_ (.cons ?_ ?_ (.cons ?_ ?_ .nil))))))
    all_goals (first | (simp only [dk_tup, dk_cons, dk_nil, dk_int, dk_bl, dk_non, dk_str, dk_is, dk_ref, gup_same, knG, and_true, true_and]; done) | (simp [isPlanD, isFromD, isWriteD, isSignD]; done) | skip)
  (try dsimp only); rw [exs_cons]
  refine odd_step rfl e10 B10 (by omega) (fun K hK => ?_) fun o2 G11 L2 e11 B11 l11 x11 => ?_
  · simp only [exs, ex, ev, evs, evO, evI, evT, evTs, cmpQ, List.getElem?_cons_zero, List.getElem?_cons_succ, List.set_cons_zero, List.set_cons_succ, Option.some.injEq, exists_eq_left', exists_eq_left, exists_eq_right, exists_eq, exists_eq', dwipe, exists_eq_right', D.int.injEq, D.str.injEq, D.bl.injEq, D.tup.injEq, D.ref.injEq, D.rol.injEq, GO.lst.injEq, GO.ins.injEq, GO.dK.injEq, GO.dT.injEq, List.cons.injEq, tgLen, List.length_cons, List.length_nil, List.length_map, List.map_cons, List.map_nil, List.replicate_succ, List.replicate_zero, List.nil_append, List.cons_append, true_and, and_true, if_true, Bool.not_true, Bool.not_false, Bool.false_eq_true, if_false, gup_same, reduceCtorEq, false_and, and_false, exists_false, exists_const, inst_i, inst_b, inst_s, inst_t, atI_0, atI_1, atI_2, atI_3, atI_4, eqNN_nat, ix41, ix42, ix43, gup_gup, and_assoc, exists_and_left, oQ0, oQ1, oQ2, oQ3, oQ4, oQ5, oQ6, oQ7, oQ8, oQ9, oQ10, oQ11, oQ12, oQ13, oQ14, oQ15, oQ16, oQ17, oQ18, oQ19, oQ20, oQ21, oQ22, oQ23, oQ24, oQ25, oQ26, oQ27, oQ28, oQ29, oQ30, oQ31, oQ32, oQ33, oQ34, oQ35, oQ36, oQ37, oQ38, oQ39, oQ40, oQ41, oQ42, oQ43, oQ44, oQ45, oQ46, oQ47, oQ48, oQ49, oQ50, oQ51, oQ52, oQ53, oQ54, oQ55, oQ56, oQ57, oQ58, oQ59, oQ60, oQ61, oQ62, oQ63, oQ64, oQ65, oQ66, oQ67, oQ68, oQ69, oQ70, oQ71, oQ72, oQ73, oQ74, oQ75, oQ76, oQ77, oQ78, oQ79, oQ80, oQ81, oQ82, oQ83, oQ84, oQ85, oQ86, oQ87, oQ88, oQ89, oQ90, oQ91, oQ92, oQ93, oQ94, oQ95, oQ96, oQ97, oQ98, oQ99, oQ100, oQ101, oQ102, oQ103, oQ104, oQ105, oQ106, oQ107, oQ108, oQ109, oQ110, oQ111, oQ112, oQ113, oQ114, oQ115, oQ116, oQ117, oQ118, oQ119, oQ120, oQ121, oQ122, oQ123, oQ124, oQ125, oQ126, oQ127, oQ128, oQ129, oQ130, oQ131, oQ132, oQ133, oQ134, oQ135, oQ136, oQ137, oQ138, oQ139, oQ140, oQ141, oQ142, oQ143, oQ144, oQ145, oQ146, oQ147, oQ148, oQ149, oQ150, oQ151, oQ152, oQ153, oQ154, oQ155, oQ156, oQ157, oQ158, oQ159]
    refine hK _ _ (Ext.refl _) ?_ (by simp)
    refine (.cons ?_ ?_ (.cons ?_ ?_ (.cons ?_ ?_ .nil)))
    all_goals (first | (simp only [rep5, rep9, dk_tup, dk_cons, dk_nil, dk_int, dk_bl, dk_non, dk_is, dk_ref, dk_ws po, gup_same, knG, and_true, true_and]; done) | (simp only [rep5, rep9, dk_tup, dk_cons, dk_nil, dk_int, dk_bl, dk_non, dk_str, dk_is, dk_ref, gup_same, knG, and_true, true_and]; decide) | (simp [isPlanD, isWriteD, cl, sg_A, sg_ab]; done) | (simp [isPlanD, isFromD, isWriteD, isSignD]; done) | (simp [rep5, rep9, isPlanD, isFromD]; done) | skip)
  (try dsimp only); rw [exs_cons]
  refine odd_step rfl e11 B11 (by omega) (fun K hK => ?_) fun o3 G12 L3 e12 B12 l12 x12 => ?_
  · simp only [exs, ex, ev, evs, evO, evI, evT, evTs, cmpQ, List.getElem?_cons_zero, List.getElem?_cons_succ, List.set_cons_zero, List.set_cons_succ, Option.some.injEq, exists_eq_left', exists_eq_left, exists_eq_right, exists_eq, exists_eq', dwipe, exists_eq_right', D.int.injEq, D.str.injEq, D.bl.injEq, D.tup.injEq, D.ref.injEq, D.rol.injEq, GO.lst.injEq, GO.ins.injEq, GO.dK.injEq, GO.dT.injEq, List.cons.injEq, tgLen, List.length_cons, List.length_nil, List.length_map, List.map_cons, List.map_nil, List.replicate_succ, List.replicate_zero, List.nil_append, List.cons_append, true_and, and_true, if_true, Bool.not_true, Bool.not_false, Bool.false_eq_true, if_false, gup_same, reduceCtorEq, false_and, and_false, exists_false, exists_const, inst_i, inst_b, inst_s, inst_t, atI_0, atI_1, atI_2, atI_3, atI_4, eqNN_nat, ix41, ix42, ix43, gup_gup, and_assoc, exists_and_left, oQ0, oQ1, oQ2, oQ3, oQ4, oQ5, oQ6, oQ7, oQ8, oQ9, oQ10, oQ11, oQ12, oQ13, oQ14, oQ15, oQ16, oQ17, oQ18, oQ19, oQ20, oQ21, oQ22, oQ23, oQ24, oQ25, oQ26, oQ27, oQ28, oQ29, oQ30, oQ31, oQ32, oQ33, oQ34, oQ35, oQ36, oQ37, oQ38, oQ39, oQ40, oQ41, oQ42, oQ43, oQ44, oQ45, oQ46, oQ47, oQ48, oQ49, oQ50, oQ51, oQ52, oQ53, oQ54, oQ55, oQ56, oQ57, oQ58, oQ59, oQ60, oQ61, oQ62, oQ63, oQ64, oQ65, oQ66, oQ67, oQ68, oQ69, oQ70, oQ71, oQ72, oQ73, oQ74, oQ75, oQ76, oQ77, oQ78, oQ79, oQ80, oQ81, oQ82, oQ83, oQ84, oQ85, oQ86, oQ87, oQ88, oQ89, oQ90, oQ91, oQ92, oQ93, oQ94, oQ95, oQ96, oQ97, oQ98, oQ99, oQ100, oQ101, oQ102, oQ103, oQ104, oQ105, oQ106, oQ107, oQ108, oQ109, oQ110, oQ111, oQ112, oQ113, oQ114, oQ115, oQ116, oQ117, oQ118, oQ119, oQ120, oQ121, oQ122, oQ123, oQ124, oQ125, oQ126, oQ127, oQ128, oQ129, oQ130, oQ131, oQ132, oQ133, oQ134, oQ135, oQ136, oQ137, oQ138, oQ139, oQ140, oQ141, oQ142, oQ143, oQ144, oQ145, oQ146, oQ147, oQ148, oQ149, oQ150, oQ151, oQ152, oQ153, oQ154, oQ155, oQ156, oQ157, oQ158, oQ159]
    refine ⟨by simp, by decide, by decide, by simp, fun p1 hp1 p2 hp2 => ?_⟩
    have k12 := (Ext.new (o := .lst (List.map Wr.d p.writes)) hp2) p1 _ gup_same
    refine hK _ _ ((Ext.new hp1).trans (Ext.new hp2)) ?_ (by simp)
    refine (.cons ?_ ?_ (.cons ?_ ?_ (.cons ?_ ?_ .nil)))
    all_goals (first | (simp only [dk_tup, dk_cons, dk_nil, dk_int, dk_ref, k12, knG, and_true, true_and]; done) | (simp only [rep5, rep9, dk_tup, dk_cons, dk_nil, dk_int, dk_bl, dk_non, dk_is, dk_ref, dk_ws po, gup_same, knG, and_true, true_and]; done) | (simp only [rep5, rep9, dk_tup, dk_cons, dk_nil, dk_int, dk_bl, dk_non, dk_str, dk_is, dk_ref, gup_same, knG, and_true, true_and]; decide) | (simp [isPlanD, isWriteD, cl, sg_A, sg_ab]; done) | (simp [isPlanD, isFromD, isWriteD, isSignD]; done) | (simp [rep5, rep9, isPlanD, isFromD]; done) | skip)
  (try dsimp only); rw [exs_cons]
  refine odd_step rfl e12 B12 (by omega) (fun K hK => ?_) fun o4 G13 L4 e13 B13 l13 x13 => ?_
  · simp only [exs, ex, ev, evs, evO, evI, evT, evTs, cmpQ, List.getElem?_cons_zero, List.getElem?_cons_succ, List.set_cons_zero, List.set_cons_succ, Option.some.injEq, exists_eq_left', exists_eq_left, exists_eq_right, exists_eq, exists_eq', dwipe, exists_eq_right', D.int.injEq, D.str.injEq, D.bl.injEq, D.tup.injEq, D.ref.injEq, D.rol.injEq, GO.lst.injEq, GO.ins.injEq, GO.dK.injEq, GO.dT.injEq, List.cons.injEq, tgLen, List.length_cons, List.length_nil, List.length_map, List.map_cons, List.map_nil, List.replicate_succ, List.replicate_zero, List.nil_append, List.cons_append, true_and, and_true, if_true, Bool.not_true, Bool.not_false, Bool.false_eq_true, if_false, gup_same, reduceCtorEq, false_and, and_false, exists_false, exists_const, inst_i, inst_b, inst_s, inst_t, atI_0, atI_1, atI_2, atI_3, atI_4, eqNN_nat, ix41, ix42, ix43, gup_gup, and_assoc, exists_and_left, oQ0, oQ1, oQ2, oQ3, oQ4, oQ5, oQ6, oQ7, oQ8, oQ9, oQ10, oQ11, oQ12, oQ13, oQ14, oQ15, oQ16, oQ17, oQ18, oQ19, oQ20, oQ21, oQ22, oQ23, oQ24, oQ25, oQ26, oQ27, oQ28, oQ29, oQ30, oQ31, oQ32, oQ33, oQ34, oQ35, oQ36, oQ37, oQ38, oQ39, oQ40, oQ41, oQ42, oQ43, oQ44, oQ45, oQ46, oQ47, oQ48, oQ49, oQ50, oQ51, oQ52, oQ53, oQ54, oQ55, oQ56, oQ57, oQ58, oQ59, oQ60, oQ61, oQ62, oQ63, oQ64, oQ65, oQ66, oQ67, oQ68, oQ69, oQ70, oQ71, oQ72, oQ73, oQ74, oQ75, oQ76, oQ77, oQ78, oQ79, oQ80, oQ81, oQ82, oQ83, oQ84, oQ85, oQ86, oQ87, oQ88, oQ89, oQ90, oQ91, oQ92, oQ93, oQ94, oQ95, oQ96, oQ97, oQ98, oQ99, oQ100, oQ101, oQ102, oQ103, oQ104, oQ105, oQ106, oQ107, oQ108, oQ109, oQ110, oQ111, oQ112, oQ113, oQ114, oQ115, oQ116, oQ117, oQ118, oQ119, oQ120, oQ121, oQ122, oQ123, oQ124, oQ125, oQ126, oQ127, oQ128, oQ129, oQ130, oQ131, oQ132, oQ133, oQ134, oQ135, oQ136, oQ137, oQ138, oQ139, oQ140, oQ141, oQ142, oQ143, oQ144, oQ145, oQ146, oQ147, oQ148, oQ149, oQ150, oQ151, oQ152, oQ153, oQ154, oQ155, oQ156, oQ157, oQ158, oQ159]
    refine hK _ _ (Ext.refl _) ?_ (by simp)
    refine (.cons ?_ ?_ (.cons ?_ ?_ .nil))
    all_goals (first | (simp only [rep5, rep9, dk_tup, dk_cons, dk_nil, dk_int, dk_bl, dk_non, dk_is, dk_ref, dk_ws po, gup_same, knG, and_true, true_and]; done) | (simp only [rep5, rep9, dk_tup, dk_cons, dk_nil, dk_int, dk_bl, dk_non, dk_str, dk_is, dk_ref, gup_same, knG, and_true, true_and]; decide) | (simp [isPlanD, isWriteD, cl, sg_A, sg_ab]; done) | (simp [isPlanD, isFromD, isWriteD, isSignD]; done) | (simp [rep5, rep9, isPlanD, isFromD]; done) | skip)
  (try dsimp only); rw [exs_cons]
  refine odd_step rfl e13 B13 (by omega) (fun K hK => ?_) fun o5 G14 L5 e14 B14 l14 x14 => ?_
  · simp only [exs, ex, ev, evs, evO, evI, evT, evTs, cmpQ, List.getElem?_cons_zero, List.getElem?_cons_succ, List.set_cons_zero, List.set_cons_succ, Option.some.injEq, exists_eq_left', exists_eq_left, exists_eq_right, exists_eq, exists_eq', dwipe, exists_eq_right', D.int.injEq, D.str.injEq, D.bl.injEq, D.tup.injEq, D.ref.injEq, D.rol.injEq, GO.lst.injEq, GO.ins.injEq, GO.dK.injEq, GO.dT.injEq, List.cons.injEq, tgLen, List.length_cons, List.length_nil, List.length_map, List.map_cons, List.map_nil, List.replicate_succ, List.replicate_zero, List.nil_append, List.cons_append, true_and, and_true, if_true, Bool.not_true, Bool.not_false, Bool.false_eq_true, if_false, gup_same, reduceCtorEq, false_and, and_false, exists_false, exists_const, inst_i, inst_b, inst_s, inst_t, atI_0, atI_1, atI_2, atI_3, atI_4, eqNN_nat, ix41, ix42, ix43, gup_gup, and_assoc, exists_and_left, oQ0, oQ1, oQ2, oQ3, oQ4, oQ5, oQ6, oQ7, oQ8, oQ9, oQ10, oQ11, oQ12, oQ13, oQ14, oQ15, oQ16, oQ17, oQ18, oQ19, oQ20, oQ21, oQ22, oQ23, oQ24, oQ25, oQ26, oQ27, oQ28, oQ29, oQ30, oQ31, oQ32, oQ33, oQ34, oQ35, oQ36, oQ37, oQ38, oQ39, oQ40, oQ41, oQ42, oQ43, oQ44, oQ45, oQ46, oQ47, oQ48, oQ49, oQ50, oQ51, oQ52, oQ53, oQ54, oQ55, oQ56, oQ57, oQ58, oQ59, oQ60, oQ61, oQ62, oQ63, oQ64, oQ65, oQ66, oQ67, oQ68, oQ69, oQ70, oQ71, oQ72, oQ73, oQ74, oQ75, oQ76, oQ77, oQ78, oQ79, oQ80, oQ81, oQ82, oQ83, oQ84, oQ85, oQ86, oQ87, oQ88, oQ89, oQ90, oQ91, oQ92, oQ93, oQ94, oQ95, oQ96, oQ97, oQ98, oQ99, oQ100, oQ101, oQ102, oQ103, oQ104, oQ105, oQ106, oQ107, oQ108, oQ109, oQ110, oQ111, oQ112, oQ113, oQ114, oQ115, oQ116, oQ117, oQ118, oQ119, oQ120, oQ121, oQ122, oQ123, oQ124, oQ125, oQ126, oQ127, oQ128, oQ129, oQ130, oQ131, oQ132, oQ133, oQ134, oQ135, oQ136, oQ137, oQ138, oQ139, oQ140, oQ141, oQ142, oQ143, oQ144, oQ145, oQ146, oQ147, oQ148, oQ149, oQ150, oQ151, oQ152, oQ153, oQ154, oQ155, oQ156, oQ157, oQ158, oQ159]
    refine hK _ _ (Ext.refl _) ?_ (by simp)
    refine (.cons ?_ ?_ (.cons ?_ ?_ (.cons ?_ ?_ (.cons ?_ ?_ (.cons ?_ ?_ .nil)))))
    all_goals (first | (simp only [rep5, rep9, dk_tup, dk_cons, dk_nil, dk_int, dk_bl, dk_non, dk_is, dk_ref, dk_ws po, gup_same, knG, and_true, true_and]; done) | (simp only [rep5, rep9, dk_tup, dk_cons, dk_nil, dk_int, dk_bl, dk_non, dk_str, dk_is, dk_ref, gup_same, knG, and_true, true_and]; decide) | (simp [isPlanD, isWriteD, cl, sg_A, sg_ab]; done) | (simp [isPlanD, isFromD, isWriteD, isSignD]; done) | (simp [rep5, rep9, isPlanD, isFromD]; done) | skip)
  (try dsimp only); rw [exs_cons]
  refine odd_step rfl e14 B14 (by omega) (fun K hK => ?_) fun o6 G15 L6 e15 B15 l15 x15 => ?_
  · simp only [exs, ex, ev, evs, evO, evI, evT, evTs, cmpQ, List.getElem?_cons_zero, List.getElem?_cons_succ, List.set_cons_zero, List.set_cons_succ, Option.some.injEq, exists_eq_left', exists_eq_left, exists_eq_right, exists_eq, exists_eq', dwipe, exists_eq_right', D.int.injEq, D.str.injEq, D.bl.injEq, D.tup.injEq, D.ref.injEq, D.rol.injEq, GO.lst.injEq, GO.ins.injEq, GO.dK.injEq, GO.dT.injEq, List.cons.injEq, tgLen, List.length_cons, List.length_nil, List.length_map, List.map_cons, List.map_nil, List.replicate_succ, List.replicate_zero, List.nil_append, List.cons_append, true_and, and_true, if_true, Bool.not_true, Bool.not_false, Bool.false_eq_true, if_false, gup_same, reduceCtorEq, false_and, and_false, exists_false, exists_const, inst_i, inst_b, inst_s, inst_t, atI_0, atI_1, atI_2, atI_3, atI_4, eqNN_nat, ix41, ix42, ix43, gup_gup, and_assoc, exists_and_left, oQ0, oQ1, oQ2, oQ3, oQ4, oQ5, oQ6, oQ7, oQ8, oQ9, oQ10, oQ11, oQ12, oQ13, oQ14, oQ15, oQ16, oQ17, oQ18, oQ19, oQ20, oQ21, oQ22, oQ23, oQ24, oQ25, oQ26, oQ27, oQ28, oQ29, oQ30, oQ31, oQ32, oQ33, oQ34, oQ35, oQ36, oQ37, oQ38, oQ39, oQ40, oQ41, oQ42, oQ43, oQ44, oQ45, oQ46, oQ47, oQ48, oQ49, oQ50, oQ51, oQ52, oQ53, oQ54, oQ55, oQ56, oQ57, oQ58, oQ59, oQ60, oQ61, oQ62, oQ63, oQ64, oQ65, oQ66, oQ67, oQ68, oQ69, oQ70, oQ71, oQ72, oQ73, oQ74, oQ75, oQ76, oQ77, oQ78, oQ79, oQ80, oQ81, oQ82, oQ83, oQ84, oQ85, oQ86, oQ87, oQ88, oQ89, oQ90, oQ91, oQ92, oQ93, oQ94, oQ95, oQ96, oQ97, oQ98, oQ99, oQ100, oQ101, oQ102, oQ103, oQ104, oQ105, oQ106, oQ107, oQ108, oQ109, oQ110, oQ111, oQ112, oQ113, oQ114, oQ115, oQ116, oQ117, oQ118, oQ119, oQ120, oQ121, oQ122, oQ123, oQ124, oQ125, oQ126, oQ127, oQ128, oQ129, oQ130, oQ131, oQ132, oQ133, oQ134, oQ135, oQ136, oQ137, oQ138, oQ139, oQ140, oQ141, oQ142, oQ143, oQ144, oQ145, oQ146, oQ147, oQ148, oQ149, oQ150, oQ151, oQ152, oQ153, oQ154, oQ155, oQ156, oQ157, oQ158, oQ159]
    refine ⟨by simp, by decide, by decide, by simp, ?_⟩
    refine hK _ _ (Ext.refl _) ?_ (by simp)
    refine (.cons ?_ ?_ (.cons ?_ ?_ .nil))
    all_goals (first | (simp only [rep5, rep9, dk_tup, dk_cons, dk_nil, dk_int, dk_bl, dk_non, dk_is, dk_ref, dk_ws po, gup_same, knG, and_true, true_and]; done) | (simp only [rep5, rep9, dk_tup, dk_cons, dk_nil, dk_int, dk_bl, dk_non, dk_str, dk_is, dk_ref, gup_same, knG, and_true, true_and]; decide) | (simp [isPlanD, isWriteD, cl, sg_A, sg_ab]; done) | (simp [isPlanD, isFromD, isWriteD, isSignD]; done) | (simp [rep5, rep9, isPlanD, isFromD]; done) | skip)
  (try dsimp only); rw [exs_cons]
  refine odd_step rfl e15 B15 (by omega) (fun K hK => ?_) fun o7 G16 L7 e16 B16 l16 x16 => ?_
  · simp only [exs, ex, ev, evs, evO, evI, evT, evTs, cmpQ, List.getElem?_cons_zero, List.getElem?_cons_succ, List.set_cons_zero, List.set_cons_succ, Option.some.injEq, exists_eq_left', exists_eq_left, exists_eq_right, exists_eq, exists_eq', dwipe, exists_eq_right', D.int.injEq, D.str.injEq, D.bl.injEq, D.tup.injEq, D.ref.injEq, D.rol.injEq, GO.lst.injEq, GO.ins.injEq, GO.dK.injEq, GO.dT.injEq, List.cons.injEq, tgLen, List.length_cons, List.length_nil, List.length_map, List.map_cons, List.map_nil, List.replicate_succ, List.replicate_zero, List.nil_append, List.cons_append, true_and, and_true, if_true, Bool.not_true, Bool.not_false, Bool.false_eq_true, if_false, gup_same, reduceCtorEq, false_and, and_false, exists_false, exists_const, inst_i, inst_b, inst_s, inst_t, atI_0, atI_1, atI_2, atI_3, atI_4, eqNN_nat, ix41, ix42, ix43, gup_gup, and_assoc, exists_and_left, oQ0, oQ1, oQ2, oQ3, oQ4, oQ5, oQ6, oQ7, oQ8, oQ9, oQ10, oQ11, oQ12, oQ13, oQ14, oQ15, oQ16, oQ17, oQ18, oQ19, oQ20, oQ21, oQ22, oQ23, oQ24, oQ25, oQ26, oQ27, oQ28, oQ29, oQ30, oQ31, oQ32, oQ33, oQ34, oQ35, oQ36, oQ37, oQ38, oQ39, oQ40, oQ41, oQ42, oQ43, oQ44, oQ45, oQ46, oQ47, oQ48, oQ49, oQ50, oQ51, oQ52, oQ53, oQ54, oQ55, oQ56, oQ57, oQ58, oQ59, oQ60, oQ61, oQ62, oQ63, oQ64, oQ65, oQ66, oQ67, oQ68, oQ69, oQ70, oQ71, oQ72, oQ73, oQ74, oQ75, oQ76, oQ77, oQ78, oQ79, oQ80, oQ81, oQ82, oQ83, oQ84, oQ85, oQ86, oQ87, oQ88, oQ89, oQ90, oQ91, oQ92, oQ93, oQ94, oQ95, oQ96, oQ97, oQ98, oQ99, oQ100, oQ101, oQ102, oQ103, oQ104, oQ105, oQ106, oQ107, oQ108, oQ109, oQ110, oQ111, oQ112, oQ113, oQ114, oQ115, oQ116, oQ117, oQ118, oQ119, oQ120, oQ121, oQ122, oQ123, oQ124, oQ125, oQ126, oQ127, oQ128, oQ129, oQ130, oQ131, oQ132, oQ133, oQ134, oQ135, oQ136, oQ137, oQ138, oQ139, oQ140, oQ141, oQ142, oQ143, oQ144, oQ145, oQ146, oQ147, oQ148, oQ149, oQ150, oQ151, oQ152, oQ153, oQ154, oQ155, oQ156, oQ157, oQ158, oQ159]
    intro p1 hp1
    refine hK _ _ (Ext.new hp1) ?_ (by simp)
    refine (.cons ?_ ?_ (.cons ?_ ?_ .nil))
    all_goals (first | (simp only [rep5, rep9, dk_tup, dk_cons, dk_nil, dk_int, dk_bl, dk_non, dk_is, dk_ref, dk_ws po, gup_same, knG, and_true, true_and]; done) | (simp only [rep5, rep9, dk_tup, dk_cons, dk_nil, dk_int, dk_bl, dk_non, dk_str, dk_is, dk_ref, gup_same, knG, and_true, true_and]; decide) | (simp [isPlanD, isWriteD, cl, sg_A, sg_ab]; done) | (simp [isPlanD, isFromD, isWriteD, isSignD]; done) | (simp [rep5, rep9, isPlanD, isFromD]; done) | skip)
  (try dsimp only); rw [exs_cons]
  simp only [ex, ev, evs, evO, evI, evT, evTs, cmpQ, List.getElem?_cons_zero, List.getElem?_cons_succ, List.set_cons_zero, List.set_cons_succ, Option.some.injEq, exists_eq_left', exists_eq_left, exists_eq_right, exists_eq, exists_eq', dwipe, exists_eq_right', D.int.injEq, D.str.injEq, D.bl.injEq, D.tup.injEq, D.ref.injEq, D.rol.injEq, GO.lst.injEq, GO.ins.injEq, GO.dK.injEq, GO.dT.injEq, List.cons.injEq, tgLen, List.length_cons, List.length_nil, List.length_map, List.map_cons, List.map_nil, List.replicate_succ, List.replicate_zero, List.nil_append, List.cons_append, true_and, and_true, if_true, Bool.not_true, Bool.not_false, Bool.false_eq_true, if_false, gup_same, reduceCtorEq, false_and, and_false, exists_false, exists_const, inst_i, inst_b, inst_s, inst_t, atI_0, atI_1, atI_2, atI_3, atI_4, eqNN_nat, ix41, ix42, ix43, gup_gup, and_assoc, exists_and_left, oQ0, oQ1, oQ2, oQ3, oQ4, oQ5, oQ6, oQ7, oQ8, oQ9, oQ10, oQ11, oQ12, oQ13, oQ14, oQ15, oQ16, oQ17, oQ18, oQ19, oQ20, oQ21, oQ22, oQ23, oQ24, oQ25, oQ26, oQ27, oQ28, oQ29, oQ30, oQ31, oQ32, oQ33, oQ34, oQ35, oQ36, oQ37, oQ38, oQ39, oQ40, oQ41, oQ42, oQ43, oQ44, oQ45, oQ46, oQ47, oQ48, oQ49, oQ50, oQ51, oQ52, oQ53, oQ54, oQ55, oQ56, oQ57, oQ58, oQ59, oQ60, oQ61, oQ62, oQ63, oQ64, oQ65, oQ66, oQ67, oQ68, oQ69, oQ70, oQ71, oQ72, oQ73, oQ74, oQ75, oQ76, oQ77, oQ78, oQ79, oQ80, oQ81, oQ82, oQ83, oQ84, oQ85, oQ86, oQ87, oQ88, oQ89, oQ90, oQ91, oQ92, oQ93, oQ94, oQ95, oQ96, oQ97, oQ98, oQ99, oQ100, oQ101, oQ102, oQ103, oQ104, oQ105, oQ106, oQ107, oQ108, oQ109, oQ110, oQ111, oQ112, oQ113, oQ114, oQ115, oQ116, oQ117, oQ118, oQ119, oQ120, oQ121, oQ122, oQ123, oQ124, oQ125, oQ126, oQ127, oQ128, oQ129, oQ130, oQ131, oQ132, oQ133, oQ134, oQ135, oQ136, oQ137, oQ138, oQ139, oQ140, oQ141, oQ142, oQ143, oQ144, oQ145, oQ146, oQ147, oQ148, oQ149, oQ150, oQ151, oQ152, oQ153, oQ154, oQ155, oQ156, oQ157, oQ158, oQ159, e16, h4]
  intro z hz
  refine compL_filter (fun _ => false) (fun d => d) hz (by rw [sizeLine_eq]; omega) (fun G' x => x _ _ e16) ?_ ?_
  · intro i d G17 hd x17 K N hK hN
    simp only [exs, ex, ev, evs, evO, evI, evT, evTs, cmpQ, List.getElem?_cons_zero, List.getElem?_cons_succ, List.set_cons_zero, List.set_cons_succ, Option.some.injEq, exists_eq_left', exists_eq_left, exists_eq_right, exists_eq, exists_eq', dwipe, exists_eq_right', D.int.injEq, D.str.injEq, D.bl.injEq, D.tup.injEq, D.ref.injEq, D.rol.injEq, GO.lst.injEq, GO.ins.injEq, GO.dK.injEq, GO.dT.injEq, List.cons.injEq, tgLen, List.length_cons, List.length_nil, List.length_map, List.map_cons, List.map_nil, List.replicate_succ, List.replicate_zero, List.nil_append, List.cons_append, true_and, and_true, if_true, Bool.not_true, Bool.not_false, Bool.false_eq_true, if_false, gup_same, reduceCtorEq, false_and, and_false, exists_false, exists_const, inst_i, inst_b, inst_s, inst_t, atI_0, atI_1, atI_2, atI_3, atI_4, eqNN_nat, ix41, ix42, ix43, gup_gup, and_assoc, exists_and_left, oQ0, oQ1, oQ2, oQ3, oQ4, oQ5, oQ6, oQ7, oQ8, oQ9, oQ10, oQ11, oQ12, oQ13, oQ14, oQ15, oQ16, oQ17, oQ18, oQ19, oQ20, oQ21, oQ22, oQ23, oQ24, oQ25, oQ26, oQ27, oQ28, oQ29, oQ30, oQ31, oQ32, oQ33, oQ34, oQ35, oQ36, oQ37, oQ38, oQ39, oQ40, oQ41, oQ42, oQ43, oQ44, oQ45, oQ46, oQ47, oQ48, oQ49, oQ50, oQ51, oQ52, oQ53, oQ54, oQ55, oQ56, oQ57, oQ58, oQ59, oQ60, oQ61, oQ62, oQ63, oQ64, oQ65, oQ66, oQ67, oQ68, oQ69, oQ70, oQ71, oQ72, oQ73, oQ74, oQ75, oQ76, oQ77, oQ78, oQ79, oQ80, oQ81, oQ82, oQ83, oQ84, oQ85, oQ86, oQ87, oQ88, oQ89, oQ90, oQ91, oQ92, oQ93, oQ94, oQ95, oQ96, oQ97, oQ98, oQ99, oQ100, oQ101, oQ102, oQ103, oQ104, oQ105, oQ106, oQ107, oQ108, oQ109, oQ110, oQ111, oQ112, oQ113, oQ114, oQ115, oQ116, oQ117, oQ118, oQ119, oQ120, oQ121, oQ122, oQ123, oQ124, oQ125, oQ126, oQ127, oQ128, oQ129, oQ130, oQ131, oQ132, oQ133, oQ134, oQ135, oQ136, oQ137, oQ138, oQ139, oQ140, oQ141, oQ142, oQ143, oQ144, oQ145, oQ146, oQ147, oQ148, oQ149, oQ150, oQ151, oQ152, oQ153, oQ154, oQ155, oQ156, oQ157, oQ158, oQ159]
    obtain ⟨b1, b2⟩ := B16 d (List.mem_of_getElem? hd)
    refine ⟨d, rfl, b1.ext x17, fun G18 x18 => ?_⟩
    rw [b2]
    simp only [exs, ex, ev, evs, evO, evI, evT, evTs, cmpQ, List.getElem?_cons_zero, List.getElem?_cons_succ, List.set_cons_zero, List.set_cons_succ, Option.some.injEq, exists_eq_left', exists_eq_left, exists_eq_right, exists_eq, exists_eq', dwipe, exists_eq_right', D.int.injEq, D.str.injEq, D.bl.injEq, D.tup.injEq, D.ref.injEq, D.rol.injEq, GO.lst.injEq, GO.ins.injEq, GO.dK.injEq, GO.dT.injEq, List.cons.injEq, tgLen, List.length_cons, List.length_nil, List.length_map, List.map_cons, List.map_nil, List.replicate_succ, List.replicate_zero, List.nil_append, List.cons_append, true_and, and_true, if_true, Bool.not_true, Bool.not_false, Bool.false_eq_true, if_false, gup_same, reduceCtorEq, false_and, and_false, exists_false, exists_const, inst_i, inst_b, inst_s, inst_t, atI_0, atI_1, atI_2, atI_3, atI_4, eqNN_nat, ix41, ix42, ix43, gup_gup, and_assoc, exists_and_left, oQ0, oQ1, oQ2, oQ3, oQ4, oQ5, oQ6, oQ7, oQ8, oQ9, oQ10, oQ11, oQ12, oQ13, oQ14, oQ15, oQ16, oQ17, oQ18, oQ19, oQ20, oQ21, oQ22, oQ23, oQ24, oQ25, oQ26, oQ27, oQ28, oQ29, oQ30, oQ31, oQ32, oQ33, oQ34, oQ35, oQ36, oQ37, oQ38, oQ39, oQ40, oQ41, oQ42, oQ43, oQ44, oQ45, oQ46, oQ47, oQ48, oQ49, oQ50, oQ51, oQ52, oQ53, oQ54, oQ55, oQ56, oQ57, oQ58, oQ59, oQ60, oQ61, oQ62, oQ63, oQ64, oQ65, oQ66, oQ67, oQ68, oQ69, oQ70, oQ71, oQ72, oQ73, oQ74, oQ75, oQ76, oQ77, oQ78, oQ79, oQ80, oQ81, oQ82, oQ83, oQ84, oQ85, oQ86, oQ87, oQ88, oQ89, oQ90, oQ91, oQ92, oQ93, oQ94, oQ95, oQ96, oQ97, oQ98, oQ99, oQ100, oQ101, oQ102, oQ103, oQ104, oQ105, oQ106, oQ107, oQ108, oQ109, oQ110, oQ111, oQ112, oQ113, oQ114, oQ115, oQ116, oQ117, oQ118, oQ119, oQ120, oQ121, oQ122, oQ123, oQ124, oQ125, oQ126, oQ127, oQ128, oQ129, oQ130, oQ131, oQ132, oQ133, oQ134, oQ135, oQ136, oQ137, oQ138, oQ139, oQ140, oQ141, oQ142, oQ143, oQ144, oQ145, oQ146, oQ147, oQ148, oQ149, oQ150, oQ151, oQ152, oQ153, oQ154, oQ155, oQ156, oQ157, oQ158, oQ159, decide_true]
    exact hN rfl G18 x18
  · intro G17 x17 e17 y hy
    have e17' : G17 z = some (.lst []) := by rw [e17]; simp
    have ne : z ≠ y := gne_none e17' hy
    exact eqDeep_nil (by rw [gup_ne ne]; exact e17') gup_same (q _)
end
end Ink
set_option Elab.async false
set_option linter.all false
set_option maxRecDepth 100000
set_option maxHeartbeats 0
namespace Ink
open PySem PySem.Spec PyProof.Rows L2
def top (i : Nat) : Stmt := PySem.Challenge.pw_fadinginks_k00_whole_boards.main.body.getD i (.Pass ⟨0, 0, 0, 0⟩)
def tab : List (Nat × (Str × Option Str) × Nat) := [(f_is_integer, (("is_integer" : Str), none), 1),
  (f_is_from, (("is_from" : Str), none), 3),
  (f_is_sign, (("is_sign" : Str), none), 1),
  (f_is_write, (("is_write" : Str), none), 3),
  (f_is_plan, (("is_plan" : Str), none), 1),
  (f_need_plan, (("need_plan" : Str), none), 1),
  (f_is_pace, (("is_pace" : Str), none), 2),
  (f_need_pace, (("need_pace" : Str), none), 2),
  (f_ticks_of, (("ticks_of" : Str), none), 1),
  (f_ticks, (("ticks" : Str), none), 2),
  (f_need_cell, (("need_cell" : Str), none), 2),
  (f_need_tick, (("need_tick" : Str), none), 2),
  (f_stay_of, (("stay_of" : Str), none), 2),
  (f_seen_at, (("seen_at" : Str), none), 4),
  (f_seen, (("seen" : Str), none), 4),
  (f_board_at, (("board_at" : Str), none), 3),
  (f_board, (("board" : Str), none), 3),
  (f_story, (("story" : Str), none), 4),
  (f_law_taken, (("_law_taken" : Str), none), 2),
  (f_law_pick, (("_law_pick" : Str), none), 2),
  (f_law_alike, (("_law_alike" : Str), none), 2),
  (f_law_plan, (("_law_plan" : Str), none), 3),
  (f_law_ticks, (("_law_ticks" : Str), none), 2),
  (f_law_seen, (("_law_seen" : Str), none), 4),
  (f_law, (("law" : Str), none), 1)]
def nm : FNm := fun i => match tab.lookup i with | some p => p.1 | none => ("", none)
def ar : Nat → Nat := fun i => match tab.lookup i with | some p => p.2 | none => 0
def fa : List He.Fa := [.free "bool", .free "int", .free "isinstance", .glo "is_integer", .keep "is_integer", .free "len", .free "str", .str "SIGNS" "abcdefghijklmnopqrstuvwxyz", .glo "is_from", .glo "is_sign", .keep "is_from", .keep "is_sign", .free "tuple", .int "MOST_REST" 50, .glo "is_write", .keep "is_write", .free "all", .int "MOST_CELLS" 4, .int "MOST_INKS" 4, .int "MOST_STAY" 50, .int "MOST_WRITES" 8, .glo "BadPlan", .glo "is_plan", .keep "is_plan", .exc "BadPlan", .free "zip", .glo "BadPace", .glo "is_pace", .keep "is_pace", .exc "BadPace", .glo "need_pace", .glo "need_plan", .glo "ticks_of", .keep "need_pace", .keep "need_plan", .keep "ticks_of", .glo "NoCell", .exc "NoCell", .glo "BadTick", .exc "BadTick", .glo "stay_of", .keep "stay_of", .str "BARE" ".", .glo "need_cell", .glo "need_tick", .glo "seen_at", .keep "need_cell", .keep "need_tick", .keep "seen_at", .int "MOST_TICK" 1000, .free "range", .glo "board_at", .keep "board_at", .int "MOST_STORY" 200, .glo "_law_taken", .keep "_law_taken", .glo "_law_alike", .keep "_law_alike", .free "dict", .free "list", .free "sorted", .glo "_law_pick", .keep "_law_pick", .glo "_law_plan", .glo "_law_seen", .glo "_law_ticks", .glo "board", .glo "seen", .glo "story", .glo "ticks", .keep "_law_plan", .keep "_law_seen", .keep "_law_ticks", .keep "board", .keep "seen", .keep "story", .keep "ticks", .glo "law"]
def s_is_integer : Stmt := top 16
def s_is_from : Stmt := top 17
def s_is_sign : Stmt := top 18
def s_is_write : Stmt := top 19
def s_is_plan : Stmt := top 20
def s_need_plan : Stmt := top 21
def s_is_pace : Stmt := top 22
def s_need_pace : Stmt := top 23
def s_ticks_of : Stmt := top 24
def s_ticks : Stmt := top 25
def s_need_cell : Stmt := top 26
def s_need_tick : Stmt := top 27
def s_stay_of : Stmt := top 28
def s_seen_at : Stmt := top 29
def s_seen : Stmt := top 30
def s_board_at : Stmt := top 31
def s_board : Stmt := top 32
def s_story : Stmt := top 33
def s_law_taken : Stmt := top 35
def s_law_pick : Stmt := top 36
def s_law_alike : Stmt := top 37
def s_law_plan : Stmt := top 38
def s_law_ticks : Stmt := top 39
def s_law_seen : Stmt := top 40
def s_law_k00 : Stmt := top 41
theorem sc_is_integer : scB N_is_integer P_is_integer (defScope s_is_integer) = true := by decide +kernel
theorem ck_is_integer : chkSs b_is_integer (tcOf N_is_integer (defScope s_is_integer) fa nm ar [].contains) (defBody s_is_integer) = true := by decide +kernel
theorem sc_is_from : scB N_is_from P_is_from (defScope s_is_from) = true := by decide +kernel
theorem ck_is_from : chkSs b_is_from (tcOf N_is_from (defScope s_is_from) fa nm ar [f_is_integer].contains) (defBody s_is_from) = true := by decide +kernel
theorem sc_is_sign : scB N_is_sign P_is_sign (defScope s_is_sign) = true := by decide +kernel
theorem ck_is_sign : chkSs b_is_sign (tcOf N_is_sign (defScope s_is_sign) fa nm ar [f_is_from, f_is_integer].contains) (defBody s_is_sign) = true := by decide +kernel
theorem sc_is_write : scB N_is_write P_is_write (defScope s_is_write) = true := by decide +kernel
theorem ck_is_write : chkSs b_is_write (tcOf N_is_write (defScope s_is_write) fa nm ar [f_is_sign, f_is_from, f_is_integer].contains) (defBody s_is_write) = true := by decide +kernel
theorem sc_is_plan : scB N_is_plan P_is_plan (defScope s_is_plan) = true := by decide +kernel
theorem ck_is_plan : chkSs b_is_plan (tcOf N_is_plan (defScope s_is_plan) fa nm ar [f_is_write, f_is_sign, f_is_from, f_is_integer].contains) (defBody s_is_plan) = true := by decide +kernel
theorem sc_need_plan : scB N_need_plan P_need_plan (defScope s_need_plan) = true := by decide +kernel
theorem ck_need_plan : chkSs b_need_plan (tcOf N_need_plan (defScope s_need_plan) fa nm ar [f_is_plan, f_is_write, f_is_sign, f_is_from, f_is_integer].contains) (defBody s_need_plan) = true := by decide +kernel
theorem sc_is_pace : scB N_is_pace P_is_pace (defScope s_is_pace) = true := by decide +kernel
theorem ck_is_pace : chkSs b_is_pace (tcOf N_is_pace (defScope s_is_pace) fa nm ar [f_need_plan, f_is_plan, f_is_write, f_is_sign, f_is_from, f_is_integer].contains) (defBody s_is_pace) = true := by decide +kernel
theorem sc_need_pace : scB N_need_pace P_need_pace (defScope s_need_pace) = true := by decide +kernel
theorem ck_need_pace : chkSs b_need_pace (tcOf N_need_pace (defScope s_need_pace) fa nm ar [f_is_pace, f_need_plan, f_is_plan, f_is_write, f_is_sign, f_is_from, f_is_integer].contains) (defBody s_need_pace) = true := by decide +kernel
theorem sc_ticks_of : scB N_ticks_of P_ticks_of (defScope s_ticks_of) = true := by decide +kernel
theorem ck_ticks_of : chkSs b_ticks_of (tcOf N_ticks_of (defScope s_ticks_of) fa nm ar [f_need_pace, f_is_pace, f_need_plan, f_is_plan, f_is_write, f_is_sign, f_is_from, f_is_integer].contains) (defBody s_ticks_of) = true := by decide +kernel
theorem sc_ticks : scB N_ticks P_ticks (defScope s_ticks) = true := by decide +kernel
theorem ck_ticks : chkSs b_ticks (tcOf N_ticks (defScope s_ticks) fa nm ar [f_ticks_of, f_need_pace, f_is_pace, f_need_plan, f_is_plan, f_is_write, f_is_sign, f_is_from, f_is_integer].contains) (defBody s_ticks) = true := by decide +kernel
theorem sc_need_cell : scB N_need_cell P_need_cell (defScope s_need_cell) = true := by decide +kernel
theorem ck_need_cell : chkSs b_need_cell (tcOf N_need_cell (defScope s_need_cell) fa nm ar [f_ticks, f_ticks_of, f_need_pace, f_is_pace, f_need_plan, f_is_plan, f_is_write, f_is_sign, f_is_from, f_is_integer].contains) (defBody s_need_cell) = true := by decide +kernel
theorem sc_need_tick : scB N_need_tick P_need_tick (defScope s_need_tick) = true := by decide +kernel
theorem ck_need_tick : chkSs b_need_tick (tcOf N_need_tick (defScope s_need_tick) fa nm ar [f_need_cell, f_ticks, f_ticks_of, f_need_pace, f_is_pace, f_need_plan, f_is_plan, f_is_write, f_is_sign, f_is_from, f_is_integer].contains) (defBody s_need_tick) = true := by decide +kernel
theorem sc_stay_of : scB N_stay_of P_stay_of (defScope s_stay_of) = true := by decide +kernel
theorem ck_stay_of : chkSs b_stay_of (tcOf N_stay_of (defScope s_stay_of) fa nm ar [f_need_tick, f_need_cell, f_ticks, f_ticks_of, f_need_pace, f_is_pace, f_need_plan, f_is_plan, f_is_write, f_is_sign, f_is_from, f_is_integer].contains) (defBody s_stay_of) = true := by decide +kernel
theorem sc_seen_at : scB N_seen_at P_seen_at (defScope s_seen_at) = true := by decide +kernel
theorem ck_seen_at : chkSs b_seen_at (tcOf N_seen_at (defScope s_seen_at) fa nm ar [f_stay_of, f_need_tick, f_need_cell, f_ticks, f_ticks_of, f_need_pace, f_is_pace, f_need_plan, f_is_plan, f_is_write, f_is_sign, f_is_from, f_is_integer].contains) (defBody s_seen_at) = true := by decide +kernel
theorem sc_seen : scB N_seen P_seen (defScope s_seen) = true := by decide +kernel
theorem ck_seen : chkSs b_seen (tcOf N_seen (defScope s_seen) fa nm ar [f_seen_at, f_stay_of, f_need_tick, f_need_cell, f_ticks, f_ticks_of, f_need_pace, f_is_pace, f_need_plan, f_is_plan, f_is_write, f_is_sign, f_is_from, f_is_integer].contains) (defBody s_seen) = true := by decide +kernel
theorem sc_board_at : scB N_board_at P_board_at (defScope s_board_at) = true := by decide +kernel
theorem ck_board_at : chkSs b_board_at (tcOf N_board_at (defScope s_board_at) fa nm ar [f_seen, f_seen_at, f_stay_of, f_need_tick, f_need_cell, f_ticks, f_ticks_of, f_need_pace, f_is_pace, f_need_plan, f_is_plan, f_is_write, f_is_sign, f_is_from, f_is_integer].contains) (defBody s_board_at) = true := by decide +kernel
theorem sc_board : scB N_board P_board (defScope s_board) = true := by decide +kernel
theorem ck_board : chkSs b_board (tcOf N_board (defScope s_board) fa nm ar [f_board_at, f_seen, f_seen_at, f_stay_of, f_need_tick, f_need_cell, f_ticks, f_ticks_of, f_need_pace, f_is_pace, f_need_plan, f_is_plan, f_is_write, f_is_sign, f_is_from, f_is_integer].contains) (defBody s_board) = true := by decide +kernel
theorem sc_story : scB N_story P_story (defScope s_story) = true := by decide +kernel
theorem ck_story : chkSs b_story (tcOf N_story (defScope s_story) fa nm ar [f_board, f_board_at, f_seen, f_seen_at, f_stay_of, f_need_tick, f_need_cell, f_ticks, f_ticks_of, f_need_pace, f_is_pace, f_need_plan, f_is_plan, f_is_write, f_is_sign, f_is_from, f_is_integer].contains) (defBody s_story) = true := by decide +kernel
theorem sc_law_taken : scB N_law_taken P_law_taken (defScope s_law_taken) = true := by decide +kernel
theorem ck_law_taken : chkSs b_law_taken (tcOf N_law_taken (defScope s_law_taken) fa nm ar [f_story, f_board, f_board_at, f_seen, f_seen_at, f_stay_of, f_need_tick, f_need_cell, f_ticks, f_ticks_of, f_need_pace, f_is_pace, f_need_plan, f_is_plan, f_is_write, f_is_sign, f_is_from, f_is_integer].contains) (defBody s_law_taken) = true := by decide +kernel
theorem sc_law_pick : scB N_law_pick P_law_pick (defScope s_law_pick) = true := by decide +kernel
theorem ck_law_pick : chkSs b_law_pick (tcOf N_law_pick (defScope s_law_pick) fa nm ar [f_law_taken, f_story, f_board, f_board_at, f_seen, f_seen_at, f_stay_of, f_need_tick, f_need_cell, f_ticks, f_ticks_of, f_need_pace, f_is_pace, f_need_plan, f_is_plan, f_is_write, f_is_sign, f_is_from, f_is_integer].contains) (defBody s_law_pick) = true := by decide +kernel
theorem sc_law_alike : scB N_law_alike P_law_alike (defScope s_law_alike) = true := by decide +kernel
theorem ck_law_alike : chkSs b_law_alike (tcOf N_law_alike (defScope s_law_alike) fa nm ar [f_law_alike, f_law_pick, f_law_taken, f_story, f_board, f_board_at, f_seen, f_seen_at, f_stay_of, f_need_tick, f_need_cell, f_ticks, f_ticks_of, f_need_pace, f_is_pace, f_need_plan, f_is_plan, f_is_write, f_is_sign, f_is_from, f_is_integer].contains) (defBody s_law_alike) = true := by decide +kernel
theorem sc_law_plan : scB N_law_plan P_law_plan (defScope s_law_plan) = true := by decide +kernel
theorem ck_law_plan : chkSs b_law_plan (tcOf N_law_plan (defScope s_law_plan) fa nm ar [f_law_alike, f_law_pick, f_law_taken, f_story, f_board, f_board_at, f_seen, f_seen_at, f_stay_of, f_need_tick, f_need_cell, f_ticks, f_ticks_of, f_need_pace, f_is_pace, f_need_plan, f_is_plan, f_is_write, f_is_sign, f_is_from, f_is_integer].contains) (defBody s_law_plan) = true := by decide +kernel
theorem sc_law_ticks : scB N_law_ticks P_law_ticks (defScope s_law_ticks) = true := by decide +kernel
theorem ck_law_ticks : chkSs b_law_ticks (tcOf N_law_ticks (defScope s_law_ticks) fa nm ar [f_law_plan, f_law_alike, f_law_pick, f_law_taken, f_story, f_board, f_board_at, f_seen, f_seen_at, f_stay_of, f_need_tick, f_need_cell, f_ticks, f_ticks_of, f_need_pace, f_is_pace, f_need_plan, f_is_plan, f_is_write, f_is_sign, f_is_from, f_is_integer].contains) (defBody s_law_ticks) = true := by decide +kernel
theorem sc_law_seen : scB N_law_seen P_law_seen (defScope s_law_seen) = true := by decide +kernel
theorem ck_law_seen : chkSs b_law_seen (tcOf N_law_seen (defScope s_law_seen) fa nm ar [f_law_ticks, f_law_plan, f_law_alike, f_law_pick, f_law_taken, f_story, f_board, f_board_at, f_seen, f_seen_at, f_stay_of, f_need_tick, f_need_cell, f_ticks, f_ticks_of, f_need_pace, f_is_pace, f_need_plan, f_is_plan, f_is_write, f_is_sign, f_is_from, f_is_integer].contains) (defBody s_law_seen) = true := by decide +kernel
theorem sc_law_k00 : scB N_law_k00 P_law_k00 (defScope s_law_k00) = true := by decide +kernel
theorem ck_law_k00 : chkSs b_law_k00 (tcOf N_law_k00 (defScope s_law_k00) fa nm ar [f_law_seen, f_law_ticks, f_law_plan, f_law_alike, f_law_pick, f_law_taken, f_story, f_board, f_board_at, f_seen, f_seen_at, f_stay_of, f_need_tick, f_need_cell, f_ticks, f_ticks_of, f_need_pace, f_is_pace, f_need_plan, f_is_plan, f_is_write, f_is_sign, f_is_from, f_is_integer].contains) (defBody s_law_k00) = true := by decide +kernel
def PhiL : List (Nat × DSp) := [(f_is_integer, sp_is_integer), (f_is_from, sp_is_from), (f_is_sign, sp_is_sign), (f_is_write, sp_is_write), (f_is_plan, sp_is_plan), (f_need_plan, sp_need_plan), (f_is_pace, sp_is_pace), (f_need_pace, sp_need_pace), (f_ticks_of, sp_ticks_of), (f_ticks, sp_ticks), (f_need_cell, sp_need_cell), (f_need_tick, sp_need_tick), (f_stay_of, sp_stay_of), (f_seen_at, sp_seen_at), (f_seen, sp_seen), (f_board_at, sp_board_at), (f_board, sp_board), (f_story, sp_story), (f_law_taken, sp_law_taken), (f_law_pick, sp_law_pick), (f_law_alike, sp_law_alike 6), (f_law_plan, sp_law_plan), (f_law_ticks, sp_law_ticks), (f_law_seen, sp_seen_at), (f_law, sp_law)]
def Phi : Nat → DSp := fun i => match PhiL.lookup i with | some p => p | none => noS
def d_is_integer : He.DefD := ⟨("is_integer", none), "is_integer", "is_integer", defArgs s_is_integer, defBody s_is_integer, defScope s_is_integer, [], []⟩
def d_is_from : He.DefD := ⟨("is_from", none), "is_from", "is_from", defArgs s_is_from, defBody s_is_from, defScope s_is_from, [], []⟩
def d_is_sign : He.DefD := ⟨("is_sign", none), "is_sign", "is_sign", defArgs s_is_sign, defBody s_is_sign, defScope s_is_sign, [], []⟩
def d_is_write : He.DefD := ⟨("is_write", none), "is_write", "is_write", defArgs s_is_write, defBody s_is_write, defScope s_is_write, [], []⟩
def d_is_plan : He.DefD := ⟨("is_plan", none), "is_plan", "is_plan", defArgs s_is_plan, defBody s_is_plan, defScope s_is_plan, [], []⟩
def d_need_plan : He.DefD := ⟨("need_plan", none), "need_plan", "need_plan", defArgs s_need_plan, defBody s_need_plan, defScope s_need_plan, [], []⟩
def d_is_pace : He.DefD := ⟨("is_pace", none), "is_pace", "is_pace", defArgs s_is_pace, defBody s_is_pace, defScope s_is_pace, [], []⟩
def d_need_pace : He.DefD := ⟨("need_pace", none), "need_pace", "need_pace", defArgs s_need_pace, defBody s_need_pace, defScope s_need_pace, [], []⟩
def d_ticks_of : He.DefD := ⟨("ticks_of", none), "ticks_of", "ticks_of", defArgs s_ticks_of, defBody s_ticks_of, defScope s_ticks_of, [], []⟩
def d_ticks : He.DefD := ⟨("ticks", none), "ticks", "ticks", defArgs s_ticks, defBody s_ticks, defScope s_ticks, [], []⟩
def d_need_cell : He.DefD := ⟨("need_cell", none), "need_cell", "need_cell", defArgs s_need_cell, defBody s_need_cell, defScope s_need_cell, [], []⟩
def d_need_tick : He.DefD := ⟨("need_tick", none), "need_tick", "need_tick", defArgs s_need_tick, defBody s_need_tick, defScope s_need_tick, [], []⟩
def d_stay_of : He.DefD := ⟨("stay_of", none), "stay_of", "stay_of", defArgs s_stay_of, defBody s_stay_of, defScope s_stay_of, [], []⟩
def d_seen_at : He.DefD := ⟨("seen_at", none), "seen_at", "seen_at", defArgs s_seen_at, defBody s_seen_at, defScope s_seen_at, [], []⟩
def d_seen : He.DefD := ⟨("seen", none), "seen", "seen", defArgs s_seen, defBody s_seen, defScope s_seen, [], []⟩
def d_board_at : He.DefD := ⟨("board_at", none), "board_at", "board_at", defArgs s_board_at, defBody s_board_at, defScope s_board_at, [], []⟩
def d_board : He.DefD := ⟨("board", none), "board", "board", defArgs s_board, defBody s_board, defScope s_board, [], []⟩
def d_story : He.DefD := ⟨("story", none), "story", "story", defArgs s_story, defBody s_story, defScope s_story, [], []⟩
def d_law_taken : He.DefD := ⟨("_law_taken", none), "_law_taken", "_law_taken", defArgs s_law_taken, defBody s_law_taken, defScope s_law_taken, [], []⟩
def d_law_pick : He.DefD := ⟨("_law_pick", none), "_law_pick", "_law_pick", defArgs s_law_pick, defBody s_law_pick, defScope s_law_pick, [], []⟩
def d_law_alike : He.DefD := ⟨("_law_alike", none), "_law_alike", "_law_alike", defArgs s_law_alike, defBody s_law_alike, defScope s_law_alike, [], []⟩
def d_law_plan : He.DefD := ⟨("_law_plan", none), "_law_plan", "_law_plan", defArgs s_law_plan, defBody s_law_plan, defScope s_law_plan, [], []⟩
def d_law_ticks : He.DefD := ⟨("_law_ticks", none), "_law_ticks", "_law_ticks", defArgs s_law_ticks, defBody s_law_ticks, defScope s_law_ticks, [], []⟩
def d_law_seen : He.DefD := ⟨("_law_seen", none), "_law_seen", "_law_seen", defArgs s_law_seen, defBody s_law_seen, defScope s_law_seen, [], []⟩
def d_law_k00 : He.DefD := ⟨("law", none), "law", "law", defArgs s_law_k00, defBody s_law_k00, defScope s_law_k00, [], []⟩
def dfs : List He.DefD := [d_is_integer, d_is_from, d_is_sign, d_is_write, d_is_plan, d_need_plan, d_is_pace, d_need_pace, d_ticks_of, d_ticks, d_need_cell, d_need_tick, d_stay_of, d_seen_at, d_seen, d_board_at, d_board, d_story, d_law_taken, d_law_pick, d_law_alike, d_law_plan, d_law_ticks, d_law_seen, d_law_k00]
def loose : List Str := (["InkError", "BadPlan", "BadPace", "NoCell", "BadTick", "SIGNS", "BARE", "MOST_CELLS", "MOST_INKS", "MOST_STAY", "MOST_WRITES", "MOST_REST", "MOST_TICK", "MOST_STORY", "is_integer", "is_from", "is_sign", "is_write", "is_plan", "need_plan", "is_pace", "need_pace", "ticks_of", "ticks", "need_cell", "need_tick", "stay_of", "seen_at", "seen", "board_at"] : List Str) ++ (["board", "story", "_law_taken", "_law_pick", "_law_alike", "_law_plan", "_law_ticks", "_law_seen"] : List Str)
abbrev R : PySem.W.OpenRow := PySem.W.OpenLaw.row PySem.Challenge.rw_fadinginks_k00_whole_boards
abbrev hk : PySem.W.Hook := He.hookD 6 fa dfs
def ob (s : PySem.W.SharedT) : He.AlD := He.obsDG 6 fa dfs (HandSHeadRun.getT s)
theorem ob_eq (s : PySem.W.SharedT) : ob s = hk.obs s.abs := He.obsDG_eq (HandSHeadRun.getT_eq s)
theorem run_head (w : World) : HandSHeadRun.RunEq R (PySem.W.view R.prog [41]) hk ob 6000 loose w := by
  intro os
  kernel_rfl
theorem facts {P : Program} {w : World} {K : PySem.W.Frag} {mg : Str → Option Value} {h : Heap} (X : K.In h) (G : h.Ns mainGlobals mg) (c : He.SaysD fa dfs K) : mg ("law" : Str) = some (.ref (He.ga K "law")) ∧
    ∃ fd : FuncData, (∀ (s : Shared) (v : Value), BindsTo s fd ⟨[v], []⟩ [("_law_script", v)]) ∧ ∀ base : Heap, FnOk P w K mg base (CX P w) 62 (He.ga K "law") fd ["_law_script"] (lift K 1 sp_law) := by
  have hfa := facts_all c
  have lw : mg ("law" : Str) = some (.ref (He.ga K "law")) := He.glo_ok X G (hfa (.glo "law") (by simp [fa]))
  obtain ⟨fd0, F0⟩ := c.def_ 0 (d := d_is_integer) rfl
  obtain ⟨fd1, F1⟩ := c.def_ 1 (d := d_is_from) rfl
  obtain ⟨fd2, F2⟩ := c.def_ 2 (d := d_is_sign) rfl
  obtain ⟨fd3, F3⟩ := c.def_ 3 (d := d_is_write) rfl
  obtain ⟨fd4, F4⟩ := c.def_ 4 (d := d_is_plan) rfl
  obtain ⟨fd5, F5⟩ := c.def_ 5 (d := d_need_plan) rfl
  obtain ⟨fd6, F6⟩ := c.def_ 6 (d := d_is_pace) rfl
  obtain ⟨fd7, F7⟩ := c.def_ 7 (d := d_need_pace) rfl
  obtain ⟨fd8, F8⟩ := c.def_ 8 (d := d_ticks_of) rfl
  obtain ⟨fd9, F9⟩ := c.def_ 9 (d := d_ticks) rfl
  obtain ⟨fd10, F10⟩ := c.def_ 10 (d := d_need_cell) rfl
  obtain ⟨fd11, F11⟩ := c.def_ 11 (d := d_need_tick) rfl
  obtain ⟨fd12, F12⟩ := c.def_ 12 (d := d_stay_of) rfl
  obtain ⟨fd13, F13⟩ := c.def_ 13 (d := d_seen_at) rfl
  obtain ⟨fd14, F14⟩ := c.def_ 14 (d := d_seen) rfl
  obtain ⟨fd15, F15⟩ := c.def_ 15 (d := d_board_at) rfl
  obtain ⟨fd16, F16⟩ := c.def_ 16 (d := d_board) rfl
  obtain ⟨fd17, F17⟩ := c.def_ 17 (d := d_story) rfl
  obtain ⟨fd18, F18⟩ := c.def_ 18 (d := d_law_taken) rfl
  obtain ⟨fd19, F19⟩ := c.def_ 19 (d := d_law_pick) rfl
  obtain ⟨fd20, F20⟩ := c.def_ 20 (d := d_law_alike) rfl
  obtain ⟨fd21, F21⟩ := c.def_ 21 (d := d_law_plan) rfl
  obtain ⟨fd22, F22⟩ := c.def_ 22 (d := d_law_ticks) rfl
  obtain ⟨fd23, F23⟩ := c.def_ 23 (d := d_law_seen) rfl
  obtain ⟨fd24, F24⟩ := c.def_ 24 (d := d_law_k00) rfl
  have B0 : Binds K fd0 ["value"] [] := FunD.bindsN F0 fun _ _ _ _ _ _ us hl => match us, hl with | [_], _ => rfl
  have B1 : Binds K fd1 ["value", "low", "high"] [] := FunD.bindsN F1 fun _ _ _ _ _ _ us hl => match us, hl with | [_, _, _], _ => rfl
  have B2 : Binds K fd2 ["value"] [] := FunD.bindsN F2 fun _ _ _ _ _ _ us hl => match us, hl with | [_], _ => rfl
  have B3 : Binds K fd3 ["cells", "stays", "value"] [] := FunD.bindsN F3 fun _ _ _ _ _ _ us hl => match us, hl with | [_, _, _], _ => rfl
  have B4 : Binds K fd4 ["value"] [] := FunD.bindsN F4 fun _ _ _ _ _ _ us hl => match us, hl with | [_], _ => rfl
  have B5 : Binds K fd5 ["value"] [] := FunD.bindsN F5 fun _ _ _ _ _ _ us hl => match us, hl with | [_], _ => rfl
  have B6 : Binds K fd6 ["plan", "value"] [] := FunD.bindsN F6 fun _ _ _ _ _ _ us hl => match us, hl with | [_, _], _ => rfl
  have B7 : Binds K fd7 ["plan", "value"] [] := FunD.bindsN F7 fun _ _ _ _ _ _ us hl => match us, hl with | [_, _], _ => rfl
  have B8 : Binds K fd8 ["pace"] [] := FunD.bindsN F8 fun _ _ _ _ _ _ us hl => match us, hl with | [_], _ => rfl
  have B9 : Binds K fd9 ["plan", "pace"] [] := FunD.bindsN F9 fun _ _ _ _ _ _ us hl => match us, hl with | [_, _], _ => rfl
  have B10 : Binds K fd10 ["plan", "value"] [] := FunD.bindsN F10 fun _ _ _ _ _ _ us hl => match us, hl with | [_, _], _ => rfl
  have B11 : Binds K fd11 ["value", "most"] [] := FunD.bindsN F11 fun _ _ _ _ _ _ us hl => match us, hl with | [_, _], _ => rfl
  have B12 : Binds K fd12 ["plan", "write"] [] := FunD.bindsN F12 fun _ _ _ _ _ _ us hl => match us, hl with | [_, _], _ => rfl
  have B13 : Binds K fd13 ["plan", "told", "cell", "tick"] [] := FunD.bindsN F13 fun _ _ _ _ _ _ us hl => match us, hl with | [_, _, _, _], _ => rfl
  have B14 : Binds K fd14 ["plan", "pace", "cell", "tick"] [] := FunD.bindsN F14 fun _ _ _ _ _ _ us hl => match us, hl with | [_, _, _, _], _ => rfl
  have B15 : Binds K fd15 ["plan", "told", "tick"] [] := FunD.bindsN F15 fun _ _ _ _ _ _ us hl => match us, hl with | [_, _, _], _ => rfl
  have B16 : Binds K fd16 ["plan", "pace", "tick"] [] := FunD.bindsN F16 fun _ _ _ _ _ _ us hl => match us, hl with | [_, _, _], _ => rfl
  have B17 : Binds K fd17 ["plan", "pace", "cell", "last"] [] := FunD.bindsN F17 fun _ _ _ _ _ _ us hl => match us, hl with | [_, _, _, _], _ => rfl
  have B18 : Binds K fd18 ["_law_row", "_law_many"] [] := FunD.bindsN F18 fun _ _ _ _ _ _ us hl => match us, hl with | [_, _], _ => rfl
  have B19 : Binds K fd19 ["_law_row", "_law_things"] [] := FunD.bindsN F19 fun _ _ _ _ _ _ us hl => match us, hl with | [_, _], _ => rfl
  have B20 : Binds K fd20 ["_law_found", "_law_due"] [] := FunD.bindsN F20 fun _ _ _ _ _ _ us hl => match us, hl with | [_, _], _ => rfl
  have B21 : Binds K fd21 ["_law_row", "_law_most", "_law_wide"] [] := FunD.bindsN F21 fun _ _ _ _ _ _ us hl => match us, hl with | [_, _, _], _ => rfl
  have B22 : Binds K fd22 ["_law_rests", "_law_first"] [] := FunD.bindsN F22 fun _ _ _ _ _ _ us hl => match us, hl with | [_, _], _ => rfl
  have B23 : Binds K fd23 ["_law_plan_here", "_law_told", "_law_cell", "_law_tick"] [] := FunD.bindsN F23 fun _ _ _ _ _ _ us hl => match us, hl with | [_, _, _, _], _ => rfl
  have B24 : Binds K fd24 ["_law_script"] [] := FunD.bindsN F24 fun _ _ _ _ _ _ us hl => match us, hl with | [_], _ => rfl
  have bl : ∀ (s : Shared) (us : List Value), us.length = 1 → BindsTo s fd24 ⟨us, []⟩ ((["_law_script"] : List Str).zip us) := FunD.bindsA (ps := ["_law_script"]) F24 fun _ _ _ _ _ _ us hl => match us, hl with | [_], _ => rfl
  refine ⟨lw, fd24, fun s v => bl s [v] rfl, fun base => ?_⟩
  have p0 : Prg P w K mg base Phi 0 fa nm ar ([] : List Nat).contains := prg0 hfa X G
  have G0 : FnOk P w K mg base (CX P w) 2 (He.fAd K (nm f_is_integer)) fd0 P_is_integer (lift K P_is_integer.length (Phi f_is_integer)) := def_ok p0 F0 N_is_integer P_is_integer sc_is_integer ck_is_integer (sp := sp_is_integer) (fun ds G W Q _ h => run_is_integer h)
  have p1 := p0.add (i := f_is_integer) (by decide) G0 B0 rfl
  have G1 : FnOk P w K mg base (CX P w) 4 (He.fAd K (nm f_is_from)) fd1 P_is_from (lift K P_is_from.length (Phi f_is_from)) := def_ok p1 F1 N_is_from P_is_from sc_is_from ck_is_from (sp := sp_is_from) (fun ds G W Q _ h => run_is_from rfl h)
  have p2 := p1.add (i := f_is_from) (by decide) G1 B1 rfl
  have G2 : FnOk P w K mg base (CX P w) 6 (He.fAd K (nm f_is_sign)) fd2 P_is_sign (lift K P_is_sign.length (Phi f_is_sign)) := def_ok p2 F2 N_is_sign P_is_sign sc_is_sign ck_is_sign (sp := sp_is_sign) (fun ds G W Q _ h => run_is_sign h)
  have p3 := p2.add (i := f_is_sign) (by decide) G2 B2 rfl
  have G3 : FnOk P w K mg base (CX P w) 8 (He.fAd K (nm f_is_write)) fd3 P_is_write (lift K P_is_write.length (Phi f_is_write)) := def_ok p3 F3 N_is_write P_is_write sc_is_write ck_is_write (sp := sp_is_write) (fun ds G W Q _ h => run_is_write rfl rfl h)
  have p4 := p3.add (i := f_is_write) (by decide) G3 B3 rfl
  have G4 : FnOk P w K mg base (CX P w) 10 (He.fAd K (nm f_is_plan)) fd4 P_is_plan (lift K P_is_plan.length (Phi f_is_plan)) := def_ok p4 F4 N_is_plan P_is_plan sc_is_plan ck_is_plan (sp := sp_is_plan) (fun ds G W Q _ h => run_is_plan rfl rfl h)
  have p5 := p4.add (i := f_is_plan) (by decide) G4 B4 rfl
  have G5 : FnOk P w K mg base (CX P w) 12 (He.fAd K (nm f_need_plan)) fd5 P_need_plan (lift K P_need_plan.length (Phi f_need_plan)) := def_ok p5 F5 N_need_plan P_need_plan sc_need_plan ck_need_plan (sp := sp_need_plan) (fun ds G W Q _ h => run_need_plan rfl h)
  have p6 := p5.add (i := f_need_plan) (by decide) G5 B5 rfl
  have G6 : FnOk P w K mg base (CX P w) 14 (He.fAd K (nm f_is_pace)) fd6 P_is_pace (lift K P_is_pace.length (Phi f_is_pace)) := def_ok p6 F6 N_is_pace P_is_pace sc_is_pace ck_is_pace (sp := sp_is_pace) (fun ds G W Q _ h => run_is_pace rfl h)
  have p7 := p6.add (i := f_is_pace) (by decide) G6 B6 rfl
  have G7 : FnOk P w K mg base (CX P w) 16 (He.fAd K (nm f_need_pace)) fd7 P_need_pace (lift K P_need_pace.length (Phi f_need_pace)) := def_ok p7 F7 N_need_pace P_need_pace sc_need_pace ck_need_pace (sp := sp_need_pace) (fun ds G W Q _ h => run_need_pace rfl h)
  have p8 := p7.add (i := f_need_pace) (by decide) G7 B7 rfl
  have G8 : FnOk P w K mg base (CX P w) 18 (He.fAd K (nm f_ticks_of)) fd8 P_ticks_of (lift K P_ticks_of.length (Phi f_ticks_of)) := def_ok p8 F8 N_ticks_of P_ticks_of sc_ticks_of ck_ticks_of (sp := sp_ticks_of) (fun ds G W Q _ h => run_ticks_of h)
  have p9 := p8.add (i := f_ticks_of) (by decide) G8 B8 rfl
  have G9 : FnOk P w K mg base (CX P w) 20 (He.fAd K (nm f_ticks)) fd9 P_ticks (lift K P_ticks.length (Phi f_ticks)) := def_ok p9 F9 N_ticks P_ticks sc_ticks ck_ticks (sp := sp_ticks) (fun ds G W Q _ h => run_ticks rfl rfl rfl h)
  have p10 := p9.add (i := f_ticks) (by decide) G9 B9 rfl
  have G10 : FnOk P w K mg base (CX P w) 22 (He.fAd K (nm f_need_cell)) fd10 P_need_cell (lift K P_need_cell.length (Phi f_need_cell)) := def_ok p10 F10 N_need_cell P_need_cell sc_need_cell ck_need_cell (sp := sp_need_cell) (fun ds G W Q _ h => run_need_cell rfl h)
  have p11 := p10.add (i := f_need_cell) (by decide) G10 B10 rfl
  have G11 : FnOk P w K mg base (CX P w) 24 (He.fAd K (nm f_need_tick)) fd11 P_need_tick (lift K P_need_tick.length (Phi f_need_tick)) := def_ok p11 F11 N_need_tick P_need_tick sc_need_tick ck_need_tick (sp := sp_need_tick) (fun ds G W Q _ h => run_need_tick rfl h)
  have p12 := p11.add (i := f_need_tick) (by decide) G11 B11 rfl
  have G12 : FnOk P w K mg base (CX P w) 26 (He.fAd K (nm f_stay_of)) fd12 P_stay_of (lift K P_stay_of.length (Phi f_stay_of)) := def_ok p12 F12 N_stay_of P_stay_of sc_stay_of ck_stay_of (sp := sp_stay_of) (fun ds G W Q _ h => run_stay_of h)
  have p13 := p12.add (i := f_stay_of) (by decide) G12 B12 rfl
  have G13 : FnOk P w K mg base (CX P w) 28 (He.fAd K (nm f_seen_at)) fd13 P_seen_at (lift K P_seen_at.length (Phi f_seen_at)) := def_ok p13 F13 N_seen_at P_seen_at sc_seen_at ck_seen_at (sp := sp_seen_at) (fun ds G W Q _ h => run_seen_at rfl h)
  have p14 := p13.add (i := f_seen_at) (by decide) G13 B13 rfl
  have G14 : FnOk P w K mg base (CX P w) 30 (He.fAd K (nm f_seen)) fd14 P_seen (lift K P_seen.length (Phi f_seen)) := def_ok p14 F14 N_seen P_seen sc_seen ck_seen (sp := sp_seen) (fun ds G W Q _ h => run_seen rfl rfl rfl rfl rfl rfl h)
  have p15 := p14.add (i := f_seen) (by decide) G14 B14 rfl
  have G15 : FnOk P w K mg base (CX P w) 32 (He.fAd K (nm f_board_at)) fd15 P_board_at (lift K P_board_at.length (Phi f_board_at)) := def_ok p15 F15 N_board_at P_board_at sc_board_at ck_board_at (sp := sp_board_at) (fun ds G W Q _ h => run_board_at rfl h)
  have p16 := p15.add (i := f_board_at) (by decide) G15 B15 rfl
  have G16 : FnOk P w K mg base (CX P w) 34 (He.fAd K (nm f_board)) fd16 P_board (lift K P_board.length (Phi f_board)) := def_ok p16 F16 N_board P_board sc_board ck_board (sp := sp_board) (fun ds G W Q _ h => run_board rfl rfl rfl rfl rfl h)
  have p17 := p16.add (i := f_board) (by decide) G16 B16 rfl
  have G17 : FnOk P w K mg base (CX P w) 36 (He.fAd K (nm f_story)) fd17 P_story (lift K P_story.length (Phi f_story)) := def_ok p17 F17 N_story P_story sc_story ck_story (sp := sp_story) (fun ds G W Q _ h => run_story rfl rfl rfl rfl rfl rfl h)
  have p18 := p17.add (i := f_story) (by decide) G17 B17 rfl
  have G18 : FnOk P w K mg base (CX P w) 38 (He.fAd K (nm f_law_taken)) fd18 P_law_taken (lift K P_law_taken.length (Phi f_law_taken)) := def_ok p18 F18 N_law_taken P_law_taken sc_law_taken ck_law_taken (sp := sp_law_taken) (fun ds G W Q _ h => run_law_taken h)
  have p19 := p18.add (i := f_law_taken) (by decide) G18 B18 rfl
  have G19 : FnOk P w K mg base (CX P w) 40 (He.fAd K (nm f_law_pick)) fd19 P_law_pick (lift K P_law_pick.length (Phi f_law_pick)) := def_ok p19 F19 N_law_pick P_law_pick sc_law_pick ck_law_pick (sp := sp_law_pick) (fun ds G W Q _ h => run_law_pick rfl h)
  have p20 := p19.add (i := f_law_pick) (by decide) G19 B19 rfl
  have G20 := rec_ok (i := f_law_alike) p20 F20 N_law_alike P_law_alike B20 rfl (by decide) sc_law_alike ck_law_alike (spn := sp_law_alike) (fun n ds G W Q _ h => run_law_alike n h) 6
  have p21 := p20.add (i := f_law_alike) (by decide) G20 B20 rfl
  have G21 : FnOk P w K mg base (CX P w) 56 (He.fAd K (nm f_law_plan)) fd21 P_law_plan (lift K P_law_plan.length (Phi f_law_plan)) := def_ok p21 F21 N_law_plan P_law_plan sc_law_plan ck_law_plan (sp := sp_law_plan) (fun ds G W Q _ h => run_law_plan rfl rfl h)
  have p22 := p21.add (i := f_law_plan) (by decide) G21 B21 rfl
  have G22 : FnOk P w K mg base (CX P w) 58 (He.fAd K (nm f_law_ticks)) fd22 P_law_ticks (lift K P_law_ticks.length (Phi f_law_ticks)) := def_ok p22 F22 N_law_ticks P_law_ticks sc_law_ticks ck_law_ticks (sp := sp_law_ticks) (fun ds G W Q _ h => run_law_ticks h)
  have p23 := p22.add (i := f_law_ticks) (by decide) G22 B22 rfl
  have G23 : FnOk P w K mg base (CX P w) 60 (He.fAd K (nm f_law_seen)) fd23 P_law_seen (lift K P_law_seen.length (Phi f_law_seen)) := def_ok p23 F23 N_law_seen P_law_seen sc_law_seen ck_law_seen (sp := sp_seen_at) (fun ds G W Q _ h => run_law_seen h)
  have p24 := p23.add (i := f_law_seen) (by decide) G23 B23 rfl
  have G24 : FnOk P w K mg base (CX P w) 62 (He.fAd K (nm f_law)) fd24 P_law_k00 (lift K P_law_k00.length (Phi f_law)) := def_ok p24 F24 N_law_k00 P_law_k00 sc_law_k00 ck_law_k00 (sp := sp_law) (fun ds G W Q _ h => run_law_k00 rfl rfl rfl rfl rfl rfl rfl rfl rfl rfl h)
  exact G24

end Ink
open PySem PySem.W PySem.Calls PyProof.Rows
theorem PySem.Challenge.cw_fadinginks_k00_whole_boards_holds : PySem.Challenge.rw_fadinginks_k00_whole_boards.Holds := by
  w_on; o_law
  refine HandSHeadRun.head_any (r := OpenLaw.row PySem.Challenge.rw_fadinginks_k00_whole_boards) (q := view (OpenLaw.row PySem.Challenge.rw_fadinginks_k00_whole_boards).prog [41]) (H := Ink.hk) (ob := Ink.ob) (M := 6000) (loose := Ink.loose) (d := HandSHeadRun.topDef (OpenLaw.row PySem.Challenge.rw_fadinginks_k00_whole_boards).prog 41) (kwd := []) Ink.ob_eq
    (by kernel_rfl) (fun s => by kernel_rfl) Ink.run_head (by kernel_rfl) (by kernel_rfl) (by kernel_rfl) (by rfl) (by first | assumption | decide +kernel) (by decide +kernel) ⟨rfl, rfl, rfl, rfl, rfl, by decide +kernel⟩ ?hw ?hc
  case hw => w_witness2
  case hc => exact Ink.law_end (l := PySem.Challenge.rw_fadinginks_k00_whole_boards) (k := 62) (x := "_law_script") rfl (by kernel_rfl) ⟨rfl, by decide, by decide⟩ (by kernel_rfl) fun w K mg h X G c => Ink.facts X G c
