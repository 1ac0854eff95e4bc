import PyProof.Rows.All
import Wide.All
import OpenK.AllK
import Wide.FinOn
import HandS.ForMost
import HandS.ForExc
import HandS.TupAny
import HandS.TupMul
import HandS.IsInst
import HandS.Conv
import HandS.Wide
import HandS.ExcInit
import HandS.ExcField
import HandS.ExcIs
import HandS.Flow
import HandS.HotCalls
import KE.DataEq
import KE.KExcSuper
import HandS.CallSlots
import PySem.Challenge.RW_everplay_k05_plays_shortened
set_option Elab.async false
set_option linter.all false
set_option maxRecDepth 100000
set_option maxHeartbeats 4000000
/-! The data layer, part A: values by value (tuples as lists), objects that change by address; how they stand in the abstract heap. -/
namespace DL
open PySem PySem.Spec PyProof.Rows L2

/-- a value: tuples (and lists that nobody changes) by their items, other objects by their address -/
inductive D where
  | non | bl (b : Bool) | int (i : Int) | str (x : Str) | ref (a : Addr) | ty (n : String)
  | tup (xs : List D)
  | fl (xs : List D)

/-- a list that is known to stay as it is: locked, or of the written part -/
def Fl (K : PySem.W.Frag) (H : Hp) (a : Addr) (xs : List V) : Prop := (∃ o, H a = some (.frz o (.lst xs))) ∨ (∀ H' : Hp, SqL K H' a xs)

mutual
def Rep (K : PySem.W.Frag) (H : Hp) : D → V → Prop
  | .non, v => v = .non
  | .bl b, v => v = .bl b
  | .int i, v => v = .int i
  | .str x, v => v = .str x
  | .ref a, v => v = .ref a
  | .ty n, v => v = .ty n
  | .tup ds, v => ∃ a xs, v = .ref a ∧ SqT K H a xs ∧ Reps K H ds xs
  | .fl ds, v => ∃ a xs, v = .ref a ∧ Fl K H a xs ∧ Reps K H ds xs
def Reps (K : PySem.W.Frag) (H : Hp) : List D → List V → Prop
  | [], vs => vs = []
  | d :: ds, vs => ∃ v r, vs = v :: r ∧ Rep K H d v ∧ Reps K H ds r
end

/-- what never goes: tuples, locked things -/
structure Up (H H' : Hp) : Prop where
  tup : ∀ a xs, H a = some (.tup xs) → H' a = some (.tup xs)
  frz : ∀ a o u, H a = some (.frz o u) → H' a = some (.frz o u)
theorem Up.refl (H : Hp) : Up H H := ⟨fun _ _ h => h, fun _ _ _ h => h⟩
theorem Up.trans {H H1 H2 : Hp} (a : Up H H1) (b : Up H1 H2) : Up H H2 := ⟨fun x y h => b.tup x y (a.tup x y h), fun x y z h => b.frz x y z (a.frz x y z h)⟩
theorem Up.new {H : Hp} {p : Addr} {o : HO} (h : H p = none) : Up H (upd H p o) := ⟨fun a xs e => by rw [upd_ne (ne_of_none e h)]; exact e, fun a x u e => by rw [upd_ne (ne_of_none e h)]; exact e⟩
/-- a thing that may change -/
def Chg : HO → Prop
  | .tup _ => False
  | .frz _ _ => False
  | _ => True
theorem Up.put {H : Hp} {p : Addr} {o u : HO} (h : H p = some o) (c : Chg o) : Up H (upd H p u) :=
  ⟨fun a xs e => by
    have n : a ≠ p := fun z => by
      rw [z, h] at e
      cases e
      exact c
    rw [upd_ne n]; exact e, fun a x y e => by
    have n : a ≠ p := fun z => by
      rw [z, h] at e
      cases e
      exact c
    rw [upd_ne n]; exact e⟩
theorem Up.sqT {K : PySem.W.Frag} {H H' : Hp} (u : Up H H') {a : Addr} {xs : List V} (h : SqT K H a xs) : SqT K H' a xs := by
  rcases h with (h | ⟨o, h⟩) | h
  · exact .inl (.inl (u.tup _ _ h))
  · exact .inl (.inr ⟨o, u.frz _ _ _ h⟩)
  · exact .inr h
theorem Fl.sq {K : PySem.W.Frag} {H : Hp} {a : Addr} {xs : List V} (h : Fl K H a xs) : SqL K H a xs := by
  rcases h with ⟨o, h⟩ | h
  · exact .inl (.inr ⟨o, h⟩)
  · exact h H
theorem Up.fl {K : PySem.W.Frag} {H H' : Hp} (u : Up H H') {a : Addr} {xs : List V} (h : Fl K H a xs) : Fl K H' a xs := by
  rcases h with ⟨o, h⟩ | h
  · exact .inl ⟨o, u.frz _ _ _ h⟩
  · exact .inr h

section
variable {K : PySem.W.Frag} {H H' : Hp}
mutual
theorem Rep.up (u : Up H H') : ∀ (d : D) (v : V), Rep K H d v → Rep K H' d v
  | .non, _, h => h
  | .bl _, _, h => h
  | .int _, _, h => h
  | .str _, _, h => h
  | .ref _, _, h => h
  | .ty _, _, h => h
  | .tup ds, _, h => by
    obtain ⟨a, xs, e, q, r⟩ := h
    exact ⟨a, xs, e, u.sqT q, Reps.up u ds xs r⟩
  | .fl ds, _, h => by
    obtain ⟨a, xs, e, q, r⟩ := h
    exact ⟨a, xs, e, u.fl q, Reps.up u ds xs r⟩
theorem Reps.up (u : Up H H') : ∀ (ds : List D) (vs : List V), Reps K H ds vs → Reps K H' ds vs
  | [], _, h => h
  | d :: ds, _, h => by
    obtain ⟨v, r, e, h1, h2⟩ := h
    exact ⟨v, r, e, Rep.up u d v h1, Reps.up u ds r h2⟩
end
theorem Reps.len : ∀ {ds : List D} {vs : List V}, Reps K H ds vs → vs.length = ds.length
  | [], _, h => by rw [show _ = [] from h]; rfl
  | d :: ds, _, h => by
    obtain ⟨v, r, e, _, h2⟩ := h
    rw [e, List.length_cons, List.length_cons, Reps.len h2]
theorem Reps.get : ∀ {ds : List D} {vs : List V} {i : Nat} {d : D}, Reps K H ds vs → ds[i]? = some d → ∃ v, vs[i]? = some v ∧ Rep K H d v
  | [], _, _, _, _, e => by simp at e
  | d :: ds, _, 0, _, h, e => by
    obtain ⟨v, r, ev, h1, _⟩ := h
    simp at e
    subst e ev
    exact ⟨v, rfl, h1⟩
  | d :: ds, _, i + 1, x, h, e => by
    obtain ⟨v, r, ev, _, h2⟩ := h
    subst ev
    obtain ⟨w, e1, r1⟩ := Reps.get (i := i) h2 (by simpa using e)
    exact ⟨w, by simpa using e1, r1⟩
theorem Reps.app : ∀ {ds es : List D} {vs ws : List V}, Reps K H ds vs → Reps K H es ws → Reps K H (ds ++ es) (vs ++ ws)
  | [], _, _, _, h, g => by rw [show _ = [] from h]; exact g
  | d :: ds, es, _, ws, h, g => by
    obtain ⟨v, r, e, h1, h2⟩ := h
    subst e
    exact ⟨v, r ++ ws, rfl, h1, Reps.app h2 g⟩
theorem Reps.take : ∀ {ds : List D} {vs : List V} (n : Nat), Reps K H ds vs → Reps K H (ds.take n) (vs.take n)
  | _, _, 0, _ => rfl
  | [], _, _ + 1, h => by rw [show _ = [] from h]; rfl
  | d :: ds, _, n + 1, h => by
    obtain ⟨v, r, e, h1, h2⟩ := h
    subst e
    exact ⟨v, r.take n, rfl, h1, Reps.take n h2⟩
theorem Reps.drop : ∀ {ds : List D} {vs : List V} (n : Nat), Reps K H ds vs → Reps K H (ds.drop n) (vs.drop n)
  | _, _, 0, h => h
  | [], _, _ + 1, h => by rw [show _ = [] from h]; rfl
  | d :: ds, _, n + 1, h => by
    obtain ⟨v, r, e, h1, h2⟩ := h
    subst e
    exact Reps.drop n h2
theorem Reps.set {x : D} {u : V} (rx : Rep K H x u) : ∀ {ds : List D} {vs : List V} (i : Nat), Reps K H ds vs → Reps K H (ds.set i x) (vs.set i u)
  | [], _, _, h => by rw [show _ = [] from h]; rfl
  | d :: ds, _, 0, h => by
    obtain ⟨v, r, e, h1, h2⟩ := h
    subst e
    exact ⟨u, r, rfl, rx, h2⟩
  | d :: ds, _, i + 1, h => by
    obtain ⟨v, r, e, h1, h2⟩ := h
    subst e
    exact ⟨v, r.set i u, rfl, h1, Reps.set rx i h2⟩
theorem Reps.rep {ds : List D} {vs : List V} (h : Reps K H ds vs) : ∀ n : Nat, Reps K H (List.replicate n ds).flatten (List.replicate n vs).flatten
  | 0 => rfl
  | n + 1 => by
    rw [List.replicate_succ, List.replicate_succ, List.flatten_cons, List.flatten_cons]
    exact h.app (Reps.rep h n)
theorem Reps.rev : ∀ {ds : List D} {vs : List V}, Reps K H ds vs → Reps K H ds.reverse vs.reverse
  | [], _, h => by rw [show _ = [] from h]; rfl
  | d :: ds, _, h => by
    obtain ⟨v, r, e, h1, h2⟩ := h
    subst e
    rw [List.reverse_cons, List.reverse_cons]
    exact (Reps.rev h2).app ⟨v, [], rfl, h1, rfl⟩
theorem Reps.nil_iff {vs : List V} : Reps K H [] vs ↔ vs = [] := Iff.rfl
theorem Reps.one {d : D} {v : V} (h : Rep K H d v) : Reps K H [d] [v] := ⟨v, [], rfl, h, rfl⟩
theorem Reps.empty_iff {ds : List D} {vs : List V} (h : Reps K H ds vs) : vs = [] ↔ ds = [] := by
  cases ds with
  | nil => exact ⟨fun _ => rfl, fun _ => h⟩
  | cons d r =>
    obtain ⟨v, t, e, _⟩ := h
    subst e
    exact ⟨fun z => (by cases z), fun z => (by cases z)⟩
theorem Reps.of_map {α : Type} {f : α → D} {g : α → V} (h : ∀ x, Rep K H (f x) (g x)) : ∀ xs : List α, Reps K H (xs.map f) (xs.map g)
  | [] => rfl
  | x :: r => ⟨g x, r.map g, rfl, h x, Reps.of_map h r⟩
theorem Reps.to_map {α : Type} {f : α → D} {g : α → V} (h : ∀ x v, Rep K H (f x) v → v = g x) : ∀ (xs : List α) (vs : List V), Reps K H (xs.map f) vs → vs = xs.map g
  | [], _, q => q
  | x :: r, _, q => by
    obtain ⟨v, t, e, h1, h2⟩ := q
    subst e
    rw [h x v h1, Reps.to_map h r t h2]
    rfl
theorem Reps.ints {ns : List Int} {vs : List V} (h : Reps K H (ns.map D.int) vs) : vs = ns.map V.int := Reps.to_map (f := D.int) (g := V.int) (fun _ _ q => q) ns vs h
theorem Reps.of_ints (ns : List Int) : Reps K H (ns.map D.int) (ns.map V.int) := Reps.of_map (f := D.int) (g := V.int) (fun _ => rfl) ns
theorem Reps.strs {ns : List Str} {vs : List V} (h : Reps K H (ns.map D.str) vs) : vs = ns.map V.str := Reps.to_map (f := D.str) (g := V.str) (fun _ _ q => q) ns vs h
theorem Reps.of_strs (ns : List Str) : Reps K H (ns.map D.str) (ns.map V.str) := Reps.of_map (f := D.str) (g := V.str) (fun _ => rfl) ns
end

/-- pairs of a key and a value -/
def RepK {κ : Type} (K : PySem.W.Frag) (H : Hp) : List (κ × D) → List (κ × V) → Prop
  | [], vs => vs = []
  | (k, d) :: ds, vs => ∃ v r, vs = (k, v) :: r ∧ Rep K H d v ∧ RepK K H ds r
section
variable {κ : Type} {K : PySem.W.Frag} {H H' : Hp}
theorem RepK.up (u : Up H H') : ∀ {ds : List (κ × D)} {vs : List (κ × V)}, RepK K H ds vs → RepK K H' ds vs
  | [], _, h => h
  | (k, d) :: ds, _, h => by
    obtain ⟨v, r, e, h1, h2⟩ := h
    exact ⟨v, r, e, h1.up u _ _, RepK.up u h2⟩
theorem RepK.len : ∀ {ds : List (κ × D)} {vs : List (κ × V)}, RepK K H ds vs → vs.length = ds.length
  | [], _, h => by rw [show _ = [] from h]; rfl
  | (k, d) :: ds, _, h => by
    obtain ⟨v, r, e, _, h2⟩ := h
    rw [e, List.length_cons, List.length_cons, RepK.len h2]
theorem RepK.keys : ∀ {ds : List (κ × D)} {vs : List (κ × V)}, RepK K H ds vs → vs.map (·.1) = ds.map (·.1)
  | [], _, h => by rw [show _ = [] from h]; rfl
  | (k, d) :: ds, _, h => by
    obtain ⟨v, r, e, _, h2⟩ := h
    rw [e, List.map_cons, List.map_cons, RepK.keys h2]
theorem RepK.lookup [BEq κ] : ∀ {ds : List (κ × D)} {vs : List (κ × V)} {k : κ} {d : D}, RepK K H ds vs → ds.lookup k = some d → ∃ v, vs.lookup k = some v ∧ Rep K H d v
  | [], _, _, _, _, e => nomatch e
  | (k, d) :: ds, _, x, y, h, e => by
    obtain ⟨v, r, ev, h1, h2⟩ := h
    subst ev
    rw [List.lookup_cons] at e ⊢
    cases c : (x == k) with
    | true =>
      rw [c] at e
      cases e
      exact ⟨v, rfl, h1⟩
    | false =>
      rw [c] at e
      exact RepK.lookup h2 e
theorem RepK.lookup_none [BEq κ] : ∀ {ds : List (κ × D)} {vs : List (κ × V)} {k : κ}, RepK K H ds vs → ds.lookup k = none → vs.lookup k = none
  | [], _, _, h, _ => by rw [show _ = [] from h]; rfl
  | (k, d) :: ds, _, x, h, e => by
    obtain ⟨v, r, ev, h1, h2⟩ := h
    subst ev
    rw [List.lookup_cons] at e ⊢
    cases c : (x == k) with
    | true =>
      rw [c] at e
      cases e
    | false =>
      rw [c] at e
      exact RepK.lookup_none h2 e
end
end DL

/-! The data layer, part B: objects, the data heap, its steps. -/
namespace DL
open PySem PySem.Spec PyProof.Rows L2

/-- an object that is known -/
inductive DO where
  | lst (ds : List D)
  | ins (C : Addr) (fs : List (Str × D))
  | dct (kvs : List (Key × D))
  | dctT (kvs : List (List Key × D))
  | xd (fs : List (Str × D))
  | abs (R : Addr → Addr → HO → HO → Prop)
abbrev DH := Addr → Option DO
def put (Hd : DH) (a : Addr) (o : DO) : DH := fun b => if b = a then some o else Hd b
theorem put_same {Hd : DH} {a : Addr} {o : DO} : put Hd a o a = some o := if_pos rfl
theorem put_ne {Hd : DH} {a b : Addr} {o : DO} (h : b ≠ a) : put Hd a o b = Hd b := if_neg h
theorem put_put {Hd : DH} {a : Addr} {o u : DO} : put (put Hd a o) a u = put Hd a u := by
  funext b
  unfold put
  split <;> rfl
theorem dne_of_none {Hd : DH} {a b : Addr} {o : DO} (h : Hd a = some o) (h' : Hd b = none) : a ≠ b := fun e => by
  rw [e, h'] at h
  cases h
theorem dne_of {Hd : DH} {a b : Addr} {o u : DO} (h : Hd a = some o) (h' : Hd b = some u) (d : o ≠ u) : a ≠ b := fun e => by
  rw [e, h'] at h
  exact d (Option.some.inj h).symm
/-- an object made later is another one -/
theorem put_old {Hd : DH} {a b : Addr} {o u : DO} (h : Hd b = some u) (n : Hd a = none) : put Hd a o b = some u := by
  rw [put_ne (dne_of_none h n)]
  exact h

section
variable {κ : Type} [DecidableEq κ]
def getP (kvs : List (κ × D)) (k : κ) : Option D := (kvs.find? fun kv => decide (kv.1 = k)).map (·.2)
def putP (kvs : List (κ × D)) (k : κ) (d : D) : List (κ × D) :=
  if (kvs.any fun kv => decide (kv.1 = k)) = true then kvs.map (fun kv => if kv.1 = k then (kv.1, d) else kv) else kvs ++ [(k, d)]
def delP (kvs : List (κ × D)) (k : κ) : List (κ × D) := kvs.filter fun kv => decide (kv.1 ≠ k)
variable {K : PySem.W.Frag} {H : Hp}
theorem RepK.any {p : κ → Bool} : ∀ {ds : List (κ × D)} {vs : List (κ × V)}, RepK K H ds vs → (vs.any fun x => p x.1) = ds.any fun x => p x.1
  | [], _, h => by rw [show _ = [] from h]; rfl
  | (k, d) :: ds, _, h => by
    obtain ⟨v, r, e, _, h2⟩ := h
    subst e
    rw [List.any_cons, List.any_cons, RepK.any h2]
theorem RepK.get : ∀ {ds : List (κ × D)} {vs : List (κ × V)} {k : κ}, RepK K H ds vs → (∀ d, getP ds k = some d → ∃ v, valV vs k = some v ∧ Rep K H d v) ∧ (getP ds k = none → valV vs k = none)
  | [], _, _, h => by
    rw [show _ = [] from h]
    exact ⟨fun d e => (nomatch e), fun _ => rfl⟩
  | (k, d) :: ds, _, x, h => by
    obtain ⟨v, r, ev, h1, h2⟩ := h
    subst ev
    have ih := RepK.get (k := x) h2
    by_cases c : k = x
    · have g : getP ((k, d) :: ds) x = some d := by unfold getP; simp [List.find?_cons, c]
      rw [g]
      refine ⟨fun y e => ?_, fun z => (nomatch z)⟩
      cases e
      exact ⟨v, valV_pos c, h1⟩
    · have g : getP ((k, d) :: ds) x = getP ds x := by unfold getP; simp [List.find?_cons, c]
      rw [g, valV_neg c]
      exact ih
theorem RepK.app {ds es : List (κ × D)} {vs ws : List (κ × V)} (h : RepK K H ds vs) (g : RepK K H es ws) : RepK K H (ds ++ es) (vs ++ ws) := by
  induction ds generalizing vs with
  | nil => rw [show vs = [] from h]; exact g
  | cons p ds ih =>
    obtain ⟨k, d⟩ := p
    obtain ⟨v, r, e, h1, h2⟩ := h
    subst e
    exact ⟨v, r ++ ws, rfl, h1, ih h2⟩
theorem RepK.upd_all {k : κ} {d : D} {v : V} (rv : Rep K H d v) : ∀ {ds : List (κ × D)} {vs : List (κ × V)}, RepK K H ds vs → RepK K H (ds.map fun kv => if kv.1 = k then (kv.1, d) else kv) (vs.map fun kv => if kv.1 = k then (kv.1, v) else kv)
  | [], _, h => by rw [show _ = [] from h]; rfl
  | (x, y) :: ds, _, h => by
    obtain ⟨w, r, e, h1, h2⟩ := h
    subst e
    have ih := RepK.upd_all (k := k) rv h2
    by_cases c : x = k
    · rw [List.map_cons, List.map_cons]
      simp only [if_pos c]
      exact ⟨v, _, rfl, rv, ih⟩
    · rw [List.map_cons, List.map_cons]
      simp only [if_neg c]
      exact ⟨w, _, rfl, h1, ih⟩
theorem RepK.put {k : κ} {d : D} {v : V} (rv : Rep K H d v) {ds : List (κ × D)} {vs : List (κ × V)} (h : RepK K H ds vs) : RepK K H (putP ds k d) (putK vs k v) := by
  unfold putP putK
  rw [RepK.any (p := fun x => decide (x = k)) h]
  by_cases c : (ds.any fun x => decide (x.1 = k)) = true
  · rw [if_pos c, if_pos c]
    exact RepK.upd_all rv h
  · rw [if_neg c, if_neg c]
    exact RepK.app h ⟨v, [], rfl, rv, rfl⟩
theorem RepK.del {k : κ} : ∀ {ds : List (κ × D)} {vs : List (κ × V)}, RepK K H ds vs → RepK K H (delP ds k) (dropK vs k)
  | [], _, h => by rw [show _ = [] from h]; rfl
  | (x, y) :: ds, _, h => by
    obtain ⟨w, r, e, h1, h2⟩ := h
    subst e
    have ih := RepK.del (k := k) h2
    unfold delP dropK at ih ⊢
    rw [List.filter_cons, List.filter_cons]
    by_cases c : x = k
    · rw [if_neg (by simp [c]), if_neg (by simp [c])]
      exact ih
    · rw [if_pos (by simp [c]), if_pos (by simp [c])]
      exact ⟨w, _, rfl, h1, ih⟩
end

/-- the attributes -/
def putA (f : Str) (d : D) : List (Str × D) → List (Str × D)
  | [] => [(f, d)]
  | (g, x) :: r => if g = f then (g, d) :: r else (g, x) :: putA f d r
theorem RepK.putA {K : PySem.W.Frag} {H : Hp} {f : Str} {d : D} {v : V} (rv : Rep K H d v) : ∀ {ds : List (Str × D)} {vs : List (Str × V)}, RepK K H ds vs → RepK K H (putA f d ds) (putF f v vs)
  | [], _, h => by rw [show _ = [] from h]; exact ⟨v, [], rfl, rv, rfl⟩
  | (g, x) :: ds, _, h => by
    obtain ⟨w, r, e, h1, h2⟩ := h
    subst e
    unfold DL.putA putF
    by_cases c : g = f
    · rw [if_pos c, if_pos c]
      exact ⟨v, r, rfl, rv, h2⟩
    · rw [if_neg c, if_neg c]
      exact ⟨w, _, rfl, h1, RepK.putA rv h2⟩

/-- how an object stands -/
def RO (K : PySem.W.Frag) (Hd : DH) (H : Hp) (a : Addr) : DO → Prop
  | .lst ds => ∃ xs, H a = some (.lst xs) ∧ Reps K H ds xs
  | .ins C fs => ∃ dx gs, H a = some (.ins C dx gs) ∧ RepK K H fs gs
  | .dct kvs => ∃ ws, H a = some (.dK ws) ∧ RepK K H kvs ws
  | .dctT kvs => ∃ ws, H a = some (.dT ws) ∧ RepK K H kvs ws
  | .xd fs => ∃ gs, H a = some (.xd gs) ∧ RepK K H fs gs
  | .abs R => ∃ g oa og, Hd g = none ∧ g ≠ a ∧ H a = some oa ∧ Chg oa ∧ H g = some og ∧ R a g oa og
def RH (K : PySem.W.Frag) (Hd : DH) (H : Hp) : Prop := ∀ a o, Hd a = some o → RO K Hd H a o
section
variable {K : PySem.W.Frag} {Hd Hd' : DH} {H H' : Hp} {a p : Addr} {o : DO}
theorem RO.there (h : RO K Hd H a o) : ∃ u, H a = some u ∧ Chg u := by
  cases o with
  | lst ds => obtain ⟨xs, e, _⟩ := h; exact ⟨_, e, trivial⟩
  | ins C fs => obtain ⟨dx, gs, e, _⟩ := h; exact ⟨_, e, trivial⟩
  | dct kvs => obtain ⟨ws, e, _⟩ := h; exact ⟨_, e, trivial⟩
  | dctT kvs => obtain ⟨ws, e, _⟩ := h; exact ⟨_, e, trivial⟩
  | xd fs => obtain ⟨gs, e, _⟩ := h; exact ⟨_, e, trivial⟩
  | abs R => obtain ⟨g, oa, og, _, _, e, c, _⟩ := h; exact ⟨_, e, c⟩
theorem RH.fresh (r : RH K Hd H) (h : H p = none) : Hd p = none := by
  cases e : Hd p with
  | none => rfl
  | some o =>
    have hr : RO K Hd H p o := r p o e
    obtain ⟨u, q, _⟩ := hr.there
    rw [h] at q
    cases q
/-- an object is untouched -/
theorem RO.stay (u : Up H H') (h : RO K Hd H a o) (ea : H' a = H a) (eg : ∀ g og, Hd g = none → H g = some og → Hd' g = none ∧ H' g = some og) : RO K Hd' H' a o := by
  cases o with
  | lst ds => obtain ⟨xs, e, r⟩ := h; exact ⟨xs, ea.trans e, r.up u _ _⟩
  | ins C fs => obtain ⟨dx, gs, e, r⟩ := h; exact ⟨dx, gs, ea.trans e, r.up u⟩
  | dct kvs => obtain ⟨ws, e, r⟩ := h; exact ⟨ws, ea.trans e, r.up u⟩
  | dctT kvs => obtain ⟨ws, e, r⟩ := h; exact ⟨ws, ea.trans e, r.up u⟩
  | xd fs => obtain ⟨gs, e, r⟩ := h; exact ⟨gs, ea.trans e, r.up u⟩
  | abs R =>
    obtain ⟨g, oa, og, n, ne, e1, c, e2, r⟩ := h
    obtain ⟨n', e2'⟩ := eg g og n e2
    exact ⟨g, oa, og, n', ne, ea.trans e1, c, e2', r⟩
/-- a new thing that the data heap does not know -/
theorem RH.hid (r : RH K Hd H) {u : HO} (h : H p = none) : RH K Hd (upd H p u) := fun a o e => by
  have hr : RO K Hd H a o := r a o e
  obtain ⟨w, q, _⟩ := hr.there
  exact hr.stay (Up.new h) (upd_ne (ne_of_none q h)) fun g og n eg => ⟨n, by rw [upd_ne (ne_of_none eg h)]; exact eg⟩
/-- a new object -/
theorem RH.new (r : RH K Hd H) {u : HO} {x : DO} (h : H p = none) (hx : RO K (put Hd p x) (upd H p u) p x) : RH K (put Hd p x) (upd H p u) := fun a o e => by
  by_cases c : a = p
  · subst c
    rw [put_same] at e
    cases e
    exact hx
  · rw [put_ne c] at e
    have hr : RO K Hd H a o := r a o e
    refine hr.stay (Up.new h) (upd_ne c) fun g og n eg => ?_
    have gp := ne_of_none eg h
    exact ⟨by rw [put_ne gp]; exact n, by rw [upd_ne gp]; exact eg⟩
/-- a known object changes -/
theorem RH.write (r : RH K Hd H) {u : HO} {x o : DO} (h : Hd p = some o) (hx : RO K (put Hd p x) (upd H p u) p x) : RH K (put Hd p x) (upd H p u) ∧ Up H (upd H p u) := by
  have hr0 : RO K Hd H p o := r p o h
  obtain ⟨w, q, c⟩ := hr0.there
  have up : Up H (upd H p u) := Up.put q c
  refine ⟨fun a o' e => ?_, up⟩
  by_cases ca : a = p
  · subst ca
    rw [put_same] at e
    cases e
    exact hx
  · rw [put_ne ca] at e
    have hr : RO K Hd H a o' := r a o' e
    refine hr.stay up (upd_ne ca) fun g og n eg => ?_
    have gp : g ≠ p := fun z => by
      rw [z, h] at n
      cases n
    exact ⟨by rw [put_ne gp]; exact n, by rw [upd_ne gp]; exact eg⟩
/-- less is known -/
def Sub (Hd Hd' : DH) : Prop := ∀ a o, Hd a = some o → Hd' a = some o
theorem Sub.refl (Hd : DH) : Sub Hd Hd := fun _ _ h => h
theorem Sub.trans {H1 H2 H3 : DH} (a : Sub H1 H2) (b : Sub H2 H3) : Sub H1 H3 := fun x o h => b x o (a x o h)
theorem Sub.new (h : Hd p = none) : Sub Hd (put Hd p o) := fun b u e => put_old e h
theorem Sub.free {Hd Hd' : DH} (s : Sub Hd Hd') {a : Addr} (h : Hd' a = Option.none) : Hd a = Option.none := by
  cases e : Hd a with
  | none => rfl
  | some o =>
    rw [s a o e] at h
    cases h
theorem RH.less (s : Sub Hd Hd') (r : RH K Hd' H) : RH K Hd H := fun a o e => by
  have hr : RO K Hd' H a o := r a o (s a o e)
  exact hr.stay (Up.refl H) rfl fun g og n eg => ⟨s.free n, eg⟩
end

/-! ### the frame's names -/
abbrev DSt := List (Option D)
structure RS (K : PySem.W.Frag) (σd : DSt) (Hd : DH) (σ : L2.St) (H : Hp) : Prop where
  len : σ.length = σd.length
  at_ : ∀ (i : Nat) d, σd[i]? = some (some d) → ∃ v, σ[i]? = some (some v) ∧ Rep K H d v
  hp : RH K Hd H
section
variable {K : PySem.W.Frag} {σd : DSt} {σ : L2.St} {Hd Hd' : DH} {H H' : Hp}
theorem RS.mono (r : RS K σd Hd σ H) (u : Up H H') (h : RH K Hd' H') : RS K σd Hd' σ H' := ⟨r.len, fun i d e => by
  obtain ⟨v, q, rv⟩ := r.at_ i d e
  exact ⟨v, q, rv.up u _ _⟩, h⟩
theorem RS.set (r : RS K σd Hd σ H) {d : D} {v : V} (rv : Rep K H d v) (i : Nat) : RS K (σd.set i (some d)) Hd (σ.set i (some v)) H := ⟨by rw [List.length_set, List.length_set]; exact r.len, fun j x e => by
  by_cases c : i = j
  · subst c
    by_cases hl : i < σd.length
    · rw [List.getElem?_set_self hl] at e
      cases e
      exact ⟨v, List.getElem?_set_self (by rw [r.len]; exact hl), rv⟩
    · rw [List.getElem?_eq_none (by rw [List.length_set]; omega)] at e
      cases e
  · rw [List.getElem?_set_ne c] at e ⊢
    exact r.at_ j x e, r.hp⟩
/-- a slot that is let go -/
theorem RS.unset (r : RS K σd Hd σ H) (i : Nat) : RS K (σd.set i none) Hd (σ.set i none) H := ⟨by rw [List.length_set, List.length_set]; exact r.len, fun j x e => by
  by_cases c : i = j
  · subst c
    by_cases hl : i < σd.length
    · rw [List.getElem?_set_self hl] at e
      cases e
    · rw [List.getElem?_eq_none (by rw [List.length_set]; omega)] at e
      cases e
  · rw [List.getElem?_set_ne c] at e ⊢
    exact r.at_ j x e, r.hp⟩
def startD (N : List Str) (ds : List D) : DSt := ds.map some ++ List.replicate (N.length - ds.length) none
theorem RS.start {N : List Str} {ds : List D} {vs : List V} (h : Reps K H ds vs) (r : RH K Hd H) : RS K (startD N ds) Hd (L2.start N vs) H := ⟨by
  unfold startD L2.start
  simp [h.len], fun i d e => by
  unfold startD at e
  unfold L2.start
  have hl := h.len
  by_cases hi : i < ds.length
  · rw [List.getElem?_append_left (by simpa using hi), List.getElem?_map] at e
    rw [List.getElem?_append_left (by simpa [hl] using hi), List.getElem?_map]
    cases q : ds[i]? with
    | none => rw [q] at e; cases e
    | some x =>
      rw [q] at e
      obtain ⟨v, e2, rv⟩ := h.get q
      cases e
      exact ⟨v, by rw [e2]; rfl, rv⟩
  · rw [List.getElem?_append_right (by simpa using hi), List.getElem?_replicate] at e
    split at e <;> (cases e), r⟩
end
end DL

/-! The data layer, part C: readings over data, expressions. -/
namespace DL
open PySem PySem.Spec PyProof.Rows L2

abbrev DK := D → DH → Prop
/-- an exception that leaves: its class, its own dict's address -/
abbrev DX := Addr → Option Addr → DH → Prop
abbrev DTE := DX → DSt → DH → DK → Prop
abbrev DTT := DX → DSt → DH → (Bool → DH → Prop) → Prop
abbrev DTA := DX → DSt → DH → (List D → DH → Prop) → Prop
abbrev DTO := DX → DSt → DH → (Option Int → DH → Prop) → Prop
abbrev DR2 := D → D → DH → DK → Prop
abbrev DR1 := D → DH → DK → Prop
abbrev DRA := List D → DH → DK → Prop

section
variable (K : PySem.W.Frag)
/-- what is wanted of a value of the data, said of a value -/
def Want (σd : DSt) (σ : L2.St) (H : Hp) (Qd : DK) (Q : VK) : Prop := ∀ x Hd' v H', Qd x Hd' → Rep K H' x v → RS K σd Hd' σ H' → Up H H' → Q v H'
/-- .. and of an exception -/
def WantX (W : WX) (σd : DSt) (σ : L2.St) (H : Hp) (E : DX) : Prop := ∀ C dd Hd' H', E C dd Hd' → RS K σd Hd' σ H' → Up H H' → W (.ref C) dd σ H'
def SimE (W : WX) (t : TE) (d : DTE) : Prop := ∀ σd Hd σ H (Qd : DK) (Q : VK) (E : DX), RS K σd Hd σ H → WantX K W σd σ H E → d E σd Hd Qd → Want K σd σ H Qd Q → t σ H Q
def SimT (W : WX) (t : TT) (d : DTT) : Prop := ∀ σd Hd σ H (Qd : Bool → DH → Prop) (Q : Bool → Hp → Prop) (E : DX), RS K σd Hd σ H → WantX K W σd σ H E → d E σd Hd Qd → (∀ b Hd' H', Qd b Hd' → RS K σd Hd' σ H' → Up H H' → Q b H') → t σ H Q
def SimA (W : WX) (t : TA) (d : DTA) : Prop := ∀ σd Hd σ H (Qd : List D → DH → Prop) (Q : List V → Hp → Prop) (E : DX), RS K σd Hd σ H → WantX K W σd σ H E → d E σd Hd Qd → (∀ xs Hd' vs H', Qd xs Hd' → Reps K H' xs vs → RS K σd Hd' σ H' → Up H H' → Q vs H') → t σ H Q
def SimO (W : WX) (t : L2.TO) (d : DTO) : Prop := ∀ σd Hd σ H (Qd : Option Int → DH → Prop) (Q : Option Int → Hp → Prop) (E : DX), RS K σd Hd σ H → WantX K W σd σ H E → d E σd Hd Qd → (∀ o Hd' H', Qd o Hd' → RS K σd Hd' σ H' → Up H H' → Q o H') → t σ H Q
/-- by values -/
def WantV (H : Hp) (Qd : DK) (Q : VK) : Prop := ∀ z Hd' w H', Qd z Hd' → Rep K H' z w → RH K Hd' H' → Up H H' → Q w H'
def SimR (r : R2) (rd : DR2) : Prop := ∀ x y v u Hd H (Qd : DK) (Q : VK), Rep K H x v → Rep K H y u → RH K Hd H → rd x y Hd Qd → WantV K H Qd Q → r v u H Q
def SimU (r : V → Hp → VK → Prop) (rd : DR1) : Prop := ∀ x v Hd H (Qd : DK) (Q : VK), Rep K H x v → RH K Hd H → rd x Hd Qd → WantV K H Qd Q → r v H Q
def SimC (r : List V → Hp → VK → Prop) (rd : DRA) : Prop := ∀ xs vs Hd H (Qd : DK) (Q : VK), Reps K H xs vs → RH K Hd H → rd xs Hd Qd → WantV K H Qd Q → r vs H Q
end
def DPE (X : Cx) (W : WX) (e : Expr) (d : DTE) : Prop := ∃ t, PE X e t ∧ SimE X.K W t d
def DPT (X : Cx) (W : WX) (e : Expr) (d : DTT) : Prop := ∃ t, PT X e t ∧ SimT X.K W t d
def DPW (X : Cx) (W : WX) (e : Expr) (d : DTT) : Prop := ∃ t, PW X e t ∧ SimT X.K W t d
def DPA (X : Cx) (W : WX) (es : List Expr) (d : DTA) : Prop := ∃ t, PA X es t ∧ SimA X.K W t d
def DPO (X : Cx) (W : WX) (e : Option Expr) (d : DTO) : Prop := ∃ t, PO X e t ∧ SimO X.K W t d
def DOp (X : Cx) (f : Value → Value → Sem Value) (rd : DR2) : Prop := ∃ r, OpR X f r ∧ SimR X.K r rd
def DUn (X : Cx) (f : Value → Sem Value) (rd : DR1) : Prop := ∃ r, UnR X f r ∧ SimU X.K r rd
def DCl (X : Cx) (f : Value) (rd : DRA) : Prop := ∃ r, CallR X f r ∧ SimC X.K r rd

section
variable {K : PySem.W.Frag} {σd : DSt} {σ : L2.St} {H H' : Hp} {Qd : DK} {Q : VK}
theorem Want.v (w : Want K σd σ H Qd Q) {Hd : DH} (r : RS K σd Hd σ H) : WantV K H Qd Q := fun z Hd' u H' q rz rh up => w z Hd' u H' q rz (r.mono up rh) up
theorem Want.to (w : Want K σd σ H Qd Q) (u : Up H H') : Want K σd σ H' Qd Q := fun z Hd' v H2 q rz rs up => w z Hd' v H2 q rz rs (u.trans up)
theorem WantX.to {W : WX} {E : DX} (w : WantX K W σd σ H E) (u : Up H H') : WantX K W σd σ H' E := fun C dd Hd' H2 q rs up => w C dd Hd' H2 q rs (u.trans up)
theorem WantV.here {Hd : DH} {z : D} {w : V} (k : WantV K H Qd Q) (q : Qd z Hd) (rz : Rep K H z w) (rh : RH K Hd H) : Q w H := k z Hd w H q rz rh (Up.refl H)
end

/-! ### readings -/
def dVar (i : Nat) : DTE := fun _ σ H Q => ∃ d, σ[i]? = some (some d) ∧ Q d H
def dC (d : D) : DTE := fun _ _ H Q => Q d H
def dOp (r : DR2) (a b : DTE) : DTE := fun E σ H Q => a E σ H fun x H1 => b E σ H1 fun y H2 => r x y H2 Q
def dUn (r : DR1) (a : DTE) : DTE := fun E σ H Q => a E σ H fun x H1 => r x H1 Q
def dNil : DTA := fun _ _ H Q => Q [] H
def dCons (a : DTE) (r : DTA) : DTA := fun E σ H Q => a E σ H fun x H1 => r E σ H1 fun xs H2 => Q (x :: xs) H2
def dTup (a : DTA) : DTE := fun E σ H Q => a E σ H fun xs H1 => xs.length ≤ sizeLine ∧ Q (.tup xs) H1
def dLst (a : DTA) : DTE := fun E σ H Q => a E σ H fun xs H1 => xs.length ≤ sizeLine ∧ ∀ p, H1 p = none → Q (.ref p) (put H1 p (.lst xs))
def dCB (r : DRA) (a : DTA) : DTE := fun E σ H Q => a E σ H fun xs H1 => r xs H1 Q
def dTest (a : DTE) : DTT := fun E σ H Q => a E σ H fun x H1 => ∃ c, x = .bl c ∧ Q c H1
def dAnd (t u : DTT) : DTT := fun E σ H Q => t E σ H fun c H1 => if c = true then u E σ H1 Q else Q false H1
def dOr (t u : DTT) : DTT := fun E σ H Q => t E σ H fun c H1 => if c = true then Q true H1 else u E σ H1 Q
def dNot (t : DTT) : DTT := fun E σ H Q => t E σ H fun c H1 => Q (!c) H1
def dAndV (a b : DTE) : DTE := fun E σ H Q => a E σ H fun x H1 => ∃ c, x = .bl c ∧ if c = true then b E σ H1 Q else Q (.bl false) H1
def dOrV (a b : DTE) : DTE := fun E σ H Q => a E σ H fun x H1 => ∃ c, x = .bl c ∧ if c = true then Q (.bl true) H1 else b E σ H1 Q
def dNotV (a : DTE) : DTE := fun E σ H Q => a E σ H fun x H1 => ∃ c, x = .bl c ∧ Q (.bl (!c)) H1
def dIf (t : DTT) (a b : DTE) : DTE := fun E σ H Q => t E σ H fun c H1 => if c = true then a E σ H1 Q else b E σ H1 Q
def dNoPart : DTO := fun _ _ H Q => Q none H
def dPart (a : DTE) : DTO := fun E σ H Q => a E σ H fun x H1 => ∃ i, x = .int i ∧ Q (some i) H1
def dSl (r : D → Option Int → Option Int → DH → DK → Prop) (a : DTE) (l h : DTO) : DTE := fun E σ H Q => a E σ H fun x H1 => l E σ H1 fun lo H2 => h E σ H2 fun hi H3 => r x lo hi H3 Q

section
variable {X : Cx} {W : WX} {a b e : Expr} {es : List Expr} {da db de : DTE} {dt du : DTT} {dA : DTA} {pos : Pos}
theorem d_var (i : Nat) {x : Str} (hN : X.N[i]? = some x := by rfl) (hv : Vis X.env.scope x := by first | exact Or.inl rfl | exact Or.inr (Or.inl rfl) | exact Or.inr (Or.inr rfl)) (hd : (x == ("__debug__" : Str)) = false := by decide)
    (hcd : (x == ("__classdict__" : Str)) = false := by decide) : DPE X W (.Name x pos) (dVar i) :=
  ⟨tVar i, pv i hN hv hd hcd, fun σd Hd σ H Qd Q E r wx h w => by
    obtain ⟨d, e, q⟩ := h
    obtain ⟨v, e2, rv⟩ := r.at_ i d e
    exact ⟨v, e2, w d Hd v H q rv r (Up.refl H)⟩⟩
theorem sim_c {K : PySem.W.Frag} {v : V} {d : D} (h : ∀ H, Rep K H d v) : SimE K W (tC v) (dC d) := fun σd Hd σ H Qd Q E r wx q w => w d Hd v H q (h H) r (Up.refl H)
theorem d_int {i j} : DPE X W (.Constant (.int i) j pos) (dC (.int i)) := ⟨_, pe_int, sim_c fun _ => rfl⟩
theorem d_bl {i j} : DPE X W (.Constant (.bool i) j pos) (dC (.bl i)) := ⟨_, pe_bl, sim_c fun _ => rfl⟩
theorem d_non {j} : DPE X W (.Constant .none j pos) (dC .non) := ⟨_, pe_non, sim_c fun _ => rfl⟩
theorem d_str {i j} : DPE X W (.Constant (.str i) j pos) (dC (.str i)) := ⟨_, pe_str, sim_c fun _ => rfl⟩
/-- a global name with a known value -/
theorem d_glob {x : Str} {v : V} {d : D} {u : Value} (hg : Gl X x) (hm : X.mg x = some u) (r : RelV v u) (h : ∀ H, Rep X.K H d v) (hd : (x == ("__debug__" : Str)) = false := by decide) : DPE X W (.Name x pos) (dC d) := ⟨_, pe_glob hg hm r hd, sim_c h⟩
theorem d_bltn {x : Str} {v : V} {d : D} {u : Value} (hg : Gl X x) (hm : X.mg x = none) (hv : bootBuiltins x = some u) (r : RelV v u) (h : ∀ H, Rep X.K H d v) (hn : x ≠ "__name__" := by decide) (hd : (x == ("__debug__" : Str)) = false := by decide) : DPE X W (.Name x pos) (dC d) :=
  ⟨_, pe_bltn hg hm hv r hn hd, sim_c h⟩

theorem d_op {op : Operator} {rd : DR2} (ho : DOp X (binaryOp op) rd) (ha : DPE X W a da) (hb : DPE X W b db) : DPE X W (.BinOp a op b pos) (dOp rd da db) := by
  obtain ⟨r, o1, o2⟩ := ho
  obtain ⟨ta, a1, a2⟩ := ha
  obtain ⟨tb, b1, b2⟩ := hb
  refine ⟨_, pe_op o1 a1 b1, fun σd Hd σ H Qd Q E rs wx h w => ?_⟩
  refine a2 σd Hd σ H _ _ E rs wx h fun x H1 v H1' q rx rs1 u1 => ?_
  refine b2 σd H1 σ H1' _ _ E rs1 (wx.to u1) q fun y H2 u H2' q2 ry rs2 u2 => ?_
  exact o2 x y v u H2 H2' Qd Q (rx.up u2 _ _) ry rs2.hp q2 ((w.to (u1.trans u2)).v rs2)
theorem sim_op {K : PySem.W.Frag} {r : R2} {rd : DR2} {ta tb : TE} (o2 : SimR K r rd) (a2 : SimE K W ta da) (b2 : SimE K W tb db) : SimE K W (tOp r ta tb) (dOp rd da db) := fun σd Hd σ H Qd Q E rs wx h w =>
  a2 σd Hd σ H _ _ E rs wx h fun x H1 v H1' q rx rs1 u1 => b2 σd H1 σ H1' _ _ E rs1 (wx.to u1) q fun y H2 u H2' q2 ry rs2 u2 => o2 x y v u H2 H2' Qd Q (rx.up u2 _ _) ry rs2.hp q2 ((w.to (u1.trans u2)).v rs2)
theorem d_cmp {op : CmpOp} {rd : DR2} (ho : DOp X (compareOp op) rd) (ha : DPE X W a da) (hb : DPE X W b db) (hm : behindInMarks op b = false) : DPE X W (.Compare a [op] [b] pos) (dOp rd da db) := by
  obtain ⟨r, o1, o2⟩ := ho
  obtain ⟨ta, a1, a2⟩ := ha
  obtain ⟨tb, b1, b2⟩ := hb
  exact ⟨_, pe_cmpR o1 a1 b1 hm, sim_op o2 a2 b2⟩
theorem sim_test {K : PySem.W.Frag} {t : TE} (h : SimE K W t da) : SimT K W (tTest t) (dTest da) := fun σd Hd σ H Qd Q E rs wx q k =>
  h σd Hd σ H _ _ E rs wx q fun x H1 v H1' q1 rx rs1 u1 => by
    obtain ⟨c, e, q2⟩ := q1
    subst e
    exact ⟨c, rx, k c H1 H1' q2 rs1 u1⟩
theorem dt_cmp {op : CmpOp} {rd : DR2} (ho : DOp X (compareOp op) rd) (ha : DPE X W a da) (hb : DPE X W b db) (hm : behindInMarks op b = false) : DPT X W (.Compare a [op] [b] pos) (dTest (dOp rd da db)) := by
  obtain ⟨r, o1, o2⟩ := ho
  obtain ⟨ta, a1, a2⟩ := ha
  obtain ⟨tb, b1, b2⟩ := hb
  exact ⟨_, pt_cmpR o1 a1 b1 hm, sim_test (sim_op o2 a2 b2)⟩
/-- any expression whose value is a bool -/
theorem dt_val (h : DPE X W e de) (he : ∀ whole, isTrue e X.env whole = (do let v ← whole; standAt e.pos; holding [v] (truthy v)) := by intro _; rfl) : DPT X W e (dTest de) := by
  obtain ⟨t, h1, h2⟩ := h
  exact ⟨_, pt_val h1 he, sim_test h2⟩
theorem d_un {op : UnaryOp} {rd : DR1} (ho : DUn X (unaryOp op) rd) (ha : DPE X W a da) : DPE X W (.UnaryOp op a pos) (dUn rd da) := by
  obtain ⟨r, o1, o2⟩ := ho
  obtain ⟨ta, a1, a2⟩ := ha
  exact ⟨_, pe_un o1 a1, fun σd Hd σ H Qd Q E rs wx h w => a2 σd Hd σ H _ _ E rs wx h fun x H1 v H1' q rx rs1 u1 => o2 x v H1 H1' Qd Q rx rs1.hp q ((w.to u1).v rs1)⟩
theorem dw_pt (h : DPW X W e dt) : DPT X W e dt := by
  obtain ⟨t, h1, h2⟩ := h
  exact ⟨t, h1.pt, h2⟩
theorem dw_and1 (h : DPT X W a dt) : DPW X W (.BoolOp .And [a] pos) dt := by
  obtain ⟨t, h1, h2⟩ := h
  exact ⟨t, pw_and1 h1, h2⟩
theorem dw_or1 (h : DPT X W a dt) : DPW X W (.BoolOp .Or [a] pos) dt := by
  obtain ⟨t, h1, h2⟩ := h
  exact ⟨t, pw_or1 h1, h2⟩
theorem dw_and {r : List Expr} (ha : DPT X W a dt) (hb : DPW X W (.BoolOp .And (b :: r) pos) du) : DPW X W (.BoolOp .And (a :: b :: r) pos) (dAnd dt du) := by
  obtain ⟨t, h1, h2⟩ := ha
  obtain ⟨u, g1, g2⟩ := hb
  refine ⟨_, pw_and h1 g1, fun σd Hd σ H Qd Q E rs wx q k => ?_⟩
  refine h2 σd Hd σ H _ _ E rs wx q fun c H1 H1' q1 rs1 u1 => ?_
  cases c with
  | true =>
    rw [if_pos rfl] at q1 ⊢
    exact g2 σd H1 σ H1' Qd Q E rs1 (wx.to u1) q1 fun b H2 H2' q2 rs2 u2 => k b H2 H2' q2 rs2 (u1.trans u2)
  | false =>
    rw [if_neg Bool.false_ne_true] at q1 ⊢
    exact k false H1 H1' q1 rs1 u1
theorem dw_or {r : List Expr} (ha : DPT X W a dt) (hb : DPW X W (.BoolOp .Or (b :: r) pos) du) : DPW X W (.BoolOp .Or (a :: b :: r) pos) (dOr dt du) := by
  obtain ⟨t, h1, h2⟩ := ha
  obtain ⟨u, g1, g2⟩ := hb
  refine ⟨_, pw_or h1 g1, fun σd Hd σ H Qd Q E rs wx q k => ?_⟩
  refine h2 σd Hd σ H _ _ E rs wx q fun c H1 H1' q1 rs1 u1 => ?_
  cases c with
  | true =>
    rw [if_pos rfl] at q1 ⊢
    exact k true H1 H1' q1 rs1 u1
  | false =>
    rw [if_neg Bool.false_ne_true] at q1 ⊢
    exact g2 σd H1 σ H1' Qd Q E rs1 (wx.to u1) q1 fun b H2 H2' q2 rs2 u2 => k b H2 H2' q2 rs2 (u1.trans u2)
theorem dt_not (ha : DPT X W a dt) : DPT X W (.UnaryOp .Not a pos) (dNot dt) := by
  obtain ⟨t, h1, h2⟩ := ha
  exact ⟨_, pt_not h1, fun σd Hd σ H Qd Q E rs wx q k => h2 σd Hd σ H _ _ E rs wx q fun c H1 H1' q1 rs1 u1 => k (!c) H1 H1' q1 rs1 u1⟩
theorem d_one {op} (h : DPE X W a da) : DPE X W (.BoolOp op [a] pos) da := by
  obtain ⟨t, h1, h2⟩ := h
  exact ⟨t, pe_one h1, h2⟩
theorem d_and {r : List Expr} (ha : DPE X W a da) (hb : DPE X W (.BoolOp .And (b :: r) pos) db) : DPE X W (.BoolOp .And (a :: b :: r) pos) (dAndV da db) := by
  obtain ⟨t, h1, h2⟩ := ha
  obtain ⟨u, g1, g2⟩ := hb
  refine ⟨_, pe_and h1 g1, fun σd Hd σ H Qd Q E rs wx q w => ?_⟩
  refine h2 σd Hd σ H _ _ E rs wx q fun x H1 v H1' q1 rx rs1 u1 => ?_
  obtain ⟨c, e, q2⟩ := q1
  subst e
  refine ⟨c, rx, ?_⟩
  cases c with
  | true =>
    rw [if_pos rfl] at q2 ⊢
    exact g2 σd H1 σ H1' Qd Q E rs1 (wx.to u1) q2 (w.to u1)
  | false =>
    rw [if_neg Bool.false_ne_true] at q2 ⊢
    exact w _ H1 _ H1' q2 rfl rs1 u1
theorem d_or {r : List Expr} (ha : DPE X W a da) (hb : DPE X W (.BoolOp .Or (b :: r) pos) db) : DPE X W (.BoolOp .Or (a :: b :: r) pos) (dOrV da db) := by
  obtain ⟨t, h1, h2⟩ := ha
  obtain ⟨u, g1, g2⟩ := hb
  refine ⟨_, pe_or h1 g1, fun σd Hd σ H Qd Q E rs wx q w => ?_⟩
  refine h2 σd Hd σ H _ _ E rs wx q fun x H1 v H1' q1 rx rs1 u1 => ?_
  obtain ⟨c, e, q2⟩ := q1
  subst e
  refine ⟨c, rx, ?_⟩
  cases c with
  | true =>
    rw [if_pos rfl] at q2 ⊢
    exact w _ H1 _ H1' q2 rfl rs1 u1
  | false =>
    rw [if_neg Bool.false_ne_true] at q2 ⊢
    exact g2 σd H1 σ H1' Qd Q E rs1 (wx.to u1) q2 (w.to u1)
theorem d_not (ha : DPE X W a da) : DPE X W (.UnaryOp .Not a pos) (dNotV da) := by
  obtain ⟨t, h1, h2⟩ := ha
  exact ⟨_, pe_not h1, fun σd Hd σ H Qd Q E rs wx q w => h2 σd Hd σ H _ _ E rs wx q fun x H1 v H1' q1 rx rs1 u1 => by
    obtain ⟨c, e, q2⟩ := q1
    subst e
    exact ⟨c, rx, w _ H1 _ H1' q2 rfl rs1 u1⟩⟩
theorem d_ifExp {c : Expr} (hc : DPT X W c dt) (ha : DPE X W a da) (hb : DPE X W b db) : DPE X W (.IfExp c a b pos) (dIf dt da db) := by
  obtain ⟨t, h1, h2⟩ := hc
  obtain ⟨ta, a1, a2⟩ := ha
  obtain ⟨tb, b1, b2⟩ := hb
  refine ⟨_, pe_ifExp h1 a1 b1, fun σd Hd σ H Qd Q E rs wx q w => ?_⟩
  refine h2 σd Hd σ H _ _ E rs wx q fun c H1 H1' q1 rs1 u1 => ?_
  cases c with
  | true =>
    rw [if_pos rfl] at q1 ⊢
    exact a2 σd H1 σ H1' Qd Q E rs1 (wx.to u1) q1 (w.to u1)
  | false =>
    rw [if_neg Bool.false_ne_true] at q1 ⊢
    exact b2 σd H1 σ H1' Qd Q E rs1 (wx.to u1) q1 (w.to u1)
theorem da_nil : DPA X W [] dNil := ⟨_, pa_nil, fun σd Hd σ H Qd Q E rs wx q k => k [] Hd [] H q rfl rs (Up.refl H)⟩
theorem da_cons (ha : DPE X W e de) (hr : DPA X W es dA) (hs : starEach (e :: es) X.env = (false, eval e X.env) :: starEach es X.env := by rfl) : DPA X W (e :: es) (dCons de dA) := by
  obtain ⟨t, h1, h2⟩ := ha
  obtain ⟨u, g1, g2⟩ := hr
  exact ⟨_, pa_cons h1 g1 hs, fun σd Hd σ H Qd Q E rs wx q k => h2 σd Hd σ H _ _ E rs wx q fun x H1 v H1' q1 rx rs1 u1 => g2 σd H1 σ H1' _ _ E rs1 (wx.to u1) q1 fun xs H2 vs H2' q2 rxs rs2 u2 =>
    k (x :: xs) H2 (v :: vs) H2' q2 ⟨v, vs, rfl, rx.up u2 _ _, rxs⟩ rs2 (u1.trans u2)⟩
theorem d_tup {x1} (h : DPA X W es dA) : DPE X W (.Tuple es x1 pos) (dTup dA) := by
  obtain ⟨t, h1, h2⟩ := h
  exact ⟨_, pe_tup h1, fun σd Hd σ H Qd Q E rs wx q w => h2 σd Hd σ H _ _ E rs wx q fun xs H1 vs H1' q1 rx rs1 u1 =>
    ⟨by rw [rx.len]; exact q1.1, fun p hp => w _ H1 _ _ q1.2 ⟨p, vs, rfl, SqT.of upd_same, rx.up (Up.new hp) _ _⟩ (rs1.mono (Up.new hp) (rs1.hp.hid hp)) (u1.trans (Up.new hp))⟩⟩
theorem d_lst (h : DPA X W es dA) : DPE X W (.List es pos) (dLst dA) := by
  obtain ⟨t, h1, h2⟩ := h
  exact ⟨_, pe_lst h1, fun σd Hd σ H Qd Q E rs wx q w => h2 σd Hd σ H _ _ E rs wx q fun xs H1 vs H1' q1 rx rs1 u1 =>
    ⟨by rw [rx.len]; exact q1.1, fun p hp => w _ _ _ _ (q1.2 p (rs1.hp.fresh hp)) rfl (rs1.mono (Up.new hp) (rs1.hp.new hp ⟨vs, upd_same, rx.up (Up.new hp) _ _⟩)) (u1.trans (Up.new hp))⟩⟩
theorem d_callB {x : Str} {id : String} {rd : DRA} {p : Pos} (hc : DCl X (.builtin id) rd) (hg : Gl X x) (hm : X.mg x = none) (hv : bootBuiltins x = some (.builtin id)) (ha : DPA X W (e :: es) dA) (hn : x ≠ "__name__" := by decide) (hdb : (x == ("__debug__" : Str)) = false := by decide)
    (he : starEach (e :: es) X.env = (false, eval e X.env) :: starEach es X.env := by rfl) (hpl : (backTo pos (starEach es X.env)).any (·.1) = false := by rfl) : DPE X W (.Call (.Name x p) (e :: es) [] pos) (dCB rd dA) := by
  obtain ⟨r, c1, c2⟩ := hc
  obtain ⟨t, h1, h2⟩ := ha
  exact ⟨_, pe_callB c1 hg hm hv h1 hn hdb he hpl, fun σd Hd σ H Qd Q E rs wx q w => h2 σd Hd σ H _ _ E rs wx q fun xs H1 vs H1' q1 rx rs1 u1 => c2 xs vs H1 H1' Qd Q rx rs1.hp q1 ((w.to u1).v rs1)⟩
theorem d_callTy {x : Str} {T : String} {rd : DRA} {p : Pos} (hc : DCl X (.type T) rd) (hg : Gl X x) (hm : X.mg x = none) (hv : bootBuiltins x = some (.type T)) (ha : DPA X W (e :: es) dA) (hn : x ≠ "__name__" := by decide) (hdb : (x == ("__debug__" : Str)) = false := by decide)
    (he : starEach (e :: es) X.env = (false, eval e X.env) :: starEach es X.env := by rfl) (hpl : (backTo pos (starEach es X.env)).any (·.1) = false := by rfl) : DPE X W (.Call (.Name x p) (e :: es) [] pos) (dCB rd dA) := by
  obtain ⟨r, c1, c2⟩ := hc
  obtain ⟨t, h1, h2⟩ := ha
  exact ⟨_, pe_callTy c1 hg hm hv h1 hn hdb he hpl, fun σd Hd σ H Qd Q E rs wx q w => h2 σd Hd σ H _ _ E rs wx q fun xs H1 vs H1' q1 rx rs1 u1 => c2 xs vs H1 H1' Qd Q rx rs1.hp q1 ((w.to u1).v rs1)⟩
theorem do_none : DPO X W none dNoPart := ⟨_, po_none, fun σd Hd σ H Qd Q E rs wx q k => k none Hd H q rs (Up.refl H)⟩
theorem do_some (h : DPE X W e de) : DPO X W (some e) (dPart de) := by
  obtain ⟨t, h1, h2⟩ := h
  exact ⟨_, po_some h1, fun σd Hd σ H Qd Q E rs wx q k => h2 σd Hd σ H _ _ E rs wx q fun x H1 v H1' q1 rx rs1 u1 => by
    obtain ⟨i, e, q2⟩ := q1
    subst e
    exact ⟨i, rx, k (some i) H1 H1' q2 rs1 u1⟩⟩
def DSlR (X : Cx) (rd : D → Option Int → Option Int → DH → DK → Prop) : Prop := ∃ r, SlR X r ∧ ∀ x v lo hi Hd H (Qd : DK) (Q : VK), Rep X.K H x v → RH X.K Hd H → rd x lo hi Hd Qd → WantV X.K H Qd Q → r v lo hi H Q
theorem d_slice {rd} {lo hi : Option Expr} {dl dh : DTO} {p2 : Pos} (hr : DSlR X rd) (he : DPE X W e de) (hl : DPO X W lo dl) (hu : DPO X W hi dh) : DPE X W (.Subscript e (.Slice lo hi none p2) pos) (dSl rd de dl dh) := by
  obtain ⟨r, r1, r2⟩ := hr
  obtain ⟨t, h1, h2⟩ := he
  obtain ⟨tl, l1, l2⟩ := hl
  obtain ⟨th, k1, k2⟩ := hu
  exact ⟨_, pe_slice r1 h1 l1 k1, fun σd Hd σ H Qd Q E rs wx q w => h2 σd Hd σ H _ _ E rs wx q fun x H1 v H1' q1 rx rs1 u1 => l2 σd H1 σ H1' _ _ E rs1 (wx.to u1) q1 fun o H2 H2' q2 rs2 u2 => k2 σd H2 σ H2' _ _ E rs2 (wx.to (u1.trans u2)) q2 fun o3 H3 H3' q3 rs3 u3 =>
    r2 x v o o3 H3 H3' Qd Q (rx.up (u2.trans u3) _ _) rs3.hp q3 ((w.to ((u1.trans u2).trans u3)).v rs3)⟩
def DIx (X : Cx) (rd : DR2) : Prop := ∃ r, IxR X r ∧ SimR X.K r rd
theorem d_ix {rd : DR2} (hr : DIx X rd) (ha : DPE X W a da) (hb : DPE X W b db) (hs : PlainIx b := by exact fun _ _ => rfl) : DPE X W (.Subscript a b pos) (dOp rd da db) := by
  obtain ⟨r, r1, r2⟩ := hr
  obtain ⟨ta, a1, a2⟩ := ha
  obtain ⟨tb, b1, b2⟩ := hb
  exact ⟨_, pe_ix r1 a1 b1 hs, sim_op r2 a2 b2⟩
end
end DL

/-! The data layer, part D: operators, subscripts, built-in calls by values. -/
namespace DL
open PySem PySem.Spec PyProof.Rows L2

section
variable {X : Cx} {K : PySem.W.Frag}
/-! ### ints -/
def dI0 (g : Int → Int → D) : DR2 := fun x y H Q => match x, y with
  | .int i, .int j => Q (g i j) H
  | _, _ => False
def dI (C : Int → Int → Prop) (g : Int → Int → D) : DR2 := fun x y H Q => match x, y with
  | .int i, .int j => C i j ∧ Q (g i j) H
  | _, _ => False
theorem simI0 {g : Int → Int → D} {g' : Int → Int → V} (h : ∀ i j H, Rep K H (g i j) (g' i j)) : SimR K (rI0 g') (dI0 g) := fun x y v u Hd H Qd Q rx ry rh q k => by
  unfold dI0 at q
  split at q
  · rename_i i j
    exact ⟨i, j, rx, ry, k.here q (h i j H) rh⟩
  · exact q.elim
theorem simI {C C' : Int → Int → Prop} {g : Int → Int → D} {g' : Int → Int → V} (hc : ∀ i j, C i j → C' i j) (h : ∀ i j H, Rep K H (g i j) (g' i j)) : SimR K (rI C' g') (dI C g) := fun x y v u Hd H Qd Q rx ry rh q k => by
  unfold dI at q
  split at q
  · rename_i i j
    exact ⟨i, j, rx, ry, hc i j q.1, k.here q.2 (h i j H) rh⟩
  · exact q.elim
theorem dop_sub : DOp X (binaryOp .Sub) (dI0 fun i j => .int (i - j)) := ⟨_, op_sub, simI0 fun _ _ _ => rfl⟩
def CDv (i j : Int) : Prop := CDiv i j ∨ CDivW i j
def CMl (i j : Int) : Prop := CMul i j ∨ CMulW i j
theorem SimR.or {r r' : R2} {rd : DR2} (h : ∀ x y v u Hd H (Qd : DK) (Q : VK), Rep K H x v → Rep K H y u → RH K Hd H → rd x y Hd Qd → WantV K H Qd Q → r v u H Q ∨ r' v u H Q) : SimR K (fun x y H Q => r x y H Q ∨ r' x y H Q) rd := h
theorem dop_fdiv : DOp X (binaryOp .FloorDiv) (dI CDv fun i j => .int (i / j)) := ⟨_, OpR.or op_fdiv op_fdivW, fun x y v u Hd H Qd Q rx ry rh q k => by
  unfold dI at q
  split at q
  · rename_i i j
    obtain ⟨c, q⟩ := q
    rcases c with c | c
    · exact .inl ⟨i, j, rx, ry, c, k.here q rfl rh⟩
    · exact .inr ⟨i, j, rx, ry, c, k.here q rfl rh⟩
  · exact q.elim⟩
theorem dop_mod : DOp X (binaryOp .Mod) (dI (fun _ j => 0 < j) fun i j => .int (i % j)) := ⟨_, op_mod, simI (fun _ _ h => h) fun _ _ _ => rfl⟩
theorem dop_pow : DOp X (binaryOp .Pow) (dI CPow fun i j => .int (i ^ j.toNat)) := ⟨_, op_pow, simI (fun _ _ h => h) fun _ _ _ => rfl⟩
theorem dop_gt : DOp X (compareOp .Gt) (dI0 fun i j => .bl (decide (j < i))) := ⟨_, op_gt, simI0 fun _ _ _ => rfl⟩
theorem dop_ge : DOp X (compareOp .GtE) (dI0 fun i j => .bl (decide (j ≤ i))) := ⟨_, op_ge, simI0 fun _ _ _ => rfl⟩
theorem dop_lt : DOp X (compareOp .Lt) (dI0 fun i j => .bl (decide (i < j))) := ⟨_, op_lt, simI0 fun _ _ _ => rfl⟩
theorem dop_le : DOp X (compareOp .LtE) (dI0 fun i j => .bl (decide (i ≤ j))) := ⟨_, op_le, simI0 fun _ _ _ => rfl⟩
def dNeg : DR1 := fun x H Q => match x with
  | .int i => Q (.int (-i)) H
  | _ => False
theorem dun_neg : DUn X (unaryOp .USub) dNeg := ⟨_, un_neg, fun x v Hd H Qd Q rx rh q k => by
  unfold dNeg at q
  split at q
  · exact ⟨_, rx, k.here q rfl rh⟩
  · exact q.elim⟩

/-! ### + -/
def dAdd : DR2 := fun x y H Q => match x, y with
  | .int i, .int j => Q (.int (i + j)) H
  | .str a, .str b => a.length + b.length ≤ sizeLine ∧ Q (.str (a ++ b)) H
  | .tup xs, .tup ys => xs.length + ys.length ≤ sizeLine ∧ Q (.tup (xs ++ ys)) H
  | .ref a, .ref b => ∃ xs ys, H a = some (.lst xs) ∧ H b = some (.lst ys) ∧ xs.length + ys.length ≤ sizeLine ∧ ∀ p, H p = none → Q (.ref p) (put H p (.lst (xs ++ ys)))
  | _, _ => False
theorem dop_add : DOp X (binaryOp .Add) dAdd := ⟨_, OpR.or op_add (OpR.or op_add_str (OpR.or op_catA op_cat)), fun x y v u Hd H Qd Q rx ry rh q k => by
  unfold dAdd at q
  split at q
  · exact .inl ⟨_, _, rx, ry, k.here q rfl rh⟩
  · exact .inr (.inl ⟨_, _, rx, ry, q.1, k.here q.2 rfl rh⟩)
  · rename_i xs ys
    obtain ⟨hz, q⟩ := q
    obtain ⟨a, vs, e1, s1, r1⟩ := rx
    obtain ⟨b, us, e2, s2, r2⟩ := ry
    refine .inr (.inr (.inl ⟨a, b, vs, us, e1, e2, s1, s2, by rw [r1.len, r2.len]; exact hz, fun e => ?_, fun _ e => ?_, fun _ _ p hp => ?_⟩))
    · have z : xs = [] := r1.empty_iff.mp e
      exact k.here q ⟨b, us, rfl, s2, by rw [z]; exact r2⟩ rh
    · have z : ys = [] := r2.empty_iff.mp e
      exact k.here q ⟨a, vs, rfl, s1, by rw [z, List.append_nil]; exact r1⟩ rh
    · exact k _ _ _ _ q ⟨p, vs ++ us, rfl, SqT.of upd_same, (r1.app r2).up (Up.new hp) _ _⟩ (rh.hid hp) (Up.new hp)
  · rename_i a b
    obtain ⟨xs, ys, h1, h2, hz, q⟩ := q
    obtain ⟨vs, e1, r1⟩ := rh _ _ h1
    obtain ⟨us, e2, r2⟩ := rh _ _ h2
    refine .inr (.inr (.inr ⟨a, b, vs, us, rx, ry, e1, e2, by rw [r1.len, r2.len]; exact hz, fun p hp => ?_⟩))
    exact k _ _ _ _ (q p (rh.fresh hp)) rfl (rh.new hp ⟨_, upd_same, (r1.app r2).up (Up.new hp) _ _⟩) (Up.new hp)
  · exact q.elim⟩

/-! ### * -/
theorem tup_mul1W (l : Addr) (items : Array Value) (n : Nat) (dd : Option Addr) (sl : Array (Option Value)) (u : Tok) :
    Meets (Builtin.«tuple.__mul__» ⟨[.ref l, .int 1 u], []⟩) (fun _ R s => s.heap.get? l = some { cls := .type "tuple", dict := dd, data := .seq items n, slots := sl } ∧ R (.ok (.ret (Value.ref l))) s) :=
  .of_wp fun prog w A R s h => by
    obtain ⟨hp, g, d, tk, os⟩ := s
    obtain ⟨hl, h⟩ := h
    have f1 := AutoSeq1.idx_int
    have c1 : (items.isEmpty || (1 : Int) == 1) = true := by simp
    wp_walk using wpAny_loadPart' hl
    repeat (first
      | (refine wpAny_ite_true (decide_eq_true (by rw [c1])) ?_; wp_walk using wpAny_loadPart' hl)
      | (refine wpAny_ite_false (decide_eq_false (by decide)) ?_; wp_walk using wpAny_loadPart' hl))
    all_goals exact ⟨_, rfl, h⟩

/-- t * 1 is t -/
theorem op_repT1 : OpR X (binaryOp .Mult) (fun x y H Q => ∃ l xs, x = .ref l ∧ y = .int 1 ∧ SqT X.K H l xs ∧ Q (.ref l) H) := by
  intro pins s σ H x y v u Q I rx ry h
  obtain ⟨l, xs, rfl, rfl, hT, q⟩ := h
  cases rx
  obtain ⟨t, rfl⟩ := ry
  obtain ⟨its, r, ⟨⟨cls, dd, data, sl⟩, ho, hc, n, hd⟩, hs⟩ := I.tuple hT
  simp only at hc hd
  subst hc hd
  exact wpAny_binaryOp_repeat_ref (T := "tuple") (U := "int") (by decide) ⟨_, ho, rfl⟩ (fun s' => typeIs_int s' 1 t) noFill_tuple_mul F.fills_int_mul F.slot_int_rmul repeat_tuple F.slot_int_index.lookup
    (call_meets F.slot_int_rmul (typeIs_int s 1 t) F.entry_int_rmul (F.args_int_rmul_2 _ _) (int_rmul_tuple 1 t l its.toArray n dd sl)
      ⟨ho, rfl, ⟨_, ho, rfl⟩, call_meets F.slot_tuple_mul ⟨_, ho, rfl⟩ F.entry_tuple_mul (F.args_tuple_mul_2 _ _) (tup_mul1W l its.toArray n dd sl t) ⟨ho, ⟨.ref l, H, I, rfl, q⟩⟩⟩)
def dMul : DR2 := fun x y H Q => match x, y with
  | .int i, .int j => CMl i j ∧ Q (.int (i * j)) H
  | .tup xs, .int k => 1 ≤ k ∧ k ≤ 1000 ∧ xs.length ≤ 1000 ∧ xs ≠ [] ∧ Q (.tup (List.replicate k.toNat xs).flatten) H
  | .ref a, .int k => ∃ xs, H a = some (.lst xs) ∧ -(2 ^ 63) ≤ k ∧ k < 2 ^ 63 ∧ xs.length * k.toNat ≤ sizeLine ∧ ∀ p, H p = none → Q (.ref p) (put H p (.lst (List.replicate k.toNat xs).flatten))
  | _, _ => False
theorem dop_mul : DOp X (binaryOp .Mult) dMul := ⟨_, OpR.or op_mul (OpR.or op_mulW (OpR.or op_repT1 (OpR.or op_repT op_rep))), fun x y v u Hd H Qd Q rx ry rh q k => by
  unfold dMul at q
  split at q
  · obtain ⟨c, q⟩ := q
    rcases c with c | c
    · exact .inl ⟨_, _, rx, ry, c, k.here q rfl rh⟩
    · exact .inr (.inl ⟨_, _, rx, ry, c, k.here q rfl rh⟩)
  · rename_i xs n
    obtain ⟨h1, h2, hz, hne, q⟩ := q
    obtain ⟨a, vs, e1, s1, r1⟩ := rx
    by_cases c : n = 1
    · subst c
      refine .inr (.inr (.inl ⟨a, vs, e1, ry, s1, k.here q ⟨a, vs, rfl, s1, ?_⟩ rh⟩))
      show Reps _ _ (List.replicate 1 xs).flatten vs
      rw [show List.replicate 1 xs = [xs] from rfl, List.flatten_cons, List.flatten_nil, List.append_nil]
      exact r1
    · exact .inr (.inr (.inr (.inl ⟨a, n, vs, e1, ry, s1, fun z => hne (r1.empty_iff.mp z), by omega, h2, by rw [r1.len]; exact hz, fun p hp => k _ _ _ _ q ⟨p, _, rfl, SqT.of upd_same, (r1.rep _).up (Up.new hp) _ _⟩ (rh.hid hp) (Up.new hp)⟩)))
  · rename_i a n
    obtain ⟨xs, h1, b1, b2, hz, q⟩ := q
    obtain ⟨vs, e1, r1⟩ := rh _ _ h1
    exact .inr (.inr (.inr (.inr ⟨a, n, vs, rx, ry, e1, b1, b2, by rw [r1.len]; exact hz, fun p hp => k _ _ _ _ (q p (rh.fresh hp)) rfl (rh.new hp ⟨_, upd_same, (r1.rep _).up (Up.new hp) _ _⟩) (Up.new hp)⟩)))
  · exact q.elim⟩

/-! ### == and != of data of any depth -/
mutual
/-- the data that a value is, lists read off the data heap -/
inductive Py (Hd : DH) : D → PyData → Prop
  | non : Py Hd .non .none
  | bl (b : Bool) : Py Hd (.bl b) (.bool b)
  | int (i : Int) : Py Hd (.int i) (.int i)
  | str (x : Str) : Py Hd (.str x) (.str x)
  | tup {ds : List D} {ps : List PyData} : Pys Hd ds ps → Py Hd (.tup ds) (.tuple ps)
  | fl {ds : List D} {ps : List PyData} : Pys Hd ds ps → Py Hd (.fl ds) (.list ps)
  | lst {a : Addr} {ds : List D} {ps : List PyData} : Hd a = some (.lst ds) → Pys Hd ds ps → Py Hd (.ref a) (.list ps)
inductive Pys (Hd : DH) : List D → List PyData → Prop
  | nil : Pys Hd [] []
  | cons {d : D} {ds : List D} {p : PyData} {ps : List PyData} : Py Hd d p → Pys Hd ds ps → Pys Hd (d :: ds) (p :: ps)
end
mutual
theorem Py.dp {Hd : DH} {H : Hp} (rh : RH K Hd H) : ∀ (p : PyData) (d : D) (v : V), Py Hd d p → Rep K H d v → Dp K H v p
  | .none, _, _, h, r => by cases h; cases (show _ = V.non from r); exact .non
  | .bool b, _, _, h, r => by cases h; cases (show _ = V.bl b from r); exact .bl b
  | .int i, _, _, h, r => by cases h; cases (show _ = V.int i from r); exact .int i
  | .str x, _, _, h, r => by cases h; cases (show _ = V.str x from r); exact .str x
  | .tuple ps, _, _, h, r => by
    cases h with
    | tup hs =>
      obtain ⟨a, xs, e, s, q⟩ := r
      subst e
      exact .tup s (Pys.dp rh ps _ xs hs q)
  | .list ps, _, _, h, r => by
    cases h with
    | fl hs =>
      obtain ⟨a, xs, e, s, q⟩ := r
      subst e
      exact .lst s.sq (Pys.dp rh ps _ xs hs q)
    | @lst a ds _ ha hs =>
      cases (show _ = V.ref a from r)
      obtain ⟨xs, e, q⟩ := rh a _ ha
      exact .lst (SqL.of e) (Pys.dp rh ps ds xs hs q)
  | .dict _, _, _, h, _ => by cases h
theorem Pys.dp {Hd : DH} {H : Hp} (rh : RH K Hd H) : ∀ (ps : List PyData) (ds : List D) (vs : List V), Pys Hd ds ps → Reps K H ds vs → DpAll K H vs ps
  | [], _, _, h, r => by cases h; cases (show _ = [] from r); exact .nil
  | p :: ps, _, _, h, r => by
    cases h with
    | cons h1 h2 =>
      obtain ⟨v, t, e, r1, r2⟩ := r
      subst e
      exact .cons (Py.dp rh p _ v h1 r1) (Pys.dp rh ps _ t h2 r2)
end
mutual
theorem Py.plain {Hd : DH} : ∀ (p : PyData) (d : D), Py Hd d p → p.plain = true
  | .none, _, _ => rfl
  | .bool b, _, _ => rfl
  | .int i, _, _ => rfl
  | .str x, _, _ => rfl
  | .tuple ps, _, h => by
    cases h with
    | tup hs =>
      rw [PyData.plain]
      exact Pys.plain ps _ hs
  | .list ps, _, h => by
    rw [PyData.plain]
    cases h with
    | fl hs => exact Pys.plain ps _ hs
    | lst ha hs => exact Pys.plain ps _ hs
  | .dict _, _, h => by cases h
theorem Pys.plain {Hd : DH} : ∀ (ps : List PyData) (ds : List D), Pys Hd ds ps → PyData.plainAll ps = true
  | [], _, _ => rfl
  | p :: ps, _, h => by
    cases h with
    | cons h1 h2 =>
      rw [PyData.plainAll, Py.plain p _ h1, Pys.plain ps _ h2]
      rfl
end
def rEqP (K : PySem.W.Frag) : R2 := fun x y H Q => ∃ d e, Dp K H x d ∧ Dp K H y e ∧ d.plain = true ∧ e.plain = true ∧ min d.depth e.depth ≤ 64 ∧ Q (.bl (PyData.eqv d e)) H
def rNeP (K : PySem.W.Frag) : R2 := fun x y H Q => ∃ d e, Dp K H x d ∧ Dp K H y e ∧ d.plain = true ∧ e.plain = true ∧ min d.depth e.depth ≤ 64 ∧ Q (.bl (!PyData.eqv d e)) H
theorem op_eqP (hu : X.A.units + 64 < cLine) : OpR X (compareOp .Eq) (rEqP X.K) := by
  intro pins s σ H x y v u Q I rx ry h
  obtain ⟨d, e, hd, he, sd, se, hz, q⟩ := h
  obtain ⟨as, r1⟩ := Dp.reads I d x v hd rx
  obtain ⟨bs, r2⟩ := Dp.reads I e y u he ry
  exact SeqAt.eq_plain r1 r2 sd se (by omega) ⟨.bl _, H, I, rfl, q⟩
theorem op_neP (hu : X.A.units + 64 < cLine) : OpR X (compareOp .NotEq) (rNeP X.K) := by
  intro pins s σ H x y v u Q I rx ry h
  obtain ⟨d, e, hd, he, sd, se, hz, q⟩ := h
  obtain ⟨as, r1⟩ := Dp.reads I d x v hd rx
  obtain ⟨bs, r2⟩ := Dp.reads I e y u he ry
  exact SeqAt.ne_plain r1 r2 sd se (by omega) ⟨.bl _, H, I, rfl, q⟩
def dEq : DR2 := fun x y H Q => ∃ d e, Py H x d ∧ Py H y e ∧ min d.depth e.depth ≤ 64 ∧ Q (.bl (PyData.eqv d e)) H
def dNe : DR2 := fun x y H Q => ∃ d e, Py H x d ∧ Py H y e ∧ min d.depth e.depth ≤ 64 ∧ Q (.bl (!PyData.eqv d e)) H
theorem dop_eq (hu : X.A.units + 64 < cLine) : DOp X (compareOp .Eq) dEq := ⟨_, op_eqP hu, fun x y v u Hd H Qd Q rx ry rh q k => by
  obtain ⟨d, e, hd, he, hz, q⟩ := q
  exact ⟨d, e, hd.dp rh d x v rx, he.dp rh e y u ry, hd.plain d x, he.plain e y, hz, k.here q rfl rh⟩⟩
theorem dop_ne (hu : X.A.units + 64 < cLine) : DOp X (compareOp .NotEq) dNe := ⟨_, op_neP hu, fun x y v u Hd H Qd Q rx ry rh q k => by
  obtain ⟨d, e, hd, he, hz, q⟩ := q
  exact ⟨d, e, hd.dp rh d x v rx, he.dp rh e y u ry, hd.plain d x, he.plain e y, hz, k.here q rfl rh⟩⟩

/-! ### is None -/
def isN : D → Bool
  | .non => true
  | _ => false
theorem isN_ok {H : Hp} {x : D} {v : V} (r : Rep K H x v) : decide (v = .non) = isN x := by
  cases x with
  | non => cases (show v = .non from r); rfl
  | bl b => cases (show v = .bl b from r); rfl
  | int b => cases (show v = .int b from r); rfl
  | str b => cases (show v = .str b from r); rfl
  | ref b => cases (show v = .ref b from r); rfl
  | ty b => cases (show v = .ty b from r); rfl
  | tup ds => obtain ⟨a, xs, e, _⟩ := r; subst e; rfl
  | fl ds => obtain ⟨a, xs, e, _⟩ := r; subst e; rfl
def dIsN : DR2 := fun x y H Q => match y with
  | .non => Q (.bl (isN x)) H
  | _ => False
def dNotN : DR2 := fun x y H Q => match y with
  | .non => Q (.bl (!isN x)) H
  | _ => False
theorem dop_isN : DOp X (compareOp .Is) dIsN := ⟨_, op_isN, fun x y v u Hd H Qd Q rx ry rh q k => by
  unfold dIsN at q
  split at q
  · exact ⟨ry, k.here q (by rw [isN_ok rx]; rfl) rh⟩
  · exact q.elim⟩
theorem dop_notN : DOp X (compareOp .IsNot) dNotN := ⟨_, op_notN, fun x y v u Hd H Qd Q rx ry rh q k => by
  unfold dNotN at q
  split at q
  · exact ⟨ry, k.here q (by rw [isN_ok rx]; rfl) rh⟩
  · exact q.elim⟩

/-! ### in, not in: lists and tuples of data -/
def rInP (K : PySem.W.Frag) (f : Bool → Bool) : R2 := fun x y H Q => ∃ d ds, Dp K H x d ∧ (Dp K H y (.list ds) ∨ Dp K H y (.tuple ds)) ∧ d.plain = true ∧ PyData.plainAll ds = true ∧ min (PyData.depthAll ds) d.depth ≤ 60 ∧ Q (.bl (f (ds.any fun z => PyData.eqv z d))) H
theorem op_inP (hu : X.A.units + 64 < cLine) : OpR X (compareOp .In) (rInP X.K fun b => b) := by
  intro pins s σ H x y v u Q I rx ry h
  obtain ⟨d, ds, hd, he, sd, se, hz, q⟩ := h
  obtain ⟨as, r1⟩ := Dp.reads I d x v hd rx
  rcases he with he | he
  · obtain ⟨bs, r2⟩ := Dp.reads I _ y u he ry
    exact SeqAt.in_list_data r2 r1 se sd (by omega) ⟨.bl _, H, I, rfl, q⟩
  · obtain ⟨bs, r2⟩ := Dp.reads I _ y u he ry
    exact SeqAt.in_tuple_data r2 r1 se sd (by omega) ⟨.bl _, H, I, rfl, q⟩
theorem op_notInP (hu : X.A.units + 64 < cLine) : OpR X (compareOp .NotIn) (rInP X.K fun b => !b) := by
  intro pins s σ H x y v u Q I rx ry h
  obtain ⟨d, ds, hd, he, sd, se, hz, q⟩ := h
  obtain ⟨as, r1⟩ := Dp.reads I d x v hd rx
  rcases he with he | he
  · obtain ⟨bs, r2⟩ := Dp.reads I _ y u he ry
    exact SeqAt.notIn_list_data r2 r1 se sd (by omega) ⟨.bl _, H, I, rfl, q⟩
  · obtain ⟨bs, r2⟩ := Dp.reads I _ y u he ry
    exact SeqAt.notIn_tuple_data r2 r1 se sd (by omega) ⟨.bl _, H, I, rfl, q⟩
def dIn (f : Bool → Bool) : DR2 := fun x y H Q => ∃ d ds, Py H x d ∧ (Py H y (.list ds) ∨ Py H y (.tuple ds)) ∧ min (PyData.depthAll ds) d.depth ≤ 60 ∧ Q (.bl (f (ds.any fun z => PyData.eqv z d))) H
theorem sim_in {f : Bool → Bool} : SimR K (rInP K f) (dIn f) := fun x y v u Hd H Qd Q rx ry rh q k => by
  obtain ⟨d, ds, hd, he, hz, q⟩ := q
  refine ⟨d, ds, hd.dp rh d x v rx, ?_, hd.plain d x, ?_, hz, k.here q rfl rh⟩
  · rcases he with he | he
    · exact .inl (he.dp rh _ y u ry)
    · exact .inr (he.dp rh _ y u ry)
  · rcases he with he | he
    · have := he.plain _ y
      rw [PyData.plain] at this
      exact this
    · have := he.plain _ y
      rw [PyData.plain] at this
      exact this
theorem dop_in (hu : X.A.units + 64 < cLine) : DOp X (compareOp .In) (dIn fun b => b) := ⟨_, op_inP hu, sim_in⟩
theorem dop_notIn (hu : X.A.units + 64 < cLine) : DOp X (compareOp .NotIn) (dIn fun b => !b) := ⟨_, op_notInP hu, sim_in⟩

/-! ### x[i] -/
theorem Reps.atI {H : Hp} {ds : List D} {vs : List V} {i : Int} {d : D} (h : Reps K H ds vs) (e : atI ds i = some d) : ∃ v, L2.atI vs i = some v ∧ Rep K H d v := by
  unfold L2.atI at e ⊢
  rw [h.len]
  cases c : ixN ds.length i with
  | none => rw [c] at e; cases e
  | some j =>
    rw [c] at e
    exact h.get e
def dIx : DR2 := fun x y H Q => match x, y with
  | .tup xs, .int i => ∃ d, atI xs i = some d ∧ Q d H
  | .fl xs, .int i => ∃ d, atI xs i = some d ∧ Q d H
  | .ref a, .int i => ∃ xs d, H a = some (.lst xs) ∧ atI xs i = some d ∧ Q d H
  | .str z, .int i => ∃ c, z.length ≤ sizeLine ∧ atI z.cps.toList i = some c ∧ Q (.str ⟨#[c]⟩) H
  | _, _ => False
theorem dix : DIx X dIx := ⟨_, IxR.or ix_tup (IxR.or ix_list ix_str), fun x y v u Hd H Qd Q rx ry rh q k => by
  unfold dIx at q
  split at q
  · obtain ⟨d, e, q⟩ := q
    obtain ⟨a, vs, e1, s1, r1⟩ := rx
    obtain ⟨w, e2, r2⟩ := r1.atI e
    exact .inl ⟨a, vs, _, w, e1, ry, s1, e2, k.here q r2 rh⟩
  · obtain ⟨d, e, q⟩ := q
    obtain ⟨a, vs, e1, s1, r1⟩ := rx
    obtain ⟨w, e2, r2⟩ := r1.atI e
    exact .inr (.inl ⟨a, vs, _, w, e1, ry, s1.sq, e2, k.here q r2 rh⟩)
  · obtain ⟨xs, d, h1, e, q⟩ := q
    obtain ⟨vs, e1, r1⟩ := rh _ _ h1
    obtain ⟨w, e2, r2⟩ := r1.atI e
    exact .inr (.inl ⟨_, vs, _, w, rx, ry, SqL.of e1, e2, k.here q r2 rh⟩)
  · obtain ⟨c, hz, e, q⟩ := q
    exact .inr (.inr ⟨_, _, c, rx, ry, hz, e, k.here q rfl rh⟩)
  · exact q.elim⟩

/-! ### x[lo:hi] -/
def cut {α : Type} (xs : List α) (lo hi : Option Int) : List α := (xs.drop (HT.sIx xs.length 0 lo)).take (HT.sIx xs.length xs.length hi - HT.sIx xs.length 0 lo)
theorem Reps.cut {H : Hp} {ds : List D} {vs : List V} {lo hi : Option Int} (h : Reps K H ds vs) : Reps K H (DL.cut ds lo hi) (cutV vs lo hi) := by
  unfold DL.cut cutV
  rw [h.len]
  exact (h.drop _).take _
theorem cut_all {α : Type} {xs : List α} {lo hi : Option Int} (h : HT.sIx xs.length 0 lo = 0 ∧ HT.sIx xs.length xs.length hi = xs.length) : DL.cut xs lo hi = xs := by
  unfold DL.cut
  rw [h.1, h.2]
  simp
def dCut : D → Option Int → Option Int → DH → DK → Prop := fun x lo hi H Q => match x with
  | .tup xs => Q (.tup (DL.cut xs lo hi)) H
  | .fl xs => ∀ p, H p = none → Q (.ref p) (put H p (.lst (DL.cut xs lo hi)))
  | .ref a => ∃ xs, H a = some (.lst xs) ∧ ∀ p, H p = none → Q (.ref p) (put H p (.lst (DL.cut xs lo hi)))
  | _ => False
theorem dsl : DSlR X dCut := ⟨_, SlR.or sl_tupA sl_list, fun x v lo hi Hd H Qd Q rx rh q k => by
  unfold dCut at q
  split at q
  · obtain ⟨a, vs, e1, s1, r1⟩ := rx
    refine .inl ⟨a, vs, e1, s1, fun z => ?_, fun _ p hp => ?_⟩
    · rw [r1.len] at z
      rw [cut_all z] at q
      exact k.here q ⟨a, vs, rfl, s1, r1⟩ rh
    · exact k _ _ _ _ q ⟨p, _, rfl, SqT.of upd_same, r1.cut.up (Up.new hp) _ _⟩ (rh.hid hp) (Up.new hp)
  · obtain ⟨a, vs, e1, s1, r1⟩ := rx
    exact .inr ⟨a, vs, e1, s1.sq, fun p hp => k _ _ _ _ (q p (rh.fresh hp)) rfl (rh.new hp ⟨_, upd_same, r1.cut.up (Up.new hp) _ _⟩) (Up.new hp)⟩
  · obtain ⟨xs, h1, q⟩ := q
    obtain ⟨vs, e1, r1⟩ := rh _ _ h1
    exact .inr ⟨_, vs, rx, SqL.of e1, fun p hp => k _ _ _ _ (q p (rh.fresh hp)) rfl (rh.new hp ⟨_, upd_same, r1.cut.up (Up.new hp) _ _⟩) (Up.new hp)⟩
  · exact q.elim⟩
end
end DL

/-! The data layer, part E: built-in calls by values. -/
namespace DL
open PySem PySem.Spec PyProof.Rows L2

section
variable {X : Cx} {W : WX} {K : PySem.W.Frag}
theorem callR_or {f : Value} {r r' : List V → Hp → VK → Prop} (h : CallR X f r) (h' : CallR X f r') : CallR X f (fun xs H Q => r xs H Q ∨ r' xs H Q) := by
  intro pins s σ H xs us Q I rv q
  rcases q with q | q
  · exact h pins s σ H xs us Q I rv q
  · exact h' pins s σ H xs us Q I rv q
theorem reps1 {H : Hp} {x : D} {vs : List V} (r : Reps K H [x] vs) : ∃ v, vs = [v] ∧ Rep K H x v := by
  obtain ⟨v, t, e, h, h2⟩ := r
  cases (show t = [] from h2)
  exact ⟨v, e, h⟩
theorem reps2 {H : Hp} {x y : D} {vs : List V} (r : Reps K H [x, y] vs) : ∃ v u, vs = [v, u] ∧ Rep K H x v ∧ Rep K H y u := by
  obtain ⟨v, t, e, h, h2⟩ := r
  obtain ⟨u, e2, h3⟩ := reps1 h2
  subst e2
  exact ⟨v, u, e, h, h3⟩
def dLen : DRA := fun xs H Q => match xs with
  | [.tup ds] => Q (.int ds.length) H
  | [.fl ds] => Q (.int ds.length) H
  | [.str z] => z.length ≤ sizeLine ∧ Q (.int z.length) H
  | [.ref a] => match H a with
    | some (.lst ds) => Q (.int ds.length) H
    | some (.dct kvs) => Q (.int kvs.length) H
    | _ => False
  | _ => False
theorem dcl_len : DCl X (.builtin "len") dLen := ⟨_, callR_or call_len_seq (callR_or call_len_str call_lenD), fun xs vs Hd H Qd Q rx rh q k => by
  unfold dLen at q
  split at q
  · obtain ⟨v, rfl, a, us, e1, s1, r1⟩ := reps1 rx
    exact .inl ⟨a, us, by rw [e1], .inr s1, k.here q (by rw [r1.len]; rfl) rh⟩
  · obtain ⟨v, rfl, a, us, e1, s1, r1⟩ := reps1 rx
    exact .inl ⟨a, us, by rw [e1], .inl s1.sq, k.here q (by rw [r1.len]; rfl) rh⟩
  · obtain ⟨v, rfl, e⟩ := reps1 rx
    exact .inr (.inl ⟨_, by rw [show v = _ from e], q.1, k.here q.2 rfl rh⟩)
  · obtain ⟨v, rfl, e⟩ := reps1 rx
    split at q
    · rename_i ds ha
      obtain ⟨us, e1, r1⟩ := rh _ _ ha
      exact .inl ⟨_, us, by rw [show v = _ from e], .inl (SqL.of e1), k.here q (by rw [r1.len]; rfl) rh⟩
    · rename_i kvs ha
      obtain ⟨ws, e1, r1⟩ := rh _ _ ha
      exact .inr (.inr ⟨_, ws, by rw [show v = _ from e], e1, k.here q (by rw [r1.len]; rfl) rh⟩)
    · exact q.elim
  · exact q.elim⟩
def dInt : DRA := fun xs H Q => match xs with
  | [.int i] => Q (.int i) H
  | [.bl b] => Q (.int (if b then 1 else 0)) H
  | _ => False
theorem dcl_int : DCl X (.type "int") dInt := ⟨_, call_int1, fun xs vs Hd H Qd Q rx rh q k => by
  unfold dInt at q
  split at q
  · obtain ⟨v, rfl, e⟩ := reps1 rx
    exact .inl ⟨_, by rw [show v = _ from e], k.here q rfl rh⟩
  · obtain ⟨v, rfl, e⟩ := reps1 rx
    exact .inr ⟨_, by rw [show v = _ from e], k.here q rfl rh⟩
  · exact q.elim⟩
def dMax2 : DRA := fun xs H Q => match xs with
  | [.int i, .int j] => Q (.int (if j > i then j else i)) H
  | _ => False
theorem dcl_max2 (hc : X.calm = true) : DCl X (.builtin "max") dMax2 := ⟨_, call_max2 hc, fun xs vs Hd H Qd Q rx rh q k => by
  unfold dMax2 at q
  split at q
  · obtain ⟨v, u, rfl, e, e2⟩ := reps2 rx
    exact ⟨_, _, by rw [show v = _ from e, show u = _ from e2], k.here q rfl rh⟩
  · exact q.elim⟩
def dMin2 : DRA := fun xs H Q => match xs with
  | [.int i, .int j] => Q (.int (if j < i then j else i)) H
  | _ => False
theorem dcl_min2 (hc : X.calm = true) : DCl X (.builtin "min") dMin2 := ⟨_, call_min2 hc, fun xs vs Hd H Qd Q rx rh q k => by
  unfold dMin2 at q
  split at q
  · obtain ⟨v, u, rfl, e, e2⟩ := reps2 rx
    exact ⟨_, _, by rw [show v = _ from e, show u = _ from e2], k.here q rfl rh⟩
  · exact q.elim⟩
/-- tuple(x) -/
def dTupleOf : DRA := fun xs H Q => match xs with
  | [.tup ds] => Q (.tup ds) H
  | [.fl ds] => Q (.tup ds) H
  | [.ref a] => ∃ ds, H a = some (.lst ds) ∧ Q (.tup ds) H
  | _ => False
theorem dcl_tuple : DCl X (.type "tuple") dTupleOf := ⟨_, call_tuple_of, fun xs vs Hd H Qd Q rx rh q k => by
  unfold dTupleOf at q
  split at q
  · obtain ⟨v, rfl, a, us, e1, s1, r1⟩ := reps1 rx
    exact ⟨a, us, by rw [e1], .inr ⟨s1, k.here q ⟨a, us, rfl, s1, r1⟩ rh⟩⟩
  · obtain ⟨v, rfl, a, us, e1, s1, r1⟩ := reps1 rx
    exact ⟨a, us, by rw [e1], .inl ⟨s1.sq, fun p hp => k _ _ _ _ q ⟨p, us, rfl, SqT.of upd_same, r1.up (Up.new hp) _ _⟩ (rh.hid hp) (Up.new hp)⟩⟩
  · obtain ⟨v, rfl, e⟩ := reps1 rx
    obtain ⟨ds, ha, q⟩ := q
    obtain ⟨us, e1, r1⟩ := rh _ _ ha
    exact ⟨_, us, by rw [show v = _ from e], .inl ⟨SqL.of e1, fun p hp => k _ _ _ _ q ⟨p, us, rfl, SqT.of upd_same, r1.up (Up.new hp) _ _⟩ (rh.hid hp) (Up.new hp)⟩⟩
  · exact q.elim⟩
/-- list(x) -/
def dListOf : DRA := fun xs H Q => match xs with
  | [.tup ds] => ∀ p, H p = none → Q (.ref p) (put H p (.lst ds))
  | [.fl ds] => ∀ p, H p = none → Q (.ref p) (put H p (.lst ds))
  | [.ref a] => ∃ ds, H a = some (.lst ds) ∧ ∀ p, H p = none → Q (.ref p) (put H p (.lst ds))
  | _ => False
theorem dcl_list : DCl X (.type "list") dListOf := ⟨_, call_list_of, fun xs vs Hd H Qd Q rx rh q k => by
  unfold dListOf at q
  split at q
  · obtain ⟨v, rfl, a, us, e1, s1, r1⟩ := reps1 rx
    exact ⟨a, us, by rw [e1], .inr s1, fun p hp => k _ _ _ _ (q p (rh.fresh hp)) rfl (rh.new hp ⟨_, upd_same, r1.up (Up.new hp) _ _⟩) (Up.new hp)⟩
  · obtain ⟨v, rfl, a, us, e1, s1, r1⟩ := reps1 rx
    exact ⟨a, us, by rw [e1], .inl s1.sq, fun p hp => k _ _ _ _ (q p (rh.fresh hp)) rfl (rh.new hp ⟨_, upd_same, r1.up (Up.new hp) _ _⟩) (Up.new hp)⟩
  · obtain ⟨v, rfl, e⟩ := reps1 rx
    obtain ⟨ds, ha, q⟩ := q
    obtain ⟨us, e1, r1⟩ := rh _ _ ha
    exact ⟨_, us, by rw [show v = _ from e], .inl (SqL.of e1), fun p hp => k _ _ _ _ (q p (rh.fresh hp)) rfl (rh.new hp ⟨_, upd_same, r1.up (Up.new hp) _ _⟩) (Up.new hp)⟩
  · exact q.elim⟩

/-! ### isinstance -/
/-- what an own class must say of itself -/
structure OwnTy (K : PySem.W.Frag) (C : Addr) : Prop where
  cl : Cls K C
  ha : PySem.W.findIn K (.ref C) "__class__" = some (some (.builtin "object.__class__"))
  hn : PySem.W.specialIn K (.builtin "object.__class__") "__get__" = some (some (.builtin "getset_descriptor.__get__"))
  ht : PySem.W.takesIn K (.builtin "object.__class__") = some true
  hm : PySem.W.mroIn K C (.type "object") = some true
def tyD (H : DH) : D → Option Value
  | .non => some (.type "NoneType")
  | .bl _ => some (.type "bool")
  | .int _ => some (.type "int")
  | .str _ => some (.type "str")
  | .tup _ => some (.type "tuple")
  | .fl _ => some (.type "list")
  | .ty _ => none
  | .ref a => match H a with
    | some (.lst _) => some (.type "list")
    | some (.dct _) => some (.type "dict")
    | some (.dctT _) => some (.type "dict")
    | some (.ins C _) => some (.ref C)
    | _ => none
theorem tyD_ok {Hd : DH} {H : Hp} (rh : RH K Hd H) {x : D} {v : V} {t : Value} (r : Rep K H x v) (e : tyD Hd x = some t) (ho : ∀ C, t = .ref C → OwnTy K C) : TyX K H v t := by
  unfold tyD at e
  split at e
  · cases (show v = _ from r); cases e; exact .base .non
  · cases (show v = _ from r); cases e; exact .base (.bl _)
  · cases (show v = _ from r); cases e; exact .base (.int _)
  · cases (show v = _ from r); cases e; exact .base (.str _)
  · obtain ⟨a, xs, e1, s1, _⟩ := r
    subst e1
    cases e
    rcases s1 with (s1 | ⟨o, s1⟩) | ⟨o, its, n, h1, h2, _⟩
    · exact .base (.tup s1)
    · exact .fTuple s1
    · exact .kTuple h1 h2
  · obtain ⟨a, xs, e1, s1, _⟩ := r
    subst e1
    cases e
    rcases s1 with ⟨o, s1⟩ | s1
    · exact .base (.frz s1)
    · rcases s1 (fun _ => none) with (z | ⟨_, z⟩) | ⟨o, its, n, h1, h2, _⟩
      · cases z
      · cases z
      · exact .kList h1 h2
  · cases e
  · cases (show v = _ from r)
    split at e
    · rename_i ha
      obtain ⟨us, e1, _⟩ := rh _ _ ha
      cases e
      exact .base (.lst e1)
    · rename_i ha
      obtain ⟨us, e1, _⟩ := rh _ _ ha
      cases e
      exact .base (.dK e1)
    · rename_i ha
      obtain ⟨us, e1, _⟩ := rh _ _ ha
      cases e
      exact .base (.dT e1)
    · rename_i C fs ha
      obtain ⟨dx, gs, e1, _⟩ := rh _ _ ha
      cases e
      have T := ho C rfl
      exact .base (.ins e1 T.cl T.ha T.hn T.ht T.hm)
    · cases e
inductive ClsD : D → Value → Prop
  | ty (n : String) : ClsD (.ty n) (.type n)
  | own (C : Addr) : ClsD (.ref C) (.ref C)
theorem ClsD.v {H : Hp} {c : D} {u : Value} {v : V} (h : ClsD c u) (r : Rep K H c v) : ClsV v u := by
  cases h with
  | ty n => cases (show v = _ from r); exact .ty n
  | own C => cases (show v = _ from r); exact .own C
theorem ClsD.vs {H : Hp} : ∀ {cs : List D} {us : List Value} {vs : List V}, Paired ClsD cs us → Reps K H cs vs → Paired ClsV vs us
  | _, _, _, .nil, r => by cases (show _ = [] from r); exact .nil
  | _, _, _, .cons h t, r => by
    obtain ⟨v, w, e, h1, h2⟩ := r
    subst e
    exact .cons (h.v h1) (ClsD.vs t h2)
def dIsi (K : PySem.W.Frag) : DRA := fun xs H Q => ∃ (x c : D) (t u : Value) (b : Bool), xs = [x, c] ∧ tyD H x = some t ∧ (∀ C, t = .ref C → OwnTy K C) ∧ ClsD c u ∧ PySem.W.kitOne K t u = some b ∧ Q (.bl b) H
def dIsiT (K : PySem.W.Frag) : DRA := fun xs H Q => ∃ (x : D) (cs : List D) (t : Value) (us : List Value) (b : Bool), xs = [x, .tup cs] ∧ tyD H x = some t ∧ (∀ C, t = .ref C → OwnTy K C) ∧ Paired ClsD cs us ∧ PySem.W.kitAny K t us = some b ∧ Q (.bl b) H
theorem dcl_isi : DCl X (.builtin "isinstance") (dIsi X.K) := ⟨_, call_isi, fun xs vs Hd H Qd Q rx rh q k => by
  obtain ⟨x, c, t, u, b, rfl, e, ho, hc, hk, q⟩ := q
  obtain ⟨v, w, rfl, r1, r2⟩ := reps2 rx
  exact ⟨v, w, t, u, b, rfl, hc.v r2, tyD_ok rh r1 e ho, hk, k.here q rfl rh⟩⟩
/-- isinstance(x, (c1, c2, ..)), the tuple written -/
theorem d_isiT {e1 : Expr} {d1 : DTE} {dA : DTA} {es : List Expr} {p pos pos2 : Pos} {x1} (hg : Gl X "isinstance") (hm : X.mg "isinstance" = none) (h1 : DPE X W e1 d1) (h2 : DPA X W es dA)
    (he : starEach [e1, .Tuple es x1 pos2] X.env = (false, eval e1 X.env) :: starEach [.Tuple es x1 pos2] X.env := by rfl) (hpl : (backTo pos (starEach [.Tuple es x1 pos2] X.env)).any (·.1) = false := by rfl)
    (hs2 : starEach [.Tuple es x1 pos2] X.env = (false, eval (.Tuple es x1 pos2) X.env) :: starEach [] X.env := by rfl) :
    DPE X W (.Call (.Name "isinstance" p) [e1, .Tuple es x1 pos2] [] pos) (dCB (dIsiT X.K) (dCons d1 (dCons (dTup dA) dNil))) := by
  obtain ⟨t1, a1, a2⟩ := h1
  obtain ⟨t2, b1, b2⟩ := h2
  refine ⟨_, pe_callB call_isiT hg hm boot_isinstance (pa_cons a1 (pa_cons (pe_tup b1) pa_nil hs2) he) (by decide) (by decide) he hpl, fun σd Hd σ H Qd Q E rs wx q w => ?_⟩
  refine a2 σd Hd σ H _ _ E rs wx q fun y H1 v H1' q1 rx rs1 u1 => ?_
  refine b2 σd H1 σ H1' _ _ E rs1 (wx.to u1) q1 fun cs H2 vs H2' q2 rxs rs2 u2 => ?_
  obtain ⟨hz, x, cs', t, us, b, e, et, ho, hc, hk, q3⟩ := q2
  injection e with e e'
  injection e' with e' _
  injection e' with e'
  subst e e'
  refine ⟨by rw [rxs.len]; exact hz, fun p hp => ?_⟩
  refine ⟨v, p, vs, t, us, b, rfl, upd_same, ClsD.vs hc rxs, ?_, hk, w _ H2 _ _ q3 rfl (rs2.mono (Up.new hp) (rs2.hp.hid hp)) ((u1.trans u2).trans (Up.new hp))⟩
  exact tyD_ok (rs2.hp.hid hp) (rx.up (u2.trans (Up.new hp)) _ _) et ho

/-- the built-in kinds among themselves -/
def kinds : List String := ["NoneType", "bool", "int", "str", "tuple", "list", "dict"]
def isB (t c : String) : Bool := t == c || (t == "bool" && c == "int")
theorem kit_all : (kinds.all fun t => (kinds.drop 1).all fun c => kitB t c == some (isB t c)) = true := by decide +kernel
theorem kit_b {t c : String} (ht : t ∈ kinds) (hc : c ∈ kinds.drop 1) : PySem.W.kitOne K (.type t) (.type c) = some (isB t c) := by
  have h := List.all_eq_true.mp (List.all_eq_true.mp kit_all t ht) c hc
  exact kit_ty (beq_iff_eq.mp h)
end
end DL

/-! The data layer, part F: statements, targets, loops. -/
namespace DL
open PySem PySem.Spec PyProof.Rows L2

structure DEnds where
  nx : DSt → DH → Prop
  rt : DK
  bk : DSt → DH → Prop := fun _ _ => False
  ct : DSt → DH → Prop := fun _ _ => False
  ex : Addr → Option Addr → DSt → DH → Prop := fun _ _ _ _ => False
abbrev DTS := DEnds → DSt → DH → Prop
def DEnds.at (D : DEnds) (σ : DSt) : DX := fun C dd H => D.ex C dd σ H
/-- the ends over data lead to the ends, from H on -/
structure EndsOk (K : PySem.W.Frag) (W : WX) (H : Hp) (Dd : DEnds) (D : Ends) : Prop where
  nx : ∀ σd Hd σ H', Dd.nx σd Hd → RS K σd Hd σ H' → Up H H' → D.nx σ H'
  rt : ∀ x Hd v H', Dd.rt x Hd → Rep K H' x v → RH K Hd H' → Up H H' → D.rt v H'
  bk : ∀ σd Hd σ H', Dd.bk σd Hd → RS K σd Hd σ H' → Up H H' → D.bk σ H'
  ct : ∀ σd Hd σ H', Dd.ct σd Hd → RS K σd Hd σ H' → Up H H' → D.ct σ H'
  ex : ∀ C dd σd Hd σ H', Dd.ex C dd σd Hd → RS K σd Hd σ H' → Up H H' → W (.ref C) dd σ H'
def SimS (K : PySem.W.Frag) (W : WX) (t : TS) (d : DTS) : Prop := ∀ (Dd : DEnds) (D : Ends) σd Hd σ H, RS K σd Hd σ H → EndsOk K W H Dd D → d Dd σd Hd → t D σ H
def DPS (X : Cx) (W : WX) (st : Stmt) (d : DTS) : Prop := ∃ t, PS X st t ∧ SimS X.K W t d
def DPSs (X : Cx) (W : WX) (sts : List Stmt) (d : DTS) : Prop := ∃ t, PSs X sts t ∧ SimS X.K W t d
section
variable {K : PySem.W.Frag} {W : WX} {H H' : Hp} {Dd : DEnds} {D : Ends}
theorem EndsOk.to (o : EndsOk K W H Dd D) (u : Up H H') : EndsOk K W H' Dd D :=
  ⟨fun a b c d q r v => o.nx a b c d q r (u.trans v), fun a b c d q r s v => o.rt a b c d q r s (u.trans v), fun a b c d q r v => o.bk a b c d q r (u.trans v), fun a b c d q r v => o.ct a b c d q r (u.trans v),
    fun a b c d e f q r v => o.ex a b c d e f q r (u.trans v)⟩
theorem EndsOk.wx (o : EndsOk K W H Dd D) (σd : DSt) (σ : L2.St) : WantX K W σd σ H (Dd.at σd) := fun C dd Hd' H' q rs u => o.ex C dd σd Hd' σ H' q rs u
end

/-! ### the weakest readings: one term for all contexts -/
def canE (K : PySem.W.Frag) (W : WX) (d : DTE) : TE := fun σ H Q => ∃ σd Hd Qd E, RS K σd Hd σ H ∧ WantX K W σd σ H E ∧ d E σd Hd Qd ∧ Want K σd σ H Qd Q
def canT (K : PySem.W.Frag) (W : WX) (d : DTT) : TT := fun σ H Q => ∃ (σd : DSt) (Hd : DH) (Qd : Bool → DH → Prop) (E : DX), RS K σd Hd σ H ∧ WantX K W σd σ H E ∧ d E σd Hd Qd ∧ ∀ b Hd' H', Qd b Hd' → RS K σd Hd' σ H' → Up H H' → Q b H'
def canS (K : PySem.W.Frag) (W : WX) (d : DTS) : TS := fun D σ H => ∃ σd Hd Dd, RS K σd Hd σ H ∧ EndsOk K W H Dd D ∧ d Dd σd Hd
section
variable {X : Cx} {W : WX} {e : Expr} {st : Stmt} {sts : List Stmt}
theorem DPE.can {d : DTE} (h : DPE X W e d) : PE X e (canE X.K W d) := by
  obtain ⟨t, h1, h2⟩ := h
  exact ⟨fun pins s σ H Q I ⟨σd, Hd, Qd, E, rs, wx, q, w⟩ => h1.run pins s σ H Q I (h2 σd Hd σ H Qd Q E rs wx q w)⟩
theorem DPT.can {d : DTT} (h : DPT X W e d) : PT X e (canT X.K W d) := by
  obtain ⟨t, h1, h2⟩ := h
  exact ⟨fun pins s σ H Q I ⟨σd, Hd, Qd, E, rs, wx, q, w⟩ => h1.run pins s σ H Q I (h2 σd Hd σ H Qd Q E rs wx q w)⟩
theorem DPS.can {d : DTS} (h : DPS X W st d) : PS X st (canS X.K W d) := by
  obtain ⟨t, h1, h2⟩ := h
  exact ⟨fun pins s σ H D I ⟨σd, Hd, Dd, rs, o, q⟩ => h1.run pins s σ H D I (h2 Dd D σd Hd σ H rs o q)⟩
theorem DPSs.can {d : DTS} (h : DPSs X W sts d) : PSs X sts (canS X.K W d) := by
  obtain ⟨t, h1, h2⟩ := h
  exact ⟨fun pins s σ H D I ⟨σd, Hd, Dd, rs, o, q⟩ => h1.run pins s σ H D I (h2 Dd D σd Hd σ H rs o q)⟩
end

/-! ### blocks and small statements -/
def dNext : DTS := fun D σ H => D.nx σ H
def dSeq (t u : DTS) : DTS := fun D σ H => t { D with nx := u D } σ H
def dBrk : DTS := fun D σ H => D.bk σ H
def dCnt : DTS := fun D σ H => D.ct σ H
def dDrop (a : DTE) : DTS := fun D σ H => a (D.at σ) σ H fun _ H1 => D.nx σ H1
def dRet (a : DTE) : DTS := fun D σ H => a (D.at σ) σ H D.rt
def dRetN : DTS := fun D _ H => D.rt .non H
def dIfS (c : DTT) (t u : DTS) : DTS := fun D σ H => c (D.at σ) σ H fun b H1 => if b = true then t D σ H1 else u D σ H1
def dSet (a : DTE) (i : Nat) : DTS := fun D σ H => a (D.at σ) σ H fun x H1 => D.nx (σ.set i (some x)) H1
def dNever : DTS := fun _ _ _ => False
section
variable {X : Cx} {W : WX} {st : Stmt} {rest a b : List Stmt} {t u : DTS} {e : Expr} {de : DTE} {dt : DTT} {pos : Pos}
theorem ds_nil : DPSs X W [] dNext := ⟨_, pss_nil, fun Dd D σd Hd σ H rs o q => o.nx σd Hd σ H q rs (Up.refl H)⟩
theorem ds_cons (h1 : DPS X W st t) (h2 : DPSs X W rest u) : DPSs X W (st :: rest) (dSeq t u) := by
  obtain ⟨t1, p1, s1⟩ := h1
  obtain ⟨t2, p2, s2⟩ := h2
  refine ⟨_, pss_cons p1 p2, fun Dd D σd Hd σ H rs o q => ?_⟩
  exact s1 { Dd with nx := u Dd } { D with nx := t2 D } σd Hd σ H rs ⟨fun σd' Hd' σ' H' q' rs' up => s2 Dd D σd' Hd' σ' H' rs' (o.to up) q', o.rt, o.bk, o.ct, o.ex⟩ q
theorem ds_one (h : DPS X W st t) : DPSs X W [st] t := by
  obtain ⟨t1, p1, s1⟩ := h
  exact ⟨_, pss_one p1, s1⟩
theorem ds_never : DPSs X W a dNever := ⟨_, pss_never, fun _ _ _ _ _ _ _ _ q => q.elim⟩
theorem ds_pass : DPS X W (.Pass pos) dNext := ⟨_, ps_pass, fun Dd D σd Hd σ H rs o q => o.nx σd Hd σ H q rs (Up.refl H)⟩
theorem ds_break : DPS X W (.Break pos) dBrk := ⟨_, ps_break, fun Dd D σd Hd σ H rs o q => o.bk σd Hd σ H q rs (Up.refl H)⟩
theorem ds_continue : DPS X W (.Continue pos) dCnt := ⟨_, ps_continue, fun Dd D σd Hd σ H rs o q => o.ct σd Hd σ H q rs (Up.refl H)⟩
theorem ds_expr (h : DPE X W e de) (hs : swapsWith e none pos.line X.env = pure false := by rfl) : DPS X W (.Expr e pos) (dDrop de) := by
  obtain ⟨t1, p1, s1⟩ := h
  exact ⟨_, ps_expr p1 hs, fun Dd D σd Hd σ H rs o q => s1 σd Hd σ H _ _ _ rs (o.wx σd σ) q fun x Hd' v H' q' rx rs' up => o.nx σd Hd' σ H' q' rs' up⟩
theorem ds_ret (h : DPE X W e de) : DPS X W (.Return (some e) pos) (dRet de) := by
  obtain ⟨t1, p1, s1⟩ := h
  exact ⟨_, ps_ret p1, fun Dd D σd Hd σ H rs o q => s1 σd Hd σ H _ _ _ rs (o.wx σd σ) q fun x Hd' v H' q' rx rs' up => o.rt x Hd' v H' q' rx rs'.hp up⟩
theorem ds_retN : DPS X W (.Return none pos) dRetN := ⟨_, ps_retN, fun Dd D σd Hd σ H rs o q => o.rt .non Hd .non H q rfl rs.hp (Up.refl H)⟩
theorem ds_if {c : Expr} (hc : DPT X W c dt) (ha : DPSs X W a t) (hb : DPSs X W b u) : DPS X W (.If c a b pos) (dIfS dt t u) := by
  obtain ⟨tc, c1, c2⟩ := hc
  obtain ⟨ta, a1, a2⟩ := ha
  obtain ⟨tb, b1, b2⟩ := hb
  refine ⟨_, ps_if c1 a1 b1, fun Dd D σd Hd σ H rs o q => c2 σd Hd σ H _ _ _ rs (o.wx σd σ) q fun k Hd' H' q' rs' up => ?_⟩
  cases k with
  | true =>
    rw [if_pos rfl] at q' ⊢
    exact a2 Dd D σd Hd' σ H' rs' (o.to up) q'
  | false =>
    rw [if_neg Bool.false_ne_true] at q' ⊢
    exact b2 Dd D σd Hd' σ H' rs' (o.to up) q'
theorem ds_set {i : Nat} {x : Str} {pos' : Pos} (hN : X.N.Nodup) (hi : X.N[i]? = some x) (hx : Loc X.env.scope x) (h : DPE X W e de) (hs : swapsWith e (some (.Name x pos')) pos.line X.env = pure false := by rfl) (hf : X.fn x = true ∨ X.env.scope.names.lookup x = some .local := by first | exact .inl rfl | exact .inr rfl | assumption) :
    DPS X W (.Assign [.Name x pos'] e pos) (dSet de i) := by
  obtain ⟨t1, p1, s1⟩ := h
  exact ⟨_, ps_set hN hi hx p1 hs hf, fun Dd D σd Hd σ H rs o q => s1 σd Hd σ H _ _ _ rs (o.wx σd σ) q fun x Hd' v H' q' rx rs' up => o.nx _ Hd' _ H' q' (rs'.set rx i) up⟩
end

/-! ### targets -/
abbrev DTG := D → DSt → DH → (DSt → DH → Prop) → Prop
abbrev DTGs := List D → DSt → DH → (DSt → DH → Prop) → Prop
def SimG (K : PySem.W.Frag) (t : TG) (g : DTG) : Prop := ∀ x v σd Hd σ H (Qd : DSt → DH → Prop) (Q : L2.St → Hp → Prop), Rep K H x v → RS K σd Hd σ H → g x σd Hd Qd → (∀ σd' Hd' σ' H', Qd σd' Hd' → RS K σd' Hd' σ' H' → Up H H' → Q σ' H') → t v σ H Q
def SimGs (K : PySem.W.Frag) (t : TGs) (g : DTGs) : Prop := ∀ xs vs σd Hd σ H (Qd : DSt → DH → Prop) (Q : L2.St → Hp → Prop), Reps K H xs vs → RS K σd Hd σ H → g xs σd Hd Qd → (∀ σd' Hd' σ' H', Qd σd' Hd' → RS K σd' Hd' σ' H' → Up H H' → Q σ' H') → t vs σ H Q
def DPG (X : Cx) (tg : Expr) (g : DTG) : Prop := ∃ t, PG X tg t ∧ SimG X.K t g
def DPGs (X : Cx) (ts : List Expr) (g : DTGs) : Prop := ∃ t, PGs X ts t ∧ SimGs X.K t g
def gNm (i : Nat) : DTG := fun x σ H Q => Q (σ.set i (some x)) H
def gNl : DTGs := fun xs σ H Q => match xs with
  | [] => Q σ H
  | _ => False
def gCn (g : DTG) (r : DTGs) : DTGs := fun xs σ H Q => match xs with
  | x :: t => g x σ H fun σ' H' => r t σ' H' Q
  | _ => False
def gTp (n : Nat) (r : DTGs) : DTG := fun x σ H Q => match x with
  | .tup ds => ds.length = n ∧ r ds σ H Q
  | _ => False
def canG (K : PySem.W.Frag) (g : DTG) : TG := fun v σ H Q => ∃ x σd Hd Qd, Rep K H x v ∧ RS K σd Hd σ H ∧ g x σd Hd Qd ∧ ∀ σd' Hd' σ' H', Qd σd' Hd' → RS K σd' Hd' σ' H' → Up H H' → Q σ' H'
abbrev WF : WX := fun _ _ _ _ => False
theorem wxF {K : PySem.W.Frag} {σd : DSt} {σ : L2.St} {H : Hp} : WantX K WF σd σ H (fun _ _ _ => False) := fun _ _ _ _ q _ _ => q.elim
/-- o[i] = v -/
def dSetIx : D → D → D → DH → (DH → Prop) → Prop := fun o i v H Q => match o, i with
  | .ref a, .int k => ∃ xs j, H a = some (.lst xs) ∧ ixN xs.length k = some j ∧ Q (put H a (.lst (xs.set j v)))
  | _, _ => False
def gIx (a b : DTE) : DTG := fun v σ H Q => a (fun _ _ _ => False) σ H fun o H1 => b (fun _ _ _ => False) σ H1 fun i H2 => dSetIx o i v H2 fun H3 => Q σ H3
def dAsg (a : DTE) (g : DTG) : DTS := fun D σ H => a (D.at σ) σ H fun x H1 => g x σ H1 D.nx
section
variable {X : Cx} {W : WX} {pos : Pos} {e o i tg : Expr} {es : List Expr} {de da db : DTE} {g : DTG} {gs : DTGs}
theorem DPG.can (h : DPG X tg g) : PG X tg (canG X.K g) := by
  obtain ⟨t, h1, h2⟩ := h
  exact ⟨fun pins s σ H v u Q I r ⟨x, σd, Hd, Qd, rx, rs, q, k⟩ => h1.run pins s σ H v u Q I r (h2 x v σd Hd σ H Qd Q rx rs q k)⟩
theorem dg_name {i : Nat} {x : Str} (hN : X.N.Nodup) (hi : X.N[i]? = some x) (hx : Loc X.env.scope x) (hf : X.fn x = true ∨ X.env.scope.names.lookup x = some .local := by first | exact .inl rfl | exact .inr rfl | assumption) : DPG X (.Name x pos) (gNm i) :=
  ⟨_, pg_name hN hi hx hf, fun x v σd Hd σ H Qd Q rx rs q k => k _ Hd _ H q (rs.set rx i) (Up.refl H)⟩
theorem dgs_nil : DPGs X [] gNl := ⟨_, pgs_nil, fun xs vs σd Hd σ H Qd Q rx rs q k => by
  unfold gNl at q
  split at q
  · exact ⟨rx, k _ Hd _ H q rs (Up.refl H)⟩
  · exact q.elim⟩
theorem dgs_cons (h1 : DPG X e g) (h2 : DPGs X es gs) (hs : (assignEach (e :: es) X.env).map (·.2) = assign e X.env :: (assignEach es X.env).map (·.2) := by rfl) : DPGs X (e :: es) (gCn g gs) := by
  obtain ⟨t1, a1, a2⟩ := h1
  obtain ⟨t2, b1, b2⟩ := h2
  refine ⟨_, pgs_cons a1 b1 hs, fun xs vs σd Hd σ H Qd Q rx rs q k => ?_⟩
  unfold gCn at q
  split at q
  · rename_i x t
    obtain ⟨v, r, ev, r1, r2⟩ := rx
    refine ⟨v, r, ev, a2 x v σd Hd σ H _ _ r1 rs q fun σd' Hd' σ' H' q' rs' up => ?_⟩
    exact b2 t r σd' Hd' σ' H' Qd Q (r2.up up _ _) rs' q' fun σd2 Hd2 σ2 H2 q2 rs2 up2 => k σd2 Hd2 σ2 H2 q2 rs2 (up.trans up2)
  · exact q.elim
theorem dg_tup {k} {n : Nat} (hc : X.calm = true) (h : DPGs X es gs) (hn : (assignEach es X.env).length = n := by rfl) (hst : (assignEach es X.env).findIdx? (·.1) = none := by rfl) : DPG X (.Tuple es k pos) (gTp n gs) := by
  obtain ⟨t, h1, h2⟩ := h
  refine ⟨_, pg_tup hc h1 hn hst, fun x v σd Hd σ H Qd Q rx rs q k => ?_⟩
  unfold gTp at q
  split at q
  · obtain ⟨a, xs, e1, s1, r1⟩ := rx
    exact ⟨a, xs, e1, s1, by rw [r1.len]; exact q.1, h2 _ xs σd Hd σ H Qd Q r1 rs q.2 k⟩
  · exact q.elim
theorem dg_ix (ho : DPE X WF o da) (hi : DPE X WF i db)
    (ha : ∀ v, assign (.Subscript o i pos) X.env v = (do
      let ov ← holding [v] (eval o X.env)
      let iv ← holding [v, ov] (eval i X.env)
      standAt pos
      holding [v, ov, iv] (setItem ov iv v)
      release [v, ov, iv] []) := by intro _; rfl) : DPG X (.Subscript o i pos) (gIx da db) := by
  obtain ⟨t1, a1, a2⟩ := ho
  obtain ⟨t2, b1, b2⟩ := hi
  refine ⟨_, pg_sub a1 b1 set_list ha, fun x v σd Hd σ H Qd Q rx rs q k => ?_⟩
  refine a2 σd Hd σ H _ _ _ rs wxF q fun y H1 w H1' q1 ry rs1 u1 => b2 σd H1 σ H1' _ _ _ rs1 wxF q1 fun z H2 u H2' q2 rz rs2 u2 => ?_
  unfold dSetIx at q2
  split at q2
  · rename_i a n
    obtain ⟨xs, j, h1, h2, q2⟩ := q2
    obtain ⟨vs, e1, r1⟩ := rs2.hp _ _ h1
    have up : Up H2' (upd H2' a (.lst (vs.set j v))) := Up.put e1 trivial
    have rh := (rs2.hp.write (u := .lst (vs.set j v)) (x := .lst (xs.set j x)) h1 ⟨_, upd_same, Reps.set (rx.up ((u1.trans u2).trans up) _ _) j (r1.up up _ _)⟩).1
    exact ⟨a, vs, n, j, ry, rz, e1, by rw [r1.len]; exact h2, k σd _ σ _ q2 (rs2.mono up rh) ((u1.trans u2).trans up)⟩
  · exact q2.elim
theorem ds_asg (he : DPE X W e de) (hg : DPG X tg g) (hs : swapsWithSole [tg] e pos.line X.env = pure false := by rfl) (hw : swappedStores [tg] e X.env = pure none := by rfl)
    (h1 : (assignEach [tg] X.env).map (·.2) = [assign tg X.env] := by rfl) : DPS X W (.Assign [tg] e pos) (dAsg de g) := by
  obtain ⟨t1, p1, s1⟩ := he
  obtain ⟨t2, p2, s2⟩ := hg
  exact ⟨_, ps_asg p1 p2 hs hw h1, fun Dd D σd Hd σ H rs o q => s1 σd Hd σ H _ _ _ rs (o.wx σd σ) q fun x Hd' v H' q' rx rs' up => s2 x v σd Hd' σ H' _ _ rx rs' q' fun σd2 Hd2 σ2 H2 q2 rs2 up2 => o.nx σd2 Hd2 σ2 H2 q2 rs2 (up.trans up2)⟩
/-- x, y = a, b with plain local names -/
def dPar (i j : Nat) (a : DTA) : DTS := fun D σ H => a (D.at σ) σ H fun xs H1 => match xs with
  | [x, y] => D.nx ((σ.set i (some x)).set j (some y)) H1
  | _ => False
theorem ds_par {i j : Nat} {x y : Str} {a b : Expr} {dA : DTA} {px py pt : Pos} {kt k2 pt2} (hc : X.calm = true) (hN : X.N.Nodup) (hi : X.N[i]? = some x) (hj : X.N[j]? = some y) (hij : i ≠ j)
    (hx : X.env.scope.names.lookup x = some .local) (hy : X.env.scope.names.lookup y = some .local) (ha : DPA X W [a, b] dA)
    (hw : swappedStores [.Tuple [.Name x px, .Name y py] kt pt] (.Tuple [a, b] k2 pt2) X.env = pure (some [x, y]))
    (hs : swapsWithSole [.Tuple [.Name x px, .Name y py] kt pt] (.Tuple [a, b] k2 pt2) pos.line X.env = pure false := by rfl) : DPS X W (.Assign [.Tuple [.Name x px, .Name y py] kt pt] (.Tuple [a, b] k2 pt2) pos) (dPar i j dA) := by
  obtain ⟨t, p1, s1⟩ := ha
  refine ⟨_, ps_par hc hN hi hj hij hx hy p1 hw hs, fun Dd D σd Hd σ H rs o q => s1 σd Hd σ H _ _ _ rs (o.wx σd σ) q fun xs Hd' vs H' q' rx rs' up => ?_⟩
  split at q'
  · obtain ⟨v, u, ev, r1, r2⟩ := reps2 rx
    exact ⟨v, u, ev, o.nx _ Hd' _ H' q' ((rs'.set r1 i).set r2 j) up⟩
  · exact q'.elim
end

/-! ### what a for walks -/
structure DIt where
  stop : Nat → DH → Prop
  at_ : Nat → DH → D → Prop
structure SimIt (K : PySem.W.Frag) (H0 : Hp) (J : It) (d : DIt) : Prop where
  stop : ∀ i Hd H, Up H0 H → RH K Hd H → d.stop i Hd → J.stop i H
  at_ : ∀ i Hd H x, Up H0 H → RH K Hd H → d.at_ i Hd x → J.go i H ∧ ∀ v H', J.yld i H v H' → Rep K H' x v ∧ RH K Hd H' ∧ Up H H'
abbrev DTI := DX → DSt → DH → (DIt → DH → Prop) → Prop
def SimI (K : PySem.W.Frag) (W : WX) (wi : TI) (d : DTI) : Prop := ∀ σd Hd σ H (Rd : DIt → DH → Prop) (R : It → Hp → Prop) (E : DX), RS K σd Hd σ H → WantX K W σd σ H E → d E σd Hd Rd → (∀ Jd Hd' J H', Rd Jd Hd' → SimIt K H' J Jd → RS K σd Hd' σ H' → Up H H' → R J H') → wi σ H R
def DPI (X : Cx) (W : WX) (tg iter : Expr) (d : DTI) : Prop := ∃ wi, PI X tg iter wi ∧ SimI X.K W wi d
def jSeq (ds : List D) : DIt := ⟨fun i _ => ds.length ≤ i, fun i _ x => ds[i]? = some x⟩
def jRng (lo : Int) (n : Nat) : DIt := ⟨fun i _ => n ≤ i, fun i _ x => i < n ∧ x = .int (lo + (i : Int))⟩
/-- the list at a, as it stands at each turn -/
def jLst (a : Addr) : DIt := ⟨fun i H => ∃ ds, H a = some (.lst ds) ∧ ds.length ≤ i, fun i H x => ∃ ds, H a = some (.lst ds) ∧ ds[i]? = some x⟩
/-- over a tuple -/
def wTup (a : DTE) : DTI := fun E σ H R => a E σ H fun x H1 => match x with
  | .tup ds => R (jSeq ds) H1
  | _ => False
/-- over a list -/
def wLst (a : DTE) : DTI := fun E σ H R => a E σ H fun x H1 => match x with
  | .fl ds => R (jSeq ds) H1
  | .ref p => (∃ ds, H1 p = some (.lst ds)) ∧ R (jLst p) H1
  | _ => False
def wRng1 (a : DTA) : DTI := fun E σ H R => a E σ H fun xs H1 => match xs with
  | [.int j] => -(2 ^ 62) ≤ j ∧ j < 2 ^ 62 ∧ R (jRng 0 j.toNat) H1
  | _ => False
def wRng2 (a : DTA) : DTI := fun E σ H R => a E σ H fun xs H1 => match xs with
  | [.int i, .int j] => (-(2 ^ 62) ≤ i ∧ i < 2 ^ 62 ∧ -(2 ^ 62) ≤ j ∧ j < 2 ^ 62) ∧ R (jRng i (j - i).toNat) H1
  | _ => False
section
variable {X : Cx} {W : WX} {tg l a b : Expr} {da : DTE} {dA : DTA} {p pos : Pos}
theorem sim_tup {K : PySem.W.Frag} {H0 : Hp} {q : Addr} {xs : List V} {ds : List D} (s : SqT K H0 q xs) (r : Reps K H0 ds xs) : SimIt K H0 (Itt K q) (jSeq ds) := ⟨fun i Hd H u rh h => ⟨xs, u.sqT s, by rw [r.len]; exact h⟩, fun i Hd H x u rh h => by
  obtain ⟨v, e, rv⟩ := r.get h
  refine ⟨⟨xs, v, u.sqT s, e⟩, fun w H' y => ?_⟩
  obtain ⟨e1, y⟩ := y
  subst e1
  have e2 := y xs (u.sqT s)
  rw [e] at e2
  cases e2
  exact ⟨rv.up u _ _, rh, Up.refl _⟩⟩
theorem sim_fl {K : PySem.W.Frag} {H0 : Hp} {q : Addr} {xs : List V} {ds : List D} (s : Fl K H0 q xs) (r : Reps K H0 ds xs) : SimIt K H0 (Itl K q) (jSeq ds) := ⟨fun i Hd H u rh h => ⟨xs, (u.fl s).sq, by rw [r.len]; exact h⟩, fun i Hd H x u rh h => by
  obtain ⟨v, e, rv⟩ := r.get h
  refine ⟨⟨xs, v, (u.fl s).sq, e⟩, fun w H' y => ?_⟩
  obtain ⟨e1, y⟩ := y
  subst e1
  have e2 := y xs (u.fl s).sq
  rw [e] at e2
  cases e2
  exact ⟨rv.up u _ _, rh, Up.refl _⟩⟩
theorem sim_lst {K : PySem.W.Frag} {H0 : Hp} {q : Addr} : SimIt K H0 (Itl K q) (jLst q) := ⟨fun i Hd H u rh h => by
  obtain ⟨ds, h1, h2⟩ := h
  obtain ⟨xs, e, r⟩ := rh _ _ h1
  exact ⟨xs, SqL.of e, by rw [r.len]; exact h2⟩, fun i Hd H x u rh h => by
  obtain ⟨ds, h1, h2⟩ := h
  obtain ⟨xs, e, r⟩ := rh _ _ h1
  obtain ⟨v, e1, rv⟩ := r.get h2
  refine ⟨⟨xs, v, SqL.of e, e1⟩, fun w H' y => ?_⟩
  obtain ⟨e2, y⟩ := y
  subst e2
  have e3 := y xs (SqL.of e)
  rw [e1] at e3
  cases e3
  exact ⟨rv, rh, Up.refl _⟩⟩
theorem sim_rng {K : PySem.W.Frag} {H0 : Hp} {lo : Int} {n : Nat} : SimIt K H0 (Itr lo n) (jRng lo n) := ⟨fun i Hd H u rh h => h, fun i Hd H x u rh h => by
  obtain ⟨h1, h2⟩ := h
  refine ⟨h1, fun w H' y => ?_⟩
  obtain ⟨e1, e2⟩ := y
  subst e1 e2 h2
  exact ⟨rfl, rh, Up.refl _⟩⟩
theorem di_tup (h : DPE X W l da) : DPI X W tg l (wTup da) := by
  obtain ⟨t, h1, h2⟩ := h
  refine ⟨_, pi_tup h1, fun σd Hd σ H Rd R E rs wx q k => h2 σd Hd σ H _ _ E rs wx q fun x Hd' v H' q' rx rs' up => ?_⟩
  split at q'
  · obtain ⟨b, xs, e1, s1, r1⟩ := rx
    exact ⟨b, e1, ⟨xs, s1⟩, k _ Hd' _ H' q' (sim_tup s1 r1) rs' up⟩
  · exact q'.elim
theorem di_lst (h : DPE X W l da) : DPI X W tg l (wLst da) := by
  obtain ⟨t, h1, h2⟩ := h
  refine ⟨_, pi_list h1, fun σd Hd σ H Rd R E rs wx q k => h2 σd Hd σ H _ _ E rs wx q fun x Hd' v H' q' rx rs' up => ?_⟩
  split at q'
  · obtain ⟨b, xs, e1, s1, r1⟩ := rx
    exact ⟨b, e1, ⟨xs, s1.sq⟩, k _ Hd' _ H' q' (sim_fl s1 r1) rs' up⟩
  · obtain ⟨⟨ds, hd⟩, q'⟩ := q'
    obtain ⟨xs, e, r⟩ := rs'.hp _ _ hd
    exact ⟨_, rx, ⟨xs, SqL.of e⟩, k _ Hd' _ H' q' sim_lst rs' up⟩
  · exact q'.elim
theorem di_rng1 (hg : Gl X "range") (hm : X.mg "range" = none) (ha : DPA X W [a] dA) (hs : starEach [a] X.env = [(false, eval a X.env)] := by rfl) : DPI X W tg (.Call (.Name "range" p) [a] [] pos) (wRng1 dA) := by
  obtain ⟨t, h1, h2⟩ := ha
  refine ⟨_, pi_range1 hg hm h1 hs, fun σd Hd σ H Rd R E rs wx q k => h2 σd Hd σ H _ _ E rs wx q fun xs Hd' vs H' q' rx rs' up => ?_⟩
  split at q'
  · obtain ⟨v, ev, r1⟩ := reps1 rx
    exact ⟨_, by rw [ev, show v = _ from r1], q'.1, q'.2.1, k _ Hd' _ H' q'.2.2 sim_rng rs' up⟩
  · exact q'.elim
theorem di_rng2 (hg : Gl X "range") (hm : X.mg "range" = none) (ha : DPA X W [a, b] dA) (hs : starEach [a, b] X.env = [(false, eval a X.env), (false, eval b X.env)] := by rfl) (hs2 : starEach [b] X.env = [(false, eval b X.env)] := by rfl) :
    DPI X W tg (.Call (.Name "range" p) [a, b] [] pos) (wRng2 dA) := by
  obtain ⟨t, h1, h2⟩ := ha
  refine ⟨_, pi_range2 hg hm h1 hs hs2, fun σd Hd σ H Rd R E rs wx q k => h2 σd Hd σ H _ _ E rs wx q fun xs Hd' vs H' q' rx rs' up => ?_⟩
  split at q'
  · obtain ⟨v, u, ev, r1, r2⟩ := reps2 rx
    exact ⟨_, _, by rw [ev, show v = _ from r1, show u = _ from r2], q'.1, k _ Hd' _ H' q'.2 sim_rng rs' up⟩
  · exact q'.elim
end

/-! ### loops -/
def dFor (wi : DTI) (g : DTG) (tb : DTS) : DTS := fun D σ H => wi (D.at σ) σ H fun J H1 => ∃ W : Nat → Nat → DSt → DH → Prop, (∃ m, W 0 m σ H1) ∧ ∀ i m σ H, W i m σ H →
  (J.stop i H ∧ D.nx σ H) ∨ (∃ x, J.at_ i H x ∧ ∃ N : DSt → DH → Prop, (∀ σ' H', N σ' H' → ∃ m', m' < m ∧ W (i + 1) m' σ' H') ∧ g x σ H fun σ2 H2 => tb { D with nx := N, ct := N, bk := D.nx } σ2 H2)
def dWhile (c : DTT) (tb : DTS) : DTS := fun D σ H => ∃ W : Nat → DSt → DH → Prop, (∃ m, W m σ H) ∧ ∀ m σ H, W m σ H →
  c (D.at σ) σ H fun b H1 => if b = true then ∃ N : DSt → DH → Prop, (∀ σ' H', N σ' H' → ∃ m', m' < m ∧ W m' σ' H') ∧ tb { D with nx := N, ct := N, bk := D.nx } σ H1 else D.nx σ H1
section
variable {X : Cx} {W : WX} {pos : Pos} {c tg iter : Expr} {body : List Stmt} {dt : DTT} {wi : DTI} {g : DTG} {tb : DTS}
theorem ds_for (hp : PassesOwn (model X.prog X.w) X.A X.env X.xe) (hc : X.calm = true) (hi : DPI X W tg iter wi) (hg : DPG X tg g) (hb : DPSs X W body tb) (hs : ∀ x, foldedSetIterable iter X.env x = pure x := by intro _; rfl) : DPS X W (.For tg iter body [] pos) (dFor wi g tb) := by
  obtain ⟨ti, i1, i2⟩ := hi
  obtain ⟨tG, g1, g2⟩ := hg
  obtain ⟨tB, b1, b2⟩ := hb
  refine ⟨_, ps_for hp hc i1 g1 b1 hs, fun Dd D σd Hd σ H rs o q => i2 σd Hd σ H _ _ _ rs (o.wx σd σ) q fun Jd Hd1 J H1 q1 sj rs1 u1 => ?_⟩
  obtain ⟨Wd, ⟨m0, w0⟩, turn⟩ := q1
  refine ⟨fun i m σ' H' => ∃ σd' Hd', RS X.K σd' Hd' σ' H' ∧ Up H1 H' ∧ Wd i m σd' Hd', ⟨m0, σd, Hd1, rs1, Up.refl _, w0⟩, ?_⟩
  rintro i m σ2 H2 ⟨σd2, Hd2, rs2, u2, w2⟩
  rcases turn i m σd2 Hd2 w2 with ⟨st, qn⟩ | ⟨x, at_, N, hN, step⟩
  · exact .inl ⟨sj.stop i Hd2 H2 u2 rs2.hp st, o.nx σd2 Hd2 σ2 H2 qn rs2 (u1.trans u2)⟩
  · obtain ⟨go, yl⟩ := sj.at_ i Hd2 H2 x u2 rs2.hp at_
    refine .inr ⟨go, fun σ' H' => ∃ σd' Hd', RS X.K σd' Hd' σ' H' ∧ Up H1 H' ∧ N σd' Hd', ?_, fun v H3 y => ?_⟩
    · rintro σ' H' ⟨σd', Hd', rs', u', n'⟩
      obtain ⟨m', hm, w'⟩ := hN σd' Hd' n'
      exact ⟨m', hm, σd', Hd', rs', u', w'⟩
    · obtain ⟨rx, rh, u3⟩ := yl v H3 y
      refine g2 x v σd2 Hd2 σ2 H3 _ _ rx (rs2.mono u3 rh) step fun σd4 Hd4 σ4 H4 q4 rs4 u4 => ?_
      have U := (u2.trans u3).trans u4
      exact b2 { Dd with nx := N, ct := N, bk := Dd.nx } { D with nx := fun σ' H' => ∃ σd' Hd', RS X.K σd' Hd' σ' H' ∧ Up H1 H' ∧ N σd' Hd', ct := fun σ' H' => ∃ σd' Hd', RS X.K σd' Hd' σ' H' ∧ Up H1 H' ∧ N σd' Hd', bk := D.nx } σd4 Hd4 σ4 H4 rs4 ⟨fun a b c d q r v => ⟨a, b, r, U.trans v, q⟩, (o.to (u1.trans U)).rt, (o.to (u1.trans U)).nx, fun a b c d q r v => ⟨a, b, r, U.trans v, q⟩, (o.to (u1.trans U)).ex⟩ q4
theorem ds_while (hp : PassesOwn (model X.prog X.w) X.A X.env X.xe) (hc : DPT X W c dt) (hb : DPSs X W body tb) : DPS X W (.While c body [] pos) (dWhile dt tb) := by
  obtain ⟨tc, c1, c2⟩ := hc
  obtain ⟨tB, b1, b2⟩ := hb
  refine ⟨_, ps_while hp c1 b1, fun Dd D σd Hd σ H rs o q => ?_⟩
  obtain ⟨Wd, ⟨m0, w0⟩, turn⟩ := q
  refine ⟨fun m σ' H' => ∃ σd' Hd', RS X.K σd' Hd' σ' H' ∧ Up H H' ∧ Wd m σd' Hd', ⟨m0, σd, Hd, rs, Up.refl _, w0⟩, ?_⟩
  rintro m σ2 H2 ⟨σd2, Hd2, rs2, u2, w2⟩
  refine c2 σd2 Hd2 σ2 H2 _ _ _ rs2 ((o.to u2).wx σd2 σ2) (turn m σd2 Hd2 w2) fun k Hd3 H3 q3 rs3 u3 => ?_
  cases k with
  | true =>
    rw [if_pos rfl] at q3 ⊢
    obtain ⟨N, hN, q3⟩ := q3
    refine ⟨fun σ' H' => ∃ σd' Hd', RS X.K σd' Hd' σ' H' ∧ Up H H' ∧ N σd' Hd', ?_, ?_⟩
    · rintro σ' H' ⟨σd', Hd', rs', u', n'⟩
      obtain ⟨m', hm, w'⟩ := hN σd' Hd' n'
      exact ⟨m', hm, σd', Hd', rs', u', w'⟩
    · have U := u2.trans u3
      exact b2 { Dd with nx := N, ct := N, bk := Dd.nx } { D with nx := fun σ' H' => ∃ σd' Hd', RS X.K σd' Hd' σ' H' ∧ Up H H' ∧ N σd' Hd', ct := fun σ' H' => ∃ σd' Hd', RS X.K σd' Hd' σ' H' ∧ Up H H' ∧ N σd' Hd', bk := D.nx } σd2 Hd3 σ2 H3 rs3 ⟨fun a b c d q r v => ⟨a, b, r, U.trans v, q⟩, (o.to U).rt, (o.to U).nx, fun a b c d q r v => ⟨a, b, r, U.trans v, q⟩, (o.to U).ex⟩ q3
  | false =>
    rw [if_neg Bool.false_ne_true] at q3 ⊢
    exact o.nx σd2 Hd3 σ2 H3 q3 rs3 (u2.trans u3)
end
end DL

/-! The data layer, part G: defs and their promises, calls, methods, instances. -/
namespace DL
open PySem PySem.Spec PyProof.Rows L2

/-- a promise over data: arguments, data heap, what is wanted of the value, of an exception -/
abbrev DSp := List D → DH → DK → DX → Prop
def spOf (K : PySem.W.Frag) (d : DSp) : Sp := fun vs H Q E => ∃ ds Hd Qd Ed, Reps K H ds vs ∧ RH K Hd H ∧ d ds Hd Qd Ed ∧ WantV K H Qd Q ∧ ∀ C dd Hd' H', Ed C dd Hd' → RH K Hd' H' → Up H H' → E (.ref C) dd H'
/-- the ends of a def's body: what was made beside may be forgotten -/
def endsOf (Q : DK) (E : DX) : DEnds := { nx := fun _ H => ∃ H0, Sub H0 H ∧ Q .non H0, rt := fun x H => ∃ H0, Sub H0 H ∧ Q x H0, ex := fun C dd _ H => ∃ H0, Sub H0 H ∧ E C dd H0 }
abbrev WE0 (E : XK) : WX := fun cls d _ H => E cls d H
abbrev DFn (P : Program) (w : World) (K : PySem.W.Frag) (mg : Str → Option Value) (base : Heap) (k : Nat) (f : Addr) (fd : FuncData) (ps : List Str) (d : DSp) : Prop := FnOk P w K mg base (L2N.CX P w) k f fd ps (spOf K d)
section
variable {P : Program} {w : World} {K : PySem.W.Frag} {mg : Str → Option Value} {base : Heap}
theorem endsOk {H : Hp} {Qd : DK} {Ed : DX} {Q : VK} {E : XK} (q : WantV K H Qd Q) (e : ∀ C dd Hd' H', Ed C dd Hd' → RH K Hd' H' → Up H H' → E (.ref C) dd H') : EndsOk K (WE0 E) H (endsOf Qd Ed) { nx := fun _ H' => Q .non H', rt := Q } where
  nx := fun σd Hd σ H' ⟨H0, s, h⟩ rs u => q .non H0 .non H' h rfl (rs.hp.less s) u
  rt := fun x Hd v H' ⟨H0, s, h⟩ rx rh u => q x H0 v H' h rx (rh.less s) u
  bk := fun _ _ _ _ z _ _ => z.elim
  ct := fun _ _ _ _ z _ _ => z.elim
  ex := fun C dd σd Hd σ H' ⟨H0, s, h⟩ rs u => e C dd H0 H' h (rs.hp.less s) u
/-- a def of the text as it stands behind the top -/
structure DFu (K : PySem.W.Frag) (x qual : Str) (st : Stmt) (f : Addr) (fd : FuncData) : Prop where
  ex : ∃ (oc : Value) (od : Option Addr) (dV kV doc pm : Value) (an : Option Addr) (cdv ct : Value) (osl : Array (Option Value)),
    fd = PySem.W.fnOf x qual (defArgs st) (defBody st) (defScope st) dV kV doc pm an cdv ct ∧ K.lookup f = some ⟨oc, od, .func fd, osl⟩ ∧ PySem.W.codeIn K cdv qual = true
theorem dfu_mk {x qual : Str} {st : Stmt} {f : Addr} {oc : Value} {od an : Option Addr} {osl : Array (Option Value)} {dV kV doc pm cdv ct : Value} (l : K.lookup f = some ⟨oc, od, .func (PySem.W.fnOf x qual (defArgs st) (defBody st) (defScope st) dV kV doc pm an cdv ct), osl⟩)
    (c : PySem.W.codeIn K cdv qual = true) : DFu K x qual st f (PySem.W.fnOf x qual (defArgs st) (defBody st) (defScope st) dV kV doc pm an cdv ct) := ⟨⟨oc, od, dV, kV, doc, pm, an, cdv, ct, osl, rfl, l, c⟩⟩
/-- THE RULE for a def: its body's term, its reading for all that the promise lets in -/
theorem dfun {x qual : Str} {st : Stmt} {f : Addr} {fd : FuncData} {N ps : List Str} {k : Nat} {d : DSp} (F : DFu K x qual st f fd) (S : FnScope N ps (defScope st)) (len : ∀ ds Hd Q E, d ds Hd Q E → ds.length = ps.length)
    (body : ∀ (cdv : Value) (A : Around) (outer : List Env) (s : Shared) (H : Hp) (E : XK), Room k (A.deeper (envOfC qual (defScope st) s.heap.objs.size f cdv)) →
      ∃ T, DPSs (cxOf (L2N.CX P w) P w K mg base N qual (defScope st) f cdv A outer s H E) (WE0 E) (defBody st) T ∧ ∀ ds Hd Q Ed, d ds Hd Q Ed → T (endsOf Q Ed) (startD N ds) Hd) : DFn P w K mg base (k + 1) f fd ps d := by
  obtain ⟨oc, od, dV, kV, doc, pm, an, cdv, ct, osl, rfl, lk, hcd⟩ := F.ex
  refine fn_of lk hcd S (fun vs H Q E h => ?_) fun A outer s H vs Q E hr h => ?_
  · obtain ⟨ds, Hd, Qd, Ed, r, _, h, _⟩ := h
    rw [r.len]
    exact len ds Hd Qd Ed h
  · obtain ⟨ds, Hd, Qd, Ed, r, rh, hd, hq, he⟩ := h
    obtain ⟨T, ⟨t, p1, p2⟩, hT⟩ := body cdv A outer s H E hr
    exact ⟨t, p1, p2 (endsOf Qd Ed) _ (startD N ds) Hd (L2.start N vs) H (RS.start r rh) (endsOk hq he) (hT ds Hd Qd Ed hd)⟩
/-- .. called where an exception is handled -/
abbrev DFnH (P : Program) (w : World) (K : PySem.W.Frag) (mg : Str → Option Value) (base : Heap) (k : Nat) (f : Addr) (fd : FuncData) (ps : List Str) (d : DSp) : Prop := L2H.FnH P w K mg base (L2N.CX P w) k f fd ps (spOf K d)
theorem dfunH {x qual : Str} {st : Stmt} {f : Addr} {fd : FuncData} {N ps : List Str} {k : Nat} {d : DSp} (F : DFu K x qual st f fd) (S : FnScope N ps (defScope st)) (len : ∀ ds Hd Q E, d ds Hd Q E → ds.length = ps.length)
    (body : ∀ (cdv : Value) (A : Around) (outer : List Env) (s : Shared) (H : Hp) (E : XK) (p : Addr × Obj), L2H.Hot1 A p → L2H.RoomH k (A.deeper (envOfC qual (defScope st) s.heap.objs.size f cdv)) →
      ∃ T, DPSs (L2H.cxH (L2N.CX P w) P w K mg base N qual (defScope st) f cdv A outer s H E p) (WE0 E) (defBody st) T ∧ ∀ ds Hd Q Ed, d ds Hd Q Ed → T (endsOf Q Ed) (startD N ds) Hd) : DFnH P w K mg base (k + 1) f fd ps d := by
  obtain ⟨oc, od, dV, kV, doc, pm, an, cdv, ct, osl, rfl, lk, hcd⟩ := F.ex
  refine L2H.fn_ofH lk hcd S (fun vs H Q E h => ?_) fun A outer s H vs Q E p hot hr h => ?_
  · obtain ⟨ds, Hd, Qd, Ed, r, _, h, _⟩ := h
    rw [r.len]
    exact len ds Hd Qd Ed h
  · obtain ⟨ds, Hd, Qd, Ed, r, rh, hd, hq, he⟩ := h
    obtain ⟨T, ⟨t, p1, p2⟩, hT⟩ := body cdv A outer s H E p hot hr
    exact ⟨t, p1, p2 (endsOf Qd Ed) _ (startD N ds) Hd (L2.start N vs) H (RS.start r rh) (endsOk hq he) (hT ds Hd Qd Ed hd)⟩
theorem takesE {N : List Str} {qual : Str} {sc : Scope} {f : Addr} {cdv : Value} {A : Around} {outer : List Env} {s : Shared} {H : Hp} {E : XK} : L2N.Takes (cxOf (L2N.CX P w) P w K mg base N qual sc f cdv A outer s H E) (WE0 E) := L2N.takes_of rfl rfl rfl rfl
theorem passesE {N : List Str} {qual : Str} {sc : Scope} {f : Addr} {cdv : Value} {A : Around} {outer : List Env} {s : Shared} {H : Hp} {E : XK} : PassesOwn (model P w) (cxOf (L2N.CX P w) P w K mg base N qual sc f cdv A outer s H E).A (cxOf (L2N.CX P w) P w K mg base N qual sc f cdv A outer s H E).env (cxOf (L2N.CX P w) P w K mg base N qual sc f cdv A outer s H E).xe :=
  passes_of (X := cxOf (L2N.CX P w) P w K mg base N qual sc f cdv A outer s H E) rfl
end

/-! ### calls -/
def dCall (sp : DSp) (dds : List D) (a : DTA) : DTE := fun E σ H Q => a E σ H fun xs H1 => sp (xs ++ dds) H1 Q E
def dMeth (C : Addr) (m : Str) (sp : DSp) (dds : List D) (o : DTE) (a : DTA) : DTE := fun E σ H Q => o E σ H fun x H1 => match x with
  | .ref p => ∃ fs, H1 p = some (.ins C fs) ∧ fs.lookup m = none ∧ a E σ H1 fun xs H2 => sp (.ref p :: (xs ++ dds)) H2 Q E
  | _ => False
def dMake (C : Addr) (sp : DSp) (dds : List D) (a : DTA) : DTE := fun E σ H Q => a E σ H fun xs H1 => ∀ p, H1 p = none → sp (.ref p :: (xs ++ dds)) (put H1 p (.ins C [])) (fun v H2 => v = .non ∧ Q (.ref p) H2) E
def dFld (K : PySem.W.Frag) (o : DTE) (f : Str) : DTE := fun E σ H Q => o E σ H fun x H1 => match x with
  | .ref p => ∃ C fs d, H1 p = some (.ins C fs) ∧ Cls K C ∧ NoAttr K C f ∧ fs.lookup f = some d ∧ Q d H1
  | _ => False
def dSetFld (K : PySem.W.Frag) (o v : DTE) (f : Str) : DTS := fun D σ H => v (D.at σ) σ H fun y H1 => o (D.at σ) σ H1 fun x H2 => match x with
  | .ref p => ∃ C fs, H2 p = some (.ins C fs) ∧ Cls K C ∧ NoAttr K C f ∧ fs.length < 1000 ∧ D.nx σ (put H2 p (.ins C (putA f y fs)))
  | _ => False
section
variable {X : Cx} {W : WX} {k : Nat} {f C : Addr} {fd : FuncData} {ps : List Str} {sp : DSp} {dvs : List V} {dds : List D} {ds : List Value} {x m : Str} {p pos apos : Pos} {e o : Expr} {es : List Expr} {de da : DTE} {dA : DTA}
/-- from the data's wish of an exception to the frame's -/
theorem wishX {σd : DSt} {σ : L2.St} {H : Hp} {E : DX} {Hd : DH} (wx : WantX X.K W σd σ H E) (rs : RS X.K σd Hd σ H) : ∀ C dd Hd' H', E C dd Hd' → RH X.K Hd' H' → Up H H' → WE W σ (.ref C) dd H' :=
  fun C dd Hd' H' q rh u => wx C dd Hd' H' q (rs.mono u rh) u
theorem d_call (F : DFn X.prog X.w X.K X.mg X.base k f fd ps sp) (hr : Room k X.A) (tk : L2N.Takes X W) (hm : X.mg x = some (.ref f)) (hk : PySem.W.keepIn X.K (.ref f) = true) (hb : Binds X.K fd ps ds) (hd : Vals dvs ds) (hdd : ∀ H, Reps X.K H dds dvs) (ha : DPA X W (e :: es) dA) (hg : Gl X x := by rfl)
    (hdb : (x == ("__debug__" : Str)) = false := by decide) (he : starEach (e :: es) X.env = (false, eval e X.env) :: starEach es X.env := by rfl) (hpl : (backTo pos (starEach es X.env)).any (·.1) = false := by rfl) : DPE X W (.Call (.Name x p) (e :: es) [] pos) (dCall sp dds dA) := by
  obtain ⟨t, h1, h2⟩ := ha
  refine ⟨_, pe_callSD F hr hg hm hk hb hd (fun σ => L2N.passAt tk σ) h1 hdb he hpl, fun σd Hd σ H Qd Q E rs wx q w => h2 σd Hd σ H _ _ E rs wx q fun xs H1 vs H1' q1 rx rs1 u1 => ?_⟩
  exact ⟨xs ++ dds, H1, Qd, E, rx.app (hdd _), rs1.hp, q1, (w.to u1).v rs1, wishX (wx.to u1) rs1⟩
theorem d_call0 (F : DFn X.prog X.w X.K X.mg X.base k f fd ps sp) (hr : Room k X.A) (tk : L2N.Takes X W) (hm : X.mg x = some (.ref f)) (hk : PySem.W.keepIn X.K (.ref f) = true) (hb : Binds X.K fd ps ds) (hd : Vals dvs ds) (hdd : ∀ H, Reps X.K H dds dvs) (hg : Gl X x := by rfl)
    (hdb : (x == ("__debug__" : Str)) = false := by decide) : DPE X W (.Call (.Name x p) [] [] pos) (dCall sp dds dNil) := by
  refine ⟨fun σ H Q => spOf X.K sp ([] ++ dvs) H Q (WE W σ), ⟨fun pins s σ H Q I h => ?_⟩, fun σd Hd σ H Qd Q E rs wx q w => ?_⟩
  · exact wpAny_Call_Name_kw (ld_glob I hg hm (PySem.W.callWith_K0 I.kIn hk (run_fnSD (us := []) (vs := []) F hr hb hd (L2N.passAt tk σ) I .nil h)) hdb)
  · exact ⟨[] ++ dds, Hd, Qd, E, hdd _, rs.hp, q, w.v rs, wishX wx rs⟩
theorem run_makeAt {pins : List (Addr × Obj)} {σ : L2.St} {H : Hp} {s : Shared} {Q : VK} {us : List Value} {vs : List V} {sp : Sp} {E : XK} (M : Mk X.K C f) (F : FnOk X.prog X.w X.K X.mg X.base (L2N.CX X.prog X.w) k f fd ps sp) (hr : Room (k + 1) X.A) (hb : Binds X.K fd ps ds) (hd : Vals dvs ds)
    (hx : PassesAt (L2N.CX X.prog X.w) X σ E) (I : Inv X pins σ H s) (r : Vals vs us)
    (h : ∀ x dx, H x = none → H dx = none → dx ≠ x → sp (.ref x :: (vs ++ dvs)) (upd (upd H dx (.own x)) x (.ins C dx [])) (fun v H2 => v = .non ∧ Q (.ref x) H2) E) :
    wpAny (model X.prog X.w) X.A (call (.ref C) us) (EP X pins σ Q) X.xe s := by
  have n0 : H s.heap.objs.size = none := I.hok.fresh (Nat.le_refl _)
  have n1 : H (s.heap.objs.size + 1) = none := I.hok.fresh (Nat.le_succ _)
  have hq := h (s.heap.objs.size + 1) s.heap.objs.size n1 n0 (Nat.ne_of_lt (Nat.lt_succ_self _))
  have I2 := Inv.made (C := C) I
  have rr : Vals (V.ref (s.heap.objs.size + 1) :: (vs ++ dvs)) (Value.ref (s.heap.objs.size + 1) :: (us ++ ds)) := .cons rfl (r.append hd)
  have hl : (Value.ref (s.heap.objs.size + 1) :: us ++ ds).length = ps.length := (F.len _ _ _ _ hq).symm.trans rr.length |>.symm
  have run := F.run _ X.stack _ _ ⟨Value.ref (s.heap.objs.size + 1) :: us, []⟩ (Value.ref (s.heap.objs.size + 1) :: (us ++ ds)) _ _ E (hr.make C us []) (I2.env0.make C us []) (hb _ (Value.ref (s.heap.objs.size + 1) :: us) I2.kIn hl) rr hq
  refine wpAny_call (make_map (f := f) I.kIn M.makes M.init (beq_iff_eq.mp M.fn) (codeAny_mono run fun res s' hr' => ?_))
  match res, hr' with
  | .error e, hr' => exact hx pins _ _ e s' I2 hr'
  | .ok (.ret u), hr' =>
    obtain ⟨v, H', I3, rv, ev, q3⟩ := I2.after hr'
    subst ev
    exact ⟨rv, ⟨V.ref (s.heap.objs.size + 1), H', I3, rfl, q3⟩⟩
  | .ok .next, hr' => exact False.elim hr'
  | .ok .brk, hr' => exact False.elim hr'
  | .ok .cont, hr' => exact False.elim hr'
theorem d_make (M : Mk X.K C f) (F : DFn X.prog X.w X.K X.mg X.base k f fd ps sp) (hr : Room (k + 1) X.A) (tk : L2N.Takes X W) (hm : X.mg x = some (.ref C)) (hb : Binds X.K fd ps ds) (hd : Vals dvs ds) (hdd : ∀ H, Reps X.K H dds dvs) (ha : DPA X W (e :: es) dA) (hg : Gl X x := by rfl)
    (hdb : (x == ("__debug__" : Str)) = false := by decide) (he : starEach (e :: es) X.env = (false, eval e X.env) :: starEach es X.env := by rfl) (hpl : (backTo pos (starEach es X.env)).any (·.1) = false := by rfl) : DPE X W (.Call (.Name x p) (e :: es) [] pos) (dMake C sp dds dA) := by
  obtain ⟨t, h1, h2⟩ := ha
  refine ⟨fun σ H Q => t σ H fun vs H1 => ∀ x dx, H1 x = none → H1 dx = none → dx ≠ x → spOf X.K sp (.ref x :: (vs ++ dvs)) (upd (upd H1 dx (.own x)) x (.ins C dx [])) (fun v H2 => v = .non ∧ Q (.ref x) H2) (WE W σ), ⟨fun pins s σ H Q I h => ?_⟩, fun σd Hd σ H Qd Q E rs wx q w => ?_⟩
  · refine wpAny_Call_Name_kw (ld_glob I hg hm ?_ hdb)
    refine PySem.W.callWith_K (h₀ := X.base) I.ok.mod.kin M.kp (thn (h1.run pos pins s σ H _ I h) fun us s1 ⟨vs, H1, I1, r, q⟩ => ⟨I1.kIn, ?_⟩) he hpl
    exact run_makeAt M F hr hb hd (L2N.passAt tk σ) I1 r q
  · refine h2 σd Hd σ H _ _ E rs wx q fun xs H1 vs H1' q1 rx rs1 u1 a dx na ndx ne => ?_
    have rh1 : RH X.K H1 (upd H1' dx (.own a)) := rs1.hp.hid ndx
    have na' : upd H1' dx (.own a) a = none := by
      rw [upd_ne (Ne.symm ne)]
      exact na
    have rh2 : RH X.K (put H1 a (.ins C [])) (upd (upd H1' dx (.own a)) a (.ins C dx [])) := rh1.new na' ⟨dx, [], upd_same, rfl⟩
    have u2 : Up H1' (upd (upd H1' dx (.own a)) a (.ins C dx [])) := (Up.new ndx).trans (Up.new na')
    have rs2 := rs1.mono u2 rh2
    refine ⟨.ref a :: (xs ++ dds), _, _, E, ⟨.ref a, _, rfl, rfl, (rx.up u2 _ _).app (hdd _)⟩, rh2, q1 a (rs1.hp.fresh na), ?_, wishX (wx.to (u1.trans u2)) rs2⟩
    rintro z Hd' v H' ⟨e1, q2⟩ rz rh up
    subst e1
    exact ⟨rz, w _ Hd' _ H' q2 rfl (rs2.mono up rh) ((u1.trans u2).trans up)⟩
theorem d_meth {pl : Sem Bool} (ho : DPE X W o da) (c : Cls X.K C) (hm : Meth X.K C m f) (F : DFn X.prog X.w X.K X.mg X.base k f fd ps sp) (hr : Room k X.A) (tk : L2N.Takes X W) (hb : Binds X.K fd ps ds) (hd : Vals dvs ds) (hdd : ∀ H, Reps X.K H dds dvs) (ha : DPA X W (e :: es) dA)
    (hst : starEach (e :: es) X.env = (false, eval e X.env) :: starEach es X.env := by rfl) (hpl : (backTo pos (starEach es X.env)).any (·.1) = false := by rfl)
    (ht : eval (.Call (.Attribute o m apos) (e :: es) [] pos) X.env = (do
      let ov ← eval o X.env
      standAt apos.atName
      let (f, first) ← holding [ov] (getMethod ov m pl)
      callWith pos f first (backTo pos (starEach (e :: es) X.env)) (backToKw pos (keywordEach [] X.env))) := by rfl) : DPE X W (.Call (.Attribute o m apos) (e :: es) [] pos) (dMeth C m sp dds da dA) := by
  obtain ⟨t1, a1, a2⟩ := ho
  obtain ⟨t, h1, h2⟩ := ha
  refine ⟨fun σ H Q => t1 σ H fun x H1 => ∃ a dx fs, x = .ref a ∧ H1 a = some (.ins C dx fs) ∧ fs.lookup m = none ∧ t σ H1 fun vs H2 => spOf X.K sp (x :: (vs ++ dvs)) H2 Q (WE W σ), ⟨fun pins s σ H Q I h => ?_⟩, fun σd Hd σ H Qd Q E rs wx q w => ?_⟩
  · refine PySem.W.methodCall_KW (pl := pl) (thn (a1.run pins s σ H _ I h) fun u s1 ⟨x, H1, I1, rx, a, dx, fs, ex, ea, l, q⟩ => ?_) ht
    subst ex
    obtain rfl : u = Value.ref a := rx
    refine getmeth_ok I1 ea c hm l ?_
    refine PySem.W.callWith_K (first := [.ref a]) (h₀ := X.base) I.ok.mod.kin hm.kp (thn (h1.run pos pins s1 σ H1 _ I1 q) fun us s2 ⟨vs, H2, I2, r, q2⟩ => ⟨I2.kIn, ?_⟩) hst hpl
    exact run_fnSD (us := .ref a :: us) (vs := .ref a :: vs) F hr hb hd (L2N.passAt tk σ) I2 (.cons rfl r) q2
  · refine a2 σd Hd σ H _ _ E rs wx q fun y H1 v H1' q1 ry rs1 u1 => ?_
    split at q1
    · rename_i a
      obtain ⟨fs, hf, hl, q1⟩ := q1
      obtain ⟨dx, gs, e1, rf⟩ := rs1.hp _ _ hf
      refine ⟨a, dx, gs, ry, e1, rf.lookup_none hl, h2 σd H1 σ H1' _ _ E rs1 (wx.to u1) q1 fun xs H2 vs H2' q2 rx rs2 u2 => ?_⟩
      exact ⟨.ref a :: (xs ++ dds), H2, Qd, E, ⟨v, _, rfl, ry, rx.app (hdd _)⟩, rs2.hp, q2, (w.to (u1.trans u2)).v rs2, wishX (wx.to (u1.trans u2)) rs2⟩
    · exact q1.elim
theorem d_meth0 {pl : Sem Bool} (ho : DPE X W o da) (c : Cls X.K C) (hm : Meth X.K C m f) (F : DFn X.prog X.w X.K X.mg X.base k f fd ps sp) (hr : Room k X.A) (tk : L2N.Takes X W) (hb : Binds X.K fd ps ds) (hd : Vals dvs ds) (hdd : ∀ H, Reps X.K H dds dvs)
    (ht : eval (.Call (.Attribute o m apos) [] [] pos) X.env = (do
      let ov ← eval o X.env
      standAt apos.atName
      let (f, first) ← holding [ov] (getMethod ov m pl)
      callWith pos f first (backTo pos (starEach [] X.env)) (backToKw pos (keywordEach [] X.env))) := by rfl) : DPE X W (.Call (.Attribute o m apos) [] [] pos) (dMeth C m sp dds da dNil) := by
  obtain ⟨t1, a1, a2⟩ := ho
  refine ⟨fun σ H Q => t1 σ H fun x H1 => ∃ a dx fs, x = .ref a ∧ H1 a = some (.ins C dx fs) ∧ fs.lookup m = none ∧ spOf X.K sp (x :: ([] ++ dvs)) H1 Q (WE W σ), ⟨fun pins s σ H Q I h => ?_⟩, fun σd Hd σ H Qd Q E rs wx q w => ?_⟩
  · refine PySem.W.methodCall_KW (pl := pl) (thn (a1.run pins s σ H _ I h) fun u s1 ⟨x, H1, I1, rx, a, dx, fs, ex, ea, l, q⟩ => ?_) ht
    subst ex
    obtain rfl : u = Value.ref a := rx
    refine getmeth_ok I1 ea c hm l ?_
    exact PySem.W.callWith_K0 (first := [.ref a]) I1.kIn hm.kp (run_fnSD (us := [.ref a]) (vs := [.ref a]) F hr hb hd (L2N.passAt tk σ) I1 (.cons rfl .nil) q)
  · refine a2 σd Hd σ H _ _ E rs wx q fun y H1 v H1' q1 ry rs1 u1 => ?_
    split at q1
    · rename_i a
      obtain ⟨fs, hf, hl, q1⟩ := q1
      obtain ⟨dx, gs, e1, rf⟩ := rs1.hp _ _ hf
      exact ⟨a, dx, gs, ry, e1, rf.lookup_none hl, .ref a :: ([] ++ dds), H1, Qd, E, ⟨v, _, rfl, ry, hdd _⟩, rs1.hp, q1, (w.to u1).v rs1, wishX (wx.to u1) rs1⟩
    · exact q1.elim
theorem d_fld {f : Str} (he : DPE X W e da) (hb : attributeBase e f X.env (eval e X.env) = eval e X.env := by rfl) : DPE X W (.Attribute e f pos) (dFld X.K da f) := by
  obtain ⟨t, h1, h2⟩ := he
  refine ⟨_, pe_fld h1 hb, fun σd Hd σ H Qd Q E rs wx q w => h2 σd Hd σ H _ _ E rs wx q fun y H1 v H1' q1 ry rs1 u1 => ?_⟩
  split at q1
  · obtain ⟨C, fs, d, hf, c, n, hl, q1⟩ := q1
    obtain ⟨dx, gs, e1, rf⟩ := rs1.hp _ _ hf
    obtain ⟨u, hu, ru⟩ := rf.lookup hl
    exact ⟨_, C, dx, gs, u, ry, e1, c, n, hu, w d H1 u H1' q1 ru rs1 u1⟩
  · exact q1.elim
theorem ds_fld {f : Str} {v : Expr} {dv : DTE} {pos' : Pos} (ho : DPE X W o da) (hv : DPE X W v dv) (hs : swapsWith v (some (.Attribute o f pos')) pos.line X.env = pure false := by rfl) : DPS X W (.Assign [.Attribute o f pos'] v pos) (dSetFld X.K da dv f) := by
  obtain ⟨t1, a1, a2⟩ := ho
  obtain ⟨t2, b1, b2⟩ := hv
  refine ⟨_, ps_fld a1 b1 hs, fun Dd D σd Hd σ H rs oo q => b2 σd Hd σ H _ _ _ rs (oo.wx σd σ) q fun y H1 v H1' q1 ry rs1 u1 => a2 σd H1 σ H1' _ _ _ rs1 ((oo.to u1).wx σd σ) q1 fun z H2 u H2' q2 rz rs2 u2 => ?_⟩
  split at q2
  · rename_i a
    obtain ⟨C, fs, hf, c, n, hl, q2⟩ := q2
    obtain ⟨dx, gs, e1, rf⟩ := rs2.hp _ _ hf
    have up : Up H2' (upd H2' a (.ins C dx (putF f v gs))) := Up.put e1 trivial
    have rh := (rs2.hp.write (u := .ins C dx (putF f v gs)) (x := .ins C (putA f y fs)) hf ⟨dx, _, upd_same, RepK.putA (ry.up (u2.trans up) _ _) (rf.up up)⟩).1
    exact ⟨a, C, dx, gs, rz, e1, c, n, by rw [rf.len]; exact hl, oo.nx σd _ σ _ q2 (rs2.mono up rh) ((u1.trans u2).trans up)⟩
  · exact q2.elim
end
end DL

/-! The data layer, part H: dicts, methods of lists, comprehensions. -/
namespace DL
open PySem PySem.Spec PyProof.Rows L2

/-! ### dicts -/
def keyD : D → Option Key
  | .int i => some (.inl i)
  | .str x => some (.inr x)
  | _ => none
theorem keyD_ok {K : PySem.W.Frag} {H : Hp} {x : D} {v : V} {k : Key} (r : Rep K H x v) (e : keyD x = some k) : v = kV k := by
  unfold keyD at e
  split at e
  · cases e; exact r
  · cases e; exact r
  · cases e
def dDGet (a b : DTE) : DTE := fun E σ H Q => a E σ H fun x H1 => b E σ H1 fun y H2 => match x with
  | .ref p => ∃ kvs k d, H2 p = some (.dct kvs) ∧ keyD y = some k ∧ getP kvs k = some d ∧ Q d H2
  | _ => False
def dDIn (f : Bool → Bool) (b a : DTE) : DTE := fun E σ H Q => b E σ H fun y H1 => a E σ H1 fun x H2 => match x with
  | .ref p => ∃ kvs k, H2 p = some (.dct kvs) ∧ keyD y = some k ∧ Q (.bl (f (getP kvs k).isSome)) H2
  | _ => False
def dDNew : DTE := fun _ _ H Q => ∀ p, H p = none → Q (.ref p) (put H p (.dct []))
def dDPut (a b v : DTE) : DTS := fun D σ H => v (D.at σ) σ H fun z H1 => a (D.at σ) σ H1 fun x H2 => b (D.at σ) σ H2 fun y H3 => match x with
  | .ref p => ∃ kvs k, H3 p = some (.dct kvs) ∧ keyD y = some k ∧ kvs.length < sizeLine ∧ D.nx σ (put H3 p (.dct (putP kvs k z)))
  | _ => False
theorem getP_rep {K : PySem.W.Frag} {H : Hp} {kvs : List (Key × D)} {ws : List (Key × V)} {k : Key} (r : RepK K H kvs ws) : (valV ws k).isSome = (getP kvs k).isSome := by
  obtain ⟨h1, h2⟩ := r.get (k := k)
  cases c : getP kvs k with
  | none => rw [h2 c]; rfl
  | some d =>
    obtain ⟨v, e, _⟩ := h1 d c
    rw [e]
    rfl
section
variable {X : Cx} {W : WX} {o i v : Expr} {da db dv : DTE} {pos pos' : Pos}
theorem d_dget (hu : X.A.units + 1 < cLine) (ho : DPE X W o da) (hi : DPE X W i db) (hs : NoSl i := by exact fun _ _ => rfl) : DPE X W (.Subscript o i pos) (dDGet da db) := by
  obtain ⟨t1, a1, a2⟩ := ho
  obtain ⟨t2, b1, b2⟩ := hi
  refine ⟨_, pe_dget hu a1 b1 hs, fun σd Hd σ H Qd Q E rs wx q w => a2 σd Hd σ H _ _ E rs wx q fun y H1 v H1' q1 ry rs1 u1 => b2 σd H1 σ H1' _ _ E rs1 (wx.to u1) q1 fun z H2 u H2' q2 rz rs2 u2 => ?_⟩
  split at q2
  · obtain ⟨kvs, k, d, h1, h2, h3, q2⟩ := q2
    obtain ⟨ws, e1, rk⟩ := rs2.hp _ _ h1
    obtain ⟨x, e2, rx⟩ := rk.get.1 d h3
    refine ⟨_, x, ry, .inl ⟨ws, k, .inl e1, keyD_ok rz h2, e2.symm⟩, w d H2 x H2' q2 rx rs2 (u1.trans u2)⟩
  · exact q2.elim
theorem d_din (hu : X.A.units + 1 < cLine) (hi : DPE X W i db) (ho : DPE X W o da) (h1 : behindInMarks .In o = false := by rfl) : DPE X W (.Compare i [.In] [o] pos) (dDIn (fun b => b) db da) := by
  obtain ⟨t1, a1, a2⟩ := ho
  obtain ⟨t2, b1, b2⟩ := hi
  refine ⟨_, pe_cmp (pc_din hu b1 a1) h1, fun σd Hd σ H Qd Q E rs wx q w => b2 σd Hd σ H _ _ E rs wx q fun y H1 v H1' q1 ry rs1 u1 => a2 σd H1 σ H1' _ _ E rs1 (wx.to u1) q1 fun z H2 u H2' q2 rz rs2 u2 => ?_⟩
  split at q2
  · obtain ⟨kvs, k, h1, h2, q2⟩ := q2
    obtain ⟨ws, e1, rk⟩ := rs2.hp _ _ h1
    refine ⟨_, valV ws k, rz, .inl ⟨ws, k, .inl e1, keyD_ok (ry.up u2 _ _) h2, rfl⟩, w _ H2 _ H2' q2 ?_ rs2 (u1.trans u2)⟩
    rw [getP_rep rk]
    rfl
  · exact q2.elim
theorem d_dnotIn (hu : X.A.units + 1 < cLine) (hi : DPE X W i db) (ho : DPE X W o da) (h1 : behindInMarks .NotIn o = false := by rfl) : DPE X W (.Compare i [.NotIn] [o] pos) (dDIn (fun b => !b) db da) := by
  obtain ⟨t1, a1, a2⟩ := ho
  obtain ⟨t2, b1, b2⟩ := hi
  refine ⟨_, pe_cmp (pc_dnotin hu b1 a1) h1, fun σd Hd σ H Qd Q E rs wx q w => b2 σd Hd σ H _ _ E rs wx q fun y H1 v H1' q1 ry rs1 u1 => a2 σd H1 σ H1' _ _ E rs1 (wx.to u1) q1 fun z H2 u H2' q2 rz rs2 u2 => ?_⟩
  split at q2
  · obtain ⟨kvs, k, h1, h2, q2⟩ := q2
    obtain ⟨ws, e1, rk⟩ := rs2.hp _ _ h1
    refine ⟨_, valV ws k, rz, .inl ⟨ws, k, .inl e1, keyD_ok (ry.up u2 _ _) h2, rfl⟩, w _ H2 _ H2' q2 ?_ rs2 (u1.trans u2)⟩
    rw [getP_rep rk]
    rfl
  · exact q2.elim
theorem d_dnew : DPE X W (.Dict [] [] pos) dDNew := ⟨_, pe_dnewK, fun σd Hd σ H Qd Q E rs wx q w p hp => w _ _ _ _ (q p (rs.hp.fresh hp)) rfl (rs.mono (Up.new hp) (rs.hp.new hp ⟨[], upd_same, rfl⟩)) (Up.new hp)⟩
theorem ds_dput (hu : X.A.units + 1 < cLine) (ho : DPE X W o da) (hi : DPE X W i db) (hv : DPE X W v dv) (hs : swapsWith v (some (.Subscript o i pos')) pos.line X.env = pure false := by rfl) : DPS X W (.Assign [.Subscript o i pos'] v pos) (dDPut da db dv) := by
  obtain ⟨t1, a1, a2⟩ := ho
  obtain ⟨t2, b1, b2⟩ := hi
  obtain ⟨t3, c1, c2⟩ := hv
  refine ⟨_, ps_dput hu a1 b1 c1 hs, fun Dd D σd Hd σ H rs oo q => c2 σd Hd σ H _ _ _ rs (oo.wx σd σ) q fun x H1 vx H1' q1 rx rs1 u1 => a2 σd H1 σ H1' _ _ _ rs1 ((oo.to u1).wx σd σ) q1 fun y H2 vy H2' q2 ry rs2 u2 => b2 σd H2 σ H2' _ _ _ rs2 ((oo.to (u1.trans u2)).wx σd σ) q2 fun z H3 vz H3' q3 rz rs3 u3 => ?_⟩
  split at q3
  · rename_i a
    obtain ⟨kvs, k, h1, h2, hl, q3⟩ := q3
    obtain ⟨ws, e1, rk⟩ := rs3.hp _ _ h1
    have up : Up H3' (upd H3' a (.dK (putK ws k vx))) := Up.put e1 trivial
    have rh := (rs3.hp.write (u := .dK (putK ws k vx)) (x := .dct (putP kvs k x)) h1 ⟨_, upd_same, RepK.put (rx.up ((u2.trans u3).trans up) _ _) (rk.up up)⟩).1
    exact ⟨a, _, ry, .inl ⟨ws, k, e1, keyD_ok rz h2, by rw [rk.len]; exact hl, rfl⟩, oo.nx σd _ σ _ q3 (rs3.mono up rh) (((u1.trans u2).trans u3).trans up)⟩
  · exact q3.elim
end

/-! ### methods of built-in types -/
def SimM (K : PySem.W.Frag) (r : V → List V → Hp → VK → Prop) (rd : D → List D → DH → DK → Prop) : Prop := ∀ x xs v vs Hd H (Qd : DK) (Q : VK), Rep K H x v → Reps K H xs vs → RH K Hd H → rd x xs Hd Qd → WantV K H Qd Q → r v vs H Q
def DMt (X : Cx) (id : String) (rd : D → List D → DH → DK → Prop) : Prop := ∃ r, MtR X id r ∧ SimM X.K r rd
def tyM (T : String) (x : D) (H : DH) : Prop := match x with
  | .str _ => T = "str"
  | .fl _ => T = "list"
  | .ref p => (T = "list" ∧ ∃ ds, H p = some (.lst ds)) ∨ (T = "dict" ∧ ∃ kvs, H p = some (.dct kvs))
  | _ => False
theorem tyM_ok {K : PySem.W.Frag} {Hd : DH} {H : Hp} {T : String} {x : D} {v : V} (rh : RH K Hd H) (r : Rep K H x v) (h : tyM T x Hd) : tyV K T v H := by
  unfold tyM at h
  split at h
  · cases (show v = _ from r)
    exact h
  · obtain ⟨a, xs, e, s, _⟩ := r
    subst e
    exact .inl ⟨h, xs, s.sq⟩
  · cases (show v = _ from r)
    rcases h with ⟨e, ds, h⟩ | ⟨e, kvs, h⟩
    · obtain ⟨xs, e1, _⟩ := rh _ _ h
      exact .inl ⟨e, xs, SqL.of e1⟩
    · obtain ⟨ws, e1, _⟩ := rh _ _ h
      exact .inr (.inr (.inl ⟨e, .inl ⟨ws, e1⟩⟩))
  · exact h.elim
def dBM (T : String) (r : D → List D → DH → DK → Prop) (o : DTE) (a : DTA) : DTE := fun E σ H Q => o E σ H fun x H1 => tyM T x H1 ∧ a E σ H1 fun xs H2 => r x xs H2 Q
section
variable {X : Cx} {W : WX} {o e : Expr} {es : List Expr} {da : DTE} {dA : DTA} {name : Str} {apos cpos : Pos} {T id : String} {rd : D → List D → DH → DK → Prop}
theorem d_bm (pa : PlainAttrs T) (slot : Slot T name id) (hty : typeOf (.builtin id) = pure (.type "method_descriptor")) (hm : DMt X id rd) (ho : DPE X W o da) (ha : DPA X W (e :: es) dA)
    (hbase : attributeBase o name X.env (eval o X.env) = eval o X.env := by rfl)
    (hfew : ((backTo cpos (starEach (e :: es) X.env)).all (fun x => !x.1) && (backToKw cpos (keywordEach [] X.env)).all (fun x => x.1.isSome)
      && decide ((e :: es).length + ([] : List Keyword).length + (if ([] : List Keyword).isEmpty then 0 else 1) < 30)) = true := by rfl)
    (hline : (apos.endLine == cpos.line) = true := by rfl) (hs : starEach (e :: es) X.env = (false, eval e X.env) :: starEach es X.env := by rfl) (hplain : (backTo cpos (starEach es X.env)).any (·.1) = false := by rfl) :
    DPE X W (.Call (.Attribute o name apos) (e :: es) [] cpos) (dBM T rd da dA) := by
  obtain ⟨r, m1, m2⟩ := hm
  obtain ⟨t1, a1, a2⟩ := ho
  obtain ⟨t2, b1, b2⟩ := ha
  exact ⟨_, pe_bm pa slot hty m1 a1 b1 hbase hfew hline hs hplain, fun σd Hd σ H Qd Q E rs wx q w => a2 σd Hd σ H _ _ E rs wx q fun x H1 v H1' q1 rx rs1 u1 =>
    ⟨tyM_ok rs1.hp rx q1.1, b2 σd H1 σ H1' _ _ E rs1 (wx.to u1) q1.2 fun xs H2 vs H2' q2 rxs rs2 u2 => m2 x xs v vs H2 H2' Qd Q (rx.up u2 _ _) rxs rs2.hp q2 ((w.to (u1.trans u2)).v rs2)⟩⟩
theorem d_bm0 (pa : PlainAttrs T) (slot : Slot T name id) (hty : typeOf (.builtin id) = pure (.type "method_descriptor")) (hm : DMt X id rd) (ho : DPE X W o da)
    (hbase : attributeBase o name X.env (eval o X.env) = eval o X.env := by rfl) (hline : (apos.endLine == cpos.line) = true := by rfl) : DPE X W (.Call (.Attribute o name apos) [] [] cpos) (dBM T rd da dNil) := by
  obtain ⟨r, m1, m2⟩ := hm
  obtain ⟨t1, a1, a2⟩ := ho
  exact ⟨_, pe_bm0 pa slot hty m1 a1 hbase hline, fun σd Hd σ H Qd Q E rs wx q w => a2 σd Hd σ H _ _ E rs wx q fun x H1 v H1' q1 rx rs1 u1 =>
    ⟨tyM_ok rs1.hp rx q1.1, m2 x [] v [] H1 H1' Qd Q rx rfl rs1.hp q1.2 ((w.to u1).v rs1)⟩⟩
end
def dApp : D → List D → DH → DK → Prop := fun x xs H Q => match x, xs with
  | .ref p, [y] => ∃ ds, H p = some (.lst ds) ∧ ds.length < sizeLine ∧ Q .non (put H p (.lst (ds ++ [y])))
  | _, _ => False
theorem dmt_append {X : Cx} : DMt X "list.append" dApp := ⟨_, mt_append, fun x xs v vs Hd H Qd Q rx rxs rh q k => by
  unfold dApp at q
  split at q
  · rename_i a y
    obtain ⟨ds, h, hz, q⟩ := q
    obtain ⟨u, ev, ry⟩ := reps1 rxs
    obtain ⟨ws, e1, rw'⟩ := rh _ _ h
    have up : Up H (upd H a (.lst (ws ++ [u]))) := Up.put e1 trivial
    have rh2 := (rh.write (u := .lst (ws ++ [u])) (x := .lst (ds ++ [y])) h ⟨_, upd_same, (rw'.up up _ _).app (Reps.one (ry.up up _ _))⟩).1
    exact ⟨a, ws, u, rx, ev, e1, by rw [rw'.len]; exact hz, k _ _ _ _ q rfl rh2 up⟩
  · exact q.elim⟩
theorem Reps.dropLast {K : PySem.W.Frag} {H : Hp} {ds : List D} {vs : List V} (h : Reps K H ds vs) : Reps K H ds.dropLast vs.dropLast := by
  rw [List.dropLast_eq_take, List.dropLast_eq_take, h.len]
  exact h.take _
def dPop : D → List D → DH → DK → Prop := fun x xs H Q => match x, xs with
  | .ref p, [] => ∃ ds y, H p = some (.lst ds) ∧ ds[ds.length - 1]? = some y ∧ Q y (put H p (.lst ds.dropLast))
  | _, _ => False
theorem dmt_pop {X : Cx} : DMt X "list.pop" dPop := ⟨_, mt_pop, fun x xs v vs Hd H Qd Q rx rxs rh q k => by
  unfold dPop at q
  split at q
  · rename_i a
    obtain ⟨ds, y, h, hy, q⟩ := q
    obtain ⟨ws, e1, rw'⟩ := rh _ _ h
    obtain ⟨u, e2, ru⟩ := rw'.get hy
    have up : Up H (upd H a (.lst ws.dropLast)) := Up.put e1 trivial
    have rh2 := (rh.write (u := .lst ws.dropLast) (x := .lst ds.dropLast) h ⟨_, upd_same, (rw'.up up _ _).dropLast⟩).1
    exact ⟨a, ws, u, rx, rxs, e1, by rw [rw'.len]; exact e2, k _ _ _ _ q (ru.up up _ _) rh2 up⟩
  · exact q.elim⟩

/-! ### comprehensions -/
def wipeD (σ : DSt) : List Nat → DSt
  | [] => σ
  | v :: vs => (wipeD σ vs).set v none
theorem RS.wipe {K : PySem.W.Frag} {σd : DSt} {Hd : DH} {σ : L2.St} {H : Hp} (r : RS K σd Hd σ H) : ∀ vs : List Nat, RS K (wipeD σd vs) Hd (L2.wipe σ vs) H
  | [] => r
  | v :: vs => (RS.wipe r vs).unset v
/-- a target that stores into the block's own names alone -/
def SimGo (K : PySem.W.Frag) (vs : List Nat) (t : TG) (g : DTG) : Prop := ∀ x v σd Hd σ H (Qd : DSt → DH → Prop) (Q : L2.St → Hp → Prop), Rep K H x v → RS K σd Hd σ H → g x σd Hd Qd → (∀ σd' Hd' σ' H', Qd σd' Hd' → RS K σd' Hd' σ' H' → Up H H' → L2.wipe σ' vs = L2.wipe σ vs → Q σ' H') → t v σ H Q
def SimGos (K : PySem.W.Frag) (vs : List Nat) (t : TGs) (g : DTGs) : Prop := ∀ xs ws σd Hd σ H (Qd : DSt → DH → Prop) (Q : L2.St → Hp → Prop), Reps K H xs ws → RS K σd Hd σ H → g xs σd Hd Qd → (∀ σd' Hd' σ' H', Qd σd' Hd' → RS K σd' Hd' σ' H' → Up H H' → L2.wipe σ' vs = L2.wipe σ vs → Q σ' H') → t ws σ H Q
theorem wipe_get {σ : L2.St} : ∀ {vs : List Nat} (j : Nat), (L2.wipe σ vs)[j]? = if j ∈ vs then (if j < σ.length then some none else none) else σ[j]?
  | [], j => by simp [L2.wipe]
  | v :: vs, j => by
    unfold L2.wipe
    by_cases h : v = j
    · subst h
      rw [if_pos List.mem_cons_self]
      by_cases hl : v < σ.length
      · rw [if_pos hl, List.getElem?_set_self (by rw [wipe_length]; exact hl)]
      · rw [if_neg hl, List.getElem?_eq_none (by rw [List.length_set, wipe_length]; omega)]
    · rw [List.getElem?_set_ne h, wipe_get j]
      by_cases hm : j ∈ vs
      · rw [if_pos hm, if_pos (List.mem_cons_of_mem _ hm)]
      · rw [if_neg hm, if_neg (by simp only [List.mem_cons, not_or]; exact ⟨fun e => h e.symm, hm⟩)]
theorem wipe_set {σ : L2.St} {vs : List Nat} {i : Nat} {v : Option V} (h : i ∈ vs) : L2.wipe (σ.set i v) vs = L2.wipe σ vs := by
  apply List.ext_getElem?
  intro j
  rw [wipe_get, wipe_get, List.length_set]
  by_cases hm : j ∈ vs
  · rw [if_pos hm, if_pos hm]
  · rw [if_neg hm, if_neg hm, List.getElem?_set_ne (fun e => hm (by rw [← e]; exact h))]
theorem wipe_wipe {σ : L2.St} {vs : List Nat} : L2.wipe (L2.wipe σ vs) vs = L2.wipe σ vs := by
  apply List.ext_getElem?
  intro j
  rw [wipe_get, wipe_get, wipe_length]
  by_cases hm : j ∈ vs
  · rw [if_pos hm, if_pos hm]
  · rw [if_neg hm, if_neg hm]
def DPGo (X : Cx) (vs : List Nat) (tg : Expr) (g : DTG) : Prop := ∃ t, PG X tg t ∧ SimGo X.K vs t g
def DPGos (X : Cx) (vs : List Nat) (ts : List Expr) (g : DTGs) : Prop := ∃ t, PGs X ts t ∧ SimGos X.K vs t g
def canGo (K : PySem.W.Frag) (vs : List Nat) (g : DTG) : TG := fun v σ H Q => ∃ x σd Hd Qd, Rep K H x v ∧ RS K σd Hd σ H ∧ g x σd Hd Qd ∧ ∀ σd' Hd' σ' H', Qd σd' Hd' → RS K σd' Hd' σ' H' → Up H H' → L2.wipe σ' vs = L2.wipe σ vs → Q σ' H'
section
variable {X : Cx} {vs : List Nat} {pos : Pos} {e tg : Expr} {es : List Expr} {g : DTG} {gs : DTGs}
theorem DPGo.can (h : DPGo X vs tg g) : PG X tg (canGo X.K vs g) := by
  obtain ⟨t, h1, h2⟩ := h
  exact ⟨fun pins s σ H v u Q I r ⟨x, σd, Hd, Qd, rx, rs, q, k⟩ => h1.run pins s σ H v u Q I r (h2 x v σd Hd σ H Qd Q rx rs q k)⟩
theorem dgo_name {i : Nat} {x : Str} (hN : X.N.Nodup) (hi : X.N[i]? = some x) (hx : Loc X.env.scope x) (hv : i ∈ vs := by decide) (hf : X.fn x = true ∨ X.env.scope.names.lookup x = some .local := by first | exact .inl rfl | exact .inr rfl | assumption) : DPGo X vs (.Name x pos) (gNm i) :=
  ⟨_, pg_name hN hi hx hf, fun x v σd Hd σ H Qd Q rx rs q k => k _ Hd _ H q (rs.set rx i) (Up.refl H) (wipe_set hv)⟩
theorem dgos_nil : DPGos X vs [] gNl := ⟨_, pgs_nil, fun xs ws σd Hd σ H Qd Q rx rs q k => by
  unfold gNl at q
  split at q
  · exact ⟨rx, k _ Hd _ H q rs (Up.refl H) rfl⟩
  · exact q.elim⟩
theorem dgos_cons (h1 : DPGo X vs e g) (h2 : DPGos X vs es gs) (hs : (assignEach (e :: es) X.env).map (·.2) = assign e X.env :: (assignEach es X.env).map (·.2) := by rfl) : DPGos X vs (e :: es) (gCn g gs) := by
  obtain ⟨t1, a1, a2⟩ := h1
  obtain ⟨t2, b1, b2⟩ := h2
  refine ⟨_, pgs_cons a1 b1 hs, fun xs ws σd Hd σ H Qd Q rx rs q k => ?_⟩
  unfold gCn at q
  split at q
  · rename_i x t
    obtain ⟨v, r, ev, r1, r2⟩ := rx
    refine ⟨v, r, ev, a2 x v σd Hd σ H _ _ r1 rs q fun σd' Hd' σ' H' q' rs' up e1 => ?_⟩
    exact b2 t r σd' Hd' σ' H' Qd Q (r2.up up _ _) rs' q' fun σd2 Hd2 σ2 H2 q2 rs2 up2 e2 => k σd2 Hd2 σ2 H2 q2 rs2 (up.trans up2) (e2.trans e1)
  · exact q.elim
theorem dgo_tup {k} {n : Nat} (hc : X.calm = true) (h : DPGos X vs es gs) (hn : (assignEach es X.env).length = n := by rfl) (hst : (assignEach es X.env).findIdx? (·.1) = none := by rfl) : DPGo X vs (.Tuple es k pos) (gTp n gs) := by
  obtain ⟨t, h1, h2⟩ := h
  refine ⟨_, pg_tup hc h1 hn hst, fun x v σd Hd σ H Qd Q rx rs q k => ?_⟩
  unfold gTp at q
  split at q
  · obtain ⟨a, xs, e1, s1, r1⟩ := rx
    exact ⟨a, xs, e1, s1, by rw [r1.len]; exact q.1, h2 _ xs σd Hd σ H Qd Q r1 rs q.2 k⟩
  · exact q.elim
end
/-- the tests of a comprehension's clause -/
def DPTs (X : Cx) (W : WX) (ifs : List Expr) (d : DTT) : Prop := ∃ t, PTs X ifs t ∧ SimT X.K W t d
def dYes : DTT := fun _ _ H Q => Q true H
theorem DPTs.can {X : Cx} {W : WX} {ifs : List Expr} {d : DTT} (h : DPTs X W ifs d) : PTs X ifs (canT X.K W d) := by
  obtain ⟨t, h1, h2⟩ := h
  exact ⟨fun pins s σ H Q I ⟨σd, Hd, Qd, E, rs, wx, q, w⟩ => h1.run pins s σ H Q I (h2 σd Hd σ H Qd Q E rs wx q w)⟩
theorem dts_nil {X : Cx} {W : WX} : DPTs X W [] dYes := ⟨_, pts_nil, fun σd Hd σ H Qd Q E rs wx q k => k true Hd H q rs (Up.refl H)⟩
theorem dts_one {X : Cx} {W : WX} {c : Expr} {d : DTT} (h : DPT X W c d) : DPTs X W [c] d := by
  obtain ⟨t, h1, h2⟩ := h
  exact ⟨_, pts_one h1, h2⟩
abbrev EF : DX := fun _ _ _ => False
def dLc (wi : DTI) (g : DTG) (tt : DTT) (te : DTE) (vs : List Nat) : DTE := fun E σ H Q => wi E σ H fun J H1 => ∀ p, H1 p = none → ∃ W : Nat → Nat → DH → Prop, (∃ m, W 0 m (put H1 p (.lst []))) ∧ ∀ i m H, W i m H →
  (J.stop i H ∧ Q (.ref p) H) ∨ (∃ x, J.at_ i H x ∧ ∃ Nx : DH → Prop, (∀ H', Nx H' → ∃ m', m' < m ∧ W (i + 1) m' H') ∧ g x (wipeD σ vs) H fun σ2 H2 => tt EF σ2 H2 fun b H3 =>
    if b = true then te EF σ2 H3 fun y H4 => ∃ acc, H4 p = some (.lst acc) ∧ acc.length < sizeLine ∧ Nx (put H4 p (.lst (acc ++ [y]))) else Nx H3)
section
variable {X : Cx} {W : WX}
theorem sim_lc {K : PySem.W.Frag} {wi : TI} {dI : DTI} {g : DTG} {tt : DTT} {te : DTE} {vs : List Nat} (i2 : SimI K W wi dI) : SimE K W (tLc wi (canGo K vs g) (canT K WF tt) (canE K WF te) vs) (dLc dI g tt te vs) := fun σd Hd σ H Qd Q E rs wx q w => by
  refine i2 σd Hd σ H _ _ E rs wx q fun Jd Hd1 J H1 q1 sj rs1 u1 D hD => ?_
  obtain ⟨Wd, ⟨m0, w0⟩, turn⟩ := q1 D (rs1.hp.fresh hD)
  have uD := Up.new (o := .lst []) hD
  refine ⟨fun i m H' => ∃ Hd', RS K σd Hd' σ H' ∧ Up H1 H' ∧ Wd i m Hd', ⟨m0, _, rs1.mono uD (rs1.hp.new (x := .lst []) hD ⟨[], upd_same, rfl⟩), uD, w0⟩, ?_⟩
  rintro i m H2 ⟨Hd2, rs2, u2, w2⟩
  rcases turn i m Hd2 w2 with ⟨st, qn⟩ | ⟨x, at_, Nd, hN, step⟩
  · exact .inl ⟨sj.stop i Hd2 H2 u2 rs2.hp st, w _ Hd2 _ H2 qn rfl rs2 (u1.trans u2)⟩
  · obtain ⟨go, yl⟩ := sj.at_ i Hd2 H2 x u2 rs2.hp at_
    refine .inr ⟨go, fun H' => ∃ Hd', RS K σd Hd' σ H' ∧ Up H1 H' ∧ Nd Hd', ?_, fun v H3 y => ?_⟩
    · rintro H' ⟨Hd', rs', u', n'⟩
      obtain ⟨m', hm, w'⟩ := hN Hd' n'
      exact ⟨m', hm, Hd', rs', u', w'⟩
    · obtain ⟨rx, rh, u3⟩ := yl v H3 y
      have rsw := (rs2.mono u3 rh).wipe vs
      refine ⟨x, wipeD σd vs, Hd2, _, rx, rsw, step, fun σd4 Hd4 σ4 H4 q4 rs4 u4 e4 => ⟨e4.trans wipe_wipe, ?_⟩⟩
      refine ⟨σd4, Hd4, _, EF, rs4, wxF, q4, fun b Hd5 H5 q5 rs5 u5 => ?_⟩
      cases b with
      | true =>
        rw [if_pos rfl] at q5 ⊢
        refine ⟨σd4, Hd5, _, EF, rs5, wxF, q5, fun z Hd6 vz H6 q6 rz rs6 u6 => ?_⟩
        obtain ⟨acc, ha, hz, n6⟩ := q6
        obtain ⟨ws, e1, rw'⟩ := rs6.hp _ _ ha
        have up : Up H6 (upd H6 D (.lst (ws ++ [vz]))) := Up.put e1 trivial
        have rh2 := (rs6.hp.write (u := .lst (ws ++ [vz])) (x := .lst (acc ++ [z])) ha ⟨_, upd_same, (rw'.up up _ _).app (Reps.one (rz.up up _ _))⟩).1
        have U := ((((u2.trans u3).trans u4).trans u5).trans u6).trans up
        exact ⟨ws, e1, by rw [rw'.len]; exact hz, _, rs1.mono U rh2, U, n6⟩
      | false =>
        rw [if_neg Bool.false_ne_true] at q5 ⊢
        have U := ((u2.trans u3).trans u4).trans u5
        exact ⟨Hd5, rs1.mono U rs5.hp, U, q5⟩
variable {elt tg iter : Expr} {ifs : List Expr} {scope : Scope} {own : List (Str × Nat)} {pos : Pos} {wi : DTI} {g : DTG} {tt : DTT} {te : DTE}
theorem d_lc (hc : X.calm = true) (hN : X.N.Nodup) (hi : DPI X W tg iter wi) (ok : BlkOk X.N X.env.scope scope own)
    (hg : ∀ (s : Shared) (H : Hp) (C : Addr) (cl : List (Str × Addr)) (fp : List Addr), DPGo (X.blk s H scope (compEnvC scope cl C X.env) fp) (own.map (·.2)) tg g)
    (ht : ∀ (s : Shared) (H : Hp) (C : Addr) (cl : List (Str × Addr)) (fp : List Addr), DPTs (X.blk s H scope (compEnvC scope cl C X.env) fp) WF ifs tt)
    (he : ∀ (s : Shared) (H : Hp) (C : Addr) (cl : List (Str × Addr)) (fp : List Addr), DPE (X.blk s H scope (compEnvC scope cl C X.env) fp) WF elt te) (hs : ∀ x, foldedSetIterable iter X.env x = pure x := by intro _; rfl) :
    DPE X W (.ListComp elt [⟨tg, iter, ifs, 0⟩] scope pos) (dLc wi g tt te (own.map (·.2))) := by
  obtain ⟨ti, i1, i2⟩ := hi
  exact ⟨_, pe_lc hc hN i1 ok (fun s H C cl fp => (hg s H C cl fp).can) (fun s H C cl fp => (ht s H C cl fp).can) (fun s H C cl fp => (he s H C cl fp).can) hs, sim_lc i2⟩
/-- name = [..] on one line, the name a local -/
theorem ds_setLc {i : Nat} {y : Str} {py spos : Pos} (hc : X.calm = true) (hN : X.N.Nodup) (hy : X.N[i]? = some y) (hyl : X.env.scope.names.lookup y = some .local)
    (hsw : swapsWith (.ListComp elt [⟨tg, iter, ifs, 0⟩] scope pos) (some (.Name y py)) spos.line X.env = pure true) (hi : DPI X W tg iter wi) (ok : BlkOk X.N X.env.scope scope own)
    (hg : ∀ (s : Shared) (H : Hp) (C : Addr) (cl : List (Str × Addr)) (fp : List Addr), DPGo (X.blk s H scope (compEnvC scope cl C X.env) fp) (own.map (·.2)) tg g)
    (ht : ∀ (s : Shared) (H : Hp) (C : Addr) (cl : List (Str × Addr)) (fp : List Addr), DPTs (X.blk s H scope (compEnvC scope cl C X.env) fp) WF ifs tt)
    (he : ∀ (s : Shared) (H : Hp) (C : Addr) (cl : List (Str × Addr)) (fp : List Addr), DPE (X.blk s H scope (compEnvC scope cl C X.env) fp) WF elt te) (hs : ∀ x, foldedSetIterable iter X.env x = pure x := by intro _; rfl) :
    DPS X W (.Assign [.Name y py] (.ListComp elt [⟨tg, iter, ifs, 0⟩] scope pos) spos) (dSet (dLc wi g tt te (own.map (·.2))) i) := by
  obtain ⟨ti, i1, i2⟩ := hi
  exact ⟨_, ps_setLc hc hN hy hyl hsw i1 ok (fun s H C cl fp => (hg s H C cl fp).can) (fun s H C cl fp => (ht s H C cl fp).can) (fun s H C cl fp => (he s H C cl fp).can) hs,
    fun Dd D σd Hd σ H rs o q => sim_lc i2 σd Hd σ H _ _ _ rs (o.wx σd σ) q fun x Hd' v H' q' rx rs' up => o.nx _ Hd' _ H' q' (rs'.set rx i) up⟩
end
end DL

/-! The data layer, part I: own errors whose __init__ starts with super().__init__(..). -/
namespace DL
open PySem PySem.Spec PyProof.Rows L2

/-- the context of such an __init__, at its entry -/
def cxI (CX : CXT) (P : Program) (w : World) (K : PySem.W.Frag) (mg : Str → Option Value) (base : Heap) (N : List Str) (qual : Str) (scope : Scope) (f : Addr) (cd : Value) (cc : Addr) (A : Around) (outer : List Env) (s : Shared) (H : Hp) (E : XK) : Cx :=
  { prog := P, w := w, K := K, mg := mg, base := base, A := A.deeper (PySem.W.ksEnv qual scope s.heap.objs.size f cd cc), N := N, s_0 := s, H_0 := H, env := PySem.W.ksEnv qual scope s.heap.objs.size f cd cc, outer := outer,
    stack := PySem.W.ksEnv qual scope s.heap.objs.size f cd cc :: outer, ex := [], calm := true, fn := fun _ => false, pn := [],
    xe := fun e s' => wpAny (model P w) (A.deeper (PySem.W.ksEnv qual scope s.heap.objs.size f cd cc)) (leaving (PySem.W.ksEnv qual scope s.heap.objs.size f cd cc) e) (fun _ s'' => CX outer H s E e s'') (fun e' s'' => CX outer H s E e' s'') s' }
structure IScope (N ps : List Str) (sc : Scope) : Prop where
  kind : sc.kind = .function
  co : sc.isCoroutine = false
  gen : sc.isGenerator = false
  nd : N.Nodup
  pre : N.take ps.length = ps
  par : ∀ x ∈ ps, sc.names.lookup x = some .local
  ncell : ∀ x ∈ sc.names, x.2 ≠ .cell
  free : ∀ x, sc.names.lookup x = some .free → x = "__class__"
  cls : sc.names.lookup ("__class__" : Str) = some .free
  sup : sc.names.lookup ("super" : Str) = some .globalImplicit
theorem zip_rev {x : Str} {v : Value} : ∀ {P : List Str} {vs : List Value} {i : Nat}, P.Nodup → P[i]? = some x → vs[i]? = some v → (P.zip vs).reverse.lookup x = some v := by
  intro P vs i nd h1 h2
  have key : ∀ {P : List Str} {vs : List Value} {i : Nat} (l : List (Str × Value)), P.Nodup → P[i]? = some x → vs[i]? = some v → ((P.zip vs).reverse ++ l).lookup x = some v := by
    intro P
    induction P with
    | nil => intro vs i l _ h _; simp at h
    | cons p P ih =>
      intro vs i l nd h1 h2
      cases vs with
      | nil => simp at h2
      | cons w vs =>
        cases i with
        | succ i =>
          show ((List.zip (p :: P) (w :: vs)).reverse ++ l).lookup x = some v
          rw [List.zip_cons_cons, List.reverse_cons, List.append_assoc]
          exact ih _ (List.nodup_cons.mp nd).2 (by simpa using h1) (by simpa using h2)
        | zero =>
          have e1 : p = x := by simpa using h1
          have e2 : w = v := by simpa using h2
          subst e1 e2
          rw [List.zip_cons_cons, List.reverse_cons, List.append_assoc]
          have nin : ∀ q ∈ (P.zip vs).reverse, (p == q.1) = false := fun q hq => by
            have hm := (List.of_mem_zip (List.mem_reverse.mp hq)).1
            have ne : p ≠ q.1 := fun e => (List.nodup_cons.mp nd).1 (by rw [e]; exact hm)
            simpa using ne
          have skip : ∀ m : List (Str × Value), (∀ q ∈ m, (p == q.1) = false) → (m ++ ([(p, w)] ++ l)).lookup p = some w := by
            intro m
            induction m with
            | nil => intro _; simp [List.lookup]
            | cons q m ih2 =>
              intro hm
              obtain ⟨a, b⟩ := q
              rw [List.cons_append, List.lookup_cons, hm (a, b) (List.mem_cons_self ..)]
              exact ih2 fun q hq => hm q (List.mem_cons_of_mem _ hq)
          exact skip _ nin
  have := key (P := P) (vs := vs) (i := i) [] nd h1 h2
  rwa [List.append_nil] at this
theorem inv_startI {CX : CXT} {P : Program} {w : World} {K : PySem.W.Frag} {mg : Str → Option Value} {base : Heap} {N ps : List Str} {qual : Str} {scope : Scope} {f cc C : Addr} {cd : Value} {A : Around} {outer : List Env} {s : Shared} {H : Hp} {E : XK} {us : List Value} {vs : List V} {h1 : Heap} {tk : Nat}
    {cl : Value} {cld : Option Addr} {csl : Array (Option Value)} (S : IScope N ps scope) (hd : A.handled = none) (e0 : Env0 P w K mg base A outer s H) (hl : vs.length = ps.length) (r : Vals vs us) (hcell : K.lookup cc = some ⟨cl, cld, .cell (some (.ref C)), csl⟩)
    (hns : h1.Ns s.heap.objs.size (fun x => (ps.zip us).reverse.lookup x)) (hk : ∀ b o, s.heap.get? b = some o → h1.get? b = some o) :
    Inv (cxI CX P w K mg base N qual scope f cd cc A outer s H E) [] (L2.start N vs) H { s with heap := h1, toks := tk } := by
  have hpl : ps.length ≤ N.length := by have := congrArg List.length S.pre; rw [List.length_take] at this; omega
  have noA : ∀ b : Addr, b ∉ (cxI CX P w K mg base N qual scope f cd cc A outer s H E).ex := fun b z => absurd (show b ∈ ([] : List Addr) from z) (by simp)
  have bcc : base.get? cc = some ⟨cl, cld, .cell (some (.ref C)), csl⟩ := e0.mod.kin _ _ hcell
  obtain ⟨scc, ncc⟩ := e0.bs _ _ bcc
  have only : ∀ {x : Str} {c : Addr}, List.lookup x [(("__class__" : Str), cc)] = some c → x = "__class__" ∧ c = cc := fun {x c} h => by
    rw [List.lookup_cons] at h
    cases q : (x == ("__class__" : Str)) with
    | true =>
      rw [q] at h
      cases h
      exact ⟨by simpa using q, rfl⟩
    | false =>
      rw [q] at h
      cases h
  refine ⟨⟨e0.mod, S.kind, rfl, rfl, Nat.le_refl _, fun y z c h1 h2 => ?_, fun y hy => ?_, fun y c z _ => ?_, fun _ => hd, Around.frames_deeper e0.frames, .inr ⟨rfl, rfl⟩, fun b z => absurd z (noA b), e0.bs, e0.bsz, fun b _ _ => noA b, fun b z => absurd z (noA b), e0.funs, e0.frf⟩,
    rfl, e0.bare, Un.kept hk, ⟨_, hns, fun i y v h1 h2 h3 => ?_⟩, fun y c h => ?_, e0.hok.fresh (Nat.le_refl _), fun y c h => ?_, fun p hp => absurd (show p ∈ ([] : List (Addr × Obj)) from hp) (by simp), e0.hok.kept hk, ?_⟩
  · exact (only h1).1.trans (only h2).1.symm
  · have hy : scope.names.lookup y = some .cell ∨ scope.names.lookup y = some .free := hy
    rcases hy with hy | hy
    · exact absurd rfl (S.ncell _ (PySem.mem_of_lookup hy))
    · rw [S.free y hy]
      exact ⟨cc, by show List.lookup _ [_] = _; simp [List.lookup]⟩
  · exact absurd z Bool.false_ne_true
  · have hi : i < vs.length := by
      unfold L2.start at h2
      by_cases hi : i < vs.length
      · exact hi
      · rw [List.getElem?_append_right (by simpa using hi)] at h2
        rw [List.getElem?_replicate] at h2
        split at h2 <;> cases h2
    have ha : vs[i]? = some v := by
      unfold L2.start at h2
      rw [List.getElem?_append_left (by simpa using hi), List.getElem?_map] at h2
      cases e : vs[i]? with
      | none => rw [e] at h2; cases h2
      | some a => rw [e] at h2; cases h2; rfl
    obtain ⟨u, hu, rv⟩ := r.get ha
    have hp : ps[i]? = some y := by
      rw [← S.pre, List.getElem?_take_of_lt (by omega)]; exact h1
    have ndP : ps.Nodup := by rw [← S.pre]; exact S.nd.sublist (List.take_sublist _ _)
    exact ⟨u, rv, .inl ⟨S.par y (List.mem_of_getElem? hp), zip_rev ndP hp hu⟩⟩
  · obtain ⟨_, e⟩ := only h
    exact ⟨_, _, by rw [e]; exact hk _ _ scc, rfl⟩
  · obtain ⟨_, e⟩ := only h
    rw [e]
    exact ncc
  · unfold L2.start
    show _ = N.length
    rw [List.length_append, List.length_map, List.length_replicate]
    omega

/-- what the written part says of the error class at C: __init__ at fI, its cell of __class__ at cc, its code at cda -/
structure ErT (P : Program) (K : PySem.W.Frag) (mg : Str → Option Value) (C fI cc cda : Addr) : Prop where
  o : OexC K C
  iC : PySem.W.findIn K (.ref C) "__init__" = some (some (.ref fI))
  tI : PySem.W.typeIn K (.ref fI) = some (.type "function")
  al : ∃ cd bm, PySem.W.clsIn K C = some cd ∧ cd.mro = .ref C :: bm ∧ PySem.W.alongIn K "__init__" bm = some (some (.builtin "ValueError.__init__"))
  vE : PySem.W.subIn K (.ref C) (.type "ValueError") = some true
  mC : PySem.W.mroIn K C (.ref C) = some true
  sup : mg "super" = none
  opq : PySem.W.nsIn K cStatics "thirdparty.any" = some none
  cell : ∃ cl cld csl, K.lookup cc = some ⟨cl, cld, .cell (some (.ref C)), csl⟩
  code : ∃ ccl cdd vs ccs file tf, K.lookup cda = some ⟨ccl, cdd, .fields vs, ccs⟩ ∧ vs[2]? = some (.str file tf) ∧ ((P.main.file : Str) == file) = true
  top : (P.main.scope.names.lookup ("super" : Str)).isSome = false
theorem boot_super : bootBuiltins "super" = some (.type "super") := by first | rfl | kernel_rfl | decide +kernel
section
variable {CX : CXT} {P : Program} {w : World} {K : PySem.W.Frag} {mg : Str → Option Value} {base : Heap} {N ps : List Str} {name qual : Str} {scope : Scope} {f cc cda C a : Addr} {A : Around} {outer : List Env} {s0 s : Shared} {H0 H : Hp} {E : XK} {σ : L2.St}
  {params : Arguments} {body : List Stmt} {dV kV doc pm ct oc : Value} {an od : Option Addr} {osl : Array (Option Value)} {ar : Arg} {t : Str} {k : Nat} {p0 p1 p2 p3 p4 p5 : Pos}
/-- super().__init__('..') -/
theorem super_st {X : Cx} (hX : X = cxI CX P w K mg base N qual scope f (.ref cda) cc A outer s0 H0 E) (S : IScope N ps scope) (T : ErT P K mg C f cc cda)
    (lk : K.lookup f = some ⟨oc, od, .func (PySem.W.ksFn name qual params body scope dV kV doc pm an (.ref cda) ct cc), osl⟩) (hp : (params.posonlyargs ++ params.args).head? = some ar) (har : ar.arg = "self") (hN : N[0]? = some ("self" : Str)) (hself : scope.names.lookup ("self" : Str) = some .local)
    {pl : Sem Bool} (he : eval (.Call (.Attribute (.Call (.Name "super" p0) [] [] p1) "__init__" p2) [.Constant (.str t) k p3] [] p4) X.env = (do
      let ov ← attributeBase (.Call (.Name "super" p0) [] [] p1) "__init__" X.env (eval (.Call (.Name "super" p0) [] [] p1) X.env)
      standAt p2.atName
      let (f, first) ← holding [ov] (getMethod ov "__init__" pl)
      callWith p4 f first (backTo p4 (starEach [.Constant (.str t) k p3] X.env)) []))
    (hi : interactive X.env = false) (hs : swapsWith (.Call (.Attribute (.Call (.Name "super" p0) [] [] p1) "__init__" p2) [.Constant (.str t) k p3] [] p4) none p5.line X.env = pure false) (hst : starEach [.Constant (.str t) k p3] X.env = [(false, eval (.Constant (.str t) k p3) X.env)])
    (I : Inv X [] σ H s) (ha : H a = some (exo a C none)) (hσ : σ[0]? = some (some (.ref a))) :
    _root_.PySem.wpAt (model P w) X.A (.func body X.env) (exec (.Expr (.Call (.Attribute (.Call (.Name "super" p0) [] [] p1) "__init__" p2) [.Constant (.str t) k p3] [] p4) p5) X.env) (fun fl s' => fl = .next ∧ Inv X [] σ H s') X.xe s := by
  subst hX
  obtain ⟨nm, q, N', bs, bm, sn, sub, ab, col, dd, k0, k1, k2, k3, k5, hC, hbm⟩ := T.o.cls
  obtain ⟨cl, cld, csl, hcell⟩ := T.cell
  obtain ⟨ccl, cdd, vs, ccs, file, tf, hcode, hvs, hfile⟩ := T.code
  obtain ⟨cd, bm', hcls, hmro, hal⟩ := T.al
  obtain ⟨mb, b1, b2⟩ := I.mod.blt
  obtain ⟨m, hns, hlk⟩ := id I.loc
  obtain ⟨t1, hxo⟩ := exo_at I.hok ha
  have X0 : K.In s.heap := I.kIn
  have G0 : s.heap.Ns mainGlobals mg := I.mod.glob.keeps I.bk
  have B0 : s.heap.Ns builtinsNs mb := b1.keeps I.bk
  have e1 : scope.names.lookup ar.arg = some .local := by rw [har]; exact hself
  obtain ⟨u, ru, q1⟩ := hlk 0 "self" (.ref a) hN hσ (.inl hself)
  obtain rfl : u = Value.ref a := ru
  have hv : m ar.arg = some (.ref a) := by
    rw [har]
    rcases q1 with ⟨_, q1⟩ | ⟨q1, _⟩
    · exact q1
    · have q1 : scope.names.lookup ("self" : Str) = some .cell ∨ scope.names.lookup ("self" : Str) = some .free := q1
      rw [hself] at q1
      rcases q1 with q1 | q1 <;> cases q1
  obtain ⟨oD, hD1, hD2⟩ : ∃ oD, s.heap.get? C = some oD ∧ ∃ cd, oD.data = .cls cd := ⟨_, X0 _ _ hC, _, rfl⟩
  obtain ⟨cdD, hD2⟩ := hD2
  refine PySem.ks_wpAt_Expr_any (PySem.ks_wpAt_MethodCall ?_ he) hi hs
  refine PySem.ks_wpAt_super_base (env := PySem.W.ksEnv qual scope s0.heap.objs.size f (.ref cda) cc) S.sup S.cls (by decide) rfl (X0 _ _ lk) rfl hp rfl (X0 _ _ hcode) rfl hvs hfile T.top ?_
  refine PySem.W.ks_loadName_global S.kind S.sup (Calls.loadGlobal_builtin (env := PySem.W.ksEnv qual scope s0.heap.objs.size f (.ref cda) cc) G0 T.sup B0 ((b2 _ (by decide +kernel)).trans boot_super) ⟨rfl, ?_⟩)
  refine wpAny_loadName_free S.kind S.cls rfl ⟨_, X0 _ _ hcell, rfl⟩ ?_
  refine wpAny_loadName_local S.kind e1 hns hv ?_
  refine PySem.ks_wpAny_isType_cls hD1 hD2 ⟨rfl, ?_⟩
  have hmC := PySem.W.looks_mroIn (M := model P w) X0 T.mC
  obtain ⟨hp0, g, d, tk, os⟩ := s
  refine PySem.ks_wpAny_call_super hD1 hD2 hxo rfl (fun c z => by cases z) hmC (fun h' hso k' => ?_)
  have I1 : Inv (cxI CX P w K mg base N qual scope f (.ref cda) cc A outer s0 H0 E) [] σ H ⟨h', g, d, tk, os⟩ := I.kept (t' := tk) k'
  have X1 : K.In h' := I1.kIn
  have xC : a ≠ C := fun z => by
    have z1 := X0 _ _ hC
    rw [← z, hxo] at z1
    cases z1
  have hal' : PySem.W.alongIn K "__init__" ((cd.mro.dropWhile (· != .ref C)).drop 1) = some (some (.builtin "ValueError.__init__")) := by
    rw [hmro]
    simp only [List.dropWhile_cons, bne_self_eq_false, Bool.false_eq_true, if_false, List.drop_succ_cons, List.drop_zero]
    exact hal
  have hmro' : PySem.W.Looks (model P w) h' (mroOf (.ref C)) cd.mro := (PySem.W.looks_clsIn X1 hcls).andThen .now
  have hI : PySem.W.Looks (model P w) h' (isInstance (.ref a) (.type "ValueError")) true := (PySem.W.InstAt.type (od := none) ⟨k' _ _ hxo, rfl, rfl, trivial⟩).andThen (PySem.W.looks_subIn X1 T.vE)
  refine PySem.W.kxs_getMethod PySem.W.kxs_ValueError hso (PySem.W.looks_opaque X1 T.opq) hmro' rfl X1 hal' hI xC (by decide) ?_
  have I2 : Inv (cxI CX P w K mg base N qual scope f (.ref cda) cc A outer s0 H0 E) [] σ H ⟨h'.push (PySem.W.kxs_mw "ValueError.__init__" a), g, d, tk + 1, os⟩ := I1.kept (t' := tk + 1) fun b o e => Heap.get?_push_of_some _ e
  have I3 := I2.pins_of (pins' := [(h'.objs.size, PySem.W.kxs_mw "ValueError.__init__" a)]) fun p hp => by
    have e : p = (h'.objs.size, PySem.W.kxs_mw "ValueError.__init__" a) := by simpa using hp
    subst e
    obtain ⟨f0, f2, f3, _⟩ := I1.fpOk (Nat.le_refl _) (I1.hok.fresh (Nat.le_refl _))
    exact ⟨Heap.get?_push_size _ rfl, f0, f2, f3, fun v z => by cases z⟩
  have pa := pa_cons (X := cxI CX P w K mg base N qual scope f (.ref cda) cc A outer s0 H0 E) (pe_str (x := t) (pos := p3)) pa_nil hst
  refine PySem.W.kxs_callWith (i := "ValueError.__init__") (x := a) (by rw [show starEach [.Constant (.str t) k p3] (cxI CX P w K mg base N qual scope f (.ref cda) cc A outer s0 H0 E).env = _ from hst]; rfl) ?_
  rw [show starEach [.Constant (.str t) k p3] (cxI CX P w K mg base N qual scope f (.ref cda) cc A outer s0 H0 E).env = _ from hst]
  have run := pa.run p4 _ _ σ H (fun vs H1 => H1 = H ∧ vs.length = 1) I3 ⟨rfl, rfl⟩
  rw [show starEach [.Constant (.str t) k p3] (cxI CX P w K mg base N qual scope f (.ref cda) cc A outer s0 H0 E).env = _ from hst] at run
  refine Calls.evalArgs_plain (wpAny_mono run (fun us s3 ⟨ws, H3, I4, r4, e4, l4⟩ => ?_) fun _ _ z => z)
  rw [e4] at I4
  obtain ⟨hmw, _⟩ := I4.pin (h'.objs.size, PySem.W.kxs_mw "ValueError.__init__" a) (List.mem_append_right _ (List.mem_singleton.mpr rfl))
  refine ⟨hmw, ?_⟩
  obtain ⟨t2, hxo4⟩ := exo_at I4.hok ha
  have hl : us.length ≤ sizeLine := by
    rw [← Paired.length r4, l4, sizeLine_eq]
    decide
  have X4 : K.In s3.heap := I4.kIn
  show wpAny _ _ (call (.ref h'.objs.size) us) _ _ _
  obtain ⟨h4, g4, d4, tk4, os4⟩ := s3
  refine wpAny_call (codeAny_of_tree ?_)
  show wpAny _ _ (callAny (.ref h'.objs.size) ⟨us, []⟩) _ _ _
  simp only [callAny]
  refine wpAny_bind (wpAny_load hmw ?_)
  simp only [PySem.W.kxs_mw, show (Value.type "method-wrapper" == Value.type "method" || Value.type "method-wrapper" == Value.type "builtin_function_or_method" || Value.type "method-wrapper" == Value.type "method-wrapper") = true by decide, if_true]
  refine PySem.W.KFB.if_so (by decide) ?_
  refine wpAny_bind (PySem.W.check_bound_init F.excBase_ValueError.toExcCallFacts (X4 _ _ hC) hxo4 rfl ?_)
  refine wpAny_bind (wpAny_pure (wpAny_pure ?_))
  refine ⟨plainId_quiet F.excBase_ValueError.init.plain _, codeAny_builtin F.excBase_ValueError.initEntry ?_⟩
  refine PySem.W.exc_init_tree (cls := .ref C) (t0 := t2) (dv := none) (c2 := .none) (c3 := .none) (b4 := .bool false) hxo4 hl fun h5 k5 e5 _ => ?_
  have J := I4.write (t' := tk4) (x := a) (e := a) (o := exo a C none) (by rw [ha]; exact True.intro) (.inl rfl) k5 ⟨_, e5⟩ (exo_ok e5)
  have eu : upd H a (exo a C none) = H := by
    funext b
    by_cases hb : b = a
    · rw [hb, upd_same, ha]
    · rw [upd_ne hb]
  rw [eu] at J
  have J0 := J.pins_of (pins' := []) fun p hp => absurd hp (by simp)
  first
    | exact ⟨trivial, J0⟩
    | exact ⟨rfl, J0⟩
/-- THE RULE for such an __init__: the rest of the body's reading at the entry -/
theorem init_of {rest : List Stmt} {sp : Sp} {kk : Nat} (S : IScope N ps scope) (T : ErT P K mg C f cc cda) (hbody : body = .Expr (.Call (.Attribute (.Call (.Name "super" p0) [] [] p1) "__init__" p2) [.Constant (.str t) k p3] [] p4) p5 :: rest)
    (lk : K.lookup f = some ⟨oc, od, .func (PySem.W.ksFn name qual params body scope dV kV doc pm an (.ref cda) ct cc), osl⟩) (hcd : PySem.W.codeIn K (.ref cda) qual = true) (hp : (params.posonlyargs ++ params.args).head? = some ar) (har : ar.arg = "self") (hN : N[0]? = some ("self" : Str)) (hself : scope.names.lookup ("self" : Str) = some .local)
    {pl : Addr → Sem Bool} (he : ∀ L : Addr, eval (.Call (.Attribute (.Call (.Name "super" p0) [] [] p1) "__init__" p2) [.Constant (.str t) k p3] [] p4) (PySem.W.ksEnv qual scope L f (.ref cda) cc) = (do
      let ov ← attributeBase (.Call (.Name "super" p0) [] [] p1) "__init__" (PySem.W.ksEnv qual scope L f (.ref cda) cc) (eval (.Call (.Name "super" p0) [] [] p1) (PySem.W.ksEnv qual scope L f (.ref cda) cc))
      standAt p2.atName
      let (fn, first) ← holding [ov] (getMethod ov "__init__" (pl L))
      callWith p4 fn first (backTo p4 (starEach [.Constant (.str t) k p3] (PySem.W.ksEnv qual scope L f (.ref cda) cc))) []))
    (hi : ∀ L : Addr, interactive (PySem.W.ksEnv qual scope L f (.ref cda) cc) = false)
    (hs : ∀ L : Addr, swapsWith (.Call (.Attribute (.Call (.Name "super" p0) [] [] p1) "__init__" p2) [.Constant (.str t) k p3] [] p4) none p5.line (PySem.W.ksEnv qual scope L f (.ref cda) cc) = pure false)
    (hst : ∀ L : Addr, starEach [.Constant (.str t) k p3] (PySem.W.ksEnv qual scope L f (.ref cda) cc) = [(false, eval (.Constant (.str t) k p3) (PySem.W.ksEnv qual scope L f (.ref cda) cc))])
    (len : ∀ vs H Q E, sp vs H Q E → vs.length = ps.length) (first : ∀ vs H Q E, sp vs H Q E → ∃ a, vs[0]? = some (.ref a) ∧ H a = some (exo a C none))
    (hrest : ∀ (A : Around) (outer : List Env) (s : Shared) (H : Hp) (vs : List V) (Q : VK) (E : XK), Room kk (A.deeper (PySem.W.ksEnv qual scope s.heap.objs.size f (.ref cda) cc)) → sp vs H Q E →
      ∃ t, PSs (cxI CX P w K mg base N qual scope f (.ref cda) cc A outer s H E) rest t ∧ t { nx := fun _ H' => Q .non H', rt := Q } (L2.start N vs) H) :
    FnOk P w K mg base CX (kk + 1) f (PySem.W.ksFn name qual params body scope dV kV doc pm an (.ref cda) ct cc) ps sp := by
  refine ⟨len, fun A outer s H args us vs Q E hr e0 hb r hsp => ?_⟩
  have hl := len _ _ _ _ hsp
  have KX : K.In s.heap := e0.mod.kin.keeps fun b o e => (e0.bs b o e).1
  have lim : s.heap.NoLimit := e0.mod.nolimit.keeps fun b o e => (e0.bs b o e).1
  obtain ⟨cl, cld, csl, hcell⟩ := T.cell
  obtain ⟨a, ha0, ha⟩ := first _ _ _ _ hsp
  have hl2 : us.length = ps.length := by rw [← r.length]; exact hl
  refine PySem.ks_codeAny_call_defAt (binds := ps.zip us) hr.depth (KX _ _ lk) rfl lim (PySem.W.codeRec_of KX hcd) rfl hb S.ncell (fun ⟨n, v⟩ hy => S.par n (List.of_mem_zip hy).1) (fun h1 hns hk => ?_) S.co S.gen S.kind
  obtain ⟨tr, ht, hq⟩ := hrest A outer s H vs Q E (hr.deeper _) hsp
  have I : Inv (cxI CX P w K mg base N qual scope f (.ref cda) cc A outer s H E) [] (L2.start N vs) H { s with heap := h1, toks := s.toks + (ps.zip us).length } := inv_startI S hr.hd e0 hl r hcell hns hk
  have hσ : (L2.start N vs)[0]? = some (some (.ref a)) := by
    unfold L2.start
    cases vs with
    | nil => simp at ha0
    | cons v vs =>
      have e : v = .ref a := by simpa using ha0
      simp [e]
  have fst := super_st (body := body) (X := cxI CX P w K mg base N qual scope f (.ref cda) cc A outer s H E) rfl S T lk hp har hN hself (he s.heap.objs.size) (hi s.heap.objs.size) (hs s.heap.objs.size) (hst s.heap.objs.size) I ha hσ
  have fin : ∀ {σ' : L2.St} {H' : Hp} {v : V} {u : Value} {s' : Shared}, Inv (cxI CX P w K mg base N qual scope f (.ref cda) cc A outer s H E) [] σ' H' s' → RelV v u → Q v H' → CE outer P w H s Q u s' :=
    fun {σ' H' v u s'} J rv q => ⟨v, H', J.os, J.bare, J.base, J.hok, rv, q⟩
  have whole : _root_.PySem.wpAt (model P w) (cxI CX P w K mg base N qual scope f (.ref cda) cc A outer s H E).A (Code.func body (cxI CX P w K mg base N qual scope f (.ref cda) cc A outer s H E).env) (execs (.Expr (.Call (.Attribute (.Call (.Name "super" p0) [] [] p1) "__init__" p2) [.Constant (.str t) k p3] [] p4) p5 :: rest) (cxI CX P w K mg base N qual scope f (.ref cda) cc A outer s H E).env)
      (fun fl s' => CR CX outer P w H s Q E (.ok (.ret (match fl with | .ret v => v | _ => .none))) s') (cxI CX P w K mg base N qual scope f (.ref cda) cc A outer s H E).xe { s with heap := h1, toks := s.toks + (ps.zip us).length } := by
    refine PySem.ks_wpAt_execs_cons (PySem.ks_wpAt_mono fst (fun fl s' ⟨e, J⟩ => ?_) fun _ _ z => z)
    subst e
    refine PySem.wpAt_of_wpAny (wpAny_mono (ht.run [] s' _ H _ J hq) (fun fl s'' hs => ?_) fun _ _ z => z)
    cases fl with
    | ret u =>
      obtain ⟨v, σ', H', J, rv, q⟩ := hs
      exact fin J rv q
    | next =>
      obtain ⟨σ', H', J, q⟩ := hs
      exact fin (v := V.non) (u := Value.none) J rfl q
    | brk =>
      obtain ⟨_, _, _, q⟩ := hs
      exact False.elim q
    | cont =>
      obtain ⟨_, _, _, q⟩ := hs
      exact False.elim q
  subst hbody
  exact whole
end
end DL

/-! The data layer, part J: own errors made, raised, caught, looked at; calls where an error is handled; own __len__. -/
namespace PySem.W
open PySem PySem.Spec PySem.Calls PyProof.Rows
/-- isinstance of a caught error, with or without a dict -/
theorem dl_findObj {K : Frag} {C : Addr} {name : Str} {a g : Value} {od : Option Obj} (hc : (clsIn K C).isSome = true) (ha : findIn K (.ref C) name = some (some a)) (hg : specialIn K a "__get__" = some (some g)) (ht : takesIn K a = some true) : findObj K C od name = some (.bind g a) := by
  obtain ⟨cd, hc⟩ := Option.isSome_iff_exists.mp hc
  unfold findObj
  rw [hc, Option.bind_some, ha, Option.bind_some]
  simp [hg, ht]
theorem dl_classE {prog : Program} {w : World} {A : Around} {E : Value → Shared → Prop} {s : Shared} {K : Frag} {x D : Addr} {ox : Obj} {od : Option Obj} {Q : Option Value → Shared → Prop} (C : L2.ExcC K D) (X : K.In s.heap) (I : InstAt s.heap x ox D od) (h : Q (some (.ref D)) { s with toks := s.toks + 1 }) :
    wpAny (model prog w) A (getAttr? (.ref x) "__class__") Q E s := by
  have hf : findObj K D od "__class__" = some (.bind (.builtin "getset_descriptor.__get__") (.builtin "object.__class__")) := dl_findObj (by obtain ⟨cd, hc, _⟩ := any_some C.hd; rw [hc]; rfl) C.ha C.hn C.ht
  obtain ⟨hp, g, d, t, os⟩ := s
  have L0 := I.type (M := model prog w)
  have L1 := looks_findIn (M := model prog w) X C.hg
  have L2 := looks_findIn (M := model prog w) X C.hk
  have L3 := looks_find (M := model prog w) X I hf
  have sub : Looks (model prog w) hp (isInstance (.ref x) (.type "BaseException")) true := L0.andThen (looks_subIn X C.hs)
  have hx0 : (false && onTheHeap (Value.builtin "BaseException.__getattribute__")) = false := rfl
  have hx2 : (Value.builtin "BaseException.__getattribute__" == Value.builtin "object.__getattribute__") = false := by decide +kernel
  have hx1 : (onTheHeap (Value.ref D) && Value.builtin "BaseException.__getattribute__" == Value.builtin "object.__getattribute__") = false := by rw [hx2]; rfl
  unfold getAttr? getAttrBy? getAttrBy
  refine wpAny_bind (wpAny_mkText (wpAny_bind (wpAny_attempt (wpAny_holding (wpAny_bind (L0.at (wpAny_bind (L1.at ?_))))))))
  show wpAny _ _ (if (onTheHeap (Value.ref D) && Value.builtin "BaseException.__getattribute__" == Value.builtin "object.__getattribute__") = true then _ else _) _ _ _
  rw [hx1, if_neg Bool.false_ne_true]
  unfold getAttrByItsOwn hookBefore
  refine wpAny_bind ?_
  rw [if_pos (show onTheHeap (Value.ref D) = true from rfl)]
  refine L2.at ?_
  refine wpAny_bind (wpAny_attempt (wpAny_holding ?_))
  unfold callGetattribute
  rw [hx0, if_neg Bool.false_ne_true]
  unfold boundAndCalled
  rw [PySem.F.excAttr_ValueError.ga.bind (.ref x)]
  refine wpAny_bind (wpAny_pure ?_)
  show wpAny _ _ (call (.builtin "BaseException.__getattribute__") [.ref x, .str "__class__" t]) _ _ _
  refine wpAny_call (codeAny_call_builtin PySem.F.excAttr_ValueError.ga.plain PySem.F.entry_bexc_ga ?_)
  refine @check_slot (model prog w) _ _ ⟨hp, g, d, t + 1, os⟩ "BaseException.__getattribute__" "BaseException" "__getattribute__" (.ref x) [.str "__class__" t] [] _ (by decide +kernel) (by decide +kernel) sub (PySem.F.args_bexc_ga (.ref x) (.str "__class__" t)) ?_
  unfold Builtin.«object.__getattribute__»
  refine wpAny_bind (wpAny_of_eq (a := ((Value.ref x : Value), [Value.str "__class__" t])) (by first | rfl | (simp only [slotArgs]; rfl)) ?_)
  refine wpAny_bind (wpAny_pure (wpAny_bind (L0.at (wpAny_bind (L3.at ?_)))))
  show wpAny _ _ (holding [Value.builtin "object.__class__"] (call (.builtin "getset_descriptor.__get__") [.builtin "object.__class__", .ref x, .ref D]) >>= ret) _ _ _
  refine wpAny_bind (wpAny_holding (wpAny_call (class_get (s := ⟨hp, g, d, t + 1, os⟩) (ox := ox) (od := od) X I C.hm ?_)))
  refine wpAny_pure ?_
  show wpAny _ _ (handedOut (.ref D)) _ _ _
  rw [handedOut_of (v := .ref D) rfl]
  first
    | exact wpAny_pure (wpAny_pure h)
    | exact wpAny_pure h
    | exact wpAny_pure (wpAny_bind (wpAny_pure (wpAny_pure h)))
theorem dl_kitx {K : Frag} {x D : Addr} {ox : Obj} (C : L2.ExcC K D) : KitX K (.ref x) (.ref D) (fun h => ∃ od, InstAt h x ox D od) where
  ty := fun _ _ _ ⟨_, I⟩ => I.type
  it := fun _ _ X _ => by
    obtain ⟨cdD, hcD, _⟩ := any_some C.hd
    unfold clsIn at hcD
    split at hcD
    · rename_i c' d' cd' sl' ho
      intro A' Q' E' s' k q
      unfold isType loadHead
      exact wpAny_bind (wpAny_loadPart (k _ _ (X _ _ ho)) (wpAny_pure q))
    · cases hcD
  ne := fun h tp dd its n sl X htp => by
    obtain ⟨cdD, hcD, _⟩ := any_some C.hd
    refine Bool.eq_false_iff.mpr fun q => ?_
    have e : D = tp := Value.ref.inj (beq_iff_eq.mp q)
    subst e
    unfold clsIn at hcD
    split at hcD
    · rename_i c' d' cd' sl' ho
      have z := (X _ _ ho).symm.trans htp
      cases z
    · cases hcD
  ca := fun X ⟨_, I⟩ k => dl_classE C X I k
end PySem.W
namespace DL
open PySem PySem.Spec PyProof.Rows L2

/-! ### an error is made -/
def spI1 (C : Addr) (f1 : Str) : Sp := fun vs H Q _ => ∃ a y, vs = [.ref a, y] ∧ H a = some (exo a C none) ∧ ∀ dx, H dx = none → dx ≠ a → Q .non (upd (upd H dx (exd dx [(f1, y)])) a (exo a C (some dx)))
def spI2 (C : Addr) (f1 f2 : Str) : Sp := fun vs H Q _ => ∃ a y z, vs = [.ref a, y, z] ∧ H a = some (exo a C none) ∧ ∀ dx, H dx = none → dx ≠ a → Q .non (upd (upd (upd H dx (exd dx [(f1, y)])) a (exo a C (some dx))) dx (exd dx [(f2, z), (f1, y)]))
/-- the promise's ends, in one form: the dict fs behind -/
def IEnd (C : Addr) (sp : Sp) (n : Nat) (fs : List V → List (Str × V)) : Prop := ∀ (a : Addr) (vs : List V) (H : Hp) (Q : VK) (E : XK), H a = none → vs.length = n →
  (∀ dx H2, H dx = none → dx ≠ a → H2 a = some (exo a C (some dx)) → H2 dx = some (exd dx (fs vs)) → (∀ b, b ≠ a → b ≠ dx → H2 b = H b) → Q .non H2) → sp (.ref a :: vs) (upd H a (exo a C none)) Q E
theorem len1 {α : Type} {xs : List α} (h : xs.length = 1) : ∃ x, xs = [x] := match xs, h with | [x], _ => ⟨x, rfl⟩
theorem len2 {α : Type} {xs : List α} (h : xs.length = 2) : ∃ x y, xs = [x, y] := match xs, h with | [x, y], _ => ⟨x, y, rfl⟩
theorem iend1 {C : Addr} {f1 : Str} : IEnd C (spI1 C f1) 1 (fun vs => ([f1].zip vs).reverse) := fun a vs H Q E ha hl h => by
  obtain ⟨y, rfl⟩ := len1 hl
  refine ⟨a, y, rfl, upd_same, fun dx n ne => h dx _ ?_ ne upd_same ?_ fun b h1 h2 => ?_⟩
  · rw [upd_ne ne] at n; exact n
  · rw [upd_ne ne, upd_same]; rfl
  · rw [upd_ne h1, upd_ne h2, upd_ne h1]
theorem iend2 {C : Addr} {f1 f2 : Str} : IEnd C (spI2 C f1 f2) 2 (fun vs => ([f1, f2].zip vs).reverse) := fun a vs H Q E ha hl h => by
  obtain ⟨y, z, rfl⟩ := len2 hl
  refine ⟨a, y, z, rfl, upd_same, fun dx n ne => h dx _ ?_ ne ?_ ?_ fun b h1 h2 => ?_⟩
  · rw [upd_ne ne] at n; exact n
  · rw [upd_ne (Ne.symm ne), upd_same]
  · rw [upd_same]; rfl
  · rw [upd_ne h2, upd_ne h1, upd_ne h2, upd_ne h1]
section
variable {P : Program} {w : World} {K : PySem.W.Frag} {mg : Str → Option Value} {base : Heap} {qual : Str} {scope : Scope} {C f cc cda : Addr} {f1 f2 : Str}
theorem ends1 {X : Cx} {a : Addr} {H : Hp} {y : V} {Q : VK} {nx : L2.St → Hp → Prop} {σ : L2.St} {rt : VK} (T : OexC X.K C) (h1 : PySem.W.findIn X.K (.ref C) f1 = some none) (h0 : σ[0]? = some (some (.ref a))) (hy : σ[1]? = some (some y)) (ha : H a = some (exo a C none))
    (q : ∀ dx, H dx = none → dx ≠ a → nx σ (upd (upd H dx (exd dx [(f1, y)])) a (exo a C (some dx)))) : tOst X.K f1 (tVar 0) (tVar 1) { nx := nx, rt := rt } σ H :=
  ⟨y, hy, .ref a, h0, a, C, rfl, T, h1, .inl ⟨ha, q⟩⟩
end

/-- what C(e, ..) reads as -/
def dMk (C : Addr) (fs : List Str) (a : DTA) : DX → DSt → DH → DX → Prop := fun E σ H Qx => a E σ H fun xs H1 => xs.length = fs.length ∧ ∀ d, H1 d = none → Qx C (some d) (put H1 d (.xd (fs.zip xs).reverse))
def SimMk (K : PySem.W.Frag) (W : WX) (t : L2.St → Hp → XK → Prop) (d : DX → DSt → DH → DX → Prop) : Prop := ∀ σd Hd σ H (Qx E : DX) (Q : XK), RS K σd Hd σ H → WantX K W σd σ H E → d E σd Hd Qx → (∀ C dd Hd' H', Qx C dd Hd' → RS K σd Hd' σ H' → Up H H' → Q (.ref C) dd H') → t σ H Q
def DPMk (X : Cx) (W : WX) (e : Expr) (d : DX → DSt → DH → DX → Prop) : Prop := ∃ t, L2N.PMk X e t ∧ SimMk X.K W t d
theorem repK_zip {K : PySem.W.Frag} {H : Hp} : ∀ {fs : List Str} {xs : List D} {vs : List V}, Reps K H xs vs → RepK K H (fs.zip xs) (fs.zip vs)
  | [], _, _, _ => by rw [List.zip_nil_left, List.zip_nil_left]; rfl
  | f :: fs, [], _, r => by
    cases (show _ = [] from r)
    rw [List.zip_nil_right, List.zip_nil_right]; rfl
  | f :: fs, x :: xs, _, r => by
    obtain ⟨v, t, e, h1, h2⟩ := r
    subst e
    exact ⟨v, _, rfl, h1, repK_zip h2⟩
theorem repK_rev {κ : Type} {K : PySem.W.Frag} {H : Hp} : ∀ {ds : List (κ × D)} {vs : List (κ × V)}, RepK K H ds vs → RepK K H ds.reverse vs.reverse
  | [], _, h => by rw [show _ = [] from h]; rfl
  | (k, d) :: ds, _, h => by
    obtain ⟨v, r, e, h1, h2⟩ := h
    subst e
    rw [List.reverse_cons, List.reverse_cons]
    have go : ∀ {ds : List (κ × D)} {vs : List (κ × V)}, RepK K H ds vs → RepK K H (ds ++ [(k, d)]) (vs ++ [(k, v)]) := by
      intro ds
      induction ds with
      | nil => intro vs h; rw [show vs = [] from h]; exact ⟨v, [], rfl, h1, rfl⟩
      | cons p ds ih =>
        intro vs h
        obtain ⟨k2, d2⟩ := p
        obtain ⟨v2, r2, e2, g1, g2⟩ := h
        subst e2
        exact ⟨v2, r2 ++ [(k, v)], rfl, g1, ih g2⟩
    exact go (repK_rev h2)
section
variable {X : Cx} {W : WX} {k : Nat} {C fI cc cda : Addr} {fd : FuncData} {ps : List Str} {sp : Sp} {fs : List Str} {x : Str} {p pos : Pos} {e : Expr} {es : List Expr} {ta : TA} {dA : DTA}
/-- C(e, ..), C's own __init__ keeping sp -/
theorem pmk_er (T : OexC X.K C) (iC : PySem.W.findIn X.K (.ref C) "__init__" = some (some (.ref fI))) (tI : PySem.W.typeIn X.K (.ref fI) = some (.type "function"))
    (F1 : FnOk X.prog X.w X.K X.mg X.base (L2N.CX X.prog X.w) k fI fd ps sp) (hr : Room (k + 1) X.A) (hb : Binds X.K fd ps []) (hg : Gl X x) (hm : X.mg x = some (.ref C)) (ha : PA X (e :: es) ta)
    (hdb : (x == ("__debug__" : Str)) = false := by decide) (he : starEach (e :: es) X.env = (false, eval e X.env) :: starEach es X.env := by rfl) (hpl : (backTo pos (starEach es X.env)).any (·.1) = false := by rfl) :
    L2N.PMk X (.Call (.Name x p) (e :: es) [] pos) (tMkO C sp [] ta) := by
  intro pins s σ H Q I h
  obtain ⟨nm, q, N, bs, bm, sn, sub, ab, col, dd, k0, k1, k2, k3, k5, hC, hbm⟩ := T.cls
  refine wpAny_Call_Name_kw (ld_glob I hg hm ?_ hdb)
  refine PySem.W.callWith_K (h₀ := X.base) I.ok.mod.kin T.kC (thn (ha.run pos pins s σ H _ I h) fun us s1 ⟨vs, H1, I1, r1, hz, q1⟩ => ⟨I1.kIn, ?_⟩) he hpl
  show wpAny _ _ (call (.ref C) us) _ _ _
  obtain ⟨hp, g, dr, tk, os⟩ := s1
  have hsz : hp.objs.size ≤ hp.objs.size + 1 := Nat.le_succ _
  have hn : H1 (hp.objs.size + 1) = none := I1.hok.fresh hsz
  have hq := q1 (hp.objs.size + 1) hn
  have kk : ∀ b o, hp.get? b = some o → ((hp.push (PySem.W.kdv_tup us)).push (PySem.HandSPX.excO C hp.objs.size)).get? b = some o := fun b o e => Heap.get?_push_of_some _ (Heap.get?_push_of_some _ e)
  have hget : ((hp.push (PySem.W.kdv_tup us)).push (PySem.HandSPX.excO C hp.objs.size)).get? (hp.objs.size + 1) = some (PySem.HandSPX.excO C hp.objs.size) := by heap_get
  have I2 : Inv X pins σ (upd H1 (hp.objs.size + 1) (exo (hp.objs.size + 1) C none)) ⟨(hp.push (PySem.W.kdv_tup us)).push (PySem.HandSPX.excO C hp.objs.size), g, dr, tk, os⟩ :=
    I1.laid (t' := tk) (a := hp.objs.size + 1) (o := exo (hp.objs.size + 1) C none) (h' := (hp.push (PySem.W.kdv_tup us)).push (PySem.HandSPX.excO C hp.objs.size)) kk hsz (exo_ok hget)
  have r2 : Vals (V.ref (hp.objs.size + 1) :: (vs ++ [])) (Value.ref (hp.objs.size + 1) :: (us ++ [])) := .cons rfl (r1.append .nil)
  have hl : (Value.ref (hp.objs.size + 1) :: us ++ []).length = ps.length := by
    have e := r2.length
    rw [F1.len _ _ _ _ hq] at e
    exact e.symm
  have hus : us.length ≤ sizeLine := by
    rw [← Paired.length r1, sizeLine_eq]
    omega
  refine wpAny_call (PySem.HandSPX.call_own F.excBase_ValueError (fun Y => PySem.HandSPX.refsVE_contains Y bm hbm) (I1.kIn _ _ hC) (PySem.W.looks_findIn I1.kIn iC) (fun self => PySem.W.bind_fn I1.kIn self tI) hus
    (codeAny_mono (F1.run _ X.stack _ _ ⟨Value.ref (hp.objs.size + 1) :: us, []⟩ (Value.ref (hp.objs.size + 1) :: (us ++ [])) _ _ (fun _ _ _ => False) (hr.make C us []) (I2.env0.make C us []) (by have bnd := hb _ (Value.ref (hp.objs.size + 1) :: us) I2.kIn hl; rw [List.append_nil] at bnd ⊢; exact bnd) r2 hq) fun r s' hq' => ?_))
  cases r with
  | error er =>
    obtain ⟨_, _, _, _, _, _, _, _, _, _, _, _, z⟩ := hq'
    exact z.elim
  | ok fl =>
    cases fl with
    | ret u =>
      obtain ⟨v, H2, os2, bare2, un2, hok2, rv, ev, d, gs, ea, ed, hd1, q2⟩ := hq'
      subst ev
      obtain ⟨h2, g2, d2, t2, os'⟩ := s'
      refine ⟨rv, ?_⟩
      obtain ⟨t0, G, J, kG, ge, hoe, na⟩ := mk_end0 (d2 := d2) (t2 := t2) I1 hsz kk un2 hok2 os2 bare2 ea ed hd1
      exact ⟨_, _, _, ⟨G, g2, d2, t2, os'⟩, _, .ref C, some d, rfl, J, kG, ge, hoe, ⟨rfl, rfl, fun vs z => by cases z; rfl⟩, rfl, rfl, na, rfl, bare2, raises_own T.exC T.tyC, q2⟩
    | next => exact False.elim hq'
    | brk => exact False.elim hq'
    | cont => exact False.elim hq'
theorem d_mk (T : OexC X.K C) (iC : PySem.W.findIn X.K (.ref C) "__init__" = some (some (.ref fI))) (tI : PySem.W.typeIn X.K (.ref fI) = some (.type "function")) (ie : IEnd C sp fs.length (fun vs => (fs.zip vs).reverse)) (hfs : fs.length ≤ 1000)
    (F1 : FnOk X.prog X.w X.K X.mg X.base (L2N.CX X.prog X.w) k fI fd ps sp) (hr : Room (k + 1) X.A) (hb : Binds X.K fd ps []) (hm : X.mg x = some (.ref C)) (ha : DPA X W (e :: es) dA) (hg : Gl X x := by rfl)
    (hdb : (x == ("__debug__" : Str)) = false := by decide) (he : starEach (e :: es) X.env = (false, eval e X.env) :: starEach es X.env := by rfl) (hpl : (backTo pos (starEach es X.env)).any (·.1) = false := by rfl) :
    DPMk X W (.Call (.Name x p) (e :: es) [] pos) (dMk C fs dA) := by
  obtain ⟨t, h1, h2⟩ := ha
  refine ⟨_, pmk_er T iC tI F1 hr hb hg hm h1 hdb he hpl, fun σd Hd σ H Qx E Q rs wx q w => h2 σd Hd σ H _ _ E rs wx q fun xs H1 vs H1' q1 rx rs1 u1 => ?_⟩
  obtain ⟨hl, q1⟩ := q1
  refine ⟨by rw [rx.len, hl]; exact hfs, fun a na => ?_⟩
  rw [List.append_nil]
  refine ie a vs H1' _ _ na (by rw [rx.len]; exact hl) fun dx H2 nd ne ea ed oth => ⟨rfl, dx, _, ea, ed, nd, ?_⟩
  have eq : upd (del H2 a) dx (.xd (fs.zip vs).reverse) = upd H1' dx (.xd (fs.zip vs).reverse) := by
    funext b
    by_cases h1 : b = dx
    · rw [h1, upd_same, upd_same]
    · rw [upd_ne h1, upd_ne h1]
      by_cases h2 : b = a
      · rw [h2, del_same, na]
      · rw [del_ne h2, oth b h2 h1]
  rw [eq]
  refine w C (some dx) _ _ (q1 dx (rs1.hp.fresh nd)) (rs1.mono (Up.new nd) (rs1.hp.new nd ⟨_, upd_same, ?_⟩)) (u1.trans (Up.new nd))
  exact (repK_rev (repK_zip rx)).up (Up.new nd)
def dRaise (d : DX → DSt → DH → DX → Prop) : DTS := fun D σ H => d (D.at σ) σ H fun C dd H' => D.ex C dd σ H'
theorem ds_raise {d : DX → DSt → DH → DX → Prop} (hc : X.calm = true) (tk : L2N.Takes X W) (h : DPMk X W e d) : DPS X W (.Raise (some e) none pos) (dRaise d) := by
  obtain ⟨t, h1, h2⟩ := h
  exact ⟨_, L2N.ps_raise hc tk h1, fun Dd D σd Hd σ H rs o q => h2 σd Hd σ H _ _ _ rs (o.wx σd σ) q fun C dd Hd' H' q' rs' up => o.ex C dd σd Hd' σ H' q' rs' up⟩
end

/-! ### try: .. except C as n: .. -/
def dTry (isC : Addr → Option Bool) (i : Nat) (tb : DTS) (ts : Addr → Value → Option Addr → DTS) : DTS := fun D σ H => tb { D with ex := fun C dd σ' H' => ∃ b, isC C = some b ∧
    (b = true → ∀ a, H' a = none → ts a (.ref C) dd { nx := fun σ'' H'' => D.nx (σ''.set i none) H'', rt := D.rt, bk := fun σ'' H'' => D.bk (σ''.set i none) H'', ct := fun σ'' H'' => D.ct (σ''.set i none) H'' } (σ'.set i (some (.ref a))) H') ∧
    (b = false → D.ex C dd σ' H') } σ H
section
variable {X : Cx} {W : WX} {x n : Str} {c : Value} {i : Nat} {body suite : List Stmt} {b₀ : Stmt} {np pos pos' : Pos} {tb : DTS} {ts : Addr → Value → Option Addr → DTS}
theorem ds_try (hs : X.stack = X.env :: X.outer) (hf : X.env.frame = some X.env.locals) (hN : X.N.Nodup) (hi : X.N[i]? = some n) (hln : X.env.kindOf n = some .local) (hc : Names X x c) (tk : L2N.Takes X W)
    (hb : ∀ (W' : WX) (pn : List (Addr × Obj)) (xe : Value → Shared → Prop), L2N.Takes (X.tr pn xe) W' → PassesOwn (model X.prog X.w) X.A X.env xe → DPSs (X.tr pn xe) W' body tb)
    (hsu : ∀ (a : Addr) (oe : Obj) (cls : Value) (d : Option Addr) (pn : List (Addr × Obj)), L2N.Zn cls d oe → (∃ vs, oe.data = .fields vs) → DPSs (X.suite a ((a, oe) :: pn)) WF (b₀ :: suite) (ts a cls d)) :
    DPS X W (.Try body [.ExceptHandler (some (.Name x np)) (some n) (b₀ :: suite) pos'] [] [] pos) (dTry (fun C => PySem.W.exmOne X.K (.ref C) c) i tb ts) := by
  refine ⟨_, L2N.ps_try_as (tb := fun W' => canS X.K W' tb) (ts := fun a cls d => canS X.K WF (ts a cls d)) (Wout := W) hs hf hN hi hln hc tk (fun W' pn xe tk' ps => (hb W' pn xe tk' ps).can) (fun a oe cls d pn z f => (hsu a oe cls d pn z f).can), fun Dd D σd Hd σ H rs o q => ?_⟩
  refine ⟨σd, Hd, { Dd with ex := fun C dd σ' H' => ∃ b, PySem.W.exmOne X.K (.ref C) c = some b ∧
    (b = true → ∀ a, H' a = none → ts a (.ref C) dd { nx := fun σ'' H'' => Dd.nx (σ''.set i none) H'', rt := Dd.rt, bk := fun σ'' H'' => Dd.bk (σ''.set i none) H'', ct := fun σ'' H'' => Dd.ct (σ''.set i none) H'' } (σ'.set i (some (.ref a))) H') ∧
    (b = false → Dd.ex C dd σ' H') }, rs, ⟨o.nx, o.rt, o.bk, o.ct, ?_⟩, q⟩
  rintro C dd σd' Hd' σ' H' ⟨b, hb1, hyes, hno⟩ rs' up
  refine ⟨b, hb1, fun e a na => ?_, fun e => o.ex C dd σd' Hd' σ' H' (hno e) rs' up⟩
  refine ⟨σd'.set i (some (.ref a)), Hd', _, rs'.set (d := .ref a) (v := .ref a) rfl i, ?_, hyes e a (rs'.hp.fresh na)⟩
  exact ⟨fun s1 h1 s2 h2 q r u => o.nx _ h1 _ h2 q (r.unset i) (up.trans u), fun x h1 v h2 q rx rh u => o.rt x h1 v h2 q rx rh (up.trans u), fun s1 h1 s2 h2 q r u => o.bk _ h1 _ h2 q (r.unset i) (up.trans u), fun s1 h1 s2 h2 q r u => o.ct _ h1 _ h2 q (r.unset i) (up.trans u), fun _ _ _ _ _ _ z _ _ => z.elim⟩
end

/-! ### the caught error looked at -/
def dXf (a C : Addr) (d : Option Addr) (cls : Value) (f : Str) (e : DTE) : DTE := fun E σ H Q => e E σ H fun x H1 => x = .ref a ∧ cls = .ref C ∧ ∃ dd fs v, d = some dd ∧ H1 dd = some (.xd fs) ∧ fs.lookup f = some v ∧ Q v H1
section
variable {X : Cx} {W : WX} {a C : Addr} {oe : Obj} {cls : Value} {d : Option Addr} {pn : List (Addr × Obj)} {e : Expr} {de : DTE} {pos : Pos} {n : Str}
theorem d_xf (T : XfC X.K C) (hno : PySem.W.findIn X.K (.ref C) n = some none) (hz : L2N.Zn cls d oe) (hf : ∃ vs, oe.data = .fields vs) (he : DPE (X.suite a ((a, oe) :: pn)) W e de)
    (hb : attributeBase e n X.env (eval e X.env) = eval e X.env := by rfl) : DPE (X.suite a ((a, oe) :: pn)) W (.Attribute e n pos) (dXf a C d cls n de) := by
  obtain ⟨t, h1, h2⟩ := he
  refine ⟨_, pe_xf T hno hz.zc hf h1 hb, fun σd Hd σ H Qd Q E rs wx q w => h2 σd Hd σ H _ _ E rs wx q fun x H1 v H1' q1 rx rs1 u1 => ?_⟩
  obtain ⟨ex, ec, dd, fs, y, ed, hh, hl, q2⟩ := q1
  subst ex
  obtain ⟨gs, e1, rk⟩ := rs1.hp _ _ hh
  obtain ⟨u, hu, ru⟩ := rk.lookup hl
  exact ⟨rx, ec, dd, gs, u, ed, e1, hu, w y H1 u H1' q2 ru rs1 u1⟩
/-- isinstance(e, c), e the caught error -/
def dIsE (K : PySem.W.Frag) (C a : Addr) (d : Option Addr) (cls : Value) : DRA := fun xs H Q => ∃ (c : D) (u : Value) (b : Bool), xs = [.ref a, c] ∧ cls = .ref C ∧ (∀ dd, d = some dd → ∃ fs, H dd = some (.xd fs)) ∧ ClsD c u ∧ PySem.W.kitOne K (.ref C) u = some b ∧ Q (.bl b) H
theorem dcl_isE (T : ExcC X.K C) (hz : L2N.Zn cls d oe) (hf : ∃ vs, oe.data = .fields vs) : DCl (X.suite a ((a, oe) :: pn)) (.builtin "isinstance") (dIsE X.K C a d cls) := by
  refine ⟨fun xs H Q => ∃ (c : V) (u : Value) (b : Bool), xs = [.ref a, c] ∧ cls = .ref C ∧ (∀ dd, d = some dd → ∃ fs, H dd = some (.xd fs)) ∧ ClsV c u ∧ PySem.W.kitOne X.K (.ref C) u = some b ∧ Q (.bl b) H, fun pins s σ H xs us Q I r h => ?_, fun xs vs Hd H Qd Q rx rh q k => ?_⟩
  · obtain ⟨c, u, b, rfl, ec, hd, hcv, e, q⟩ := h
    subst ec
    cases r with
    | @cons _ u0 _ _ r0 rr =>
      cases rr with
      | @cons _ u1 _ _ r1 rr =>
        cases rr
        obtain rfl : u0 = Value.ref a := r0
        have eu : u1 = u := by
          cases hcv with
          | ty n => exact r1
          | own C => exact r1
        subst eu
        obtain ⟨hget, _⟩ := I.pin (a, oe) (List.mem_append_left _ List.mem_cons_self)
        obtain ⟨vs, hv⟩ := hf
        have J : ∃ od, PySem.W.InstAt s.heap a oe C od := by
          obtain ⟨oc, odx, oda, osl⟩ := oe
          obtain ⟨h1, h2, _⟩ := hz
          dsimp only at h1 h2 hv
          subst h1 h2 hv
          cases odx with
          | none => exact ⟨none, hget, rfl, rfl, trivial⟩
          | some dd =>
            obtain ⟨fs, hx⟩ := hd dd rfl
            have ho : ObjOk X.prog X.w H s.heap dd (.xd fs) := I.hok dd _ hx
            obtain ⟨mA, hns, _⟩ := ho
            obtain ⟨od, hod, _⟩ := lookIn_ns hns
            exact ⟨some od, hget, rfl, rfl, hod⟩
        exact PySem.W.kia_one (PySem.W.dl_kitx T) I.kIn J e (fun z => nomatch z) fun tk => ⟨.bl b, H, I.kept (t' := tk) fun _ _ z => z, rfl, q⟩
  · obtain ⟨c, u, b, rfl, ec, hd, hc, e, q⟩ := q
    obtain ⟨v, w, rfl, r1, r2⟩ := reps2 rx
    refine ⟨w, u, b, by rw [show v = _ from r1], ec, fun dd ed => ?_, hc.v r2, e, k.here q rfl rh⟩
    obtain ⟨fs, hx⟩ := hd dd ed
    obtain ⟨gs, e1, _⟩ := rh _ _ hx
    exact ⟨gs, e1⟩
end

/-! ### calls where an error is handled -/
section
variable {X : Cx} {W : WX} {k : Nat} {f : Addr} {fd : FuncData} {ps : List Str} {sp : DSp} {x : Str} {p pos : Pos} {e : Expr} {es : List Expr} {dA : DTA}
theorem takesF {X : Cx} : L2N.Takes X WF := fun _ _ ⟨_, _, _, _, _, _, _, _, _, _, _, _, _, _, _, _, w⟩ => w.elim
theorem hot_suite {a : Addr} {oe : Obj} {cls : Value} {d : Option Addr} {pn : List (Addr × Obj)} (hz : L2N.Zn cls d oe) (hf : ∃ vs, oe.data = .fields vs) : L2H.HotC (X.suite a ((a, oe) :: pn)) := by
  obtain ⟨vs, hv⟩ := hf
  exact ⟨(a, oe), ⟨rfl, vs, hv, hz.2.2 vs hv⟩, List.mem_cons_self⟩
theorem d_callH (F : DFnH X.prog X.w X.K X.mg X.base k f fd ps sp) (hr : L2H.RoomH k X.A) (hc : L2H.HotC X) (tk : L2N.Takes X W) (hm : X.mg x = some (.ref f)) (hk : PySem.W.keepIn X.K (.ref f) = true) (hb : Binds X.K fd ps []) (ha : DPA X W (e :: es) dA) (hg : Gl X x := by rfl)
    (hdb : (x == ("__debug__" : Str)) = false := by decide) (he : starEach (e :: es) X.env = (false, eval e X.env) :: starEach es X.env := by rfl) (hpl : (backTo pos (starEach es X.env)).any (·.1) = false := by rfl) : DPE X W (.Call (.Name x p) (e :: es) [] pos) (dCall sp [] dA) := by
  obtain ⟨t, h1, h2⟩ := ha
  refine ⟨_, L2H.pe_callH F hr hc hg hm hk hb (fun σ => L2N.passAt tk σ) h1 hdb he hpl, fun σd Hd σ H Qd Q E rs wx q w => h2 σd Hd σ H _ _ E rs wx q fun xs H1 vs H1' q1 rx rs1 u1 => ?_⟩
  exact ⟨xs ++ [], H1, Qd, E, by rw [List.append_nil]; exact rx, rs1.hp, q1, (w.to u1).v rs1, wishX (wx.to u1) rs1⟩
end

/-! ### len(o), o's class has a __len__ -/
theorem Env0.in1 {P : Program} {w : World} {K : PySem.W.Frag} {mg : Str → Option Value} {base : Heap} {A : Around} {outer : List Env} {s : Shared} {H : Hp} (e : Env0 P w K mg base A outer s H) : Env0 P w K mg base A.in1 outer s H := ⟨by first | exact e.frames | (simpa [Around.in1] using e.frames), e.mod, e.bs, e.bsz, e.funs, e.frf, e.hok, e.bare⟩
def dLenO (C : Addr) (sp : DSp) : DRA := fun xs H Q => match xs with
  | [.ref a] => ∃ fs, H a = some (.ins C fs) ∧ fs.lookup ("__len__" : Str) = none ∧ sp [.ref a] H (fun v H2 => ∃ n : Int, v = .int n ∧ (0 ≤ n ∧ n < 2 ^ 63) ∧ Q (.int n) H2) (fun _ _ _ => False)
  | _ => False
theorem dcl_lenO {X : Cx} {k : Nat} {f C : Addr} {fd : FuncData} {ps : List Str} {sp : DSp} (c : Cls X.K C) (hm : Meth X.K C "__len__" f) (F : DFn X.prog X.w X.K X.mg X.base k f fd ps sp) (hr : Room (k + 1) X.A) (hb : Binds X.K fd ps []) : DCl X (.builtin "len") (dLenO C sp) := by
  refine ⟨fun xs H Q => ∃ a dx fs, xs = [.ref a] ∧ H a = some (.ins C dx fs) ∧ spOf X.K sp [.ref a] H (fun v H2 => ∃ n : Int, v = .int n ∧ (0 ≤ n ∧ n < 2 ^ 63) ∧ Q (.int n) H2) (fun _ _ _ => False), fun pins s σ H xs us Q I r h => ?_, fun xs vs Hd H Qd Q rx rh q k => ?_⟩
  · obtain ⟨a, dx, fs, rfl, ea, h⟩ := h
    cases r with
    | @cons _ u0 _ _ r0 rr =>
      cases rr
      obtain rfl : u0 = Value.ref a := r0
      obtain ⟨mA, O, _⟩ := ins_get I.hok ea
      obtain ⟨od, hod, _⟩ := lookIn_ns O.ns
      obtain ⟨m, fr⟩ := I.fr
      refine PySem.W.len_K (od := some od) fr I.ok.mod.kin ⟨O.obj, rfl, rfl, hod⟩ hm.at_ hm.fn ?_
      have hl : ([Value.ref a] : List Value).length = ps.length := by
        have := F.len _ _ _ _ h
        exact this
      have bnd := hb s [Value.ref a] I.kIn (by rw [List.append_nil]; exact hl)
      refine wpAny_call (codeAny_mono (F.run X.A.in1 X.stack s H ⟨[Value.ref a], []⟩ [Value.ref a] [V.ref a] _ _ hr.in1 (Env0.in1 I.env0) (by rw [List.append_nil] at bnd; exact bnd) (.cons rfl .nil) h) fun r s' hq => ?_)
      cases r with
      | error e =>
        obtain ⟨_, _, _, _, _, _, _, _, _, _, _, _, z⟩ := hq
        exact z.elim
      | ok fl =>
        cases fl with
        | ret u =>
          obtain ⟨v, H', I', rv, n, ev, hn, q⟩ := I.after hq
          subst ev
          obtain ⟨t, rfl⟩ := rv
          exact ⟨hn, .int n, H', I'.tok _, ⟨_, rfl⟩, q⟩
        | next => exact False.elim hq
        | brk => exact False.elim hq
        | cont => exact False.elim hq
  · unfold dLenO at q
    split at q
    · rename_i a
      obtain ⟨fs, hf, hl, q⟩ := q
      obtain ⟨v, rfl, e⟩ := reps1 rx
      obtain ⟨dx, gs, e1, rf⟩ := rh _ _ hf
      refine ⟨a, dx, gs, by rw [show v = _ from e], e1, [.ref a], Hd, _, (fun _ _ _ => False), ⟨_, _, rfl, rfl, rfl⟩, rh, q, ?_, fun _ _ _ _ z _ _ => z.elim⟩
      rintro z Hd' u H' ⟨n, ez, hn, qn⟩ rz rh' up
      subst ez
      exact ⟨n, rz, hn, k _ Hd' _ H' qn rfl rh' up⟩
    · exact q.elim
end DL

/-! The data layer, part K: what a for walks, tuple or list; the readings' own rules. -/
namespace DL
open PySem PySem.Spec PyProof.Rows L2

/-! ### over a tuple or a list -/
theorem pi_seq {X : Cx} {tg l : Expr} {tl : TE} (hl : PE X l tl) : PI X tg l (fun σ H R => tl σ H fun x H1 => ∃ a, x = .ref a ∧ (((∃ xs, SqL X.K H1 a xs) ∧ R (Itl X.K a) H1) ∨ ((∃ xs, SqT X.K H1 a xs) ∧ R (Itt X.K a) H1))) := by
  refine ⟨fun pins s σ H R I h => ?_⟩
  refine thn (hl.run pins s σ H _ I h) fun v s1 ⟨x, H1, I1, r1, q1⟩ => ?_
  obtain ⟨a, e, q⟩ := q1
  subst e
  cases r1
  rcases q with ⟨⟨xs, hq⟩, q⟩ | ⟨⟨xs, hq⟩, q⟩
  · obtain ⟨its, rv, p, hz⟩ := I1.list hq
    refine wpAny_pyIter_list p.isList ?_
    refine ⟨s1.heap.objs.size, [s1.heap.objs.size], _, _, H1, rfl, I1.kept (t' := s1.toks) fun b o e => Heap.get?_push_of_some _ e, turn_list a _, ⟨_, Heap.get?_push_size _ rfl, rfl, rfl⟩, fun b hb => ?_, q⟩
    have e : b = s1.heap.objs.size := by simpa using hb
    subst e
    exact I1.fpOk (Nat.le_refl _) (I1.hok.fresh (Nat.le_refl _))
  · obtain ⟨its, rv, p, hz⟩ := I1.tuple hq
    refine wpAny_pyIter_tuple (show s1.heap.IsTuple a its.toArray from p) ?_
    refine ⟨s1.heap.objs.size, [s1.heap.objs.size], _, _, H1, rfl, I1.kept (t' := s1.toks) fun b o e => Heap.get?_push_of_some _ e, turn_tuple a _, ⟨_, Heap.get?_push_size _ rfl, rfl, rfl⟩, fun b hb => ?_, q⟩
    have e : b = s1.heap.objs.size := by simpa using hb
    subst e
    exact I1.fpOk (Nat.le_refl _) (I1.hok.fresh (Nat.le_refl _))
def wSeq (a : DTE) : DTI := fun E σ H R => a E σ H fun x H1 => match x with
  | .tup ds => R (jSeq ds) H1
  | .fl ds => R (jSeq ds) H1
  | .ref p => (∃ ds, H1 p = some (.lst ds)) ∧ R (jLst p) H1
  | _ => False
theorem di_seq {X : Cx} {W : WX} {tg l : Expr} {da : DTE} (h : DPE X W l da) : DPI X W tg l (wSeq da) := by
  obtain ⟨t, h1, h2⟩ := h
  refine ⟨_, pi_seq h1, fun σd Hd σ H Rd R E rs wx q k => h2 σd Hd σ H _ _ E rs wx q fun x Hd' v H' q' rx rs' up => ?_⟩
  split at q'
  · obtain ⟨b, xs, e1, s1, r1⟩ := rx
    exact ⟨b, e1, .inr ⟨⟨xs, s1⟩, k _ Hd' _ H' q' (sim_tup s1 r1) rs' up⟩⟩
  · obtain ⟨b, xs, e1, s1, r1⟩ := rx
    exact ⟨b, e1, .inl ⟨⟨xs, s1.sq⟩, k _ Hd' _ H' q' (sim_fl s1 r1) rs' up⟩⟩
  · obtain ⟨⟨ds, hd⟩, q'⟩ := q'
    obtain ⟨xs, e, r⟩ := rs'.hp _ _ hd
    exact ⟨_, rx, .inl ⟨⟨xs, SqL.of e⟩, k _ Hd' _ H' q' sim_lst rs' up⟩⟩
  · exact q'.elim

/-! ### data without bools, objects: == is = -/
mutual
def pyD : D → PyData
  | .non => .none
  | .bl b => .bool b
  | .int i => .int i
  | .str x => .str x
  | .ref _ => .none
  | .ty _ => .none
  | .tup ds => .tuple (pyDs ds)
  | .fl ds => .list (pyDs ds)
def pyDs : List D → List PyData
  | [] => []
  | d :: ds => pyD d :: pyDs ds
end
mutual
inductive NB : Nat → D → Prop
  | non (n : Nat) : NB n .non
  | int (n : Nat) (i : Int) : NB n (.int i)
  | str (n : Nat) (x : Str) : NB n (.str x)
  | tup {n : Nat} {ds : List D} : NBs n ds → NB (n + 1) (.tup ds)
inductive NBs : Nat → List D → Prop
  | nil (n : Nat) : NBs n []
  | cons {n : Nat} {d : D} {ds : List D} : NB n d → NBs n ds → NBs n (d :: ds)
end
mutual
theorem NB.py {H : DH} {n : Nat} : ∀ {d : D}, NB n d → Py H d (pyD d)
  | _, .non _ => by unfold pyD; exact .non
  | _, .int _ i => by unfold pyD; exact .int i
  | _, .str _ x => by unfold pyD; exact .str x
  | _, .tup h => by unfold pyD; exact .tup (NBs.py h)
theorem NBs.py {H : DH} {n : Nat} : ∀ {ds : List D}, NBs n ds → Pys H ds (pyDs ds)
  | _, .nil _ => by unfold pyDs; exact .nil
  | _, .cons h t => by unfold pyDs; exact .cons (NB.py h) (NBs.py t)
end
mutual
theorem NB.depth {n : Nat} : ∀ {d : D}, NB n d → (pyD d).depth ≤ n
  | _, .non _ => by unfold pyD; exact Nat.zero_le _
  | _, .int _ i => by unfold pyD; exact Nat.zero_le _
  | _, .str _ x => by unfold pyD; exact Nat.zero_le _
  | _, .tup h => by
    unfold pyD
    have := NBs.depth h
    show PyData.depthAll _ + 1 ≤ _
    omega
theorem NBs.depth {n : Nat} : ∀ {ds : List D}, NBs n ds → PyData.depthAll (pyDs ds) ≤ n
  | _, .nil _ => by unfold pyDs; exact Nat.zero_le _
  | _, .cons h t => by
    unfold pyDs
    have a := NB.depth h
    have b := NBs.depth t
    show max _ _ ≤ _
    omega
end
mutual
theorem NB.eq {n m : Nat} : ∀ {d e : D}, NB n d → NB m e → (PyData.eqv (pyD d) (pyD e) = true ↔ d = e)
  | _, _, .non _, .non _ => by simp [pyD, PyData.eqv]
  | _, _, .non _, .int _ _ => by simp [pyD, PyData.eqv]
  | _, _, .non _, .str _ _ => by simp [pyD, PyData.eqv]
  | _, _, .non _, .tup _ => by simp [pyD, PyData.eqv]
  | _, _, .int _ _, .non _ => by simp [pyD, PyData.eqv]
  | _, _, .int _ _, .int _ _ => by simp [pyD, PyData.eqv]
  | _, _, .int _ _, .str _ _ => by simp [pyD, PyData.eqv]
  | _, _, .int _ _, .tup _ => by simp [pyD, PyData.eqv]
  | _, _, .str _ _, .non _ => by simp [pyD, PyData.eqv]
  | _, _, .str _ _, .int _ _ => by simp [pyD, PyData.eqv]
  | _, _, .str _ _, .str _ _ => by simp [pyD, PyData.eqv]
  | _, _, .str _ _, .tup _ => by simp [pyD, PyData.eqv]
  | _, _, .tup _, .non _ => by simp [pyD, PyData.eqv]
  | _, _, .tup _, .int _ _ => by simp [pyD, PyData.eqv]
  | _, _, .tup _, .str _ _ => by simp [pyD, PyData.eqv]
  | _, _, .tup h, .tup g => by
    have := NBs.eq h g
    simp only [pyD, PyData.eqv, this, D.tup.injEq]
theorem NBs.eq {n m : Nat} : ∀ {ds es : List D}, NBs n ds → NBs m es → (PyData.eqvAll (pyDs ds) (pyDs es) = true ↔ ds = es)
  | _, _, .nil _, .nil _ => by simp [pyDs, PyData.eqvAll]
  | _, _, .nil _, .cons _ _ => by simp [pyDs, PyData.eqvAll]
  | _, _, .cons _ _, .nil _ => by simp [pyDs, PyData.eqvAll]
  | _, _, .cons h t, .cons g u => by
    have a := NB.eq h g
    have b := NBs.eq t u
    simp only [pyDs, PyData.eqvAll, Bool.and_eq_true, a, b, List.cons.injEq]
end
theorem nbs_ints (n : Nat) : ∀ ns : List Int, NBs n (ns.map D.int)
  | [] => .nil n
  | i :: ns => .cons (.int n i) (nbs_ints n ns)
theorem nb_ints (ns : List Int) : NB 1 (.tup (ns.map D.int)) := .tup (nbs_ints 0 ns)
theorem ints_inj : ∀ {ns ms : List Int}, ns.map D.int = ms.map D.int ↔ ns = ms
  | [], [] => by simp
  | [], _ :: _ => by simp
  | _ :: _, [] => by simp
  | n :: ns, m :: ms => by
    have := ints_inj (ns := ns) (ms := ms)
    simp only [List.map_cons, List.cons.injEq, D.int.injEq, this]

def Hold (p : Prop) : Prop := p
/-! ### steps through a reading -/
section
variable {E : DX} {σ : DSt} {H : DH} {Z : DEnds}
theorem x_var {i : Nat} {d : DL.D} {Q : DK} (h : σ[i]? = some (some d)) (q : Q d H) : dVar i E σ H Q := ⟨d, h, q⟩
theorem x_c {d : DL.D} {Q : DK} (q : Q d H) : dC d E σ H Q := q
theorem x_op {r : DR2} {a b : DTE} {Q : DK} (q : a E σ H fun x H1 => b E σ H1 fun y H2 => r x y H2 Q) : dOp r a b E σ H Q := q
theorem x_un {r : DR1} {a : DTE} {Q : DK} (q : a E σ H fun x H1 => r x H1 Q) : dUn r a E σ H Q := q
theorem x_nil {Q : List DL.D → DH → Prop} (q : Q [] H) : dNil E σ H Q := q
theorem x_cons {a : DTE} {r : DTA} {Q : List DL.D → DH → Prop} (q : a E σ H fun x H1 => r E σ H1 fun xs H2 => Q (x :: xs) H2) : dCons a r E σ H Q := q
theorem x_tup {a : DTA} {Q : DK} (q : a E σ H fun xs H1 => xs.length ≤ sizeLine ∧ Q (.tup xs) H1) : dTup a E σ H Q := q
theorem x_sz {n : Nat} {A : Prop} (h : n ≤ sizeLine) (q : A) : n ≤ sizeLine ∧ A := ⟨h, q⟩
theorem x_szlt {n : Nat} {A : Prop} (h : n < sizeLine) (q : A) : n < sizeLine ∧ A := ⟨h, q⟩
theorem x_lst {a : DTA} {Q : DK} (q : a E σ H fun xs H1 => xs.length ≤ sizeLine ∧ ∀ p, H1 p = none → Q (.ref p) (put H1 p (.lst xs))) : dLst a E σ H Q := q
theorem x_cb {r : DRA} {a : DTA} {Q : DK} (q : a E σ H fun xs H1 => r xs H1 Q) : dCB r a E σ H Q := q
theorem x_test {a : DTE} {Q : Bool → DH → Prop} (q : a E σ H fun x H1 => ∃ c, x = .bl c ∧ Q c H1) : dTest a E σ H Q := q
theorem x_bl {b : Bool} {Q : Bool → Prop} (q : Q b) : ∃ c, D.bl b = .bl c ∧ Q c := ⟨b, rfl, q⟩
theorem x_and {t u : DTT} {Q : Bool → DH → Prop} (q : t E σ H fun c H1 => if c = true then u E σ H1 Q else Q false H1) : dAnd t u E σ H Q := q
theorem x_or {t u : DTT} {Q : Bool → DH → Prop} (q : t E σ H fun c H1 => if c = true then Q true H1 else u E σ H1 Q) : dOr t u E σ H Q := q
theorem x_not {t : DTT} {Q : Bool → DH → Prop} (q : t E σ H fun c H1 => Q (!c) H1) : dNot t E σ H Q := q
theorem x_andV {a b : DTE} {Q : DK} (q : a E σ H fun x H1 => ∃ c, x = .bl c ∧ if c = true then b E σ H1 Q else Q (.bl false) H1) : dAndV a b E σ H Q := q
theorem x_orV {a b : DTE} {Q : DK} (q : a E σ H fun x H1 => ∃ c, x = .bl c ∧ if c = true then Q (.bl true) H1 else b E σ H1 Q) : dOrV a b E σ H Q := q
theorem x_notV {a : DTE} {Q : DK} (q : a E σ H fun x H1 => ∃ c, x = .bl c ∧ Q (.bl (!c)) H1) : dNotV a E σ H Q := q
theorem x_ifx {t : DTT} {a b : DTE} {Q : DK} (q : t E σ H fun c H1 => if c = true then a E σ H1 Q else b E σ H1 Q) : dIf t a b E σ H Q := q
theorem x_noPart {Q : Option Int → DH → Prop} (q : Q none H) : dNoPart E σ H Q := q
theorem x_part {a : DTE} {Q : Option Int → DH → Prop} (q : a E σ H fun x H1 => ∃ i, x = .int i ∧ Q (some i) H1) : dPart a E σ H Q := q
theorem x_ii {i : Int} {Q : Int → Prop} (q : Q i) : ∃ j, D.int i = .int j ∧ Q j := ⟨i, rfl, q⟩
theorem x_sl {r : DL.D → Option Int → Option Int → DH → DK → Prop} {a : DTE} {l h : DTO} {Q : DK} (q : a E σ H fun x H1 => l E σ H1 fun lo H2 => h E σ H2 fun hi H3 => r x lo hi H3 Q) : dSl r a l h E σ H Q := q
/-! operators by values -/
theorem x_i0 {g : Int → Int → DL.D} {i j : Int} {Q : DK} (q : Q (g i j) H) : dI0 g (.int i) (.int j) H Q := q
theorem x_i {C : Int → Int → Prop} {g : Int → Int → DL.D} {i j : Int} {Q : DK} (c : C i j) (q : Q (g i j) H) : dI C g (.int i) (.int j) H Q := ⟨c, q⟩
theorem x_neg {i : Int} {Q : DK} (q : Q (.int (-i)) H) : dNeg (.int i) H Q := q
theorem x_addI {i j : Int} {Q : DK} (q : Q (.int (i + j)) H) : dAdd (.int i) (.int j) H Q := q
theorem x_addS {a b : Str} {Q : DK} (z : a.length + b.length ≤ sizeLine) (q : Q (.str (a ++ b)) H) : dAdd (.str a) (.str b) H Q := ⟨z, q⟩
theorem x_addT {a b : List DL.D} {Q : DK} (z : a.length + b.length ≤ sizeLine) (q : Q (.tup (a ++ b)) H) : dAdd (.tup a) (.tup b) H Q := ⟨z, q⟩
theorem x_addL {a b : Addr} {xs ys : List DL.D} {Q : DK} (h1 : H a = some (.lst xs)) (h2 : H b = some (.lst ys)) (z : xs.length + ys.length ≤ sizeLine) (q : ∀ p, H p = none → Q (.ref p) (put H p (.lst (xs ++ ys)))) : dAdd (.ref a) (.ref b) H Q := ⟨xs, ys, h1, h2, z, q⟩
theorem x_mulI {i j : Int} {Q : DK} (c : CMl i j) (q : Q (.int (i * j)) H) : dMul (.int i) (.int j) H Q := ⟨c, q⟩
theorem x_mulT {xs : List DL.D} {k : Int} {Q : DK} (h1 : 1 ≤ k) (h2 : k ≤ 1000) (h3 : xs.length ≤ 1000) (h4 : xs ≠ []) (q : Q (.tup (List.replicate k.toNat xs).flatten) H) : dMul (.tup xs) (.int k) H Q := ⟨h1, h2, h3, h4, q⟩
theorem x_mulL {a : Addr} {xs : List DL.D} {k : Int} {Q : DK} (h : H a = some (.lst xs)) (h1 : -(2 ^ 63) ≤ k ∧ k < 2 ^ 63) (h2 : xs.length * k.toNat ≤ sizeLine) (q : ∀ p, H p = none → Q (.ref p) (put H p (.lst (List.replicate k.toNat xs).flatten))) : dMul (.ref a) (.int k) H Q := ⟨xs, h, h1.1, h1.2, h2, q⟩
theorem x_isN {x : DL.D} {Q : DK} (q : Q (.bl (isN x)) H) : dIsN x .non H Q := q
theorem x_notN {x : DL.D} {Q : DK} (q : Q (.bl (!isN x)) H) : dNotN x .non H Q := q
theorem x_eq {x y : DL.D} {p q : PyData} {Q : DK} (h1 : Py H x p) (h2 : Py H y q) (h3 : min p.depth q.depth ≤ 64) (k : Q (.bl (PyData.eqv p q)) H) : dEq x y H Q := ⟨p, q, h1, h2, h3, k⟩
theorem x_ne {x y : DL.D} {p q : PyData} {Q : DK} (h1 : Py H x p) (h2 : Py H y q) (h3 : min p.depth q.depth ≤ 64) (k : Q (.bl (!PyData.eqv p q)) H) : dNe x y H Q := ⟨p, q, h1, h2, h3, k⟩
theorem x_eqD {x y : DL.D} {n m : Nat} {Q : DK} (h1 : NB n x) (h2 : NB m y) (hn : n ≤ 64) (k : ∀ b, (b = true ↔ x = y) → Q (.bl b) H) : dEq x y H Q :=
  ⟨pyD x, pyD y, h1.py, h2.py, by have := h1.depth; omega, k _ (NB.eq h1 h2)⟩
theorem x_neD {x y : DL.D} {n m : Nat} {Q : DK} (h1 : NB n x) (h2 : NB m y) (hn : n ≤ 64) (k : ∀ b, (b = true ↔ x = y) → Q (.bl (!b)) H) : dNe x y H Q :=
  ⟨pyD x, pyD y, h1.py, h2.py, by have := h1.depth; omega, k _ (NB.eq h1 h2)⟩
theorem x_eqI {i j : Int} {Q : DK} (k : Q (.bl (decide (i = j))) H) : dEq (.int i) (.int j) H Q :=
  ⟨.int i, .int j, .int i, .int j, (by show min 0 0 ≤ 64; decide), by
    have e : PyData.eqv (.int i) (.int j) = decide (i = j) := by first | rfl | (unfold PyData.eqv; first | rfl | (by_cases h : i = j <;> simp [h]))
    rw [e]
    exact k⟩
theorem x_neI {i j : Int} {Q : DK} (k : Q (.bl (!decide (i = j))) H) : dNe (.int i) (.int j) H Q :=
  ⟨.int i, .int j, .int i, .int j, (by show min 0 0 ≤ 64; decide), by
    have e : PyData.eqv (.int i) (.int j) = decide (i = j) := by first | rfl | (unfold PyData.eqv; first | rfl | (by_cases h : i = j <;> simp [h]))
    rw [e]
    exact k⟩
theorem x_ixT {xs : List DL.D} {i : Int} {d : DL.D} {Q : DK} (h : atI xs i = some d) (q : Q d H) : dIx (.tup xs) (.int i) H Q := ⟨d, h, q⟩
theorem x_ixF {xs : List DL.D} {i : Int} {d : DL.D} {Q : DK} (h : atI xs i = some d) (q : Q d H) : dIx (.fl xs) (.int i) H Q := ⟨d, h, q⟩
theorem x_ixL {a : Addr} {xs : List DL.D} {i : Int} {d : DL.D} {Q : DK} (h0 : H a = some (.lst xs)) (h : atI xs i = some d) (q : Q d H) : dIx (.ref a) (.int i) H Q := ⟨xs, d, h0, h, q⟩
theorem x_cutT {xs : List DL.D} {lo hi : Option Int} {Q : DK} (q : Q (.tup (DL.cut xs lo hi)) H) : dCut (.tup xs) lo hi H Q := q
theorem x_cutF {xs : List DL.D} {lo hi : Option Int} {Q : DK} (q : ∀ p, H p = none → Q (.ref p) (put H p (.lst (DL.cut xs lo hi)))) : dCut (.fl xs) lo hi H Q := q
theorem x_cutL {a : Addr} {xs : List DL.D} {lo hi : Option Int} {Q : DK} (h : H a = some (.lst xs)) (q : ∀ p, H p = none → Q (.ref p) (put H p (.lst (DL.cut xs lo hi)))) : dCut (.ref a) lo hi H Q := ⟨xs, h, q⟩
/-! built-ins -/
theorem x_lenT {ds : List DL.D} {Q : DK} (q : Q (.int ds.length) H) : dLen [.tup ds] H Q := q
theorem x_lenF {ds : List DL.D} {Q : DK} (q : Q (.int ds.length) H) : dLen [.fl ds] H Q := q
theorem x_lenS {z : Str} {Q : DK} (h : z.length ≤ sizeLine) (q : Q (.int z.length) H) : dLen [.str z] H Q := ⟨h, q⟩
theorem x_lenL {a : Addr} {ds : List DL.D} {Q : DK} (h : H a = some (.lst ds)) (q : Q (.int ds.length) H) : dLen [.ref a] H Q := by
  show match H a with | some (.lst ds) => Q (.int ds.length) H | some (.dct kvs) => Q (.int kvs.length) H | _ => False
  rw [h]
  exact q
theorem x_intI {i : Int} {Q : DK} (q : Q (.int i) H) : dInt [.int i] H Q := q
theorem x_max2 {i j : Int} {Q : DK} (q : Q (.int (if j > i then j else i)) H) : dMax2 [.int i, .int j] H Q := q
theorem x_min2 {i j : Int} {Q : DK} (q : Q (.int (if j < i then j else i)) H) : dMin2 [.int i, .int j] H Q := q
theorem x_tupT {ds : List DL.D} {Q : DK} (q : Q (.tup ds) H) : dTupleOf [.tup ds] H Q := q
theorem x_tupF {ds : List DL.D} {Q : DK} (q : Q (.tup ds) H) : dTupleOf [.fl ds] H Q := q
theorem x_tupL {a : Addr} {ds : List DL.D} {Q : DK} (h : H a = some (.lst ds)) (q : Q (.tup ds) H) : dTupleOf [.ref a] H Q := ⟨ds, h, q⟩
theorem x_lstT {ds : List DL.D} {Q : DK} (q : ∀ p, H p = none → Q (.ref p) (put H p (.lst ds))) : dListOf [.tup ds] H Q := q
theorem x_lstF {ds : List DL.D} {Q : DK} (q : ∀ p, H p = none → Q (.ref p) (put H p (.lst ds))) : dListOf [.fl ds] H Q := q
theorem x_lstL {a : Addr} {ds : List DL.D} {Q : DK} (h : H a = some (.lst ds)) (q : ∀ p, H p = none → Q (.ref p) (put H p (.lst ds))) : dListOf [.ref a] H Q := ⟨ds, h, q⟩
/-- isinstance of data of a built-in kind -/
def kindD : DL.D → Option String
  | .non => some "NoneType"
  | .bl _ => some "bool"
  | .int _ => some "int"
  | .str _ => some "str"
  | .tup _ => some "tuple"
  | .fl _ => some "list"
  | _ => none
theorem kindD_ty {d : DL.D} {t : String} (h : kindD d = some t) (H : DH) : tyD H d = some (.type t) := by
  cases d <;> (simp only [kindD] at h <;> cases h <;> rfl)
theorem kindD_in {d : DL.D} {t : String} (h : kindD d = some t) : t ∈ kinds := by
  cases d <;> (simp only [kindD] at h <;> cases h <;> decide)
variable {K : PySem.W.Frag}
theorem tyD_lst {a : Addr} {xs : List DL.D} (h : H a = some (.lst xs)) : tyD H (.ref a) = some (.type "list") := by simp only [tyD, h]
theorem tyD_ins {a C : Addr} {fs : List (Str × DL.D)} (h : H a = some (.ins C fs)) : tyD H (.ref a) = some (.ref C) := by simp only [tyD, h]
theorem x_isi {x : DL.D} {t c : String} {Q : DK} (h : kindD x = some t) (hc : c ∈ kinds.drop 1) (q : Q (.bl (isB t c)) H) : dIsi K [x, .ty c] H Q :=
  ⟨x, .ty c, .type t, .type c, isB t c, rfl, kindD_ty h H, (fun _ z => nomatch z), .ty c, kit_b (kindD_in h) hc, q⟩
theorem x_isiL {a : Addr} {xs : List DL.D} {c : String} {Q : DK} (h : H a = some (.lst xs)) (hc : c ∈ kinds.drop 1) (q : Q (.bl (isB "list" c)) H) : dIsi K [.ref a, .ty c] H Q :=
  ⟨.ref a, .ty c, .type "list", .type c, isB "list" c, rfl, tyD_lst h, (fun _ z => nomatch z), .ty c, kit_b (by decide) hc, q⟩
/-- .. of an instance -/
theorem x_isiO {a C C2 : Addr} {fs : List (Str × DL.D)} {b : Bool} {Q : DK} (h : H a = some (.ins C fs)) (o : OwnTy K C) (k : PySem.W.kitOne K (.ref C) (.ref C2) = some b) (q : Q (.bl b) H) : dIsi K [.ref a, .ref C2] H Q :=
  ⟨.ref a, .ref C2, .ref C, .ref C2, b, rfl, tyD_ins h, (fun _ z => by cases z; exact o), .own C2, k, q⟩
theorem x_isiOT {a C : Addr} {fs : List (Str × DL.D)} {c : String} {b : Bool} {Q : DK} (h : H a = some (.ins C fs)) (o : OwnTy K C) (k : PySem.W.kitOne K (.ref C) (.type c) = some b) (q : Q (.bl b) H) : dIsi K [.ref a, .ty c] H Q :=
  ⟨.ref a, .ty c, .ref C, .type c, b, rfl, tyD_ins h, (fun _ z => by cases z; exact o), .ty c, k, q⟩
theorem x_isiT {x : DL.D} {t : String} {cs : List String} {Q : DK} (h : kindD x = some t) (hc : ∀ c ∈ cs, c ∈ kinds.drop 1) (q : Q (.bl (cs.any fun c => isB t c)) H) : dIsiT K [x, .tup (cs.map D.ty)] H Q := by
  refine ⟨x, cs.map D.ty, .type t, cs.map Value.type, cs.any fun c => isB t c, rfl, kindD_ty h H, (fun _ z => nomatch z), ?_, ?_, q⟩
  · clear q hc
    induction cs with
    | nil => exact .nil
    | cons c cs ih => exact .cons (.ty c) ih
  · clear q
    induction cs with
    | nil => rfl
    | cons c cs ih =>
      have e := kit_b (K := K) (kindD_in h) (hc c (List.mem_cons_self ..))
      have ih := ih fun c hc' => hc c (List.mem_cons_of_mem _ hc')
      show (match PySem.W.kitOne K (.type t) (.type c) with | some true => some true | some false => PySem.W.kitAny K (.type t) (cs.map Value.type) | none => none) = _
      rw [e, List.any_cons]
      cases isB t c with
      | true => rfl
      | false => exact ih
theorem x_isiTL {a : Addr} {xs : List DL.D} {cs : List String} {Q : DK} (h : H a = some (.lst xs)) (hc : ∀ c ∈ cs, c ∈ kinds.drop 1) (q : Q (.bl (cs.any fun c => isB "list" c)) H) : dIsiT K [.ref a, .tup (cs.map D.ty)] H Q := by
  refine ⟨.ref a, cs.map D.ty, .type "list", cs.map Value.type, cs.any fun c => isB "list" c, rfl, tyD_lst h, (fun _ z => nomatch z), ?_, ?_, q⟩
  · clear q hc
    induction cs with
    | nil => exact .nil
    | cons c cs ih => exact .cons (.ty c) ih
  · clear q
    induction cs with
    | nil => rfl
    | cons c cs ih =>
      have e := kit_b (K := K) (t := "list") (by decide) (hc c (List.mem_cons_self ..))
      have ih := ih fun c hc' => hc c (List.mem_cons_of_mem _ hc')
      show (match PySem.W.kitOne K (.type "list") (.type c) with | some true => some true | some false => PySem.W.kitAny K (.type "list") (cs.map Value.type) | none => none) = _
      rw [e, List.any_cons]
      cases isB "list" c with
      | true => rfl
      | false => exact ih
/-! calls, fields -/
theorem x_call {sp : DSp} {dds : List DL.D} {a : DTA} {Q : DK} (q : a E σ H fun xs H1 => sp (xs ++ dds) H1 Q E) : dCall sp dds a E σ H Q := q
theorem x_make {C : Addr} {sp : DSp} {dds : List DL.D} {a : DTA} {Q : DK} (q : a E σ H fun xs H1 => ∀ p, H1 p = none → sp (.ref p :: (xs ++ dds)) (put H1 p (.ins C [])) (fun v H2 => v = .non ∧ Q (.ref p) H2) E) : dMake C sp dds a E σ H Q := q
def fldAt (K : PySem.W.Frag) (f : Str) (x : DL.D) (H : DH) (Q : DK) : Prop := match x with
  | .ref p => ∃ C fs d, H p = some (.ins C fs) ∧ Cls K C ∧ NoAttr K C f ∧ fs.lookup f = some d ∧ Q d H
  | _ => False
theorem x_fld {o : DTE} {f : Str} {Q : DK} (q : o E σ H fun x H1 => fldAt K f x H1 Q) : dFld K o f E σ H Q := q
theorem x_fldAt {p : Addr} {C : Addr} {fs : List (Str × DL.D)} {f : Str} {d : DL.D} {Q : DK} (h : H p = some (.ins C fs)) (c : Cls K C) (n : NoAttr K C f) (l : fs.lookup f = some d) (q : Q d H) : fldAt K f (.ref p) H Q := ⟨C, fs, d, h, c, n, l, q⟩
def methAt (C : Addr) (m : Str) (sp : DSp) (dds : List DL.D) (a : DTA) (E : DX) (σ : DSt) (x : DL.D) (H : DH) (Q : DK) : Prop := match x with
  | .ref p => ∃ fs, H p = some (.ins C fs) ∧ fs.lookup m = none ∧ a E σ H fun xs H2 => sp (.ref p :: (xs ++ dds)) H2 Q E
  | _ => False
theorem x_meth {C : Addr} {m : Str} {sp : DSp} {dds : List DL.D} {o : DTE} {a : DTA} {Q : DK} (q : o E σ H fun x H1 => methAt C m sp dds a E σ x H1 Q) : dMeth C m sp dds o a E σ H Q := q
theorem x_methAt {C p : Addr} {m : Str} {sp : DSp} {dds : List DL.D} {a : DTA} {fs : List (Str × DL.D)} {Q : DK} (h : H p = some (.ins C fs)) (l : fs.lookup m = none) (q : a E σ H fun xs H2 => sp (.ref p :: (xs ++ dds)) H2 Q E) : methAt C m sp dds a E σ (.ref p) H Q := ⟨fs, h, l, q⟩
theorem x_lenO {C : Addr} {sp : DSp} {a : Addr} {fs : List (Str × DL.D)} {Q : DK} (h : H a = some (.ins C fs)) (l : fs.lookup ("__len__" : Str) = none) (q : sp [.ref a] H (fun v H2 => ∃ n : Int, v = .int n ∧ (0 ≤ n ∧ n < 2 ^ 63) ∧ Q (.int n) H2) (fun _ _ _ => False)) : dLenO C sp [.ref a] H Q := ⟨fs, h, l, q⟩
theorem x_lenOend {n : Int} {Q : DK} (h0 : 0 ≤ n) (h1 : n < 2 ^ 63) (q : Q (.int n) H) : ∃ m : Int, DL.D.int n = .int m ∧ (0 ≤ m ∧ m < 2 ^ 63) ∧ Q (.int m) H := ⟨n, rfl, ⟨h0, h1⟩, q⟩
theorem x_eqn {n m : Nat} {A : Prop} (h : n = m) (q : A) : n = m ∧ A := ⟨h, q⟩
theorem x_app {p : Addr} {y : DL.D} {ds : List DL.D} {Q : DK} (h : H p = some (.lst ds)) (z : ds.length < sizeLine) (q : Q .non (put H p (.lst (ds ++ [y])))) : dApp (.ref p) [y] H Q := ⟨ds, h, z, q⟩
theorem x_pop {p : Addr} {y : DL.D} {ds : List DL.D} {Q : DK} (h : H p = some (.lst ds)) (z : ds[ds.length - 1]? = some y) (q : Q y (put H p (.lst ds.dropLast))) : dPop (.ref p) [] H Q := ⟨ds, y, h, z, q⟩
theorem x_bm {T : String} {r : DL.D → List DL.D → DH → DK → Prop} {o : DTE} {a : DTA} {Q : DK} (q : o E σ H fun x H1 => tyM T x H1 ∧ a E σ H1 fun xs H2 => r x xs H2 Q) : dBM T r o a E σ H Q := q
theorem tyM_lst {p : Addr} {ds : List DL.D} (h : H p = some (.lst ds)) : tyM "list" (.ref p) H := .inl ⟨rfl, ds, h⟩
theorem tyM_dct {p : Addr} {ds : List (Key × DL.D)} (h : H p = some (.dct ds)) : tyM "dict" (.ref p) H := .inr ⟨rfl, ds, h⟩
theorem x_tym {T : String} {x : DL.D} {A : Prop} (h : tyM T x H) (q : A) : tyM T x H ∧ A := ⟨h, q⟩
/-! dicts -/
def dgetAt (x y : DL.D) (H : DH) (Q : DK) : Prop := match x with
  | .ref p => ∃ kvs k d, H p = some (.dct kvs) ∧ keyD y = some k ∧ getP kvs k = some d ∧ Q d H
  | _ => False
theorem x_dget {a b : DTE} {Q : DK} (q : a E σ H fun x H1 => b E σ H1 fun y H2 => dgetAt x y H2 Q) : dDGet a b E σ H Q := q
theorem x_dgetAt {p : Addr} {y d : DL.D} {kvs : List (Key × DL.D)} {k : Key} {Q : DK} (h : H p = some (.dct kvs)) (hk : keyD y = some k) (g : getP kvs k = some d) (q : Q d H) : dgetAt (.ref p) y H Q := ⟨kvs, k, d, h, hk, g, q⟩
def dinAt (f : Bool → Bool) (x y : DL.D) (H : DH) (Q : DK) : Prop := match x with
  | .ref p => ∃ kvs k, H p = some (.dct kvs) ∧ keyD y = some k ∧ Q (.bl (f (getP kvs k).isSome)) H
  | _ => False
theorem x_din {f : Bool → Bool} {b a : DTE} {Q : DK} (q : b E σ H fun y H1 => a E σ H1 fun x H2 => dinAt f x y H2 Q) : dDIn f b a E σ H Q := q
theorem x_dinAt {f : Bool → Bool} {p : Addr} {y : DL.D} {kvs : List (Key × DL.D)} {k : Key} {Q : DK} (h : H p = some (.dct kvs)) (hk : keyD y = some k) (q : Q (.bl (f (getP kvs k).isSome)) H) : dinAt f (.ref p) y H Q := ⟨kvs, k, h, hk, q⟩
theorem x_dnew {Q : DK} (q : ∀ p, H p = none → Q (.ref p) (put H p (.dct []))) : dDNew E σ H Q := q

/-! statements -/
theorem x_set {a : DTE} {i : Nat} {u : DTS} (q : a (Z.at σ) σ H fun x H1 => u Z (σ.set i (some x)) H1) : dSeq (dSet a i) u Z σ H := q
theorem x_set1 {a : DTE} {i : Nat} (q : a (Z.at σ) σ H fun x H1 => Z.nx (σ.set i (some x)) H1) : dSet a i Z σ H := q
theorem x_drop {a : DTE} {u : DTS} (q : a (Z.at σ) σ H fun _ H1 => u Z σ H1) : dSeq (dDrop a) u Z σ H := q
theorem x_drop1 {a : DTE} (q : a (Z.at σ) σ H fun _ H1 => Z.nx σ H1) : dDrop a Z σ H := q
theorem x_asg {a : DTE} {g : DTG} {u : DTS} (q : a (Z.at σ) σ H fun x H1 => g x σ H1 (u Z)) : dSeq (dAsg a g) u Z σ H := q
theorem x_asg1 {a : DTE} {g : DTG} (q : a (Z.at σ) σ H fun x H1 => g x σ H1 Z.nx) : dAsg a g Z σ H := q
theorem x_if {c : DTT} {t u v : DTS} (q : c (Z.at σ) σ H fun b H1 => if b = true then dSeq t v Z σ H1 else dSeq u v Z σ H1) : dSeq (dIfS c t u) v Z σ H := q
theorem x_if1 {c : DTT} {t u : DTS} (q : c (Z.at σ) σ H fun b H1 => if b = true then t Z σ H1 else u Z σ H1) : dIfS c t u Z σ H := q
/-- the same, where the branches join: Hold stops the walk -/
theorem x_ifJ {c : DTT} {t u v : DTS} (q : c (Z.at σ) σ H fun b H1 => if b = true then t { Z with nx := fun σ' H' => Hold (v Z σ' H') } σ H1 else u { Z with nx := fun σ' H' => Hold (v Z σ' H') } σ H1) : dSeq (dIfS c t u) v Z σ H := q
theorem x_next {v : DTS} (q : v Z σ H) : dSeq dNext v Z σ H := q
theorem x_next1 (q : Z.nx σ H) : dNext Z σ H := q
theorem x_seq {t u v : DTS} (q : dSeq t (dSeq u v) Z σ H) : dSeq (dSeq t u) v Z σ H := q
theorem x_ret {a : DTE} {v : DTS} (q : a (Z.at σ) σ H Z.rt) : dSeq (dRet a) v Z σ H := q
theorem x_ret1 {a : DTE} (q : a (Z.at σ) σ H Z.rt) : dRet a Z σ H := q
theorem x_retN {v : DTS} (q : Z.rt .non H) : dSeq dRetN v Z σ H := q
theorem x_retN1 (q : Z.rt .non H) : dRetN Z σ H := q
theorem x_brk {v : DTS} (q : Z.bk σ H) : dSeq dBrk v Z σ H := q
theorem x_brk1 (q : Z.bk σ H) : dBrk Z σ H := q
theorem x_cnt {v : DTS} (q : Z.ct σ H) : dSeq dCnt v Z σ H := q
theorem x_cnt1 (q : Z.ct σ H) : dCnt Z σ H := q
def sfldAt (K : PySem.W.Frag) (f : Str) (y x : DL.D) (H : DH) (Q : DH → Prop) : Prop := match x with
  | .ref p => ∃ C fs, H p = some (.ins C fs) ∧ Cls K C ∧ NoAttr K C f ∧ fs.length < 1000 ∧ Q (put H p (.ins C (putA f y fs)))
  | _ => False
theorem x_sfldAt {p C : Addr} {fs : List (Str × DL.D)} {f : Str} {y : DL.D} {Q : DH → Prop} (h : H p = some (.ins C fs)) (c : Cls K C) (n : NoAttr K C f) (l : fs.length < 1000) (q : Q (put H p (.ins C (putA f y fs)))) : sfldAt K f y (.ref p) H Q := ⟨C, fs, h, c, n, l, q⟩
theorem x_sfld {o v : DTE} {f : Str} {u : DTS} (q : v (Z.at σ) σ H fun y H1 => o (Z.at σ) σ H1 fun x H2 => sfldAt K f y x H2 fun H3 => u Z σ H3) : dSeq (dSetFld K o v f) u Z σ H := q
theorem x_sfld1 {o v : DTE} {f : Str} (q : v (Z.at σ) σ H fun y H1 => o (Z.at σ) σ H1 fun x H2 => sfldAt K f y x H2 fun H3 => Z.nx σ H3) : dSetFld K o v f Z σ H := q
theorem x_raise {d : DX → DSt → DH → DX → Prop} {v : DTS} (q : d (Z.at σ) σ H fun C dd H' => Z.ex C dd σ H') : dSeq (dRaise d) v Z σ H := q
theorem x_raise1 {d : DX → DSt → DH → DX → Prop} (q : d (Z.at σ) σ H fun C dd H' => Z.ex C dd σ H') : dRaise d Z σ H := q
theorem x_mk {C : Addr} {fs : List Str} {a : DTA} {Qx : DX} (q : a E σ H fun xs H1 => xs.length = fs.length ∧ ∀ d, H1 d = none → Qx C (some d) (put H1 d (.xd (fs.zip xs).reverse))) : dMk C fs a E σ H Qx := q
def dputAt (z x y : DL.D) (H : DH) (Q : DH → Prop) : Prop := match x with
  | .ref p => ∃ kvs k, H p = some (.dct kvs) ∧ keyD y = some k ∧ kvs.length < sizeLine ∧ Q (put H p (.dct (putP kvs k z)))
  | _ => False
theorem x_dputAt {z y : DL.D} {p : Addr} {kvs : List (Key × DL.D)} {k : Key} {Q : DH → Prop} (h : H p = some (.dct kvs)) (hk : keyD y = some k) (l : kvs.length < sizeLine) (q : Q (put H p (.dct (putP kvs k z)))) : dputAt z (.ref p) y H Q := ⟨kvs, k, h, hk, l, q⟩
theorem x_dput {a b v : DTE} {u : DTS} (q : v (Z.at σ) σ H fun z H1 => a (Z.at σ) σ H1 fun x H2 => b (Z.at σ) σ H2 fun y H3 => dputAt z x y H3 fun H4 => u Z σ H4) : dSeq (dDPut a b v) u Z σ H := q
theorem x_dput1 {a b v : DTE} (q : v (Z.at σ) σ H fun z H1 => a (Z.at σ) σ H1 fun x H2 => b (Z.at σ) σ H2 fun y H3 => dputAt z x y H3 fun H4 => Z.nx σ H4) : dDPut a b v Z σ H := q
theorem x_gIx {a b : DTE} {v : DL.D} {Q : DSt → DH → Prop} (q : a (fun _ _ _ => False) σ H fun o H1 => b (fun _ _ _ => False) σ H1 fun i H2 => dSetIx o i v H2 fun H3 => Q σ H3) : gIx a b v σ H Q := q
theorem x_setIx {a : Addr} {k : Int} {v : DL.D} {xs : List DL.D} {j : Nat} {Q : DH → Prop} (h : H a = some (.lst xs)) (hj : ixN xs.length k = some j) (q : Q (put H a (.lst (xs.set j v)))) : dSetIx (.ref a) (.int k) v H Q := ⟨xs, j, h, hj, q⟩
theorem x_gNm {i : Nat} {x : DL.D} {Q : DSt → DH → Prop} (q : Q (σ.set i (some x)) H) : gNm i x σ H Q := q
theorem x_ite {c : Bool} {A B : Prop} (h1 : c = true → A) (h2 : c = false → B) : if c = true then A else B := by
  cases c with
  | true => rw [if_pos rfl]; exact h1 rfl
  | false => rw [if_neg Bool.false_ne_true]; exact h2 rfl
theorem x_iteT {c : Bool} {A B : Prop} (h : c = true) (a : A) : if c = true then A else B := by rw [if_pos h]; exact a
theorem x_iteF {c : Bool} {A B : Prop} (h : c = false) (b : B) : if c = true then A else B := by rw [h, if_neg Bool.false_ne_true]; exact b
theorem x_endR {Q : DK} {Ed : DX} {x : DL.D} {H0 : DH} (s : Sub H0 H) (q : Q x H0) : (endsOf Q Ed).rt x H := ⟨H0, s, q⟩
theorem x_endN {Q : DK} {Ed : DX} {H0 : DH} (s : Sub H0 H) (q : Q .non H0) : (endsOf Q Ed).nx σ H := ⟨H0, s, q⟩
theorem x_endX {Q : DK} {Ed : DX} {C : Addr} {dd : Option Addr} {H0 : DH} (s : Sub H0 H) (q : Ed C dd H0) : (endsOf Q Ed).ex C dd σ H := ⟨H0, s, q⟩

end
def ForGo (J : DIt) (g : DTG) (tb : DTS) (Z : DEnds) (nx : DSt → DH → Prop) (σ : DSt) (H1 : DH) : Prop := ∃ W : Nat → Nat → DSt → DH → Prop, (∃ m, W 0 m σ H1) ∧ ∀ i m σ H, W i m σ H →
  (J.stop i H ∧ nx σ H) ∨ (∃ x, J.at_ i H x ∧ ∃ N : DSt → DH → Prop, (∀ σ' H', N σ' H' → ∃ m', m' < m ∧ W (i + 1) m' σ' H') ∧ g x σ H fun σ2 H2 => tb { Z with nx := N, ct := N, bk := nx } σ2 H2)
section
variable {E : DX} {σ : DSt} {H H1 : DH} {Z : DEnds} {wi : DTI} {g : DTG} {tb v : DTS} {nx : DSt → DH → Prop}
theorem x_for (q : wi (Z.at σ) σ H fun J H1 => ForGo J g tb Z (v Z) σ H1) : dSeq (dFor wi g tb) v Z σ H := q
theorem x_for1 (q : wi (Z.at σ) σ H fun J H1 => ForGo J g tb Z Z.nx σ H1) : dFor wi g tb Z σ H := q
theorem forSeq {ds : List DL.D} (W : Nat → DSt → DH → Prop) (h0 : W 0 σ H1)
    (step : ∀ i x σ H, ds[i]? = some x → W i σ H → g x σ H fun σ2 H2 => tb { Z with nx := W (i + 1), ct := W (i + 1), bk := nx } σ2 H2) (hd : ∀ σ H, W ds.length σ H → nx σ H) : ForGo (jSeq ds) g tb Z nx σ H1 := by
  refine ⟨fun i m σ H => m = ds.length - i ∧ i ≤ ds.length ∧ W i σ H, ⟨_, rfl, Nat.zero_le _, h0⟩, ?_⟩
  rintro i m σ H ⟨rfl, hi, p⟩
  by_cases hlt : i < ds.length
  · exact .inr ⟨ds[i], by simp [jSeq, hlt], W (i + 1), fun σ' H' p' => ⟨ds.length - (i + 1), by omega, rfl, hlt, p'⟩, step i _ σ H (by simp [hlt]) p⟩
  · have e : i = ds.length := by omega
    subst e
    exact .inl ⟨Nat.le_refl _, hd σ H p⟩
/-- over a list that may be told anew at each turn -/
theorem forLst {a : Addr} {ds : List DL.D} (W : Nat → DSt → DH → Prop) (h0 : W 0 σ H1) (st : ∀ i σ H, W i σ H → H a = some (.lst ds))
    (step : ∀ i x σ H, ds[i]? = some x → W i σ H → g x σ H fun σ2 H2 => tb { Z with nx := W (i + 1), ct := W (i + 1), bk := nx } σ2 H2) (hd : ∀ σ H, W ds.length σ H → nx σ H) : ForGo (jLst a) g tb Z nx σ H1 := by
  refine ⟨fun i m σ H => m = ds.length - i ∧ i ≤ ds.length ∧ W i σ H, ⟨_, rfl, Nat.zero_le _, h0⟩, ?_⟩
  rintro i m σ H ⟨rfl, hi, p⟩
  by_cases hlt : i < ds.length
  · exact .inr ⟨ds[i], ⟨ds, st i σ H p, by simp [hlt]⟩, W (i + 1), fun σ' H' p' => ⟨ds.length - (i + 1), by omega, rfl, hlt, p'⟩, step i _ σ H (by simp [hlt]) p⟩
  · have e : i = ds.length := by omega
    subst e
    exact .inl ⟨⟨ds, st _ σ H p, Nat.le_refl _⟩, hd σ H p⟩
theorem forRng {lo : Int} {n : Nat} (W : Nat → DSt → DH → Prop) (h0 : W 0 σ H1)
    (step : ∀ i σ H, i < n → W i σ H → g (.int (lo + (i : Int))) σ H fun σ2 H2 => tb { Z with nx := W (i + 1), ct := W (i + 1), bk := nx } σ2 H2) (hd : ∀ σ H, W n σ H → nx σ H) : ForGo (jRng lo n) g tb Z nx σ H1 := by
  refine ⟨fun i m σ H => m = n - i ∧ i ≤ n ∧ W i σ H, ⟨_, rfl, Nat.zero_le _, h0⟩, ?_⟩
  rintro i m σ H ⟨rfl, hi, p⟩
  by_cases hlt : i < n
  · exact .inr ⟨_, ⟨hlt, rfl⟩, W (i + 1), fun σ' H' p' => ⟨n - (i + 1), by omega, rfl, hlt, p'⟩, step i σ H hlt p⟩
  · have e : i = n := by omega
    subst e
    exact .inl ⟨Nat.le_refl _, hd σ H p⟩
def seqAt (x : DL.D) (H : DH) (R : DIt → DH → Prop) : Prop := match x with
  | .tup ds => R (jSeq ds) H
  | .fl ds => R (jSeq ds) H
  | .ref p => (∃ ds, H p = some (.lst ds)) ∧ R (jLst p) H
  | _ => False
theorem x_seqT {a : DTE} {R : DIt → DH → Prop} (q : a E σ H fun x H1 => seqAt x H1 R) : wSeq a E σ H R := q
theorem x_seqTup {ds : List DL.D} {R : DIt → DH → Prop} (q : R (jSeq ds) H) : seqAt (.tup ds) H R := q
theorem x_seqFl {ds : List DL.D} {R : DIt → DH → Prop} (q : R (jSeq ds) H) : seqAt (.fl ds) H R := q
theorem x_seqLst {p : Addr} {ds : List DL.D} {R : DIt → DH → Prop} (h : H p = some (.lst ds)) (q : R (jLst p) H) : seqAt (.ref p) H R := ⟨⟨ds, h⟩, q⟩
def rng1At (xs : List DL.D) (H : DH) (R : DIt → DH → Prop) : Prop := match xs with
  | [.int j] => -(2 ^ 62) ≤ j ∧ j < 2 ^ 62 ∧ R (jRng 0 j.toNat) H
  | _ => False
def rng2At (xs : List DL.D) (H : DH) (R : DIt → DH → Prop) : Prop := match xs with
  | [.int i, .int j] => (-(2 ^ 62) ≤ i ∧ i < 2 ^ 62 ∧ -(2 ^ 62) ≤ j ∧ j < 2 ^ 62) ∧ R (jRng i (j - i).toNat) H
  | _ => False
theorem x_rng1 {a : DTA} {R : DIt → DH → Prop} (q : a E σ H fun xs H1 => rng1At xs H1 R) : wRng1 a E σ H R := q
theorem x_rng2 {a : DTA} {R : DIt → DH → Prop} (q : a E σ H fun xs H1 => rng2At xs H1 R) : wRng2 a E σ H R := q
theorem x_rng1At {n : Nat} {j : Int} {R : DIt → DH → Prop} (e : j = (n : Int)) (l : n ≤ 100000000) (q : R (jRng 0 n) H) : rng1At [.int j] H R := by
  subst e
  exact ⟨by omega, by omega, q⟩
theorem x_rng2At {i j : Int} {R : DIt → DH → Prop} (l1 : -100000000 ≤ i ∧ i ≤ 100000000) (l2 : -100000000 ≤ j ∧ j ≤ 100000000) (q : R (jRng i (j - i).toNat) H) : rng2At [.int i, .int j] H R := ⟨⟨by omega, by omega, by omega, by omega⟩, q⟩
end
def WhGo (c : DTT) (tb : DTS) (Z : DEnds) (nx : DSt → DH → Prop) (σ : DSt) (H : DH) : Prop := ∃ W : Nat → DSt → DH → Prop, (∃ m, W m σ H) ∧ ∀ m σ H, W m σ H →
  c (Z.at σ) σ H fun b H1 => if b = true then ∃ N : DSt → DH → Prop, (∀ σ' H', N σ' H' → ∃ m', m' < m ∧ W m' σ' H') ∧ tb { Z with nx := N, ct := N, bk := nx } σ H1 else nx σ H1
theorem x_while {c : DTT} {tb v : DTS} {Z : DEnds} {σ : DSt} {H : DH} (q : WhGo c tb Z (v Z) σ H) : dSeq (dWhile c tb) v Z σ H := q
theorem x_while1 {c : DTT} {tb : DTS} {Z : DEnds} {σ : DSt} {H : DH} (q : WhGo c tb Z Z.nx σ H) : dWhile c tb Z σ H := q
/-! errors caught -/
section
variable {E : DX} {σ : DSt} {H : DH} {Z : DEnds}
theorem x_try {isC : Addr → Option Bool} {i : Nat} {tb v : DTS} {ts : Addr → Value → Option Addr → DTS} (q : tb { Z with nx := v Z, ex := fun C dd σ' H' => ∃ b, isC C = some b ∧
    (b = true → ∀ a, H' a = none → ts a (.ref C) dd { nx := fun σ'' H'' => v Z (σ''.set i none) H'', rt := Z.rt, bk := fun σ'' H'' => Z.bk (σ''.set i none) H'', ct := fun σ'' H'' => Z.ct (σ''.set i none) H'' } (σ'.set i (some (.ref a))) H') ∧
    (b = false → Z.ex C dd σ' H') } σ H) : dSeq (dTry isC i tb ts) v Z σ H := q
theorem x_try1 {isC : Addr → Option Bool} {i : Nat} {tb : DTS} {ts : Addr → Value → Option Addr → DTS} (q : tb { Z with ex := fun C dd σ' H' => ∃ b, isC C = some b ∧
    (b = true → ∀ a, H' a = none → ts a (.ref C) dd { nx := fun σ'' H'' => Z.nx (σ''.set i none) H'', rt := Z.rt, bk := fun σ'' H'' => Z.bk (σ''.set i none) H'', ct := fun σ'' H'' => Z.ct (σ''.set i none) H'' } (σ'.set i (some (.ref a))) H') ∧
    (b = false → Z.ex C dd σ' H') } σ H) : dTry isC i tb ts Z σ H := q
theorem x_isE {K : PySem.W.Frag} {C a dd : Addr} {c : DL.D} {u : Value} {b : Bool} {fs : List (Str × DL.D)} {Q : DK} (h : H dd = some (.xd fs)) (hc : ClsD c u) (k : PySem.W.kitOne K (.ref C) u = some b) (q : Q (.bl b) H) : dIsE K C a (some dd) (.ref C) [.ref a, c] H Q :=
  ⟨c, u, b, rfl, rfl, fun d e => by cases e; exact ⟨fs, h⟩, hc, k, q⟩
theorem x_xf {a C : Addr} {d : Option Addr} {cls : Value} {f : Str} {e : DTE} {Q : DK} (q : e E σ H fun x H1 => x = .ref a ∧ cls = .ref C ∧ ∃ dd fs v, d = some dd ∧ H1 dd = some (.xd fs) ∧ fs.lookup f = some v ∧ Q v H1) : dXf a C d cls f e E σ H Q := q
theorem x_xfAt {a C dd : Addr} {f : Str} {fs : List (Str × DL.D)} {v : DL.D} {Q : DK} (h : H dd = some (.xd fs)) (l : fs.lookup f = some v) (q : Q v H) : D.ref a = .ref a ∧ Value.ref C = .ref C ∧ ∃ d fs v, some dd = some d ∧ H d = some (.xd fs) ∧ fs.lookup f = some v ∧ Q v H := ⟨rfl, rfl, dd, fs, v, rfl, h, l, q⟩
end
/-! comprehensions -/
def LcGo (J : DIt) (g : DTG) (tt : DTT) (te : DTE) (vs : List Nat) (p : Addr) (σ : DSt) (H1 : DH) (Qd : DH → Prop) : Prop := ∃ W : Nat → Nat → DH → Prop, (∃ m, W 0 m H1) ∧ ∀ i m H, W i m H →
  (J.stop i H ∧ Qd H) ∨ (∃ x, J.at_ i H x ∧ ∃ Nx : DH → Prop, (∀ H', Nx H' → ∃ m', m' < m ∧ W (i + 1) m' H') ∧ g x (wipeD σ vs) H fun σ2 H2 => tt EF σ2 H2 fun b H3 =>
    if b = true then te EF σ2 H3 fun y H4 => ∃ acc, H4 p = some (.lst acc) ∧ acc.length < sizeLine ∧ Nx (put H4 p (.lst (acc ++ [y]))) else Nx H3)
section
variable {E : DX} {σ : DSt} {H H1 : DH} {wi : DTI} {g : DTG} {tt : DTT} {te : DTE} {vs : List Nat} {p : Addr}
theorem x_lc {Q : DK} (q : wi E σ H fun J H1 => ∀ p, H1 p = none → LcGo J g tt te vs p σ (put H1 p (.lst [])) (Q (.ref p))) : dLc wi g tt te vs E σ H Q := q
theorem x_yes {Q : Bool → DH → Prop} (q : Q true H) : dYes E σ H Q := q
theorem x_acc {acc : List DL.D} {y : DL.D} {N : DH → Prop} (h : H p = some (.lst acc)) (l : acc.length < sizeLine) (q : N (put H p (.lst (acc ++ [y])))) : ∃ acc, H p = some (.lst acc) ∧ acc.length < sizeLine ∧ N (put H p (.lst (acc ++ [y]))) := ⟨acc, h, l, q⟩
theorem lcSeq {ds : List DL.D} {Qd : DH → Prop} (W : Nat → DH → Prop) (h0 : W 0 H1)
    (step : ∀ i x H, ds[i]? = some x → W i H → g x (wipeD σ vs) H fun σ2 H2 => tt EF σ2 H2 fun b H3 => if b = true then te EF σ2 H3 fun y H4 => ∃ acc, H4 p = some (.lst acc) ∧ acc.length < sizeLine ∧ W (i + 1) (put H4 p (.lst (acc ++ [y]))) else W (i + 1) H3)
    (hd : ∀ H, W ds.length H → Qd H) : LcGo (jSeq ds) g tt te vs p σ H1 Qd := by
  refine ⟨fun i m H => m = ds.length - i ∧ i ≤ ds.length ∧ W i H, ⟨_, rfl, Nat.zero_le _, h0⟩, ?_⟩
  rintro i m H ⟨rfl, hi, w⟩
  by_cases hlt : i < ds.length
  · exact .inr ⟨ds[i], by simp [jSeq, hlt], W (i + 1), fun H' w' => ⟨ds.length - (i + 1), by omega, rfl, hlt, w'⟩, step i _ H (by simp [hlt]) w⟩
  · have e : i = ds.length := by omega
    subst e
    exact .inl ⟨Nat.le_refl _, hd H w⟩
theorem lcLst {a : Addr} {ds : List DL.D} {Qd : DH → Prop} (W : Nat → DH → Prop) (h0 : W 0 H1) (st : ∀ i H, W i H → H a = some (.lst ds))
    (step : ∀ i x H, ds[i]? = some x → W i H → g x (wipeD σ vs) H fun σ2 H2 => tt EF σ2 H2 fun b H3 => if b = true then te EF σ2 H3 fun y H4 => ∃ acc, H4 p = some (.lst acc) ∧ acc.length < sizeLine ∧ W (i + 1) (put H4 p (.lst (acc ++ [y]))) else W (i + 1) H3)
    (hd : ∀ H, W ds.length H → Qd H) : LcGo (jLst a) g tt te vs p σ H1 Qd := by
  refine ⟨fun i m H => m = ds.length - i ∧ i ≤ ds.length ∧ W i H, ⟨_, rfl, Nat.zero_le _, h0⟩, ?_⟩
  rintro i m H ⟨rfl, hi, w⟩
  by_cases hlt : i < ds.length
  · exact .inr ⟨ds[i], ⟨ds, st i H w, by simp [hlt]⟩, W (i + 1), fun H' w' => ⟨ds.length - (i + 1), by omega, rfl, hlt, w'⟩, step i _ H (by simp [hlt]) w⟩
  · have e : i = ds.length := by omega
    subst e
    exact .inl ⟨⟨ds, st _ H w, Nat.le_refl _⟩, hd H w⟩
theorem lcRng {lo : Int} {n : Nat} {Qd : DH → Prop} (W : Nat → DH → Prop) (h0 : W 0 H1)
    (step : ∀ i H, i < n → W i H → g (.int (lo + (i : Int))) (wipeD σ vs) H fun σ2 H2 => tt EF σ2 H2 fun b H3 => if b = true then te EF σ2 H3 fun y H4 => ∃ acc, H4 p = some (.lst acc) ∧ acc.length < sizeLine ∧ W (i + 1) (put H4 p (.lst (acc ++ [y]))) else W (i + 1) H3)
    (hd : ∀ H, W n H → Qd H) : LcGo (jRng lo n) g tt te vs p σ H1 Qd := by
  refine ⟨fun i m H => m = n - i ∧ i ≤ n ∧ W i H, ⟨_, rfl, Nat.zero_le _, h0⟩, ?_⟩
  rintro i m H ⟨rfl, hi, w⟩
  by_cases hlt : i < n
  · exact .inr ⟨_, ⟨hlt, rfl⟩, W (i + 1), fun H' w' => ⟨n - (i + 1), by omega, rfl, hlt, w'⟩, step i H hlt w⟩
  · have e : i = n := by omega
    subst e
    exact .inl ⟨Nat.le_refl _, hd H w⟩
end
end DL

/-! The data layer, part L: what gen.py's lines lean on. -/
namespace DL
open PySem PySem.Spec PyProof.Rows L2

theorem pla_list : PlainAttrs "list" := PySem.F.plainAttrs_list
theorem sl_list_append : Slot "list" "append" "list.append" := PySem.F.slot_list_append
theorem ty_list_append : typeOf (.builtin "list.append") = pure (.type "method_descriptor") := PySem.F.type_list_append
theorem sl_list_pop : Slot "list" "pop" "list.pop" := PySem.F.slot_list_pop
theorem ty_list_pop : typeOf (.builtin "list.pop") = pure (.type "method_descriptor") := PySem.F.type_list_pop

theorem hu64_of {A : Around} {k : Nat} (hr : Room k A) : A.units + 64 < cLine := hr.units
theorem hu64H_of {A : Around} {k : Nat} (hr : L2H.RoomH k A) : A.units + 64 < cLine := by have := hr.un; omega
theorem huH_of {A : Around} {k : Nat} (hr : L2H.RoomH k A) : A.units + 1 < cLine := by have := hr.un; omega

theorem roomH_mark {k : Nat} {A : Around} {v : Option Value} (r : L2H.RoomH k A) : L2H.RoomH k (A.mark v) := ⟨r.dp, r.un⟩
def scD (N ps : List Str) (sc : Scope) : Bool :=
  decide (sc.kind = .function) && (!sc.isCoroutine && (!sc.isGenerator && (decide N.Nodup && (decide (N.take ps.length = ps) && (ps.all (fun x => decide (sc.names.lookup x = some .local) || decide (sc.names.lookup x = some .cell)) && (sc.names.all (fun y => !decide (y.2 = .free))))))))
theorem dscope_by {N ps : List Str} {sc : Scope} (h : scD N ps sc = true) : FnScope N ps sc := by
  unfold scD at h
  simp only [Bool.and_eq_true, Bool.not_eq_true', decide_eq_true_eq, List.all_eq_true, Bool.or_eq_true, decide_eq_false_iff_not] at h
  obtain ⟨h1, h2, h3, h4, h5, h6, h7⟩ := h
  exact ⟨h1, h2, h3, h4, h5, h6, h7⟩
/-- a built-in type by its name -/
theorem d_ty {X : Cx} {W : WX} {x : Str} {n : String} {pos : Pos} (hg : Gl X x) (hm : X.mg x = none) (hv : bootBuiltins x = some (.type n)) (hn : x ≠ "__name__" := by decide) (hd : (x == ("__debug__" : Str)) = false := by decide) : DPE X W (.Name x pos) (dC (.ty n)) :=
  d_bltn (v := .ty n) hg hm hv rfl (fun _ => rfl) hn hd
/-- an own class by its name -/
theorem d_cls {X : Cx} {W : WX} {x : Str} {a : Addr} {pos : Pos} (hg : Gl X x) (hm : X.mg x = some (.ref a)) (hd : (x == ("__debug__" : Str)) = false := by decide) : DPE X W (.Name x pos) (dC (.ref a)) :=
  d_glob (v := .ref a) hg hm rfl (fun _ => rfl) hd
def scI (N ps : List Str) (sc : Scope) : Bool :=
  decide (sc.kind = .function) && (!sc.isCoroutine && (!sc.isGenerator && (decide N.Nodup && (decide (N.take ps.length = ps) && (ps.all (fun x => decide (sc.names.lookup x = some .local)) && (sc.names.all (fun y => !decide (y.2 = .cell)) &&
    (sc.names.all (fun y => !decide (y.2 = .free) || decide (y.1 = "__class__")) && (decide (sc.names.lookup ("__class__" : Str) = some .free) && decide (sc.names.lookup ("super" : Str) = some .globalImplicit)))))))))
theorem iScope_by {N ps : List Str} {sc : Scope} (h : scI N ps sc = true) : IScope N ps sc := by
  unfold scI at h
  simp only [Bool.and_eq_true, Bool.not_eq_true', decide_eq_true_eq, List.all_eq_true, Bool.or_eq_true, decide_eq_false_iff_not] at h
  obtain ⟨h1, h2, h3, h4, h5, h6, h7, h8, h9, h10⟩ := h
  refine ⟨h1, h2, h3, h4, h5, h6, h7, fun x e => ?_, h9, h10⟩
  rcases h8 _ (PySem.mem_of_lookup e) with z | z
  · exact absurd rfl z
  · exact z
/-- an error's __init__ as it stands behind the top -/
structure ErL (K : PySem.W.Frag) (st : Stmt) (qual : Str) (f cc cda : Addr) (fd : FuncData) : Prop where
  ex : ∃ (oc kV doc pm ct : Value) (od an : Option Addr) (osl : Array (Option Value)), fd = PySem.W.ksFn "__init__" qual (defArgs st) (defBody st) (defScope st) .none kV doc pm an (.ref cda) ct cc ∧ K.lookup f = some ⟨oc, od, .func fd, osl⟩ ∧ PySem.W.codeIn K (.ref cda) qual = true
section
variable {P : Program} {w : World} {K : PySem.W.Frag} {mg : Str → Option Value} {base : Heap} {st : Stmt} {qual : Str} {f cc cda C : Addr} {fd : FuncData} {f1 f2 : Str} {ar : Arg} {t : Str} {k : Nat} {p0 p1 p2 p3 p4 p5 : Pos} {rest : List Stmt}
theorem init1 (T : ErT P K mg C f cc cda) (L : ErL K st qual f cc cda fd) (n1 : PySem.W.findIn K (.ref C) f1 = some none) (S : IScope ["self", f1] ["self", f1] (defScope st))
    (hbody : defBody st = .Expr (.Call (.Attribute (.Call (.Name "super" p0) [] [] p1) "__init__" p2) [.Constant (.str t) k p3] [] p4) p5 :: rest) (hp : ((defArgs st).posonlyargs ++ (defArgs st).args).head? = some ar) (har : ar.arg = "self") (hN : (["self", f1] : List Str)[0]? = some ("self" : Str)) (hself : (defScope st).names.lookup ("self" : Str) = some .local)
    {pl : Addr → Sem Bool} (he : ∀ L : Addr, eval (.Call (.Attribute (.Call (.Name "super" p0) [] [] p1) "__init__" p2) [.Constant (.str t) k p3] [] p4) (PySem.W.ksEnv qual (defScope st) L f (.ref cda) cc) = (do
      let ov ← attributeBase (.Call (.Name "super" p0) [] [] p1) "__init__" (PySem.W.ksEnv qual (defScope st) L f (.ref cda) cc) (eval (.Call (.Name "super" p0) [] [] p1) (PySem.W.ksEnv qual (defScope st) L f (.ref cda) cc))
      standAt p2.atName
      let (fn, first) ← holding [ov] (getMethod ov "__init__" (pl L))
      callWith p4 fn first (backTo p4 (starEach [.Constant (.str t) k p3] (PySem.W.ksEnv qual (defScope st) L f (.ref cda) cc))) []))
    (hi : ∀ L : Addr, interactive (PySem.W.ksEnv qual (defScope st) L f (.ref cda) cc) = false)
    (hs : ∀ L : Addr, swapsWith (.Call (.Attribute (.Call (.Name "super" p0) [] [] p1) "__init__" p2) [.Constant (.str t) k p3] [] p4) none p5.line (PySem.W.ksEnv qual (defScope st) L f (.ref cda) cc) = pure false)
    (hst : ∀ L : Addr, starEach [.Constant (.str t) k p3] (PySem.W.ksEnv qual (defScope st) L f (.ref cda) cc) = [(false, eval (.Constant (.str t) k p3) (PySem.W.ksEnv qual (defScope st) L f (.ref cda) cc))])
    (hrest : ∀ (A : Around) (outer : List Env) (s : Shared) (H : Hp) (E : XK), PSs (cxI (L2N.CX P w) P w K mg base ["self", f1] qual (defScope st) f (.ref cda) cc A outer s H E) rest (tOst K f1 (tVar 0) (tVar 1))) :
    FnOk P w K mg base (L2N.CX P w) 1 f fd ["self", f1] (spI1 C f1) := by
  obtain ⟨oc, kV, doc, pm, ct, od, an, osl, rfl, lk, hcd⟩ := L.ex
  refine init_of S T hbody lk hcd hp har hN hself he hi hs hst (fun vs H Q E h => ?_) (fun vs H Q E h => ?_) (fun A outer s H vs Q E _ h => ?_)
  · obtain ⟨a, y, rfl, _⟩ := h
    rfl
  · obtain ⟨a, y, rfl, ha, _⟩ := h
    exact ⟨a, rfl, ha⟩
  · obtain ⟨a, y, rfl, ha, q⟩ := h
    exact ⟨_, hrest A outer s H E, ⟨y, rfl, .ref a, rfl, a, C, rfl, T.o, n1, .inl ⟨ha, fun dx n ne => q dx n ne⟩⟩⟩
theorem init2 (T : ErT P K mg C f cc cda) (L : ErL K st qual f cc cda fd) (n1 : PySem.W.findIn K (.ref C) f1 = some none) (n2 : PySem.W.findIn K (.ref C) f2 = some none) (S : IScope ["self", f1, f2] ["self", f1, f2] (defScope st))
    (hbody : defBody st = .Expr (.Call (.Attribute (.Call (.Name "super" p0) [] [] p1) "__init__" p2) [.Constant (.str t) k p3] [] p4) p5 :: rest) (hp : ((defArgs st).posonlyargs ++ (defArgs st).args).head? = some ar) (har : ar.arg = "self") (hN : (["self", f1, f2] : List Str)[0]? = some ("self" : Str)) (hself : (defScope st).names.lookup ("self" : Str) = some .local)
    {pl : Addr → Sem Bool} (he : ∀ L : Addr, eval (.Call (.Attribute (.Call (.Name "super" p0) [] [] p1) "__init__" p2) [.Constant (.str t) k p3] [] p4) (PySem.W.ksEnv qual (defScope st) L f (.ref cda) cc) = (do
      let ov ← attributeBase (.Call (.Name "super" p0) [] [] p1) "__init__" (PySem.W.ksEnv qual (defScope st) L f (.ref cda) cc) (eval (.Call (.Name "super" p0) [] [] p1) (PySem.W.ksEnv qual (defScope st) L f (.ref cda) cc))
      standAt p2.atName
      let (fn, first) ← holding [ov] (getMethod ov "__init__" (pl L))
      callWith p4 fn first (backTo p4 (starEach [.Constant (.str t) k p3] (PySem.W.ksEnv qual (defScope st) L f (.ref cda) cc))) []))
    (hi : ∀ L : Addr, interactive (PySem.W.ksEnv qual (defScope st) L f (.ref cda) cc) = false)
    (hs : ∀ L : Addr, swapsWith (.Call (.Attribute (.Call (.Name "super" p0) [] [] p1) "__init__" p2) [.Constant (.str t) k p3] [] p4) none p5.line (PySem.W.ksEnv qual (defScope st) L f (.ref cda) cc) = pure false)
    (hst : ∀ L : Addr, starEach [.Constant (.str t) k p3] (PySem.W.ksEnv qual (defScope st) L f (.ref cda) cc) = [(false, eval (.Constant (.str t) k p3) (PySem.W.ksEnv qual (defScope st) L f (.ref cda) cc))])
    (hrest : ∀ (A : Around) (outer : List Env) (s : Shared) (H : Hp) (E : XK), PSs (cxI (L2N.CX P w) P w K mg base ["self", f1, f2] qual (defScope st) f (.ref cda) cc A outer s H E) rest (tSeq (tOst K f1 (tVar 0) (tVar 1)) (tOst K f2 (tVar 0) (tVar 2)))) :
    FnOk P w K mg base (L2N.CX P w) 1 f fd ["self", f1, f2] (spI2 C f1 f2) := by
  obtain ⟨oc, kV, doc, pm, ct, od, an, osl, rfl, lk, hcd⟩ := L.ex
  refine init_of S T hbody lk hcd hp har hN hself he hi hs hst (fun vs H Q E h => ?_) (fun vs H Q E h => ?_) (fun A outer s H vs Q E _ h => ?_)
  · obtain ⟨a, y, z, rfl, _⟩ := h
    rfl
  · obtain ⟨a, y, z, rfl, ha, _⟩ := h
    exact ⟨a, rfl, ha⟩
  · obtain ⟨a, y, z, rfl, ha, q⟩ := h
    refine ⟨_, hrest A outer s H E, ⟨y, rfl, .ref a, rfl, a, C, rfl, T.o, n1, .inl ⟨ha, fun dx n ne => ?_⟩⟩⟩
    exact ⟨z, rfl, .ref a, rfl, a, C, rfl, T.o, n2, .inr ⟨dx, _, upd_same, by rw [upd_ne ne, upd_same], by show 1 ≤ 900; omega, q dx n ne⟩⟩
end
theorem al_of {K : PySem.W.Frag} {C B N N2 : Addr} {nm q nm2 q2 : Str} {bs bs2 bm : List Value} {sn sn2 : List Str} {sub sub2 : List Value} {ab ab2 : Bool} {col col2 : Option Bool} {dd dd2 : Option Addr} {k0 k1 k2 k3 k5 j0 j1 j2 j3 j5 : Option Value} {v : Value}
    (h : K.lookup C = some (excClassObj nm q C N bs (.ref B :: bm) true sn sub ab col dd k0 k1 k2 k3 k5 "ValueError.__new__")) (g : K.lookup B = some (excClassObj nm2 q2 B N2 bs2 bm true sn2 sub2 ab2 col2 dd2 j0 j1 j2 j3 j5 "ValueError.__new__")) (f : PySem.W.findIn K (.ref B) "__init__" = some (some v)) :
    ∃ cd bm, PySem.W.clsIn K C = some cd ∧ cd.mro = .ref C :: bm ∧ PySem.W.alongIn K "__init__" bm = some (some v) := by
  refine ⟨_, .ref B :: bm, by unfold PySem.W.clsIn; rw [h], rfl, ?_⟩
  have e : PySem.W.findIn K (.ref B) "__init__" = PySem.W.alongIn K "__init__" (.ref B :: bm) := by
    unfold PySem.W.findIn
    simp only [g]
  rw [← e]
  exact f
/-- what an except clause asks of an own error -/
theorem exm_of {K : PySem.W.Frag} {C B : Addr} {b : Bool} (h1 : PySem.W.subIn K (.ref B) (.type "BaseException") = some true) (hd : PySem.W.hasDictIn K B = true) (ht : PySem.W.typeIn K (.ref B) = some (.type "type")) (h4 : PySem.W.subIn K (.ref C) (.ref B) = some b) : PySem.W.exmOne K (.ref C) (.ref B) = some b := PySem.W.exm_ref h1 hd ht h4
theorem kit_self {K : PySem.W.Frag} {v : Value} : PySem.W.kitOne K v v = some true := by
  unfold PySem.W.kitOne
  rw [if_pos (beq_self_eq_true v)]
theorem kit_type {K : PySem.W.Frag} {C : Addr} {T : String} {b : Bool} (hm : PySem.W.kitMeta T = true) (h : PySem.W.subIn K (.ref C) (.type T) = some b) : PySem.W.kitOne K (.ref C) (.type T) = some b := by
  unfold PySem.W.kitOne PySem.W.kitCls
  rw [if_neg (by simp)]
  show (if PySem.W.kitMeta T = true then PySem.W.subIn K (.ref C) (.type T) else none) = some b
  rw [if_pos hm]
  exact h
theorem kit_own {K : PySem.W.Frag} {C B : Addr} {b : Bool} (ne : C ≠ B) (hc : PySem.W.isClsIn K B = true) (ht : PySem.W.typeIn K (.ref B) = some (.type "type")) (h : PySem.W.subIn K (.ref C) (.ref B) = some b) : PySem.W.kitOne K (.ref C) (.ref B) = some b := by
  have hc' : (PySem.W.clsIn K B).isSome = true := hc
  unfold PySem.W.kitOne PySem.W.kitCls
  rw [if_neg (by simp [ne])]
  show (if ((PySem.W.clsIn K B).isSome && PySem.W.typeIn K (.ref B) == some (.type "type")) = true then PySem.W.subIn K (.ref C) (.ref B) else none) = some b
  rw [hc', ht, if_pos (by rfl)]
  exact h
end DL

/-! The data layer, part M: the law's own promise, the end. -/
namespace DL
open PySem PySem.Spec PyProof.Rows L2
/-- the law's promise: a script of ints of at most 63, the answer True -/
def spLaw : DSp := fun ds _ Q _ => ∃ ns : List Int, ds = [.fl (ns.map D.int)] ∧ ns.length ≤ 63 ∧ ∀ H', Q (.bl true) H'
theorem fl_only {K : PySem.W.Frag} {H : Hp} {a : Addr} {xs : List V} (o : Only H) (s : SqL K H a xs) : Fl K H a xs := by
  rcases s with (s | s) | s
  · rcases o a with n | ⟨o', ys, e⟩
    · rw [n] at s; cases s
    · rw [e] at s; cases s
  · exact .inl s
  · exact .inr fun H' => .inr s
theorem spLaw_in {K : PySem.W.Frag} (H : Hp) (a : Addr) (ns : List Int) (hl : ns.length ≤ 63) (o : Only H) (s : SqL K H a (ns.map V.int)) : spOf K spLaw [.ref a] H (fun v _ => v = .bl true) fun _ _ _ => False :=
  ⟨[.fl (ns.map D.int)], (fun _ => none), (fun d _ => d = .bl true), (fun _ _ _ => False), ⟨_, _, rfl, ⟨a, _, rfl, fl_only o s, Reps.of_ints ns⟩, rfl⟩, (fun _ _ e => nomatch e), ⟨ns, rfl, hl, fun _ => rfl⟩, (fun z Hd' w H' e rz _ _ => by subst e; exact rz), (fun _ _ _ _ z _ _ => z.elim)⟩
theorem hcx {P : Program} {w : World} (H : Hp) (s : Shared) (e : Value) (s' : Shared) (h : L2N.CX P w [] H s (fun _ _ _ => False) e s') : False := by
  obtain ⟨_, _, _, _, _, _, _, _, _, _, _, _, z⟩ := h
  exact z
theorem walk_d {l : PySem.W.OpenLaw} {k : Nat} {q : Program} {loose : List Str} {XP : (Str → Option Value) → Heap → Prop} {YP : World → Heap → Prop} {d : DefRec} {K : Params → PySem.W.Frag} (hn : l.most = some 63) (hdf : d.params.defaults = []) (hr : Room k callerA)
    (hY : ∀ (w : World) (h : Heap), YP w h → (K w.params).In h)
    (F : ∀ (w : World) (mg : Str → Option Value) (fa : Addr) (h : Heap), (K w.params).In h → h.Ns mainGlobals mg → mg d.name = some (.ref fa) →
      ∃ fd : FuncData, (∀ (s : Shared) (u : Value), BindsTo s fd ⟨[u], []⟩ [("script", u)]) ∧ ∀ base : Heap, (K w.params).In base → base.Ns mainGlobals mg → DFn l.prog w (K w.params) mg base k fa fd ["script"] spLaw) :
    PySem.W.WalkO q loose XP YP l.row.toRowW d [] (fun f vs => PySem.call f vs) :=
  L2.walk_of (n := 63) (k := k) (x := "script") (CX := fun w => L2N.CX l.prog w) (sp := fun w => spOf (K w.params) spLaw) hn (by decide) hdf hr hY F (fun w H a ns hl o s => spLaw_in H a ns hl o s) fun w H s e s' h => hcx H s e s' h
end DL

namespace K05
open PySem PySem.Spec PyProof.Rows L2 DL
/-! ### the text by places -/
def top (i : Nat) : Stmt := PySem.Challenge.pw_everplay_k05_plays_shortened.main.body.getD i (.Pass ⟨0, 0, 0, 0⟩)
abbrev st_is_row : Stmt := top 5
abbrev st_frozen : Stmt := top 6
abbrev st_shortest_period : Stmt := top 9
abbrev st_shortened : Stmt := top 10
abbrev st__law_bag : Stmt := top 12
abbrev st__law_take : Stmt := top 13
abbrev st__law_same : Stmt := top 14
abbrev st__law_places : Stmt := top 15
abbrev st__law_lasso : Stmt := top 16
abbrev st__law_place_at : Stmt := top 17
abbrev st__law_gone_on : Stmt := top 18
abbrev st__law_changed : Stmt := top 19
abbrev st__law_alike : Stmt := top 20
abbrev st__law_least : Stmt := top 21
abbrev st__law_are_places : Stmt := top 22
abbrev st__law_short : Stmt := top 23
abbrev st__law_refused : Stmt := top 24
abbrev st_law : Stmt := top 25
abbrev st_Play_init : Stmt := inClass (top 8) 0
abbrev st_Play_len : Stmt := inClass (top 8) 1
abbrev st_InvalidPlay : Stmt := inClass (top 3) 0
abbrev N_is_row : List Str := ["value"]
abbrev ps_is_row : List Str := ["value"]
theorem sc_is_row : FnScope N_is_row ps_is_row (defScope st_is_row) := dscope_by (by decide +kernel)
abbrev N_frozen : List Str := ["value", "rows", "parts", "depth", "row", "at", "made"]
abbrev ps_frozen : List Str := ["value"]
theorem sc_frozen : FnScope N_frozen ps_frozen (defScope st_frozen) := dscope_by (by decide +kernel)
abbrev N_shortest_period : List Str := ["loop", "size", "part"]
abbrev ps_shortest_period : List Str := ["loop"]
theorem sc_shortest_period : FnScope N_shortest_period ps_shortest_period (defScope st_shortest_period) := dscope_by (by decide +kernel)
abbrev N_shortened : List Str := ["play", "loop", "size", "back", "turn"]
abbrev ps_shortened : List Str := ["play"]
theorem sc_shortened : FnScope N_shortened ps_shortened (defScope st_shortened) := dscope_by (by decide +kernel)
abbrev N__law_bag : List Str := ["script", "great", "seed", "cell", "small"]
abbrev ps__law_bag : List Str := ["script"]
theorem sc__law_bag : FnScope N__law_bag ps__law_bag (defScope st__law_bag) := dscope_by (by decide +kernel)
abbrev N__law_take : List Str := ["bag", "many", "first", "second", "drawn"]
abbrev ps__law_take : List Str := ["bag", "many"]
theorem sc__law_take : FnScope N__law_take ps__law_take (defScope st__law_take) := dscope_by (by decide +kernel)
abbrev N__law_same : List Str := ["told", "due", "k"]
abbrev ps__law_same : List Str := ["told", "due"]
theorem sc__law_same : FnScope N__law_same ps__law_same (defScope st__law_same) := dscope_by (by decide +kernel)
abbrev N__law_places : List Str := ["bag", "menu", "many", "k"]
abbrev ps__law_places : List Str := ["bag", "menu", "many"]
theorem sc__law_places : FnScope N__law_places ps__law_places (defScope st__law_places) := dscope_by (by decide +kernel)
abbrev N__law_lasso : List Str := ["bag", "menu", "stem", "loop", "way", "k"]
abbrev ps__law_lasso : List Str := ["bag"]
theorem sc__law_lasso : FnScope N__law_lasso ps__law_lasso (defScope st__law_lasso) := dscope_by (by decide +kernel)
abbrev N__law_place_at : List Str := ["lasso", "time"]
abbrev ps__law_place_at : List Str := ["lasso", "time"]
theorem sc__law_place_at : FnScope N__law_place_at ps__law_place_at (defScope st__law_place_at) := dscope_by (by decide +kernel)
abbrev N__law_gone_on : List Str := ["bag", "lasso", "more", "stem", "begin", "loop", "k"]
abbrev ps__law_gone_on : List Str := ["bag", "lasso"]
theorem sc__law_gone_on : FnScope N__law_gone_on ps__law_gone_on (defScope st__law_gone_on) := dscope_by (by decide +kernel)
abbrev N__law_changed : List Str := ["bag", "lasso", "trail", "at"]
abbrev ps__law_changed : List Str := ["bag", "lasso"]
theorem sc__law_changed : FnScope N__law_changed ps__law_changed (defScope st__law_changed) := dscope_by (by decide +kernel)
abbrev N__law_alike : List Str := ["one", "two", "time"]
abbrev ps__law_alike : List Str := ["one", "two"]
theorem sc__law_alike : FnScope N__law_alike ps__law_alike (defScope st__law_alike) := dscope_by (by decide +kernel)
abbrev N__law_least : List Str := ["lasso", "loop", "shift"]
abbrev ps__law_least : List Str := ["lasso"]
theorem sc__law_least : FnScope N__law_least ps__law_least (defScope st__law_least) := dscope_by (by decide +kernel)
abbrev N__law_are_places : List Str := ["row", "place"]
abbrev ps__law_are_places : List Str := ["row"]
theorem sc__law_are_places : FnScope N__law_are_places ps__law_are_places (defScope st__law_are_places) := dscope_by (by decide +kernel)
abbrev N__law_short : List Str := ["lasso", "play", "told", "found"]
abbrev ps__law_short : List Str := ["lasso", "play"]
theorem sc__law_short : FnScope N__law_short ps__law_short (defScope st__law_short) := dscope_by (by decide +kernel)
abbrev N__law_refused : List Str := ["stem", "raised"]
abbrev ps__law_refused : List Str := ["stem"]
theorem sc__law_refused : FnScope N__law_refused ps__law_refused (defScope st__law_refused) := dscope_by (by decide +kernel)
abbrev N_law : List Str := ["script", "bag", "first", "second", "third", "one", "two", "short", "other", "again", "whole", "last"]
abbrev ps_law : List Str := ["script"]
theorem sc_law : FnScope N_law ps_law (defScope st_law) := dscope_by (by decide +kernel)
abbrev N_Play_init : List Str := ["self", "stem", "loop"]
abbrev ps_Play_init : List Str := ["self", "stem", "loop"]
theorem sc_Play_init : FnScope N_Play_init ps_Play_init (defScope st_Play_init) := dscope_by (by decide +kernel)
abbrev N_Play_len : List Str := ["self"]
abbrev ps_Play_len : List Str := ["self"]
theorem sc_Play_len : FnScope N_Play_len ps_Play_len (defScope st_Play_len) := dscope_by (by decide +kernel)
theorem bt_ValueError : bootBuiltins "ValueError" = some (.type "ValueError") := by decide +kernel
theorem bt_bool : bootBuiltins "bool" = some (.type "bool") := by decide +kernel
theorem bt_int : bootBuiltins "int" = some (.type "int") := by decide +kernel
theorem bt_isinstance : bootBuiltins "isinstance" = some (.builtin "isinstance") := by decide +kernel
theorem bt_len : bootBuiltins "len" = some (.builtin "len") := by decide +kernel
theorem bt_list : bootBuiltins "list" = some (.type "list") := by decide +kernel
theorem bt_max : bootBuiltins "max" = some (.builtin "max") := by decide +kernel
theorem bt_range : bootBuiltins "range" = some (.type "range") := by decide +kernel
theorem bt_str : bootBuiltins "str" = some (.type "str") := by decide +kernel
theorem bt_tuple : bootBuiltins "tuple" = some (.type "tuple") := by decide +kernel
/-! ### what the top has left -/
structure Txt (P : Program) (K : PySem.W.Frag) (mg : Str → Option Value) where
  z_ValueError : mg "ValueError" = none
  z_bool : mg "bool" = none
  z_int : mg "int" = none
  z_isinstance : mg "isinstance" = none
  z_len : mg "len" = none
  z_list : mg "list" = none
  z_max : mg "max" = none
  z_range : mg "range" = none
  z_str : mg "str" = none
  z_tuple : mg "tuple" = none
  C_Play : Addr
  g_Play : mg "Play" = some (.ref C_Play)
  c_Play : Cls K C_Play
  n_Play_loop : NoAttr K C_Play "loop"
  n_Play_stem : NoAttr K C_Play "stem"
  o_Play : OwnTy K C_Play
  f_Play_init : Addr
  d_Play_init : FuncData
  F_Play_init : DFu K "__init__" "Play.__init__" st_Play_init f_Play_init d_Play_init
  m_Play_init : Meth K C_Play "__init__" f_Play_init
  b_Play_init : Binds K d_Play_init ps_Play_init []
  f_Play_len : Addr
  d_Play_len : FuncData
  F_Play_len : DFu K "__len__" "Play.__len__" st_Play_len f_Play_len d_Play_len
  m_Play_len : Meth K C_Play "__len__" f_Play_len
  b_Play_len : Binds K d_Play_len ps_Play_len []
  M_Play : Mk K C_Play f_Play_init
  f_is_row : Addr
  d_is_row : FuncData
  F_is_row : DFu K "is_row" "is_row" st_is_row f_is_row d_is_row
  g_is_row : mg "is_row" = some (.ref f_is_row)
  k_is_row : PySem.W.keepIn K (.ref f_is_row) = true
  b_is_row : Binds K d_is_row ps_is_row []
  f_frozen : Addr
  d_frozen : FuncData
  F_frozen : DFu K "frozen" "frozen" st_frozen f_frozen d_frozen
  g_frozen : mg "frozen" = some (.ref f_frozen)
  k_frozen : PySem.W.keepIn K (.ref f_frozen) = true
  b_frozen : Binds K d_frozen ps_frozen []
  f_shortest_period : Addr
  d_shortest_period : FuncData
  F_shortest_period : DFu K "shortest_period" "shortest_period" st_shortest_period f_shortest_period d_shortest_period
  g_shortest_period : mg "shortest_period" = some (.ref f_shortest_period)
  k_shortest_period : PySem.W.keepIn K (.ref f_shortest_period) = true
  b_shortest_period : Binds K d_shortest_period ps_shortest_period []
  f_shortened : Addr
  d_shortened : FuncData
  F_shortened : DFu K "shortened" "shortened" st_shortened f_shortened d_shortened
  g_shortened : mg "shortened" = some (.ref f_shortened)
  k_shortened : PySem.W.keepIn K (.ref f_shortened) = true
  b_shortened : Binds K d_shortened ps_shortened []
  f__law_bag : Addr
  d__law_bag : FuncData
  F__law_bag : DFu K "_law_bag" "_law_bag" st__law_bag f__law_bag d__law_bag
  g__law_bag : mg "_law_bag" = some (.ref f__law_bag)
  k__law_bag : PySem.W.keepIn K (.ref f__law_bag) = true
  b__law_bag : Binds K d__law_bag ps__law_bag []
  f__law_take : Addr
  d__law_take : FuncData
  F__law_take : DFu K "_law_take" "_law_take" st__law_take f__law_take d__law_take
  g__law_take : mg "_law_take" = some (.ref f__law_take)
  k__law_take : PySem.W.keepIn K (.ref f__law_take) = true
  b__law_take : Binds K d__law_take ps__law_take []
  f__law_same : Addr
  d__law_same : FuncData
  F__law_same : DFu K "_law_same" "_law_same" st__law_same f__law_same d__law_same
  g__law_same : mg "_law_same" = some (.ref f__law_same)
  k__law_same : PySem.W.keepIn K (.ref f__law_same) = true
  b__law_same : Binds K d__law_same ps__law_same []
  f__law_places : Addr
  d__law_places : FuncData
  F__law_places : DFu K "_law_places" "_law_places" st__law_places f__law_places d__law_places
  g__law_places : mg "_law_places" = some (.ref f__law_places)
  k__law_places : PySem.W.keepIn K (.ref f__law_places) = true
  b__law_places : Binds K d__law_places ps__law_places []
  f__law_lasso : Addr
  d__law_lasso : FuncData
  F__law_lasso : DFu K "_law_lasso" "_law_lasso" st__law_lasso f__law_lasso d__law_lasso
  g__law_lasso : mg "_law_lasso" = some (.ref f__law_lasso)
  k__law_lasso : PySem.W.keepIn K (.ref f__law_lasso) = true
  b__law_lasso : Binds K d__law_lasso ps__law_lasso []
  f__law_place_at : Addr
  d__law_place_at : FuncData
  F__law_place_at : DFu K "_law_place_at" "_law_place_at" st__law_place_at f__law_place_at d__law_place_at
  g__law_place_at : mg "_law_place_at" = some (.ref f__law_place_at)
  k__law_place_at : PySem.W.keepIn K (.ref f__law_place_at) = true
  b__law_place_at : Binds K d__law_place_at ps__law_place_at []
  f__law_gone_on : Addr
  d__law_gone_on : FuncData
  F__law_gone_on : DFu K "_law_gone_on" "_law_gone_on" st__law_gone_on f__law_gone_on d__law_gone_on
  g__law_gone_on : mg "_law_gone_on" = some (.ref f__law_gone_on)
  k__law_gone_on : PySem.W.keepIn K (.ref f__law_gone_on) = true
  b__law_gone_on : Binds K d__law_gone_on ps__law_gone_on []
  f__law_changed : Addr
  d__law_changed : FuncData
  F__law_changed : DFu K "_law_changed" "_law_changed" st__law_changed f__law_changed d__law_changed
  g__law_changed : mg "_law_changed" = some (.ref f__law_changed)
  k__law_changed : PySem.W.keepIn K (.ref f__law_changed) = true
  b__law_changed : Binds K d__law_changed ps__law_changed []
  f__law_alike : Addr
  d__law_alike : FuncData
  F__law_alike : DFu K "_law_alike" "_law_alike" st__law_alike f__law_alike d__law_alike
  g__law_alike : mg "_law_alike" = some (.ref f__law_alike)
  k__law_alike : PySem.W.keepIn K (.ref f__law_alike) = true
  b__law_alike : Binds K d__law_alike ps__law_alike []
  f__law_least : Addr
  d__law_least : FuncData
  F__law_least : DFu K "_law_least" "_law_least" st__law_least f__law_least d__law_least
  g__law_least : mg "_law_least" = some (.ref f__law_least)
  k__law_least : PySem.W.keepIn K (.ref f__law_least) = true
  b__law_least : Binds K d__law_least ps__law_least []
  f__law_are_places : Addr
  d__law_are_places : FuncData
  F__law_are_places : DFu K "_law_are_places" "_law_are_places" st__law_are_places f__law_are_places d__law_are_places
  g__law_are_places : mg "_law_are_places" = some (.ref f__law_are_places)
  k__law_are_places : PySem.W.keepIn K (.ref f__law_are_places) = true
  b__law_are_places : Binds K d__law_are_places ps__law_are_places []
  f__law_short : Addr
  d__law_short : FuncData
  F__law_short : DFu K "_law_short" "_law_short" st__law_short f__law_short d__law_short
  g__law_short : mg "_law_short" = some (.ref f__law_short)
  k__law_short : PySem.W.keepIn K (.ref f__law_short) = true
  b__law_short : Binds K d__law_short ps__law_short []
  f__law_refused : Addr
  d__law_refused : FuncData
  F__law_refused : DFu K "_law_refused" "_law_refused" st__law_refused f__law_refused d__law_refused
  g__law_refused : mg "_law_refused" = some (.ref f__law_refused)
  k__law_refused : PySem.W.keepIn K (.ref f__law_refused) = true
  b__law_refused : Binds K d__law_refused ps__law_refused []
  f_law : Addr
  d_law : FuncData
  F_law : DFu K "law" "law" st_law f_law d_law
  g_law : mg "law" = some (.ref f_law)
  k_law : PySem.W.keepIn K (.ref f_law) = true
  b_law : Binds K d_law ps_law []
  C_EverplayError : Addr
  g_EverplayError : mg "EverplayError" = some (.ref C_EverplayError)
  eC_EverplayError : PySem.W.subIn K (.ref C_EverplayError) (.type "BaseException") = some true
  C_InvalidPlay : Addr
  g_InvalidPlay : mg "InvalidPlay" = some (.ref C_InvalidPlay)
  f_InvalidPlay : Addr
  cc_InvalidPlay : Addr
  cda_InvalidPlay : Addr
  d_InvalidPlay : FuncData
  e_InvalidPlay : ErT P K mg C_InvalidPlay f_InvalidPlay cc_InvalidPlay cda_InvalidPlay
  L_InvalidPlay : ErL K st_InvalidPlay "InvalidPlay.__init__" f_InvalidPlay cc_InvalidPlay cda_InvalidPlay d_InvalidPlay
  x_InvalidPlay : XfC K C_InvalidPlay
  s_InvalidPlay : ExcC K C_InvalidPlay
  n_InvalidPlay_position : PySem.W.findIn K (.ref C_InvalidPlay) "position" = some none
  b_InvalidPlay : Binds K d_InvalidPlay ["self", "position"] []
  kv_InvalidPlay : PySem.W.kitOne K (.ref C_InvalidPlay) (.type "ValueError") = some true
  ex_InvalidPlay_EverplayError : PySem.W.exmOne K (.ref C_InvalidPlay) (.ref C_EverplayError) = some true
  kt_InvalidPlay_EverplayError : PySem.W.kitOne K (.ref C_InvalidPlay) (.ref C_EverplayError) = some true
  ex_InvalidPlay_InvalidPlay : PySem.W.exmOne K (.ref C_InvalidPlay) (.ref C_InvalidPlay) = some true
  kt_InvalidPlay_InvalidPlay : PySem.W.kitOne K (.ref C_InvalidPlay) (.ref C_InvalidPlay) = some true
theorem mkT {P : Program} {K : PySem.W.Frag} {h : Heap} {mg : Str → Option Value} (X : K.In h) (G : h.Ns mainGlobals mg) (top : (P.main.scope.names.lookup ("super" : Str)).isSome = false)
    {C_Play : Addr}
    {f_Play_init : Addr} {oc_Play_init kV_Play_init dc_Play_init pm_Play_init cd_Play_init ct_Play_init : Value} {od_Play_init an_Play_init : Option Addr} {sl_Play_init : Array (Option Value)}
    {f_Play_len : Addr} {oc_Play_len kV_Play_len dc_Play_len pm_Play_len cd_Play_len ct_Play_len : Value} {od_Play_len an_Play_len : Option Addr} {sl_Play_len : Array (Option Value)}
    {f_is_row : Addr} {oc_is_row kV_is_row dc_is_row pm_is_row cd_is_row ct_is_row : Value} {od_is_row an_is_row : Option Addr} {sl_is_row : Array (Option Value)}
    {f_frozen : Addr} {oc_frozen kV_frozen dc_frozen pm_frozen cd_frozen ct_frozen : Value} {od_frozen an_frozen : Option Addr} {sl_frozen : Array (Option Value)}
    {f_shortest_period : Addr} {oc_shortest_period kV_shortest_period dc_shortest_period pm_shortest_period cd_shortest_period ct_shortest_period : Value} {od_shortest_period an_shortest_period : Option Addr} {sl_shortest_period : Array (Option Value)}
    {f_shortened : Addr} {oc_shortened kV_shortened dc_shortened pm_shortened cd_shortened ct_shortened : Value} {od_shortened an_shortened : Option Addr} {sl_shortened : Array (Option Value)}
    {f__law_bag : Addr} {oc__law_bag kV__law_bag dc__law_bag pm__law_bag cd__law_bag ct__law_bag : Value} {od__law_bag an__law_bag : Option Addr} {sl__law_bag : Array (Option Value)}
    {f__law_take : Addr} {oc__law_take kV__law_take dc__law_take pm__law_take cd__law_take ct__law_take : Value} {od__law_take an__law_take : Option Addr} {sl__law_take : Array (Option Value)}
    {f__law_same : Addr} {oc__law_same kV__law_same dc__law_same pm__law_same cd__law_same ct__law_same : Value} {od__law_same an__law_same : Option Addr} {sl__law_same : Array (Option Value)}
    {f__law_places : Addr} {oc__law_places kV__law_places dc__law_places pm__law_places cd__law_places ct__law_places : Value} {od__law_places an__law_places : Option Addr} {sl__law_places : Array (Option Value)}
    {f__law_lasso : Addr} {oc__law_lasso kV__law_lasso dc__law_lasso pm__law_lasso cd__law_lasso ct__law_lasso : Value} {od__law_lasso an__law_lasso : Option Addr} {sl__law_lasso : Array (Option Value)}
    {f__law_place_at : Addr} {oc__law_place_at kV__law_place_at dc__law_place_at pm__law_place_at cd__law_place_at ct__law_place_at : Value} {od__law_place_at an__law_place_at : Option Addr} {sl__law_place_at : Array (Option Value)}
    {f__law_gone_on : Addr} {oc__law_gone_on kV__law_gone_on dc__law_gone_on pm__law_gone_on cd__law_gone_on ct__law_gone_on : Value} {od__law_gone_on an__law_gone_on : Option Addr} {sl__law_gone_on : Array (Option Value)}
    {f__law_changed : Addr} {oc__law_changed kV__law_changed dc__law_changed pm__law_changed cd__law_changed ct__law_changed : Value} {od__law_changed an__law_changed : Option Addr} {sl__law_changed : Array (Option Value)}
    {f__law_alike : Addr} {oc__law_alike kV__law_alike dc__law_alike pm__law_alike cd__law_alike ct__law_alike : Value} {od__law_alike an__law_alike : Option Addr} {sl__law_alike : Array (Option Value)}
    {f__law_least : Addr} {oc__law_least kV__law_least dc__law_least pm__law_least cd__law_least ct__law_least : Value} {od__law_least an__law_least : Option Addr} {sl__law_least : Array (Option Value)}
    {f__law_are_places : Addr} {oc__law_are_places kV__law_are_places dc__law_are_places pm__law_are_places cd__law_are_places ct__law_are_places : Value} {od__law_are_places an__law_are_places : Option Addr} {sl__law_are_places : Array (Option Value)}
    {f__law_short : Addr} {oc__law_short kV__law_short dc__law_short pm__law_short cd__law_short ct__law_short : Value} {od__law_short an__law_short : Option Addr} {sl__law_short : Array (Option Value)}
    {f__law_refused : Addr} {oc__law_refused kV__law_refused dc__law_refused pm__law_refused cd__law_refused ct__law_refused : Value} {od__law_refused an__law_refused : Option Addr} {sl__law_refused : Array (Option Value)}
    {f_law : Addr} {oc_law kV_law dc_law pm_law cd_law ct_law : Value} {od_law an_law : Option Addr} {sl_law : Array (Option Value)}
    {C_EverplayError : Addr}
    {nm_EverplayError qn_EverplayError : Str} {ns_EverplayError : Addr} {bs_EverplayError : List Value} {sn_EverplayError : List Str} {sb_EverplayError : List Value} {ab_EverplayError : Bool} {co_EverplayError : Option Bool} {dd_EverplayError : Option Addr} {q0_EverplayError q1_EverplayError q2_EverplayError q3_EverplayError q5_EverplayError : Option Value}
    {C_InvalidPlay : Addr}
    {nm_InvalidPlay qn_InvalidPlay : Str} {ns_InvalidPlay : Addr} {bs_InvalidPlay : List Value} {sn_InvalidPlay : List Str} {sb_InvalidPlay : List Value} {ab_InvalidPlay : Bool} {co_InvalidPlay : Option Bool} {dd_InvalidPlay : Option Addr} {q0_InvalidPlay q1_InvalidPlay q2_InvalidPlay q3_InvalidPlay q5_InvalidPlay : Option Value}
    {f_InvalidPlay cc_InvalidPlay cda_InvalidPlay : Addr} {oc_InvalidPlay kV_InvalidPlay dc_InvalidPlay pm_InvalidPlay ct_InvalidPlay cl_InvalidPlay ccl_InvalidPlay : Value} {od_InvalidPlay an_InvalidPlay cld_InvalidPlay cdd_InvalidPlay : Option Addr} {sl_InvalidPlay csl_InvalidPlay ccs_InvalidPlay : Array (Option Value)} {vs_InvalidPlay : Array Value}
    {fl_InvalidPlay : Str} {tf_InvalidPlay : Tok}
    (z_ValueError : PySem.W.nsIn K mainGlobals "ValueError" = some none)
    (z_bool : PySem.W.nsIn K mainGlobals "bool" = some none)
    (z_int : PySem.W.nsIn K mainGlobals "int" = some none)
    (z_isinstance : PySem.W.nsIn K mainGlobals "isinstance" = some none)
    (z_len : PySem.W.nsIn K mainGlobals "len" = some none)
    (z_list : PySem.W.nsIn K mainGlobals "list" = some none)
    (z_max : PySem.W.nsIn K mainGlobals "max" = some none)
    (z_range : PySem.W.nsIn K mainGlobals "range" = some none)
    (z_str : PySem.W.nsIn K mainGlobals "str" = some none)
    (z_tuple : PySem.W.nsIn K mainGlobals "tuple" = some none)
    (z_super : PySem.W.nsIn K mainGlobals "super" = some none)
    (opq : PySem.W.nsIn K cStatics "thirdparty.any" = some none)
    (g_Play : PySem.W.nsIn K mainGlobals "Play" = some (some (.ref C_Play)))
    (c1_Play : PySem.W.plainGet K C_Play Str.empty = true)
    (c2_Play : PySem.W.hasDictIn K C_Play = true)
    (c3_Play : PySem.W.plainOver K C_Play = true)
    (c4_Play : PySem.W.findIn K (.ref C_Play) "__setattr__" = some (some (.builtin "object.__setattr__")))
    (n_Play_loop : PySem.W.findIn K (.ref C_Play) "loop" = some none)
    (n_Play_stem : PySem.W.findIn K (.ref C_Play) "stem" = some none)
    (o1_Play : PySem.W.findIn K (.ref C_Play) "__class__" = some (some (.builtin "object.__class__")))
    (o2_Play : PySem.W.specialIn K (.builtin "object.__class__") "__get__" = some (some (.builtin "getset_descriptor.__get__")))
    (o3_Play : PySem.W.takesIn K (.builtin "object.__class__") = some true)
    (o4_Play : PySem.W.mroIn K C_Play (.type "object") = some true)
    (a_Play_init : PySem.W.findIn K (.ref C_Play) "__init__" = some (some (.ref f_Play_init)))
    (l_Play_init : K.lookup f_Play_init = some ⟨oc_Play_init, od_Play_init, .func (PySem.W.fnOf "__init__" "Play.__init__" (defArgs st_Play_init) (defBody st_Play_init) (defScope st_Play_init) .none kV_Play_init dc_Play_init pm_Play_init an_Play_init cd_Play_init ct_Play_init), sl_Play_init⟩)
    (cd_Play_init_ : PySem.W.codeIn K cd_Play_init "Play.__init__" = true)
    (k_Play_init : PySem.W.keepIn K (.ref f_Play_init) = true)
    (i_Play_init : PySem.W.isFn K (.ref f_Play_init) = true)
    (a_Play_len : PySem.W.findIn K (.ref C_Play) "__len__" = some (some (.ref f_Play_len)))
    (l_Play_len : K.lookup f_Play_len = some ⟨oc_Play_len, od_Play_len, .func (PySem.W.fnOf "__len__" "Play.__len__" (defArgs st_Play_len) (defBody st_Play_len) (defScope st_Play_len) .none kV_Play_len dc_Play_len pm_Play_len an_Play_len cd_Play_len ct_Play_len), sl_Play_len⟩)
    (cd_Play_len_ : PySem.W.codeIn K cd_Play_len "Play.__len__" = true)
    (k_Play_len : PySem.W.keepIn K (.ref f_Play_len) = true)
    (i_Play_len : PySem.W.isFn K (.ref f_Play_len) = true)
    (mk_Play : PySem.W.makesIn K C_Play = true)
    (kc_Play : PySem.W.keepIn K (.ref C_Play) = true)
    (g_is_row : PySem.W.nsIn K mainGlobals "is_row" = some (some (.ref f_is_row)))
    (l_is_row : K.lookup f_is_row = some ⟨oc_is_row, od_is_row, .func (PySem.W.fnOf "is_row" "is_row" (defArgs st_is_row) (defBody st_is_row) (defScope st_is_row) .none kV_is_row dc_is_row pm_is_row an_is_row cd_is_row ct_is_row), sl_is_row⟩)
    (cd_is_row_ : PySem.W.codeIn K cd_is_row "is_row" = true)
    (k_is_row : PySem.W.keepIn K (.ref f_is_row) = true)
    (g_frozen : PySem.W.nsIn K mainGlobals "frozen" = some (some (.ref f_frozen)))
    (l_frozen : K.lookup f_frozen = some ⟨oc_frozen, od_frozen, .func (PySem.W.fnOf "frozen" "frozen" (defArgs st_frozen) (defBody st_frozen) (defScope st_frozen) .none kV_frozen dc_frozen pm_frozen an_frozen cd_frozen ct_frozen), sl_frozen⟩)
    (cd_frozen_ : PySem.W.codeIn K cd_frozen "frozen" = true)
    (k_frozen : PySem.W.keepIn K (.ref f_frozen) = true)
    (g_shortest_period : PySem.W.nsIn K mainGlobals "shortest_period" = some (some (.ref f_shortest_period)))
    (l_shortest_period : K.lookup f_shortest_period = some ⟨oc_shortest_period, od_shortest_period, .func (PySem.W.fnOf "shortest_period" "shortest_period" (defArgs st_shortest_period) (defBody st_shortest_period) (defScope st_shortest_period) .none kV_shortest_period dc_shortest_period pm_shortest_period an_shortest_period cd_shortest_period ct_shortest_period), sl_shortest_period⟩)
    (cd_shortest_period_ : PySem.W.codeIn K cd_shortest_period "shortest_period" = true)
    (k_shortest_period : PySem.W.keepIn K (.ref f_shortest_period) = true)
    (g_shortened : PySem.W.nsIn K mainGlobals "shortened" = some (some (.ref f_shortened)))
    (l_shortened : K.lookup f_shortened = some ⟨oc_shortened, od_shortened, .func (PySem.W.fnOf "shortened" "shortened" (defArgs st_shortened) (defBody st_shortened) (defScope st_shortened) .none kV_shortened dc_shortened pm_shortened an_shortened cd_shortened ct_shortened), sl_shortened⟩)
    (cd_shortened_ : PySem.W.codeIn K cd_shortened "shortened" = true)
    (k_shortened : PySem.W.keepIn K (.ref f_shortened) = true)
    (g__law_bag : PySem.W.nsIn K mainGlobals "_law_bag" = some (some (.ref f__law_bag)))
    (l__law_bag : K.lookup f__law_bag = some ⟨oc__law_bag, od__law_bag, .func (PySem.W.fnOf "_law_bag" "_law_bag" (defArgs st__law_bag) (defBody st__law_bag) (defScope st__law_bag) .none kV__law_bag dc__law_bag pm__law_bag an__law_bag cd__law_bag ct__law_bag), sl__law_bag⟩)
    (cd__law_bag_ : PySem.W.codeIn K cd__law_bag "_law_bag" = true)
    (k__law_bag : PySem.W.keepIn K (.ref f__law_bag) = true)
    (g__law_take : PySem.W.nsIn K mainGlobals "_law_take" = some (some (.ref f__law_take)))
    (l__law_take : K.lookup f__law_take = some ⟨oc__law_take, od__law_take, .func (PySem.W.fnOf "_law_take" "_law_take" (defArgs st__law_take) (defBody st__law_take) (defScope st__law_take) .none kV__law_take dc__law_take pm__law_take an__law_take cd__law_take ct__law_take), sl__law_take⟩)
    (cd__law_take_ : PySem.W.codeIn K cd__law_take "_law_take" = true)
    (k__law_take : PySem.W.keepIn K (.ref f__law_take) = true)
    (g__law_same : PySem.W.nsIn K mainGlobals "_law_same" = some (some (.ref f__law_same)))
    (l__law_same : K.lookup f__law_same = some ⟨oc__law_same, od__law_same, .func (PySem.W.fnOf "_law_same" "_law_same" (defArgs st__law_same) (defBody st__law_same) (defScope st__law_same) .none kV__law_same dc__law_same pm__law_same an__law_same cd__law_same ct__law_same), sl__law_same⟩)
    (cd__law_same_ : PySem.W.codeIn K cd__law_same "_law_same" = true)
    (k__law_same : PySem.W.keepIn K (.ref f__law_same) = true)
    (g__law_places : PySem.W.nsIn K mainGlobals "_law_places" = some (some (.ref f__law_places)))
    (l__law_places : K.lookup f__law_places = some ⟨oc__law_places, od__law_places, .func (PySem.W.fnOf "_law_places" "_law_places" (defArgs st__law_places) (defBody st__law_places) (defScope st__law_places) .none kV__law_places dc__law_places pm__law_places an__law_places cd__law_places ct__law_places), sl__law_places⟩)
    (cd__law_places_ : PySem.W.codeIn K cd__law_places "_law_places" = true)
    (k__law_places : PySem.W.keepIn K (.ref f__law_places) = true)
    (g__law_lasso : PySem.W.nsIn K mainGlobals "_law_lasso" = some (some (.ref f__law_lasso)))
    (l__law_lasso : K.lookup f__law_lasso = some ⟨oc__law_lasso, od__law_lasso, .func (PySem.W.fnOf "_law_lasso" "_law_lasso" (defArgs st__law_lasso) (defBody st__law_lasso) (defScope st__law_lasso) .none kV__law_lasso dc__law_lasso pm__law_lasso an__law_lasso cd__law_lasso ct__law_lasso), sl__law_lasso⟩)
    (cd__law_lasso_ : PySem.W.codeIn K cd__law_lasso "_law_lasso" = true)
    (k__law_lasso : PySem.W.keepIn K (.ref f__law_lasso) = true)
    (g__law_place_at : PySem.W.nsIn K mainGlobals "_law_place_at" = some (some (.ref f__law_place_at)))
    (l__law_place_at : K.lookup f__law_place_at = some ⟨oc__law_place_at, od__law_place_at, .func (PySem.W.fnOf "_law_place_at" "_law_place_at" (defArgs st__law_place_at) (defBody st__law_place_at) (defScope st__law_place_at) .none kV__law_place_at dc__law_place_at pm__law_place_at an__law_place_at cd__law_place_at ct__law_place_at), sl__law_place_at⟩)
    (cd__law_place_at_ : PySem.W.codeIn K cd__law_place_at "_law_place_at" = true)
    (k__law_place_at : PySem.W.keepIn K (.ref f__law_place_at) = true)
    (g__law_gone_on : PySem.W.nsIn K mainGlobals "_law_gone_on" = some (some (.ref f__law_gone_on)))
    (l__law_gone_on : K.lookup f__law_gone_on = some ⟨oc__law_gone_on, od__law_gone_on, .func (PySem.W.fnOf "_law_gone_on" "_law_gone_on" (defArgs st__law_gone_on) (defBody st__law_gone_on) (defScope st__law_gone_on) .none kV__law_gone_on dc__law_gone_on pm__law_gone_on an__law_gone_on cd__law_gone_on ct__law_gone_on), sl__law_gone_on⟩)
    (cd__law_gone_on_ : PySem.W.codeIn K cd__law_gone_on "_law_gone_on" = true)
    (k__law_gone_on : PySem.W.keepIn K (.ref f__law_gone_on) = true)
    (g__law_changed : PySem.W.nsIn K mainGlobals "_law_changed" = some (some (.ref f__law_changed)))
    (l__law_changed : K.lookup f__law_changed = some ⟨oc__law_changed, od__law_changed, .func (PySem.W.fnOf "_law_changed" "_law_changed" (defArgs st__law_changed) (defBody st__law_changed) (defScope st__law_changed) .none kV__law_changed dc__law_changed pm__law_changed an__law_changed cd__law_changed ct__law_changed), sl__law_changed⟩)
    (cd__law_changed_ : PySem.W.codeIn K cd__law_changed "_law_changed" = true)
    (k__law_changed : PySem.W.keepIn K (.ref f__law_changed) = true)
    (g__law_alike : PySem.W.nsIn K mainGlobals "_law_alike" = some (some (.ref f__law_alike)))
    (l__law_alike : K.lookup f__law_alike = some ⟨oc__law_alike, od__law_alike, .func (PySem.W.fnOf "_law_alike" "_law_alike" (defArgs st__law_alike) (defBody st__law_alike) (defScope st__law_alike) .none kV__law_alike dc__law_alike pm__law_alike an__law_alike cd__law_alike ct__law_alike), sl__law_alike⟩)
    (cd__law_alike_ : PySem.W.codeIn K cd__law_alike "_law_alike" = true)
    (k__law_alike : PySem.W.keepIn K (.ref f__law_alike) = true)
    (g__law_least : PySem.W.nsIn K mainGlobals "_law_least" = some (some (.ref f__law_least)))
    (l__law_least : K.lookup f__law_least = some ⟨oc__law_least, od__law_least, .func (PySem.W.fnOf "_law_least" "_law_least" (defArgs st__law_least) (defBody st__law_least) (defScope st__law_least) .none kV__law_least dc__law_least pm__law_least an__law_least cd__law_least ct__law_least), sl__law_least⟩)
    (cd__law_least_ : PySem.W.codeIn K cd__law_least "_law_least" = true)
    (k__law_least : PySem.W.keepIn K (.ref f__law_least) = true)
    (g__law_are_places : PySem.W.nsIn K mainGlobals "_law_are_places" = some (some (.ref f__law_are_places)))
    (l__law_are_places : K.lookup f__law_are_places = some ⟨oc__law_are_places, od__law_are_places, .func (PySem.W.fnOf "_law_are_places" "_law_are_places" (defArgs st__law_are_places) (defBody st__law_are_places) (defScope st__law_are_places) .none kV__law_are_places dc__law_are_places pm__law_are_places an__law_are_places cd__law_are_places ct__law_are_places), sl__law_are_places⟩)
    (cd__law_are_places_ : PySem.W.codeIn K cd__law_are_places "_law_are_places" = true)
    (k__law_are_places : PySem.W.keepIn K (.ref f__law_are_places) = true)
    (g__law_short : PySem.W.nsIn K mainGlobals "_law_short" = some (some (.ref f__law_short)))
    (l__law_short : K.lookup f__law_short = some ⟨oc__law_short, od__law_short, .func (PySem.W.fnOf "_law_short" "_law_short" (defArgs st__law_short) (defBody st__law_short) (defScope st__law_short) .none kV__law_short dc__law_short pm__law_short an__law_short cd__law_short ct__law_short), sl__law_short⟩)
    (cd__law_short_ : PySem.W.codeIn K cd__law_short "_law_short" = true)
    (k__law_short : PySem.W.keepIn K (.ref f__law_short) = true)
    (g__law_refused : PySem.W.nsIn K mainGlobals "_law_refused" = some (some (.ref f__law_refused)))
    (l__law_refused : K.lookup f__law_refused = some ⟨oc__law_refused, od__law_refused, .func (PySem.W.fnOf "_law_refused" "_law_refused" (defArgs st__law_refused) (defBody st__law_refused) (defScope st__law_refused) .none kV__law_refused dc__law_refused pm__law_refused an__law_refused cd__law_refused ct__law_refused), sl__law_refused⟩)
    (cd__law_refused_ : PySem.W.codeIn K cd__law_refused "_law_refused" = true)
    (k__law_refused : PySem.W.keepIn K (.ref f__law_refused) = true)
    (g_law : PySem.W.nsIn K mainGlobals "law" = some (some (.ref f_law)))
    (l_law : K.lookup f_law = some ⟨oc_law, od_law, .func (PySem.W.fnOf "law" "law" (defArgs st_law) (defBody st_law) (defScope st_law) .none kV_law dc_law pm_law an_law cd_law ct_law), sl_law⟩)
    (cd_law_ : PySem.W.codeIn K cd_law "law" = true)
    (k_law : PySem.W.keepIn K (.ref f_law) = true)
    (g_EverplayError : PySem.W.nsIn K mainGlobals "EverplayError" = some (some (.ref C_EverplayError)))
    (x_EverplayError_ : K.lookup C_EverplayError = some (excClassObj nm_EverplayError qn_EverplayError C_EverplayError ns_EverplayError bs_EverplayError [.type "ValueError", .type "Exception", .type "BaseException", .type "object"] true sn_EverplayError sb_EverplayError ab_EverplayError co_EverplayError dd_EverplayError q0_EverplayError q1_EverplayError q2_EverplayError q3_EverplayError q5_EverplayError "ValueError.__new__"))
    (eC_EverplayError : PySem.W.subIn K (.ref C_EverplayError) (.type "BaseException") = some true)
    (tC_EverplayError : PySem.W.typeIn K (.ref C_EverplayError) = some (.type "type"))
    (hC_EverplayError : PySem.W.hasDictIn K C_EverplayError = true)
    (g_InvalidPlay : PySem.W.nsIn K mainGlobals "InvalidPlay" = some (some (.ref C_InvalidPlay)))
    (x_InvalidPlay_ : K.lookup C_InvalidPlay = some (excClassObj nm_InvalidPlay qn_InvalidPlay C_InvalidPlay ns_InvalidPlay bs_InvalidPlay [.ref C_EverplayError, .type "ValueError", .type "Exception", .type "BaseException", .type "object"] true sn_InvalidPlay sb_InvalidPlay ab_InvalidPlay co_InvalidPlay dd_InvalidPlay q0_InvalidPlay q1_InvalidPlay q2_InvalidPlay q3_InvalidPlay q5_InvalidPlay "ValueError.__new__"))
    (eC_InvalidPlay : PySem.W.subIn K (.ref C_InvalidPlay) (.type "BaseException") = some true)
    (tC_InvalidPlay : PySem.W.typeIn K (.ref C_InvalidPlay) = some (.type "type"))
    (hC_InvalidPlay : PySem.W.hasDictIn K C_InvalidPlay = true)
    (sa_InvalidPlay : PySem.W.findIn K (.ref C_InvalidPlay) "__setattr__" = some (some (.builtin "object.__setattr__")))
    (kC_InvalidPlay : PySem.W.keepIn K (.ref C_InvalidPlay) = true)
    (iC_InvalidPlay : PySem.W.findIn K (.ref C_InvalidPlay) "__init__" = some (some (.ref f_InvalidPlay)))
    (tI_InvalidPlay : PySem.W.typeIn K (.ref f_InvalidPlay) = some (.type "function"))
    (l_InvalidPlay : K.lookup f_InvalidPlay = some ⟨oc_InvalidPlay, od_InvalidPlay, .func (PySem.W.ksFn "__init__" "InvalidPlay.__init__" (defArgs st_InvalidPlay) (defBody st_InvalidPlay) (defScope st_InvalidPlay) .none kV_InvalidPlay dc_InvalidPlay pm_InvalidPlay an_InvalidPlay (.ref cda_InvalidPlay) ct_InvalidPlay cc_InvalidPlay), sl_InvalidPlay⟩)
    (cd_InvalidPlay_ : PySem.W.codeIn K (.ref cda_InvalidPlay) "InvalidPlay.__init__" = true)
    (ll_InvalidPlay : K.lookup cc_InvalidPlay = some ⟨cl_InvalidPlay, cld_InvalidPlay, .cell (some (.ref C_InvalidPlay)), csl_InvalidPlay⟩)
    (lc_InvalidPlay : K.lookup cda_InvalidPlay = some ⟨ccl_InvalidPlay, cdd_InvalidPlay, .fields vs_InvalidPlay, ccs_InvalidPlay⟩)
    (vE_InvalidPlay : PySem.W.subIn K (.ref C_InvalidPlay) (.type "ValueError") = some true)
    (mC_InvalidPlay : PySem.W.mroIn K C_InvalidPlay (.ref C_InvalidPlay) = some true)
    (fB_InvalidPlay : PySem.W.findIn K (.ref C_EverplayError) "__init__" = some (some (.builtin "ValueError.__init__")))
    (vf_InvalidPlay : vs_InvalidPlay[2]? = some (.str fl_InvalidPlay tf_InvalidPlay) ∧ ((P.main.file : Str) == fl_InvalidPlay) = true)
    (ga_InvalidPlay : PySem.W.findIn K (.ref C_InvalidPlay) "__getattribute__" = some (some (.builtin "BaseException.__getattribute__")))
    (gg_InvalidPlay : PySem.W.findIn K (.ref C_InvalidPlay) "__getattr__" = some none)
    (cA_InvalidPlay : PySem.W.findIn K (.ref C_InvalidPlay) "__class__" = some (some (.builtin "object.__class__")))
    (cB_InvalidPlay : PySem.W.specialIn K (.builtin "object.__class__") "__get__" = some (some (.builtin "getset_descriptor.__get__")))
    (cC_InvalidPlay : PySem.W.takesIn K (.builtin "object.__class__") = some true)
    (cD_InvalidPlay : PySem.W.mroIn K C_InvalidPlay (.type "object") = some true)
    (n_InvalidPlay_position : PySem.W.findIn K (.ref C_InvalidPlay) "position" = some none)
    (su_InvalidPlay_EverplayError : PySem.W.subIn K (.ref C_InvalidPlay) (.ref C_EverplayError) = some true)
    (ic_InvalidPlay_EverplayError : PySem.W.isClsIn K C_EverplayError = true)
    (ne_InvalidPlay_EverplayError : C_InvalidPlay ≠ C_EverplayError)
    (su_InvalidPlay_InvalidPlay : PySem.W.subIn K (.ref C_InvalidPlay) (.ref C_InvalidPlay) = some true)
    : ∃ (T : Txt P K mg) (kV doc pm : Value) (an : Option Addr) (cd ct : Value), T.d_law = PySem.W.fnOf "law" "law" (defArgs st_law) (defBody st_law) (defScope st_law) .none kV doc pm an cd ct := ⟨{
      z_ValueError := PySem.W.mg_none_of X G z_ValueError,
      z_bool := PySem.W.mg_none_of X G z_bool,
      z_int := PySem.W.mg_none_of X G z_int,
      z_isinstance := PySem.W.mg_none_of X G z_isinstance,
      z_len := PySem.W.mg_none_of X G z_len,
      z_list := PySem.W.mg_none_of X G z_list,
      z_max := PySem.W.mg_none_of X G z_max,
      z_range := PySem.W.mg_none_of X G z_range,
      z_str := PySem.W.mg_none_of X G z_str,
      z_tuple := PySem.W.mg_none_of X G z_tuple,
      C_Play := C_Play,
      g_Play := PySem.W.mg_of X G g_Play,
      c_Play := ⟨c1_Play, c2_Play, c3_Play, c4_Play⟩,
      n_Play_loop := n_Play_loop,
      n_Play_stem := n_Play_stem,
      o_Play := ⟨⟨c1_Play, c2_Play, c3_Play, c4_Play⟩, o1_Play, o2_Play, o3_Play, o4_Play⟩,
      f_Play_init := f_Play_init,
      d_Play_init := PySem.W.fnOf "__init__" "Play.__init__" (defArgs st_Play_init) (defBody st_Play_init) (defScope st_Play_init) .none kV_Play_init dc_Play_init pm_Play_init an_Play_init cd_Play_init ct_Play_init,
      F_Play_init := dfu_mk (st := st_Play_init) l_Play_init cd_Play_init_,
      m_Play_init := ⟨a_Play_init, i_Play_init, k_Play_init⟩,
      b_Play_init := .all fun us hl => match us, hl with | [_, _, _], _ => rfl,
      f_Play_len := f_Play_len,
      d_Play_len := PySem.W.fnOf "__len__" "Play.__len__" (defArgs st_Play_len) (defBody st_Play_len) (defScope st_Play_len) .none kV_Play_len dc_Play_len pm_Play_len an_Play_len cd_Play_len ct_Play_len,
      F_Play_len := dfu_mk (st := st_Play_len) l_Play_len cd_Play_len_,
      m_Play_len := ⟨a_Play_len, i_Play_len, k_Play_len⟩,
      b_Play_len := .all fun us hl => match us, hl with | [_], _ => rfl,
      M_Play := ⟨mk_Play, a_Play_init, i_Play_init, kc_Play⟩,
      f_is_row := f_is_row,
      d_is_row := PySem.W.fnOf "is_row" "is_row" (defArgs st_is_row) (defBody st_is_row) (defScope st_is_row) .none kV_is_row dc_is_row pm_is_row an_is_row cd_is_row ct_is_row,
      F_is_row := dfu_mk (st := st_is_row) l_is_row cd_is_row_,
      g_is_row := PySem.W.mg_of X G g_is_row,
      k_is_row := k_is_row,
      b_is_row := .all fun us hl => match us, hl with | [_], _ => rfl,
      f_frozen := f_frozen,
      d_frozen := PySem.W.fnOf "frozen" "frozen" (defArgs st_frozen) (defBody st_frozen) (defScope st_frozen) .none kV_frozen dc_frozen pm_frozen an_frozen cd_frozen ct_frozen,
      F_frozen := dfu_mk (st := st_frozen) l_frozen cd_frozen_,
      g_frozen := PySem.W.mg_of X G g_frozen,
      k_frozen := k_frozen,
      b_frozen := .all fun us hl => match us, hl with | [_], _ => rfl,
      f_shortest_period := f_shortest_period,
      d_shortest_period := PySem.W.fnOf "shortest_period" "shortest_period" (defArgs st_shortest_period) (defBody st_shortest_period) (defScope st_shortest_period) .none kV_shortest_period dc_shortest_period pm_shortest_period an_shortest_period cd_shortest_period ct_shortest_period,
      F_shortest_period := dfu_mk (st := st_shortest_period) l_shortest_period cd_shortest_period_,
      g_shortest_period := PySem.W.mg_of X G g_shortest_period,
      k_shortest_period := k_shortest_period,
      b_shortest_period := .all fun us hl => match us, hl with | [_], _ => rfl,
      f_shortened := f_shortened,
      d_shortened := PySem.W.fnOf "shortened" "shortened" (defArgs st_shortened) (defBody st_shortened) (defScope st_shortened) .none kV_shortened dc_shortened pm_shortened an_shortened cd_shortened ct_shortened,
      F_shortened := dfu_mk (st := st_shortened) l_shortened cd_shortened_,
      g_shortened := PySem.W.mg_of X G g_shortened,
      k_shortened := k_shortened,
      b_shortened := .all fun us hl => match us, hl with | [_], _ => rfl,
      f__law_bag := f__law_bag,
      d__law_bag := PySem.W.fnOf "_law_bag" "_law_bag" (defArgs st__law_bag) (defBody st__law_bag) (defScope st__law_bag) .none kV__law_bag dc__law_bag pm__law_bag an__law_bag cd__law_bag ct__law_bag,
      F__law_bag := dfu_mk (st := st__law_bag) l__law_bag cd__law_bag_,
      g__law_bag := PySem.W.mg_of X G g__law_bag,
      k__law_bag := k__law_bag,
      b__law_bag := .all fun us hl => match us, hl with | [_], _ => rfl,
      f__law_take := f__law_take,
      d__law_take := PySem.W.fnOf "_law_take" "_law_take" (defArgs st__law_take) (defBody st__law_take) (defScope st__law_take) .none kV__law_take dc__law_take pm__law_take an__law_take cd__law_take ct__law_take,
      F__law_take := dfu_mk (st := st__law_take) l__law_take cd__law_take_,
      g__law_take := PySem.W.mg_of X G g__law_take,
      k__law_take := k__law_take,
      b__law_take := .all fun us hl => match us, hl with | [_, _], _ => rfl,
      f__law_same := f__law_same,
      d__law_same := PySem.W.fnOf "_law_same" "_law_same" (defArgs st__law_same) (defBody st__law_same) (defScope st__law_same) .none kV__law_same dc__law_same pm__law_same an__law_same cd__law_same ct__law_same,
      F__law_same := dfu_mk (st := st__law_same) l__law_same cd__law_same_,
      g__law_same := PySem.W.mg_of X G g__law_same,
      k__law_same := k__law_same,
      b__law_same := .all fun us hl => match us, hl with | [_, _], _ => rfl,
      f__law_places := f__law_places,
      d__law_places := PySem.W.fnOf "_law_places" "_law_places" (defArgs st__law_places) (defBody st__law_places) (defScope st__law_places) .none kV__law_places dc__law_places pm__law_places an__law_places cd__law_places ct__law_places,
      F__law_places := dfu_mk (st := st__law_places) l__law_places cd__law_places_,
      g__law_places := PySem.W.mg_of X G g__law_places,
      k__law_places := k__law_places,
      b__law_places := .all fun us hl => match us, hl with | [_, _, _], _ => rfl,
      f__law_lasso := f__law_lasso,
      d__law_lasso := PySem.W.fnOf "_law_lasso" "_law_lasso" (defArgs st__law_lasso) (defBody st__law_lasso) (defScope st__law_lasso) .none kV__law_lasso dc__law_lasso pm__law_lasso an__law_lasso cd__law_lasso ct__law_lasso,
      F__law_lasso := dfu_mk (st := st__law_lasso) l__law_lasso cd__law_lasso_,
      g__law_lasso := PySem.W.mg_of X G g__law_lasso,
      k__law_lasso := k__law_lasso,
      b__law_lasso := .all fun us hl => match us, hl with | [_], _ => rfl,
      f__law_place_at := f__law_place_at,
      d__law_place_at := PySem.W.fnOf "_law_place_at" "_law_place_at" (defArgs st__law_place_at) (defBody st__law_place_at) (defScope st__law_place_at) .none kV__law_place_at dc__law_place_at pm__law_place_at an__law_place_at cd__law_place_at ct__law_place_at,
      F__law_place_at := dfu_mk (st := st__law_place_at) l__law_place_at cd__law_place_at_,
      g__law_place_at := PySem.W.mg_of X G g__law_place_at,
      k__law_place_at := k__law_place_at,
      b__law_place_at := .all fun us hl => match us, hl with | [_, _], _ => rfl,
      f__law_gone_on := f__law_gone_on,
      d__law_gone_on := PySem.W.fnOf "_law_gone_on" "_law_gone_on" (defArgs st__law_gone_on) (defBody st__law_gone_on) (defScope st__law_gone_on) .none kV__law_gone_on dc__law_gone_on pm__law_gone_on an__law_gone_on cd__law_gone_on ct__law_gone_on,
      F__law_gone_on := dfu_mk (st := st__law_gone_on) l__law_gone_on cd__law_gone_on_,
      g__law_gone_on := PySem.W.mg_of X G g__law_gone_on,
      k__law_gone_on := k__law_gone_on,
      b__law_gone_on := .all fun us hl => match us, hl with | [_, _], _ => rfl,
      f__law_changed := f__law_changed,
      d__law_changed := PySem.W.fnOf "_law_changed" "_law_changed" (defArgs st__law_changed) (defBody st__law_changed) (defScope st__law_changed) .none kV__law_changed dc__law_changed pm__law_changed an__law_changed cd__law_changed ct__law_changed,
      F__law_changed := dfu_mk (st := st__law_changed) l__law_changed cd__law_changed_,
      g__law_changed := PySem.W.mg_of X G g__law_changed,
      k__law_changed := k__law_changed,
      b__law_changed := .all fun us hl => match us, hl with | [_, _], _ => rfl,
      f__law_alike := f__law_alike,
      d__law_alike := PySem.W.fnOf "_law_alike" "_law_alike" (defArgs st__law_alike) (defBody st__law_alike) (defScope st__law_alike) .none kV__law_alike dc__law_alike pm__law_alike an__law_alike cd__law_alike ct__law_alike,
      F__law_alike := dfu_mk (st := st__law_alike) l__law_alike cd__law_alike_,
      g__law_alike := PySem.W.mg_of X G g__law_alike,
      k__law_alike := k__law_alike,
      b__law_alike := .all fun us hl => match us, hl with | [_, _], _ => rfl,
      f__law_least := f__law_least,
      d__law_least := PySem.W.fnOf "_law_least" "_law_least" (defArgs st__law_least) (defBody st__law_least) (defScope st__law_least) .none kV__law_least dc__law_least pm__law_least an__law_least cd__law_least ct__law_least,
      F__law_least := dfu_mk (st := st__law_least) l__law_least cd__law_least_,
      g__law_least := PySem.W.mg_of X G g__law_least,
      k__law_least := k__law_least,
      b__law_least := .all fun us hl => match us, hl with | [_], _ => rfl,
      f__law_are_places := f__law_are_places,
      d__law_are_places := PySem.W.fnOf "_law_are_places" "_law_are_places" (defArgs st__law_are_places) (defBody st__law_are_places) (defScope st__law_are_places) .none kV__law_are_places dc__law_are_places pm__law_are_places an__law_are_places cd__law_are_places ct__law_are_places,
      F__law_are_places := dfu_mk (st := st__law_are_places) l__law_are_places cd__law_are_places_,
      g__law_are_places := PySem.W.mg_of X G g__law_are_places,
      k__law_are_places := k__law_are_places,
      b__law_are_places := .all fun us hl => match us, hl with | [_], _ => rfl,
      f__law_short := f__law_short,
      d__law_short := PySem.W.fnOf "_law_short" "_law_short" (defArgs st__law_short) (defBody st__law_short) (defScope st__law_short) .none kV__law_short dc__law_short pm__law_short an__law_short cd__law_short ct__law_short,
      F__law_short := dfu_mk (st := st__law_short) l__law_short cd__law_short_,
      g__law_short := PySem.W.mg_of X G g__law_short,
      k__law_short := k__law_short,
      b__law_short := .all fun us hl => match us, hl with | [_, _], _ => rfl,
      f__law_refused := f__law_refused,
      d__law_refused := PySem.W.fnOf "_law_refused" "_law_refused" (defArgs st__law_refused) (defBody st__law_refused) (defScope st__law_refused) .none kV__law_refused dc__law_refused pm__law_refused an__law_refused cd__law_refused ct__law_refused,
      F__law_refused := dfu_mk (st := st__law_refused) l__law_refused cd__law_refused_,
      g__law_refused := PySem.W.mg_of X G g__law_refused,
      k__law_refused := k__law_refused,
      b__law_refused := .all fun us hl => match us, hl with | [_], _ => rfl,
      f_law := f_law,
      d_law := PySem.W.fnOf "law" "law" (defArgs st_law) (defBody st_law) (defScope st_law) .none kV_law dc_law pm_law an_law cd_law ct_law,
      F_law := dfu_mk (st := st_law) l_law cd_law_,
      g_law := PySem.W.mg_of X G g_law,
      k_law := k_law,
      b_law := .all fun us hl => match us, hl with | [_], _ => rfl,
      C_EverplayError := C_EverplayError,
      g_EverplayError := PySem.W.mg_of X G g_EverplayError,
      eC_EverplayError := eC_EverplayError,
      C_InvalidPlay := C_InvalidPlay,
      g_InvalidPlay := PySem.W.mg_of X G g_InvalidPlay,
      f_InvalidPlay := f_InvalidPlay,
      cc_InvalidPlay := cc_InvalidPlay,
      cda_InvalidPlay := cda_InvalidPlay,
      d_InvalidPlay := PySem.W.ksFn "__init__" "InvalidPlay.__init__" (defArgs st_InvalidPlay) (defBody st_InvalidPlay) (defScope st_InvalidPlay) .none kV_InvalidPlay dc_InvalidPlay pm_InvalidPlay an_InvalidPlay (.ref cda_InvalidPlay) ct_InvalidPlay cc_InvalidPlay,
      e_InvalidPlay := ⟨⟨⟨_, _, _, _, _, _, _, _, _, _, _, _, _, _, _, x_InvalidPlay_, by first | rfl | decide +kernel⟩, sa_InvalidPlay, eC_InvalidPlay, tC_InvalidPlay, kC_InvalidPlay⟩, iC_InvalidPlay, tI_InvalidPlay, al_of x_InvalidPlay_ x_EverplayError_ fB_InvalidPlay, vE_InvalidPlay, mC_InvalidPlay, PySem.W.mg_none_of X G z_super, opq, ⟨_, _, _, ll_InvalidPlay⟩, ⟨_, _, _, _, _, _, lc_InvalidPlay, vf_InvalidPlay.1, vf_InvalidPlay.2⟩, top⟩,
      L_InvalidPlay := ⟨⟨_, _, _, _, _, _, _, _, rfl, l_InvalidPlay, cd_InvalidPlay_⟩⟩,
      x_InvalidPlay := ⟨ga_InvalidPlay, gg_InvalidPlay, eC_InvalidPlay, hC_InvalidPlay⟩,
      s_InvalidPlay := ⟨ga_InvalidPlay, gg_InvalidPlay, eC_InvalidPlay, hC_InvalidPlay, cA_InvalidPlay, cB_InvalidPlay, cC_InvalidPlay, cD_InvalidPlay⟩,
      n_InvalidPlay_position := n_InvalidPlay_position,
      b_InvalidPlay := .all fun us hl => match us, hl with | [_, _], _ => rfl,
      kv_InvalidPlay := kit_type (by decide +kernel) vE_InvalidPlay,
      ex_InvalidPlay_EverplayError := exm_of eC_EverplayError hC_EverplayError tC_EverplayError su_InvalidPlay_EverplayError,
      kt_InvalidPlay_EverplayError := kit_own ne_InvalidPlay_EverplayError ic_InvalidPlay_EverplayError tC_EverplayError su_InvalidPlay_EverplayError,
      ex_InvalidPlay_InvalidPlay := exm_of eC_InvalidPlay hC_InvalidPlay tC_InvalidPlay su_InvalidPlay_InvalidPlay,
      kt_InvalidPlay_InvalidPlay := kit_self
    }, _, _, _, _, _, _, rfl⟩
section
variable {P : Program} {w : World} {K : PySem.W.Frag} {mg : Str → Option Value} {base : Heap}
theorem er_InvalidPlay (T : Txt P K mg) : FnOk P w K mg base (L2N.CX P w) 1 T.f_InvalidPlay T.d_InvalidPlay ["self", "position"] (spI1 T.C_InvalidPlay "position") :=
  init1 T.e_InvalidPlay T.L_InvalidPlay T.n_InvalidPlay_position (iScope_by (by decide +kernel)) rfl rfl rfl rfl rfl (fun _ => rfl) (fun _ => rfl) (fun _ => rfl) (fun _ => rfl) (fun _ _ _ _ _ => pss_one (ps_ost (pv 0) (pv 1)))
def rd_is_row (T : Txt P K mg) : DTS := (dRet (dCB (dIsiT K) (dCons (dVar 0) (dCons (dTup (dCons (dC (.ty "list")) (dCons (dC (.ty "tuple")) dNil))) dNil))))
theorem dv_is_row (T : Txt P K mg) {k : Nat} (cdv : Value) (A : Around) (outer : List Env) (s : Shared) (H : Hp) (E : XK) (hr : Room (k + 2) (A.deeper (envOfC "is_row" (defScope st_is_row) s.heap.objs.size T.f_is_row cdv))) :
    DPSs (cxOf (L2N.CX P w) P w K mg base N_is_row "is_row" (defScope st_is_row) T.f_is_row cdv A outer s H E) (WE0 E) (defBody st_is_row) (rd_is_row T) := by
  exact (ds_one (ds_ret (d_isiT rfl T.z_isinstance (d_var 0) (da_cons (d_ty rfl T.z_list bt_list) (da_cons (d_ty rfl T.z_tuple bt_tuple) da_nil)))))
theorem fn_is_row (T : Txt P K mg) {k : Nat} {sp : DSp} (len : ∀ ds Hd Q E, sp ds Hd Q E → ds.length = 1) (h : ∀ ds Hd Q Ed, sp ds Hd Q Ed → rd_is_row T (endsOf Q Ed) (startD N_is_row ds) Hd) : DFn P w K mg base (k + 3) T.f_is_row T.d_is_row ps_is_row sp :=
  dfun T.F_is_row sc_is_row len fun cdv A outer s H E hr => ⟨_, dv_is_row T cdv A outer s H E hr, h⟩
def rd_frozen (T : Txt P K mg) (sp_is_row : DSp) : DTS := (dSeq (dIfS (dNot (dTest (dCall sp_is_row [] (dCons (dVar 0) dNil)))) (dRet (dVar 0)) dNext) (dSeq (dSet (dLst (dCons (dVar 0) dNil)) 1) (dSeq (dSet dDNew 2) (dSeq (dDPut (dVar 2) (dC (.int 0)) (dLst dNil)) (dWhile (dTest (dC (.bl true))) (dSeq (dSet (dOp (dI0 fun i j => .int (i - j)) (dCB dLen (dCons (dVar 1) dNil)) (dC (.int 1))) 3) (dSeq (dSet (dOp dIx (dVar 1) (dVar 3)) 4) (dSeq (dSet (dCB dLen (dCons (dDGet (dVar 2) (dVar 3)) dNil)) 5) (dIfS (dTest (dOp dEq (dVar 5) (dCB dLen (dCons (dVar 4) dNil)))) (dSeq (dDrop (dBM "list" dPop (dVar 1) dNil)) (dSeq (dSet (dCB dTupleOf (dCons (dDGet (dVar 2) (dVar 3)) dNil)) 6) (dSeq (dIfS (dTest (dOp dEq (dVar 3) (dC (.int 0)))) (dRet (dVar 6)) dNext) (dDrop (dBM "list" dApp (dDGet (dVar 2) (dOp (dI0 fun i j => .int (i - j)) (dVar 3) (dC (.int 1)))) (dCons (dVar 6) dNil)))))) (dIfS (dTest (dCall sp_is_row [] (dCons (dOp dIx (dVar 4) (dVar 5)) dNil))) (dSeq (dDrop (dBM "list" dApp (dVar 1) (dCons (dOp dIx (dVar 4) (dVar 5)) dNil))) (dDPut (dVar 2) (dOp dAdd (dVar 3) (dC (.int 1))) (dLst dNil))) (dDrop (dBM "list" dApp (dDGet (dVar 2) (dVar 3)) (dCons (dOp dIx (dVar 4) (dVar 5)) dNil)))))))))))))
theorem dv_frozen (T : Txt P K mg) {k : Nat} {sp_is_row : DSp} (F_is_row : DFn P w K mg base k T.f_is_row T.d_is_row ps_is_row sp_is_row) (cdv : Value) (A : Around) (outer : List Env) (s : Shared) (H : Hp) (E : XK) (hr : Room (k + 2) (A.deeper (envOfC "frozen" (defScope st_frozen) s.heap.objs.size T.f_frozen cdv))) :
    DPSs (cxOf (L2N.CX P w) P w K mg base N_frozen "frozen" (defScope st_frozen) T.f_frozen cdv A outer s H E) (WE0 E) (defBody st_frozen) (rd_frozen T sp_is_row) := by
  have hu64 := hu64_of hr
  have hu1 := hu_of hr
  have hr0 := hr.mono (Nat.le_add_right k 2)
  exact (ds_cons (ds_if (dt_not (dt_val (d_call F_is_row hr0 takesE T.g_is_row T.k_is_row T.b_is_row .nil (fun _ => rfl) (da_cons (d_var 0) da_nil)))) (ds_one (ds_ret (d_var 0))) ds_nil) (ds_cons (ds_set (i := 1) sc_frozen.nd rfl (Or.inl rfl) (d_lst (da_cons (d_var 0) da_nil))) (ds_cons (ds_set (i := 2) sc_frozen.nd rfl (Or.inl rfl) d_dnew) (ds_cons (ds_dput hu1 (d_var 2) d_int (d_lst da_nil)) (ds_one (ds_while passesE (dt_val d_bl) (ds_cons (ds_set (i := 3) sc_frozen.nd rfl (Or.inl rfl) (d_op dop_sub (d_callB dcl_len rfl T.z_len bt_len (da_cons (d_var 1) da_nil)) d_int)) (ds_cons (ds_set (i := 4) sc_frozen.nd rfl (Or.inl rfl) (d_ix dix (d_var 1) (d_var 3))) (ds_cons (ds_set (i := 5) sc_frozen.nd rfl (Or.inl rfl) (d_callB dcl_len rfl T.z_len bt_len (da_cons (d_dget hu1 (d_var 2) (d_var 3)) da_nil))) (ds_one (ds_if (dt_cmp (dop_eq hu64) (d_var 5) (d_callB dcl_len rfl T.z_len bt_len (da_cons (d_var 4) da_nil)) rfl) (ds_cons (ds_expr (d_bm0 pla_list sl_list_pop ty_list_pop dmt_pop (d_var 1))) (ds_cons (ds_set (i := 6) sc_frozen.nd rfl (Or.inl rfl) (d_callTy dcl_tuple rfl T.z_tuple bt_tuple (da_cons (d_dget hu1 (d_var 2) (d_var 3)) da_nil))) (ds_cons (ds_if (dt_cmp (dop_eq hu64) (d_var 3) d_int rfl) (ds_one (ds_ret (d_var 6))) ds_nil) (ds_one (ds_expr (d_bm pla_list sl_list_append ty_list_append dmt_append (d_dget hu1 (d_var 2) (d_op dop_sub (d_var 3) d_int)) (da_cons (d_var 6) da_nil))))))) (ds_one (ds_if (dt_val (d_call F_is_row hr0 takesE T.g_is_row T.k_is_row T.b_is_row .nil (fun _ => rfl) (da_cons (d_ix dix (d_var 4) (d_var 5)) da_nil))) (ds_cons (ds_expr (d_bm pla_list sl_list_append ty_list_append dmt_append (d_var 1) (da_cons (d_ix dix (d_var 4) (d_var 5)) da_nil))) (ds_one (ds_dput hu1 (d_var 2) (d_op dop_add (d_var 3) d_int) (d_lst da_nil)))) (ds_one (ds_expr (d_bm pla_list sl_list_append ty_list_append dmt_append (d_dget hu1 (d_var 2) (d_var 3)) (da_cons (d_ix dix (d_var 4) (d_var 5)) da_nil)))))))))))))))))
theorem fn_frozen (T : Txt P K mg) {k : Nat} {sp_is_row : DSp} (F_is_row : DFn P w K mg base k T.f_is_row T.d_is_row ps_is_row sp_is_row) {sp : DSp} (len : ∀ ds Hd Q E, sp ds Hd Q E → ds.length = 1) (h : ∀ ds Hd Q Ed, sp ds Hd Q Ed → rd_frozen T sp_is_row (endsOf Q Ed) (startD N_frozen ds) Hd) : DFn P w K mg base (k + 3) T.f_frozen T.d_frozen ps_frozen sp :=
  dfun T.F_frozen sc_frozen len fun cdv A outer s H E hr => ⟨_, dv_frozen T F_is_row cdv A outer s H E hr, h⟩
def rd_shortest_period (T : Txt P K mg) : DTS := (dSeq (dSet (dCB dLen (dCons (dVar 0) dNil)) 1) (dSeq (dFor (wRng2 (dCons (dC (.int 1)) (dCons (dVar 1) dNil))) (gNm 2) (dIfS (dAnd (dTest (dOp dEq (dOp (dI (fun _ j => 0 < j) fun i j => .int (i % j)) (dVar 1) (dVar 2)) (dC (.int 0)))) (dTest (dOp dEq (dOp dMul (dSl dCut (dVar 0) dNoPart (dPart (dVar 2))) (dOp (dI CDv fun i j => .int (i / j)) (dVar 1) (dVar 2))) (dVar 0)))) (dRet (dSl dCut (dVar 0) dNoPart (dPart (dVar 2)))) dNext)) (dRet (dVar 0))))
theorem dv_shortest_period (T : Txt P K mg) {k : Nat} (cdv : Value) (A : Around) (outer : List Env) (s : Shared) (H : Hp) (E : XK) (hr : Room (k + 2) (A.deeper (envOfC "shortest_period" (defScope st_shortest_period) s.heap.objs.size T.f_shortest_period cdv))) :
    DPSs (cxOf (L2N.CX P w) P w K mg base N_shortest_period "shortest_period" (defScope st_shortest_period) T.f_shortest_period cdv A outer s H E) (WE0 E) (defBody st_shortest_period) (rd_shortest_period T) := by
  have hu64 := hu64_of hr
  exact (ds_cons (ds_set (i := 1) sc_shortest_period.nd rfl (Or.inl rfl) (d_callB dcl_len rfl T.z_len bt_len (da_cons (d_var 0) da_nil))) (ds_cons (ds_for passesE rfl (di_rng2 rfl T.z_range (da_cons d_int (da_cons (d_var 1) da_nil))) (dg_name (i := 2) sc_shortest_period.nd rfl (Or.inl rfl)) (ds_one (ds_if (dw_pt (dw_and (dt_cmp (dop_eq hu64) (d_op dop_mod (d_var 1) (d_var 2)) d_int rfl) (dw_and1 (dt_cmp (dop_eq hu64) (d_op dop_mul (d_slice dsl (d_var 0) do_none (do_some (d_var 2))) (d_op dop_fdiv (d_var 1) (d_var 2))) (d_var 0) rfl)))) (ds_one (ds_ret (d_slice dsl (d_var 0) do_none (do_some (d_var 2))))) ds_nil))) (ds_one (ds_ret (d_var 0)))))
theorem fn_shortest_period (T : Txt P K mg) {k : Nat} {sp : DSp} (len : ∀ ds Hd Q E, sp ds Hd Q E → ds.length = 1) (h : ∀ ds Hd Q Ed, sp ds Hd Q Ed → rd_shortest_period T (endsOf Q Ed) (startD N_shortest_period ds) Hd) : DFn P w K mg base (k + 3) T.f_shortest_period T.d_shortest_period ps_shortest_period sp :=
  dfun T.F_shortest_period sc_shortest_period len fun cdv A outer s H E hr => ⟨_, dv_shortest_period T cdv A outer s H E hr, h⟩
def rd_shortened (T : Txt P K mg) (sp_Play_len : DSp) (sp_shortest_period : DSp) (sp_Play_init : DSp) : DTS := (dSeq (dIfS (dTest (dOp dEq (dCB dLen (dCons (dFld K (dVar 0) "loop") dNil)) (dC (.int 0)))) (dRaise (dMk T.C_InvalidPlay ["position"] (dCons (dCB (dLenO T.C_Play sp_Play_len) (dCons (dVar 0) dNil)) dNil))) dNext) (dSeq (dSet (dCall sp_shortest_period [] (dCons (dFld K (dVar 0) "loop") dNil)) 1) (dSeq (dSet (dCB dLen (dCons (dVar 1) dNil)) 2) (dSeq (dSet (dC (.int 0)) 3) (dSeq (dWhile (dAnd (dTest (dOp (dI0 fun i j => .bl (decide (i < j))) (dVar 3) (dCB dLen (dCons (dFld K (dVar 0) "stem") dNil)))) (dTest (dOp dEq (dOp dIx (dFld K (dVar 0) "stem") (dOp (dI0 fun i j => .int (i - j)) (dUn dNeg (dC (.int 1))) (dVar 3))) (dOp dIx (dVar 1) (dOp (dI0 fun i j => .int (i - j)) (dUn dNeg (dC (.int 1))) (dOp (dI (fun _ j => 0 < j) fun i j => .int (i % j)) (dVar 3) (dVar 2))))))) (dSet (dOp dAdd (dVar 3) (dC (.int 1))) 3)) (dSeq (dSet (dOp (dI0 fun i j => .int (i - j)) (dVar 2) (dOp (dI (fun _ j => 0 < j) fun i j => .int (i % j)) (dVar 3) (dVar 2))) 4) (dRet (dMake T.C_Play sp_Play_init [] (dCons (dSl dCut (dFld K (dVar 0) "stem") dNoPart (dPart (dOp (dI0 fun i j => .int (i - j)) (dCB dLen (dCons (dFld K (dVar 0) "stem") dNil)) (dVar 3)))) (dCons (dOp dAdd (dSl dCut (dVar 1) (dPart (dVar 4)) dNoPart) (dSl dCut (dVar 1) dNoPart (dPart (dVar 4)))) dNil))))))))))
theorem dv_shortened (T : Txt P K mg) {k : Nat} {sp_Play_len : DSp} {sp_shortest_period : DSp} {sp_Play_init : DSp} (F_Play_len : DFn P w K mg base k T.f_Play_len T.d_Play_len ps_Play_len sp_Play_len) (F_shortest_period : DFn P w K mg base k T.f_shortest_period T.d_shortest_period ps_shortest_period sp_shortest_period) (F_Play_init : DFn P w K mg base k T.f_Play_init T.d_Play_init ps_Play_init sp_Play_init) (cdv : Value) (A : Around) (outer : List Env) (s : Shared) (H : Hp) (E : XK) (hr : Room (k + 2) (A.deeper (envOfC "shortened" (defScope st_shortened) s.heap.objs.size T.f_shortened cdv))) :
    DPSs (cxOf (L2N.CX P w) P w K mg base N_shortened "shortened" (defScope st_shortened) T.f_shortened cdv A outer s H E) (WE0 E) (defBody st_shortened) (rd_shortened T sp_Play_len sp_shortest_period sp_Play_init) := by
  have hu64 := hu64_of hr
  have hr0 := hr.mono (Nat.le_add_right k 2)
  have hr2 := hr.mono (Nat.le_add_left 2 k)
  have hr1 := hr.mono (Nat.le_succ (k + 1))
  exact (ds_cons (ds_if (dt_cmp (dop_eq hu64) (d_callB dcl_len rfl T.z_len bt_len (da_cons (d_fld (d_var 0)) da_nil)) d_int rfl) (ds_one (ds_raise rfl takesE (d_mk T.e_InvalidPlay.o T.e_InvalidPlay.iC T.e_InvalidPlay.tI iend1 (by decide) (er_InvalidPlay T) hr2 T.b_InvalidPlay T.g_InvalidPlay (da_cons (d_callB (dcl_lenO T.c_Play T.m_Play_len F_Play_len hr1 T.b_Play_len) rfl T.z_len bt_len (da_cons (d_var 0) da_nil)) da_nil)))) ds_nil) (ds_cons (ds_set (i := 1) sc_shortened.nd rfl (Or.inl rfl) (d_call F_shortest_period hr0 takesE T.g_shortest_period T.k_shortest_period T.b_shortest_period .nil (fun _ => rfl) (da_cons (d_fld (d_var 0)) da_nil))) (ds_cons (ds_set (i := 2) sc_shortened.nd rfl (Or.inl rfl) (d_callB dcl_len rfl T.z_len bt_len (da_cons (d_var 1) da_nil))) (ds_cons (ds_set (i := 3) sc_shortened.nd rfl (Or.inl rfl) d_int) (ds_cons (ds_while passesE (dw_pt (dw_and (dt_cmp dop_lt (d_var 3) (d_callB dcl_len rfl T.z_len bt_len (da_cons (d_fld (d_var 0)) da_nil)) rfl) (dw_and1 (dt_cmp (dop_eq hu64) (d_ix dix (d_fld (d_var 0)) (d_op dop_sub (d_un dun_neg d_int) (d_var 3))) (d_ix dix (d_var 1) (d_op dop_sub (d_un dun_neg d_int) (d_op dop_mod (d_var 3) (d_var 2)))) rfl)))) (ds_one (ds_set (i := 3) sc_shortened.nd rfl (Or.inl rfl) (d_op dop_add (d_var 3) d_int)))) (ds_cons (ds_set (i := 4) sc_shortened.nd rfl (Or.inl rfl) (d_op dop_sub (d_var 2) (d_op dop_mod (d_var 3) (d_var 2)))) (ds_one (ds_ret (d_make T.M_Play F_Play_init hr1 takesE T.g_Play T.b_Play_init .nil (fun _ => rfl) (da_cons (d_slice dsl (d_fld (d_var 0)) do_none (do_some (d_op dop_sub (d_callB dcl_len rfl T.z_len bt_len (da_cons (d_fld (d_var 0)) da_nil)) (d_var 3)))) (da_cons (d_op dop_add (d_slice dsl (d_var 1) (do_some (d_var 4)) do_none) (d_slice dsl (d_var 1) do_none (do_some (d_var 4)))) da_nil)))))))))))
theorem fn_shortened (T : Txt P K mg) {k : Nat} {sp_Play_len : DSp} {sp_shortest_period : DSp} {sp_Play_init : DSp} (F_Play_len : DFn P w K mg base k T.f_Play_len T.d_Play_len ps_Play_len sp_Play_len) (F_shortest_period : DFn P w K mg base k T.f_shortest_period T.d_shortest_period ps_shortest_period sp_shortest_period) (F_Play_init : DFn P w K mg base k T.f_Play_init T.d_Play_init ps_Play_init sp_Play_init) {sp : DSp} (len : ∀ ds Hd Q E, sp ds Hd Q E → ds.length = 1) (h : ∀ ds Hd Q Ed, sp ds Hd Q Ed → rd_shortened T sp_Play_len sp_shortest_period sp_Play_init (endsOf Q Ed) (startD N_shortened ds) Hd) : DFn P w K mg base (k + 3) T.f_shortened T.d_shortened ps_shortened sp :=
  dfun T.F_shortened sc_shortened len fun cdv A outer s H E hr => ⟨_, dv_shortened T F_Play_len F_shortest_period F_Play_init cdv A outer s H E hr, h⟩
def rd__law_bag (T : Txt P K mg) : DTS := (dSeq (dSet (dLst dNil) 1) (dSeq (dSet (dC (.int 11)) 2) (dSeq (dFor (wSeq (dSl dCut (dVar 0) dNoPart (dPart (dC (.int 63))))) (gNm 3) (dSeq (dSet (dOp (dI (fun _ j => 0 < j) fun i j => .int (i % j)) (dCB dInt (dCons (dVar 3) dNil)) (dOp (dI CPow fun i j => .int (i ^ j.toNat)) (dC (.int 10)) (dC (.int 60)))) 4) (dSeq (dIfS (dTest (dOp (dI0 fun i j => .bl (decide (j ≤ i))) (dVar 4) (dOp (dI CPow fun i j => .int (i ^ j.toNat)) (dC (.int 10)) (dC (.int 18))))) (dDrop (dBM "list" dApp (dVar 1) (dCons (dVar 4) dNil))) dNext) (dSet (dOp (dI (fun _ j => 0 < j) fun i j => .int (i % j)) (dCB dInt (dCons (dOp dAdd (dOp dAdd (dOp dMul (dVar 2) (dC (.int 48271))) (dVar 4)) (dC (.int 1))) dNil)) (dC (.int 2147483647))) 2)))) (dRet (dLst (dCons (dVar 1) (dCons (dC (.int 0)) (dCons (dC (.int 0)) (dCons (dVar 2) (dCons (dC (.int 0)) dNil))))))))))
theorem dv__law_bag (T : Txt P K mg) {k : Nat} (cdv : Value) (A : Around) (outer : List Env) (s : Shared) (H : Hp) (E : XK) (hr : Room (k + 2) (A.deeper (envOfC "_law_bag" (defScope st__law_bag) s.heap.objs.size T.f__law_bag cdv))) :
    DPSs (cxOf (L2N.CX P w) P w K mg base N__law_bag "_law_bag" (defScope st__law_bag) T.f__law_bag cdv A outer s H E) (WE0 E) (defBody st__law_bag) (rd__law_bag T) := by
  exact (ds_cons (ds_set (i := 1) sc__law_bag.nd rfl (Or.inl rfl) (d_lst da_nil)) (ds_cons (ds_set (i := 2) sc__law_bag.nd rfl (Or.inl rfl) d_int) (ds_cons (ds_for passesE rfl (di_seq (d_slice dsl (d_var 0) do_none (do_some d_int))) (dg_name (i := 3) sc__law_bag.nd rfl (Or.inl rfl)) (ds_cons (ds_set (i := 4) sc__law_bag.nd rfl (Or.inl rfl) (d_op dop_mod (d_callTy dcl_int rfl T.z_int bt_int (da_cons (d_var 3) da_nil)) (d_op dop_pow d_int d_int))) (ds_cons (ds_if (dt_cmp dop_ge (d_var 4) (d_op dop_pow d_int d_int) rfl) (ds_one (ds_expr (d_bm pla_list sl_list_append ty_list_append dmt_append (d_var 1) (da_cons (d_var 4) da_nil)))) ds_nil) (ds_one (ds_set (i := 2) sc__law_bag.nd rfl (Or.inl rfl) (d_op dop_mod (d_callTy dcl_int rfl T.z_int bt_int (da_cons (d_op dop_add (d_op dop_add (d_op dop_mul (d_var 2) d_int) (d_var 4)) d_int) da_nil)) d_int)))))) (ds_one (ds_ret (d_lst (da_cons (d_var 1) (da_cons d_int (da_cons d_int (da_cons (d_var 2) (da_cons d_int da_nil)))))))))))
theorem fn__law_bag (T : Txt P K mg) {k : Nat} {sp : DSp} (len : ∀ ds Hd Q E, sp ds Hd Q E → ds.length = 1) (h : ∀ ds Hd Q Ed, sp ds Hd Q Ed → rd__law_bag T (endsOf Q Ed) (startD N__law_bag ds) Hd) : DFn P w K mg base (k + 3) T.f__law_bag T.d__law_bag ps__law_bag sp :=
  dfun T.F__law_bag sc__law_bag len fun cdv A outer s H E hr => ⟨_, dv__law_bag T cdv A outer s H E hr, h⟩
def rd__law_take (T : Txt P K mg) : DTS := (dSeq (dIfS (dAnd (dTest (dOp (dI0 fun i j => .bl (decide (i < j))) (dOp dIx (dVar 0) (dC (.int 2))) (dC (.int 2)))) (dTest (dOp (dI0 fun i j => .bl (decide (i < j))) (dOp dIx (dVar 0) (dC (.int 1))) (dCB dLen (dCons (dOp dIx (dVar 0) (dC (.int 0))) dNil))))) (dSeq (dAsg (dOp dIx (dOp dIx (dVar 0) (dC (.int 0))) (dOp dIx (dVar 0) (dC (.int 1)))) (gIx (dVar 0) (dC (.int 2)))) (dAsg (dOp dAdd (dOp dIx (dVar 0) (dC (.int 1))) (dC (.int 1))) (gIx (dVar 0) (dC (.int 1))))) dNext) (dSeq (dIfS (dTest (dOp (dI0 fun i j => .bl (decide (j < i))) (dOp dIx (dVar 0) (dC (.int 2))) (dC (.int 1)))) (dSeq (dSet (dOp (dI (fun _ j => 0 < j) fun i j => .int (i % j)) (dCB dInt (dCons (dOp dIx (dVar 0) (dC (.int 2))) dNil)) (dVar 1)) 4) (dSeq (dAsg (dOp (dI CDv fun i j => .int (i / j)) (dOp dIx (dVar 0) (dC (.int 2))) (dVar 1)) (gIx (dVar 0) (dC (.int 2)))) (dRet (dVar 4)))) dNext) (dSeq (dAsg (dOp dAdd (dOp dIx (dVar 0) (dC (.int 4))) (dC (.int 1))) (gIx (dVar 0) (dC (.int 4)))) (dSeq (dSet (dOp (dI (fun _ j => 0 < j) fun i j => .int (i % j)) (dCB dInt (dCons (dOp dMul (dOp dAdd (dOp dIx (dVar 0) (dC (.int 3))) (dOp dIx (dVar 0) (dC (.int 4)))) (dC (.int 48271))) dNil)) (dC (.int 2147483647))) 2) (dSeq (dAsg (dVar 2) (gIx (dVar 0) (dC (.int 3)))) (dSeq (dSet (dOp (dI (fun _ j => 0 < j) fun i j => .int (i % j)) (dCB dInt (dCons (dOp dMul (dOp dAdd (dOp (dI CDv fun i j => .int (i / j)) (dVar 2) (dC (.int 3))) (dOp dMul (dOp dIx (dVar 0) (dC (.int 4))) (dOp dIx (dVar 0) (dC (.int 4))))) (dC (.int 69621))) dNil)) (dC (.int 2147483629))) 3) (dRet (dOp (dI (fun _ j => 0 < j) fun i j => .int (i % j)) (dOp (dI CDv fun i j => .int (i / j)) (dVar 3) (dC (.int 16))) (dVar 1)))))))))
theorem dv__law_take (T : Txt P K mg) {k : Nat} (cdv : Value) (A : Around) (outer : List Env) (s : Shared) (H : Hp) (E : XK) (hr : Room (k + 2) (A.deeper (envOfC "_law_take" (defScope st__law_take) s.heap.objs.size T.f__law_take cdv))) :
    DPSs (cxOf (L2N.CX P w) P w K mg base N__law_take "_law_take" (defScope st__law_take) T.f__law_take cdv A outer s H E) (WE0 E) (defBody st__law_take) (rd__law_take T) := by
  exact (ds_cons (ds_if (dw_pt (dw_and (dt_cmp dop_lt (d_ix dix (d_var 0) d_int) d_int rfl) (dw_and1 (dt_cmp dop_lt (d_ix dix (d_var 0) d_int) (d_callB dcl_len rfl T.z_len bt_len (da_cons (d_ix dix (d_var 0) d_int) da_nil)) rfl)))) (ds_cons (ds_asg (d_ix dix (d_ix dix (d_var 0) d_int) (d_ix dix (d_var 0) d_int)) (dg_ix (d_var 0) d_int)) (ds_one (ds_asg (d_op dop_add (d_ix dix (d_var 0) d_int) d_int) (dg_ix (d_var 0) d_int)))) ds_nil) (ds_cons (ds_if (dt_cmp dop_gt (d_ix dix (d_var 0) d_int) d_int rfl) (ds_cons (ds_set (i := 4) sc__law_take.nd rfl (Or.inl rfl) (d_op dop_mod (d_callTy dcl_int rfl T.z_int bt_int (da_cons (d_ix dix (d_var 0) d_int) da_nil)) (d_var 1))) (ds_cons (ds_asg (d_op dop_fdiv (d_ix dix (d_var 0) d_int) (d_var 1)) (dg_ix (d_var 0) d_int)) (ds_one (ds_ret (d_var 4))))) ds_nil) (ds_cons (ds_asg (d_op dop_add (d_ix dix (d_var 0) d_int) d_int) (dg_ix (d_var 0) d_int)) (ds_cons (ds_set (i := 2) sc__law_take.nd rfl (Or.inl rfl) (d_op dop_mod (d_callTy dcl_int rfl T.z_int bt_int (da_cons (d_op dop_mul (d_op dop_add (d_ix dix (d_var 0) d_int) (d_ix dix (d_var 0) d_int)) d_int) da_nil)) d_int)) (ds_cons (ds_asg (d_var 2) (dg_ix (d_var 0) d_int)) (ds_cons (ds_set (i := 3) sc__law_take.nd rfl (Or.inl rfl) (d_op dop_mod (d_callTy dcl_int rfl T.z_int bt_int (da_cons (d_op dop_mul (d_op dop_add (d_op dop_fdiv (d_var 2) d_int) (d_op dop_mul (d_ix dix (d_var 0) d_int) (d_ix dix (d_var 0) d_int))) d_int) da_nil)) d_int)) (ds_one (ds_ret (d_op dop_mod (d_op dop_fdiv (d_var 3) d_int) (d_var 1))))))))))
theorem fn__law_take (T : Txt P K mg) {k : Nat} {sp : DSp} (len : ∀ ds Hd Q E, sp ds Hd Q E → ds.length = 2) (h : ∀ ds Hd Q Ed, sp ds Hd Q Ed → rd__law_take T (endsOf Q Ed) (startD N__law_take ds) Hd) : DFn P w K mg base (k + 3) T.f__law_take T.d__law_take ps__law_take sp :=
  dfun T.F__law_take sc__law_take len fun cdv A outer s H E hr => ⟨_, dv__law_take T cdv A outer s H E hr, h⟩
def rd__law_same (T : Txt P K mg) (sp__law_same : DSp) : DTS := (dSeq (dIfS (dTest (dCB (dIsi K) (dCons (dVar 1) (dCons (dC (.ty "tuple")) dNil)))) (dSeq (dIfS (dOr (dNot (dTest (dCB (dIsi K) (dCons (dVar 0) (dCons (dC (.ty "tuple")) dNil))))) (dTest (dOp dNe (dCB dLen (dCons (dVar 0) dNil)) (dCB dLen (dCons (dVar 1) dNil))))) (dRet (dC (.bl false))) dNext) (dSeq (dFor (wRng1 (dCons (dCB dLen (dCons (dVar 1) dNil)) dNil)) (gNm 2) (dIfS (dNot (dTest (dCall sp__law_same [] (dCons (dOp dIx (dVar 0) (dVar 2)) (dCons (dOp dIx (dVar 1) (dVar 2)) dNil))))) (dRet (dC (.bl false))) dNext)) (dRet (dC (.bl true))))) dNext) (dSeq (dIfS (dTest (dCB (dIsi K) (dCons (dVar 1) (dCons (dC (.ty "str")) dNil)))) (dRet (dAndV (dCB (dIsi K) (dCons (dVar 0) (dCons (dC (.ty "str")) dNil))) (dOp dEq (dVar 0) (dVar 1)))) dNext) (dSeq (dIfS (dTest (dOp dIsN (dVar 1) (dC .non))) (dRet (dOp dIsN (dVar 0) (dC .non))) dNext) (dSeq (dIfS (dTest (dCB (dIsi K) (dCons (dVar 1) (dCons (dC (.ty "bool")) dNil)))) (dRet (dAndV (dCB (dIsi K) (dCons (dVar 0) (dCons (dC (.ty "bool")) dNil))) (dOp dEq (dVar 0) (dVar 1)))) dNext) (dRet (dAndV (dCB (dIsi K) (dCons (dVar 0) (dCons (dC (.ty "int")) dNil))) (dAndV (dNotV (dCB (dIsi K) (dCons (dVar 0) (dCons (dC (.ty "bool")) dNil)))) (dOp dEq (dVar 0) (dVar 1)))))))))
theorem dv__law_same (T : Txt P K mg) {k : Nat} {sp__law_same : DSp} (F__law_same : DFn P w K mg base k T.f__law_same T.d__law_same ps__law_same sp__law_same) (cdv : Value) (A : Around) (outer : List Env) (s : Shared) (H : Hp) (E : XK) (hr : Room (k + 2) (A.deeper (envOfC "_law_same" (defScope st__law_same) s.heap.objs.size T.f__law_same cdv))) :
    DPSs (cxOf (L2N.CX P w) P w K mg base N__law_same "_law_same" (defScope st__law_same) T.f__law_same cdv A outer s H E) (WE0 E) (defBody st__law_same) (rd__law_same T sp__law_same) := by
  have hu64 := hu64_of hr
  have hr0 := hr.mono (Nat.le_add_right k 2)
  exact (ds_cons (ds_if (dt_val (d_callB dcl_isi rfl T.z_isinstance bt_isinstance (da_cons (d_var 1) (da_cons (d_ty rfl T.z_tuple bt_tuple) da_nil)))) (ds_cons (ds_if (dw_pt (dw_or (dt_not (dt_val (d_callB dcl_isi rfl T.z_isinstance bt_isinstance (da_cons (d_var 0) (da_cons (d_ty rfl T.z_tuple bt_tuple) da_nil))))) (dw_or1 (dt_cmp (dop_ne hu64) (d_callB dcl_len rfl T.z_len bt_len (da_cons (d_var 0) da_nil)) (d_callB dcl_len rfl T.z_len bt_len (da_cons (d_var 1) da_nil)) rfl)))) (ds_one (ds_ret d_bl)) ds_nil) (ds_cons (ds_for passesE rfl (di_rng1 rfl T.z_range (da_cons (d_callB dcl_len rfl T.z_len bt_len (da_cons (d_var 1) da_nil)) da_nil)) (dg_name (i := 2) sc__law_same.nd rfl (Or.inl rfl)) (ds_one (ds_if (dt_not (dt_val (d_call F__law_same hr0 takesE T.g__law_same T.k__law_same T.b__law_same .nil (fun _ => rfl) (da_cons (d_ix dix (d_var 0) (d_var 2)) (da_cons (d_ix dix (d_var 1) (d_var 2)) da_nil))))) (ds_one (ds_ret d_bl)) ds_nil))) (ds_one (ds_ret d_bl)))) ds_nil) (ds_cons (ds_if (dt_val (d_callB dcl_isi rfl T.z_isinstance bt_isinstance (da_cons (d_var 1) (da_cons (d_ty rfl T.z_str bt_str) da_nil)))) (ds_one (ds_ret (d_and (d_callB dcl_isi rfl T.z_isinstance bt_isinstance (da_cons (d_var 0) (da_cons (d_ty rfl T.z_str bt_str) da_nil))) (d_one (d_cmp (dop_eq hu64) (d_var 0) (d_var 1) rfl))))) ds_nil) (ds_cons (ds_if (dt_cmp dop_isN (d_var 1) d_non rfl) (ds_one (ds_ret (d_cmp dop_isN (d_var 0) d_non rfl))) ds_nil) (ds_cons (ds_if (dt_val (d_callB dcl_isi rfl T.z_isinstance bt_isinstance (da_cons (d_var 1) (da_cons (d_ty rfl T.z_bool bt_bool) da_nil)))) (ds_one (ds_ret (d_and (d_callB dcl_isi rfl T.z_isinstance bt_isinstance (da_cons (d_var 0) (da_cons (d_ty rfl T.z_bool bt_bool) da_nil))) (d_one (d_cmp (dop_eq hu64) (d_var 0) (d_var 1) rfl))))) ds_nil) (ds_one (ds_ret (d_and (d_callB dcl_isi rfl T.z_isinstance bt_isinstance (da_cons (d_var 0) (da_cons (d_ty rfl T.z_int bt_int) da_nil))) (d_and (d_not (d_callB dcl_isi rfl T.z_isinstance bt_isinstance (da_cons (d_var 0) (da_cons (d_ty rfl T.z_bool bt_bool) da_nil)))) (d_one (d_cmp (dop_eq hu64) (d_var 0) (d_var 1) rfl))))))))))
theorem fn__law_same (T : Txt P K mg) {k : Nat} {sp__law_same : DSp} (F__law_same : DFn P w K mg base k T.f__law_same T.d__law_same ps__law_same sp__law_same) {sp : DSp} (len : ∀ ds Hd Q E, sp ds Hd Q E → ds.length = 2) (h : ∀ ds Hd Q Ed, sp ds Hd Q Ed → rd__law_same T sp__law_same (endsOf Q Ed) (startD N__law_same ds) Hd) : DFn P w K mg base (k + 3) T.f__law_same T.d__law_same ps__law_same sp :=
  dfun T.F__law_same sc__law_same len fun cdv A outer s H E hr => ⟨_, dv__law_same T F__law_same cdv A outer s H E hr, h⟩
def rh__law_same (T : Txt P K mg) : DTS := (dSeq (dIfS (dTest (dCB (dIsi K) (dCons (dVar 1) (dCons (dC (.ty "tuple")) dNil)))) dNever dNext) (dSeq (dIfS (dTest (dCB (dIsi K) (dCons (dVar 1) (dCons (dC (.ty "str")) dNil)))) (dRet (dAndV (dCB (dIsi K) (dCons (dVar 0) (dCons (dC (.ty "str")) dNil))) (dOp dEq (dVar 0) (dVar 1)))) dNext) (dSeq (dIfS (dTest (dOp dIsN (dVar 1) (dC .non))) (dRet (dOp dIsN (dVar 0) (dC .non))) dNext) (dSeq (dIfS (dTest (dCB (dIsi K) (dCons (dVar 1) (dCons (dC (.ty "bool")) dNil)))) (dRet (dAndV (dCB (dIsi K) (dCons (dVar 0) (dCons (dC (.ty "bool")) dNil))) (dOp dEq (dVar 0) (dVar 1)))) dNext) (dRet (dAndV (dCB (dIsi K) (dCons (dVar 0) (dCons (dC (.ty "int")) dNil))) (dAndV (dNotV (dCB (dIsi K) (dCons (dVar 0) (dCons (dC (.ty "bool")) dNil)))) (dOp dEq (dVar 0) (dVar 1)))))))))
theorem fh__law_same (T : Txt P K mg) {k : Nat} {sp : DSp} (len : ∀ ds Hd Q E, sp ds Hd Q E → ds.length = 2) (h : ∀ ds Hd Q Ed, sp ds Hd Q Ed → rh__law_same T (endsOf Q Ed) (startD N__law_same ds) Hd) : DFnH P w K mg base (k + 1) T.f__law_same T.d__law_same ps__law_same sp := by
  refine dfunH T.F__law_same sc__law_same len fun cdv A outer s H E p hot hr => ⟨rh__law_same T, ?_, h⟩
  have hu64 := hu64H_of hr
  exact (ds_cons (ds_if (dt_val (d_callB dcl_isi rfl T.z_isinstance bt_isinstance (da_cons (d_var 1) (da_cons (d_ty rfl T.z_tuple bt_tuple) da_nil)))) ds_never ds_nil) (ds_cons (ds_if (dt_val (d_callB dcl_isi rfl T.z_isinstance bt_isinstance (da_cons (d_var 1) (da_cons (d_ty rfl T.z_str bt_str) da_nil)))) (ds_one (ds_ret (d_and (d_callB dcl_isi rfl T.z_isinstance bt_isinstance (da_cons (d_var 0) (da_cons (d_ty rfl T.z_str bt_str) da_nil))) (d_one (d_cmp (dop_eq hu64) (d_var 0) (d_var 1) rfl))))) ds_nil) (ds_cons (ds_if (dt_cmp dop_isN (d_var 1) d_non rfl) (ds_one (ds_ret (d_cmp dop_isN (d_var 0) d_non rfl))) ds_nil) (ds_cons (ds_if (dt_val (d_callB dcl_isi rfl T.z_isinstance bt_isinstance (da_cons (d_var 1) (da_cons (d_ty rfl T.z_bool bt_bool) da_nil)))) (ds_one (ds_ret (d_and (d_callB dcl_isi rfl T.z_isinstance bt_isinstance (da_cons (d_var 0) (da_cons (d_ty rfl T.z_bool bt_bool) da_nil))) (d_one (d_cmp (dop_eq hu64) (d_var 0) (d_var 1) rfl))))) ds_nil) (ds_one (ds_ret (d_and (d_callB dcl_isi rfl T.z_isinstance bt_isinstance (da_cons (d_var 0) (da_cons (d_ty rfl T.z_int bt_int) da_nil))) (d_and (d_not (d_callB dcl_isi rfl T.z_isinstance bt_isinstance (da_cons (d_var 0) (da_cons (d_ty rfl T.z_bool bt_bool) da_nil)))) (d_one (d_cmp (dop_eq hu64) (d_var 0) (d_var 1) rfl))))))))))
def rd__law_places (T : Txt P K mg) (sp__law_take : DSp) : DTS := (dRet (dLc (wRng1 (dCons (dVar 2) dNil)) (gNm 3) dYes (dOp dIx (dVar 1) (dCall sp__law_take [] (dCons (dVar 0) (dCons (dCB dLen (dCons (dVar 1) dNil)) dNil)))) [3]))
theorem dv__law_places (T : Txt P K mg) {k : Nat} {sp__law_take : DSp} (F__law_take : DFn P w K mg base k T.f__law_take T.d__law_take ps__law_take sp__law_take) (cdv : Value) (A : Around) (outer : List Env) (s : Shared) (H : Hp) (E : XK) (hr : Room (k + 2) (A.deeper (envOfC "_law_places" (defScope st__law_places) s.heap.objs.size T.f__law_places cdv))) :
    DPSs (cxOf (L2N.CX P w) P w K mg base N__law_places "_law_places" (defScope st__law_places) T.f__law_places cdv A outer s H E) (WE0 E) (defBody st__law_places) (rd__law_places T sp__law_take) := by
  have hr0 := hr.mono (Nat.le_add_right k 2)
  exact (ds_one (ds_ret (d_lc (own := [("k", 3)]) rfl sc__law_places.nd (di_rng1 rfl T.z_range (da_cons (d_var 2) da_nil)) (blkOk_by (N := N__law_places) (sc := defScope st__law_places) (own := [("k", 3)]) (by decide +kernel)) (fun _ _ _ _ _ => (dgo_name (i := 3) sc__law_places.nd rfl (Or.inl rfl))) (fun _ _ _ _ _ => dts_nil) (fun _ _ _ _ _ => (d_ix dix (d_var 1) (d_call F__law_take hr0 takesF T.g__law_take T.k__law_take T.b__law_take .nil (fun _ => rfl) (da_cons (d_var 0) (da_cons (d_callB dcl_len rfl T.z_len bt_len (da_cons (d_var 1) da_nil)) da_nil))))))))
theorem fn__law_places (T : Txt P K mg) {k : Nat} {sp__law_take : DSp} (F__law_take : DFn P w K mg base k T.f__law_take T.d__law_take ps__law_take sp__law_take) {sp : DSp} (len : ∀ ds Hd Q E, sp ds Hd Q E → ds.length = 3) (h : ∀ ds Hd Q Ed, sp ds Hd Q Ed → rd__law_places T sp__law_take (endsOf Q Ed) (startD N__law_places ds) Hd) : DFn P w K mg base (k + 3) T.f__law_places T.d__law_places ps__law_places sp :=
  dfun T.F__law_places sc__law_places len fun cdv A outer s H E hr => ⟨_, dv__law_places T F__law_take cdv A outer s H E hr, h⟩
def rd__law_lasso (T : Txt P K mg) (sp__law_take : DSp) (sp__law_places : DSp) : DTS := (dSeq (dSet (dLc (wRng1 (dCons (dOp dAdd (dC (.int 1)) (dCall sp__law_take [] (dCons (dVar 0) (dCons (dC (.int 4)) dNil)))) dNil)) (gNm 5) dYes (dCall sp__law_take [] (dCons (dVar 0) (dCons (dC (.int 400)) dNil))) [5]) 1) (dSeq (dSet (dCall sp__law_places [] (dCons (dVar 0) (dCons (dVar 1) (dCons (dCall sp__law_take [] (dCons (dVar 0) (dCons (dC (.int 13)) dNil))) dNil)))) 2) (dSeq (dSet (dCall sp__law_places [] (dCons (dVar 0) (dCons (dVar 1) (dCons (dOp dAdd (dC (.int 1)) (dCall sp__law_take [] (dCons (dVar 0) (dCons (dC (.int 12)) dNil)))) dNil)))) 3) (dSeq (dSet (dCall sp__law_take [] (dCons (dVar 0) (dCons (dC (.int 3)) dNil))) 4) (dSeq (dIfS (dTest (dOp dEq (dVar 4) (dC (.int 0)))) (dSet (dOp dMul (dVar 3) (dOp dAdd (dC (.int 1)) (dCall sp__law_take [] (dCons (dVar 0) (dCons (dC (.int 5)) dNil))))) 3) dNext) (dSeq (dIfS (dTest (dOp dEq (dVar 4) (dC (.int 1)))) (dSet (dOp dAdd (dVar 2) (dSl dCut (dOp dAdd (dVar 3) (dVar 3)) (dPart (dCall sp__law_take [] (dCons (dVar 0) (dCons (dOp dAdd (dOp dAdd (dCB dLen (dCons (dVar 3) dNil)) (dCB dLen (dCons (dVar 3) dNil))) (dC (.int 1))) dNil)))) dNoPart)) 2) dNext) (dRet (dTup (dCons (dCB dTupleOf (dCons (dVar 2) dNil)) (dCons (dCB dTupleOf (dCons (dVar 3) dNil)) dNil))))))))))
theorem dv__law_lasso (T : Txt P K mg) {k : Nat} {sp__law_take : DSp} {sp__law_places : DSp} (F__law_take : DFn P w K mg base k T.f__law_take T.d__law_take ps__law_take sp__law_take) (F__law_places : DFn P w K mg base k T.f__law_places T.d__law_places ps__law_places sp__law_places) (cdv : Value) (A : Around) (outer : List Env) (s : Shared) (H : Hp) (E : XK) (hr : Room (k + 2) (A.deeper (envOfC "_law_lasso" (defScope st__law_lasso) s.heap.objs.size T.f__law_lasso cdv))) :
    DPSs (cxOf (L2N.CX P w) P w K mg base N__law_lasso "_law_lasso" (defScope st__law_lasso) T.f__law_lasso cdv A outer s H E) (WE0 E) (defBody st__law_lasso) (rd__law_lasso T sp__law_take sp__law_places) := by
  have hu64 := hu64_of hr
  have hr0 := hr.mono (Nat.le_add_right k 2)
  exact (ds_cons (ds_setLc (i := 1) (own := [("k", 5)]) rfl sc__law_lasso.nd rfl rfl (sw_true rfl rfl rfl rfl) (di_rng1 rfl T.z_range (da_cons (d_op dop_add d_int (d_call F__law_take hr0 takesE T.g__law_take T.k__law_take T.b__law_take .nil (fun _ => rfl) (da_cons (d_var 0) (da_cons d_int da_nil)))) da_nil)) (blkOk_by (N := N__law_lasso) (sc := defScope st__law_lasso) (own := [("k", 5)]) (by decide +kernel)) (fun _ _ _ _ _ => (dgo_name (i := 5) sc__law_lasso.nd rfl (Or.inl rfl))) (fun _ _ _ _ _ => dts_nil) (fun _ _ _ _ _ => (d_call F__law_take hr0 takesF T.g__law_take T.k__law_take T.b__law_take .nil (fun _ => rfl) (da_cons (d_var 0) (da_cons d_int da_nil))))) (ds_cons (ds_set (i := 2) sc__law_lasso.nd rfl (Or.inl rfl) (d_call F__law_places hr0 takesE T.g__law_places T.k__law_places T.b__law_places .nil (fun _ => rfl) (da_cons (d_var 0) (da_cons (d_var 1) (da_cons (d_call F__law_take hr0 takesE T.g__law_take T.k__law_take T.b__law_take .nil (fun _ => rfl) (da_cons (d_var 0) (da_cons d_int da_nil))) da_nil))))) (ds_cons (ds_set (i := 3) sc__law_lasso.nd rfl (Or.inl rfl) (d_call F__law_places hr0 takesE T.g__law_places T.k__law_places T.b__law_places .nil (fun _ => rfl) (da_cons (d_var 0) (da_cons (d_var 1) (da_cons (d_op dop_add d_int (d_call F__law_take hr0 takesE T.g__law_take T.k__law_take T.b__law_take .nil (fun _ => rfl) (da_cons (d_var 0) (da_cons d_int da_nil)))) da_nil))))) (ds_cons (ds_set (i := 4) sc__law_lasso.nd rfl (Or.inl rfl) (d_call F__law_take hr0 takesE T.g__law_take T.k__law_take T.b__law_take .nil (fun _ => rfl) (da_cons (d_var 0) (da_cons d_int da_nil)))) (ds_cons (ds_if (dt_cmp (dop_eq hu64) (d_var 4) d_int rfl) (ds_one (ds_set (i := 3) sc__law_lasso.nd rfl (Or.inl rfl) (d_op dop_mul (d_var 3) (d_op dop_add d_int (d_call F__law_take hr0 takesE T.g__law_take T.k__law_take T.b__law_take .nil (fun _ => rfl) (da_cons (d_var 0) (da_cons d_int da_nil))))))) ds_nil) (ds_cons (ds_if (dt_cmp (dop_eq hu64) (d_var 4) d_int rfl) (ds_one (ds_set (i := 2) sc__law_lasso.nd rfl (Or.inl rfl) (d_op dop_add (d_var 2) (d_slice dsl (d_op dop_add (d_var 3) (d_var 3)) (do_some (d_call F__law_take hr0 takesE T.g__law_take T.k__law_take T.b__law_take .nil (fun _ => rfl) (da_cons (d_var 0) (da_cons (d_op dop_add (d_op dop_add (d_callB dcl_len rfl T.z_len bt_len (da_cons (d_var 3) da_nil)) (d_callB dcl_len rfl T.z_len bt_len (da_cons (d_var 3) da_nil))) d_int) da_nil)))) do_none)))) ds_nil) (ds_one (ds_ret (d_tup (da_cons (d_callTy dcl_tuple rfl T.z_tuple bt_tuple (da_cons (d_var 2) da_nil)) (da_cons (d_callTy dcl_tuple rfl T.z_tuple bt_tuple (da_cons (d_var 3) da_nil)) da_nil)))))))))))
theorem fn__law_lasso (T : Txt P K mg) {k : Nat} {sp__law_take : DSp} {sp__law_places : DSp} (F__law_take : DFn P w K mg base k T.f__law_take T.d__law_take ps__law_take sp__law_take) (F__law_places : DFn P w K mg base k T.f__law_places T.d__law_places ps__law_places sp__law_places) {sp : DSp} (len : ∀ ds Hd Q E, sp ds Hd Q E → ds.length = 1) (h : ∀ ds Hd Q Ed, sp ds Hd Q Ed → rd__law_lasso T sp__law_take sp__law_places (endsOf Q Ed) (startD N__law_lasso ds) Hd) : DFn P w K mg base (k + 3) T.f__law_lasso T.d__law_lasso ps__law_lasso sp :=
  dfun T.F__law_lasso sc__law_lasso len fun cdv A outer s H E hr => ⟨_, dv__law_lasso T F__law_take F__law_places cdv A outer s H E hr, h⟩
def rd__law_place_at (T : Txt P K mg) : DTS := (dSeq (dIfS (dTest (dOp (dI0 fun i j => .bl (decide (i < j))) (dVar 1) (dCB dLen (dCons (dOp dIx (dVar 0) (dC (.int 0))) dNil)))) (dRet (dOp dIx (dOp dIx (dVar 0) (dC (.int 0))) (dVar 1))) dNext) (dRet (dOp dIx (dOp dIx (dVar 0) (dC (.int 1))) (dOp (dI (fun _ j => 0 < j) fun i j => .int (i % j)) (dOp (dI0 fun i j => .int (i - j)) (dVar 1) (dCB dLen (dCons (dOp dIx (dVar 0) (dC (.int 0))) dNil))) (dCB dLen (dCons (dOp dIx (dVar 0) (dC (.int 1))) dNil))))))
theorem dv__law_place_at (T : Txt P K mg) {k : Nat} (cdv : Value) (A : Around) (outer : List Env) (s : Shared) (H : Hp) (E : XK) (hr : Room (k + 2) (A.deeper (envOfC "_law_place_at" (defScope st__law_place_at) s.heap.objs.size T.f__law_place_at cdv))) :
    DPSs (cxOf (L2N.CX P w) P w K mg base N__law_place_at "_law_place_at" (defScope st__law_place_at) T.f__law_place_at cdv A outer s H E) (WE0 E) (defBody st__law_place_at) (rd__law_place_at T) := by
  exact (ds_cons (ds_if (dt_cmp dop_lt (d_var 1) (d_callB dcl_len rfl T.z_len bt_len (da_cons (d_ix dix (d_var 0) d_int) da_nil)) rfl) (ds_one (ds_ret (d_ix dix (d_ix dix (d_var 0) d_int) (d_var 1)))) ds_nil) (ds_one (ds_ret (d_ix dix (d_ix dix (d_var 0) d_int) (d_op dop_mod (d_op dop_sub (d_var 1) (d_callB dcl_len rfl T.z_len bt_len (da_cons (d_ix dix (d_var 0) d_int) da_nil))) (d_callB dcl_len rfl T.z_len bt_len (da_cons (d_ix dix (d_var 0) d_int) da_nil)))))))
theorem fn__law_place_at (T : Txt P K mg) {k : Nat} {sp : DSp} (len : ∀ ds Hd Q E, sp ds Hd Q E → ds.length = 2) (h : ∀ ds Hd Q Ed, sp ds Hd Q Ed → rd__law_place_at T (endsOf Q Ed) (startD N__law_place_at ds) Hd) : DFn P w K mg base (k + 3) T.f__law_place_at T.d__law_place_at ps__law_place_at sp :=
  dfun T.F__law_place_at sc__law_place_at len fun cdv A outer s H E hr => ⟨_, dv__law_place_at T cdv A outer s H E hr, h⟩
def rd__law_gone_on (T : Txt P K mg) (sp__law_take : DSp) (sp__law_place_at : DSp) : DTS := (dSeq (dSet (dCall sp__law_take [] (dCons (dVar 0) (dCons (dC (.int 20)) dNil))) 2) (dSeq (dSet (dOp dAdd (dOp dIx (dVar 1) (dC (.int 0))) (dCB dTupleOf (dCons (dLc (wRng1 (dCons (dVar 2) dNil)) (gNm 6) dYes (dCall sp__law_place_at [] (dCons (dVar 1) (dCons (dOp dAdd (dCB dLen (dCons (dOp dIx (dVar 1) (dC (.int 0))) dNil)) (dVar 6)) dNil))) [6]) dNil))) 3) (dSeq (dSet (dOp (dI (fun _ j => 0 < j) fun i j => .int (i % j)) (dVar 2) (dCB dLen (dCons (dOp dIx (dVar 1) (dC (.int 1))) dNil))) 4) (dSeq (dSet (dOp dAdd (dSl dCut (dOp dIx (dVar 1) (dC (.int 1))) (dPart (dVar 4)) dNoPart) (dSl dCut (dOp dIx (dVar 1) (dC (.int 1))) dNoPart (dPart (dVar 4)))) 5) (dRet (dTup (dCons (dVar 3) (dCons (dOp dMul (dVar 5) (dOp dAdd (dC (.int 1)) (dCall sp__law_take [] (dCons (dVar 0) (dCons (dC (.int 3)) dNil))))) dNil))))))))
theorem dv__law_gone_on (T : Txt P K mg) {k : Nat} {sp__law_take : DSp} {sp__law_place_at : DSp} (F__law_take : DFn P w K mg base k T.f__law_take T.d__law_take ps__law_take sp__law_take) (F__law_place_at : DFn P w K mg base k T.f__law_place_at T.d__law_place_at ps__law_place_at sp__law_place_at) (cdv : Value) (A : Around) (outer : List Env) (s : Shared) (H : Hp) (E : XK) (hr : Room (k + 2) (A.deeper (envOfC "_law_gone_on" (defScope st__law_gone_on) s.heap.objs.size T.f__law_gone_on cdv))) :
    DPSs (cxOf (L2N.CX P w) P w K mg base N__law_gone_on "_law_gone_on" (defScope st__law_gone_on) T.f__law_gone_on cdv A outer s H E) (WE0 E) (defBody st__law_gone_on) (rd__law_gone_on T sp__law_take sp__law_place_at) := by
  have hr0 := hr.mono (Nat.le_add_right k 2)
  exact (ds_cons (ds_set (i := 2) sc__law_gone_on.nd rfl (Or.inl rfl) (d_call F__law_take hr0 takesE T.g__law_take T.k__law_take T.b__law_take .nil (fun _ => rfl) (da_cons (d_var 0) (da_cons d_int da_nil)))) (ds_cons (ds_set (i := 3) sc__law_gone_on.nd rfl (Or.inl rfl) (d_op dop_add (d_ix dix (d_var 1) d_int) (d_callTy dcl_tuple rfl T.z_tuple bt_tuple (da_cons (d_lc (own := [("k", 6)]) rfl sc__law_gone_on.nd (di_rng1 rfl T.z_range (da_cons (d_var 2) da_nil)) (blkOk_by (N := N__law_gone_on) (sc := defScope st__law_gone_on) (own := [("k", 6)]) (by decide +kernel)) (fun _ _ _ _ _ => (dgo_name (i := 6) sc__law_gone_on.nd rfl (Or.inl rfl))) (fun _ _ _ _ _ => dts_nil) (fun _ _ _ _ _ => (d_call F__law_place_at hr0 takesF T.g__law_place_at T.k__law_place_at T.b__law_place_at .nil (fun _ => rfl) (da_cons (d_var 1) (da_cons (d_op dop_add (d_callB dcl_len rfl T.z_len bt_len (da_cons (d_ix dix (d_var 1) d_int) da_nil)) (d_var 6)) da_nil))))) da_nil)))) (ds_cons (ds_set (i := 4) sc__law_gone_on.nd rfl (Or.inl rfl) (d_op dop_mod (d_var 2) (d_callB dcl_len rfl T.z_len bt_len (da_cons (d_ix dix (d_var 1) d_int) da_nil)))) (ds_cons (ds_set (i := 5) sc__law_gone_on.nd rfl (Or.inl rfl) (d_op dop_add (d_slice dsl (d_ix dix (d_var 1) d_int) (do_some (d_var 4)) do_none) (d_slice dsl (d_ix dix (d_var 1) d_int) do_none (do_some (d_var 4))))) (ds_one (ds_ret (d_tup (da_cons (d_var 3) (da_cons (d_op dop_mul (d_var 5) (d_op dop_add d_int (d_call F__law_take hr0 takesE T.g__law_take T.k__law_take T.b__law_take .nil (fun _ => rfl) (da_cons (d_var 0) (da_cons d_int da_nil))))) da_nil)))))))))
theorem fn__law_gone_on (T : Txt P K mg) {k : Nat} {sp__law_take : DSp} {sp__law_place_at : DSp} (F__law_take : DFn P w K mg base k T.f__law_take T.d__law_take ps__law_take sp__law_take) (F__law_place_at : DFn P w K mg base k T.f__law_place_at T.d__law_place_at ps__law_place_at sp__law_place_at) {sp : DSp} (len : ∀ ds Hd Q E, sp ds Hd Q E → ds.length = 2) (h : ∀ ds Hd Q Ed, sp ds Hd Q Ed → rd__law_gone_on T sp__law_take sp__law_place_at (endsOf Q Ed) (startD N__law_gone_on ds) Hd) : DFn P w K mg base (k + 3) T.f__law_gone_on T.d__law_gone_on ps__law_gone_on sp :=
  dfun T.F__law_gone_on sc__law_gone_on len fun cdv A outer s H E hr => ⟨_, dv__law_gone_on T F__law_take F__law_place_at cdv A outer s H E hr, h⟩
def rd__law_changed (T : Txt P K mg) (sp__law_take : DSp) : DTS := (dSeq (dSet (dCB dListOf (dCons (dOp dAdd (dOp dIx (dVar 1) (dC (.int 0))) (dOp dIx (dVar 1) (dC (.int 1)))) dNil)) 2) (dSeq (dSet (dCall sp__law_take [] (dCons (dVar 0) (dCons (dCB dLen (dCons (dVar 2) dNil)) dNil))) 3) (dSeq (dIfS (dTest (dOp dEq (dCall sp__law_take [] (dCons (dVar 0) (dCons (dC (.int 2)) dNil))) (dC (.int 0)))) (dAsg (dOp dIx (dVar 2) (dCall sp__law_take [] (dCons (dVar 0) (dCons (dCB dLen (dCons (dVar 2) dNil)) dNil)))) (gIx (dVar 2) (dVar 3))) (dAsg (dCall sp__law_take [] (dCons (dVar 0) (dCons (dC (.int 400)) dNil))) (gIx (dVar 2) (dVar 3)))) (dRet (dTup (dCons (dCB dTupleOf (dCons (dSl dCut (dVar 2) dNoPart (dPart (dCB dLen (dCons (dOp dIx (dVar 1) (dC (.int 0))) dNil)))) dNil)) (dCons (dCB dTupleOf (dCons (dSl dCut (dVar 2) (dPart (dCB dLen (dCons (dOp dIx (dVar 1) (dC (.int 0))) dNil))) dNoPart) dNil)) dNil)))))))
theorem dv__law_changed (T : Txt P K mg) {k : Nat} {sp__law_take : DSp} (F__law_take : DFn P w K mg base k T.f__law_take T.d__law_take ps__law_take sp__law_take) (cdv : Value) (A : Around) (outer : List Env) (s : Shared) (H : Hp) (E : XK) (hr : Room (k + 2) (A.deeper (envOfC "_law_changed" (defScope st__law_changed) s.heap.objs.size T.f__law_changed cdv))) :
    DPSs (cxOf (L2N.CX P w) P w K mg base N__law_changed "_law_changed" (defScope st__law_changed) T.f__law_changed cdv A outer s H E) (WE0 E) (defBody st__law_changed) (rd__law_changed T sp__law_take) := by
  have hu64 := hu64_of hr
  have hr0 := hr.mono (Nat.le_add_right k 2)
  exact (ds_cons (ds_set (i := 2) sc__law_changed.nd rfl (Or.inl rfl) (d_callTy dcl_list rfl T.z_list bt_list (da_cons (d_op dop_add (d_ix dix (d_var 1) d_int) (d_ix dix (d_var 1) d_int)) da_nil))) (ds_cons (ds_set (i := 3) sc__law_changed.nd rfl (Or.inl rfl) (d_call F__law_take hr0 takesE T.g__law_take T.k__law_take T.b__law_take .nil (fun _ => rfl) (da_cons (d_var 0) (da_cons (d_callB dcl_len rfl T.z_len bt_len (da_cons (d_var 2) da_nil)) da_nil)))) (ds_cons (ds_if (dt_cmp (dop_eq hu64) (d_call F__law_take hr0 takesE T.g__law_take T.k__law_take T.b__law_take .nil (fun _ => rfl) (da_cons (d_var 0) (da_cons d_int da_nil))) d_int rfl) (ds_one (ds_asg (d_ix dix (d_var 2) (d_call F__law_take hr0 takesE T.g__law_take T.k__law_take T.b__law_take .nil (fun _ => rfl) (da_cons (d_var 0) (da_cons (d_callB dcl_len rfl T.z_len bt_len (da_cons (d_var 2) da_nil)) da_nil)))) (dg_ix (d_var 2) (d_var 3)))) (ds_one (ds_asg (d_call F__law_take hr0 takesE T.g__law_take T.k__law_take T.b__law_take .nil (fun _ => rfl) (da_cons (d_var 0) (da_cons d_int da_nil))) (dg_ix (d_var 2) (d_var 3))))) (ds_one (ds_ret (d_tup (da_cons (d_callTy dcl_tuple rfl T.z_tuple bt_tuple (da_cons (d_slice dsl (d_var 2) do_none (do_some (d_callB dcl_len rfl T.z_len bt_len (da_cons (d_ix dix (d_var 1) d_int) da_nil)))) da_nil)) (da_cons (d_callTy dcl_tuple rfl T.z_tuple bt_tuple (da_cons (d_slice dsl (d_var 2) (do_some (d_callB dcl_len rfl T.z_len bt_len (da_cons (d_ix dix (d_var 1) d_int) da_nil))) do_none) da_nil)) da_nil))))))))
theorem fn__law_changed (T : Txt P K mg) {k : Nat} {sp__law_take : DSp} (F__law_take : DFn P w K mg base k T.f__law_take T.d__law_take ps__law_take sp__law_take) {sp : DSp} (len : ∀ ds Hd Q E, sp ds Hd Q E → ds.length = 2) (h : ∀ ds Hd Q Ed, sp ds Hd Q Ed → rd__law_changed T sp__law_take (endsOf Q Ed) (startD N__law_changed ds) Hd) : DFn P w K mg base (k + 3) T.f__law_changed T.d__law_changed ps__law_changed sp :=
  dfun T.F__law_changed sc__law_changed len fun cdv A outer s H E hr => ⟨_, dv__law_changed T F__law_take cdv A outer s H E hr, h⟩
def rd__law_alike (T : Txt P K mg) (sp__law_place_at : DSp) : DTS := (dSeq (dFor (wRng1 (dCons (dOp dAdd (dOp dAdd (dCB dMax2 (dCons (dCB dLen (dCons (dOp dIx (dVar 0) (dC (.int 0))) dNil)) (dCons (dCB dLen (dCons (dOp dIx (dVar 1) (dC (.int 0))) dNil)) dNil))) (dCB dLen (dCons (dOp dIx (dVar 0) (dC (.int 1))) dNil))) (dCB dLen (dCons (dOp dIx (dVar 1) (dC (.int 1))) dNil))) dNil)) (gNm 2) (dIfS (dTest (dOp dNe (dCall sp__law_place_at [] (dCons (dVar 0) (dCons (dVar 2) dNil))) (dCall sp__law_place_at [] (dCons (dVar 1) (dCons (dVar 2) dNil))))) (dRet (dC (.bl false))) dNext)) (dRet (dC (.bl true))))
theorem dv__law_alike (T : Txt P K mg) {k : Nat} {sp__law_place_at : DSp} (F__law_place_at : DFn P w K mg base k T.f__law_place_at T.d__law_place_at ps__law_place_at sp__law_place_at) (cdv : Value) (A : Around) (outer : List Env) (s : Shared) (H : Hp) (E : XK) (hr : Room (k + 2) (A.deeper (envOfC "_law_alike" (defScope st__law_alike) s.heap.objs.size T.f__law_alike cdv))) :
    DPSs (cxOf (L2N.CX P w) P w K mg base N__law_alike "_law_alike" (defScope st__law_alike) T.f__law_alike cdv A outer s H E) (WE0 E) (defBody st__law_alike) (rd__law_alike T sp__law_place_at) := by
  have hu64 := hu64_of hr
  have hr0 := hr.mono (Nat.le_add_right k 2)
  exact (ds_cons (ds_for passesE rfl (di_rng1 rfl T.z_range (da_cons (d_op dop_add (d_op dop_add (d_callB (dcl_max2 rfl) rfl T.z_max bt_max (da_cons (d_callB dcl_len rfl T.z_len bt_len (da_cons (d_ix dix (d_var 0) d_int) da_nil)) (da_cons (d_callB dcl_len rfl T.z_len bt_len (da_cons (d_ix dix (d_var 1) d_int) da_nil)) da_nil))) (d_callB dcl_len rfl T.z_len bt_len (da_cons (d_ix dix (d_var 0) d_int) da_nil))) (d_callB dcl_len rfl T.z_len bt_len (da_cons (d_ix dix (d_var 1) d_int) da_nil))) da_nil)) (dg_name (i := 2) sc__law_alike.nd rfl (Or.inl rfl)) (ds_one (ds_if (dt_cmp (dop_ne hu64) (d_call F__law_place_at hr0 takesE T.g__law_place_at T.k__law_place_at T.b__law_place_at .nil (fun _ => rfl) (da_cons (d_var 0) (da_cons (d_var 2) da_nil))) (d_call F__law_place_at hr0 takesE T.g__law_place_at T.k__law_place_at T.b__law_place_at .nil (fun _ => rfl) (da_cons (d_var 1) (da_cons (d_var 2) da_nil))) rfl) (ds_one (ds_ret d_bl)) ds_nil))) (ds_one (ds_ret d_bl)))
theorem fn__law_alike (T : Txt P K mg) {k : Nat} {sp__law_place_at : DSp} (F__law_place_at : DFn P w K mg base k T.f__law_place_at T.d__law_place_at ps__law_place_at sp__law_place_at) {sp : DSp} (len : ∀ ds Hd Q E, sp ds Hd Q E → ds.length = 2) (h : ∀ ds Hd Q Ed, sp ds Hd Q Ed → rd__law_alike T sp__law_place_at (endsOf Q Ed) (startD N__law_alike ds) Hd) : DFn P w K mg base (k + 3) T.f__law_alike T.d__law_alike ps__law_alike sp :=
  dfun T.F__law_alike sc__law_alike len fun cdv A outer s H E hr => ⟨_, dv__law_alike T F__law_place_at cdv A outer s H E hr, h⟩
def rd__law_least (T : Txt P K mg) : DTS := (dSeq (dSet (dOp dIx (dVar 0) (dC (.int 1))) 1) (dSeq (dFor (wRng2 (dCons (dC (.int 1)) (dCons (dCB dLen (dCons (dVar 1) dNil)) dNil))) (gNm 2) (dIfS (dTest (dOp dEq (dOp dAdd (dSl dCut (dVar 1) (dPart (dVar 2)) dNoPart) (dSl dCut (dVar 1) dNoPart (dPart (dVar 2)))) (dVar 1))) (dRet (dC (.bl false))) dNext)) (dRet (dOrV (dOp dEq (dCB dLen (dCons (dOp dIx (dVar 0) (dC (.int 0))) dNil)) (dC (.int 0))) (dOp dNe (dOp dIx (dOp dIx (dVar 0) (dC (.int 0))) (dUn dNeg (dC (.int 1)))) (dOp dIx (dVar 1) (dUn dNeg (dC (.int 1)))))))))
theorem dv__law_least (T : Txt P K mg) {k : Nat} (cdv : Value) (A : Around) (outer : List Env) (s : Shared) (H : Hp) (E : XK) (hr : Room (k + 2) (A.deeper (envOfC "_law_least" (defScope st__law_least) s.heap.objs.size T.f__law_least cdv))) :
    DPSs (cxOf (L2N.CX P w) P w K mg base N__law_least "_law_least" (defScope st__law_least) T.f__law_least cdv A outer s H E) (WE0 E) (defBody st__law_least) (rd__law_least T) := by
  have hu64 := hu64_of hr
  exact (ds_cons (ds_set (i := 1) sc__law_least.nd rfl (Or.inl rfl) (d_ix dix (d_var 0) d_int)) (ds_cons (ds_for passesE rfl (di_rng2 rfl T.z_range (da_cons d_int (da_cons (d_callB dcl_len rfl T.z_len bt_len (da_cons (d_var 1) da_nil)) da_nil))) (dg_name (i := 2) sc__law_least.nd rfl (Or.inl rfl)) (ds_one (ds_if (dt_cmp (dop_eq hu64) (d_op dop_add (d_slice dsl (d_var 1) (do_some (d_var 2)) do_none) (d_slice dsl (d_var 1) do_none (do_some (d_var 2)))) (d_var 1) rfl) (ds_one (ds_ret d_bl)) ds_nil))) (ds_one (ds_ret (d_or (d_cmp (dop_eq hu64) (d_callB dcl_len rfl T.z_len bt_len (da_cons (d_ix dix (d_var 0) d_int) da_nil)) d_int rfl) (d_one (d_cmp (dop_ne hu64) (d_ix dix (d_ix dix (d_var 0) d_int) (d_un dun_neg d_int)) (d_ix dix (d_var 1) (d_un dun_neg d_int)) rfl)))))))
theorem fn__law_least (T : Txt P K mg) {k : Nat} {sp : DSp} (len : ∀ ds Hd Q E, sp ds Hd Q E → ds.length = 1) (h : ∀ ds Hd Q Ed, sp ds Hd Q Ed → rd__law_least T (endsOf Q Ed) (startD N__law_least ds) Hd) : DFn P w K mg base (k + 3) T.f__law_least T.d__law_least ps__law_least sp :=
  dfun T.F__law_least sc__law_least len fun cdv A outer s H E hr => ⟨_, dv__law_least T cdv A outer s H E hr, h⟩
def rd__law_are_places (T : Txt P K mg) : DTS := (dSeq (dIfS (dNot (dTest (dCB (dIsi K) (dCons (dVar 0) (dCons (dC (.ty "tuple")) dNil))))) (dRet (dC (.bl false))) dNext) (dSeq (dFor (wSeq (dVar 0)) (gNm 1) (dIfS (dOr (dNot (dTest (dCB (dIsi K) (dCons (dVar 1) (dCons (dC (.ty "int")) dNil))))) (dTest (dCB (dIsi K) (dCons (dVar 1) (dCons (dC (.ty "bool")) dNil))))) (dRet (dC (.bl false))) dNext)) (dRet (dC (.bl true)))))
theorem dv__law_are_places (T : Txt P K mg) {k : Nat} (cdv : Value) (A : Around) (outer : List Env) (s : Shared) (H : Hp) (E : XK) (hr : Room (k + 2) (A.deeper (envOfC "_law_are_places" (defScope st__law_are_places) s.heap.objs.size T.f__law_are_places cdv))) :
    DPSs (cxOf (L2N.CX P w) P w K mg base N__law_are_places "_law_are_places" (defScope st__law_are_places) T.f__law_are_places cdv A outer s H E) (WE0 E) (defBody st__law_are_places) (rd__law_are_places T) := by
  exact (ds_cons (ds_if (dt_not (dt_val (d_callB dcl_isi rfl T.z_isinstance bt_isinstance (da_cons (d_var 0) (da_cons (d_ty rfl T.z_tuple bt_tuple) da_nil))))) (ds_one (ds_ret d_bl)) ds_nil) (ds_cons (ds_for passesE rfl (di_seq (d_var 0)) (dg_name (i := 1) sc__law_are_places.nd rfl (Or.inl rfl)) (ds_one (ds_if (dw_pt (dw_or (dt_not (dt_val (d_callB dcl_isi rfl T.z_isinstance bt_isinstance (da_cons (d_var 1) (da_cons (d_ty rfl T.z_int bt_int) da_nil))))) (dw_or1 (dt_val (d_callB dcl_isi rfl T.z_isinstance bt_isinstance (da_cons (d_var 1) (da_cons (d_ty rfl T.z_bool bt_bool) da_nil))))))) (ds_one (ds_ret d_bl)) ds_nil))) (ds_one (ds_ret d_bl))))
theorem fn__law_are_places (T : Txt P K mg) {k : Nat} {sp : DSp} (len : ∀ ds Hd Q E, sp ds Hd Q E → ds.length = 1) (h : ∀ ds Hd Q Ed, sp ds Hd Q Ed → rd__law_are_places T (endsOf Q Ed) (startD N__law_are_places ds) Hd) : DFn P w K mg base (k + 3) T.f__law_are_places T.d__law_are_places ps__law_are_places sp :=
  dfun T.F__law_are_places sc__law_are_places len fun cdv A outer s H E hr => ⟨_, dv__law_are_places T cdv A outer s H E hr, h⟩
def rd__law_short (T : Txt P K mg) (sp_shortened : DSp) (sp__law_are_places : DSp) (sp__law_alike : DSp) (sp__law_least : DSp) (sp__law_same : DSp) (sp_Play_len : DSp) : DTS := (dSeq (dSet (dCall sp_shortened [] (dCons (dVar 1) dNil)) 2) (dSeq (dIfS (dOr (dNot (dTest (dCB (dIsi K) (dCons (dVar 2) (dCons (dC (.ref T.C_Play)) dNil))))) (dOr (dNot (dTest (dCall sp__law_are_places [] (dCons (dFld K (dVar 2) "stem") dNil)))) (dNot (dTest (dCall sp__law_are_places [] (dCons (dFld K (dVar 2) "loop") dNil)))))) (dRet (dC .non)) dNext) (dSeq (dSet (dTup (dCons (dFld K (dVar 2) "stem") (dCons (dFld K (dVar 2) "loop") dNil))) 3) (dSeq (dIfS (dOr (dTest (dOp (dI0 fun i j => .bl (decide (i < j))) (dCB dLen (dCons (dOp dIx (dVar 3) (dC (.int 1))) dNil)) (dC (.int 1)))) (dOr (dTest (dOp (dI0 fun i j => .bl (decide (j < i))) (dCB dLen (dCons (dOp dIx (dVar 3) (dC (.int 1))) dNil)) (dCB dLen (dCons (dOp dIx (dVar 0) (dC (.int 1))) dNil)))) (dTest (dOp (dI0 fun i j => .bl (decide (j < i))) (dCB dLen (dCons (dOp dIx (dVar 3) (dC (.int 0))) dNil)) (dCB dLen (dCons (dOp dIx (dVar 0) (dC (.int 0))) dNil)))))) (dRet (dC .non)) dNext) (dSeq (dIfS (dOr (dNot (dTest (dCall sp__law_alike [] (dCons (dVar 3) (dCons (dVar 0) dNil))))) (dNot (dTest (dCall sp__law_least [] (dCons (dVar 3) dNil))))) (dRet (dC .non)) dNext) (dSeq (dIfS (dOr (dNot (dTest (dCall sp__law_same [] (dCons (dFld K (dVar 1) "stem") (dCons (dOp dIx (dVar 0) (dC (.int 0))) dNil))))) (dNot (dTest (dCall sp__law_same [] (dCons (dFld K (dVar 1) "loop") (dCons (dOp dIx (dVar 0) (dC (.int 1))) dNil)))))) (dRet (dC .non)) dNext) (dSeq (dIfS (dNot (dTest (dCall sp__law_same [] (dCons (dCB (dLenO T.C_Play sp_Play_len) (dCons (dVar 2) dNil)) (dCons (dOp dAdd (dCB dLen (dCons (dOp dIx (dVar 3) (dC (.int 0))) dNil)) (dCB dLen (dCons (dOp dIx (dVar 3) (dC (.int 1))) dNil))) dNil))))) (dRet (dC .non)) dNext) (dRet (dVar 3)))))))))
theorem dv__law_short (T : Txt P K mg) {k : Nat} {sp_shortened : DSp} {sp__law_are_places : DSp} {sp__law_alike : DSp} {sp__law_least : DSp} {sp__law_same : DSp} {sp_Play_len : DSp} (F_shortened : DFn P w K mg base k T.f_shortened T.d_shortened ps_shortened sp_shortened) (F__law_are_places : DFn P w K mg base k T.f__law_are_places T.d__law_are_places ps__law_are_places sp__law_are_places) (F__law_alike : DFn P w K mg base k T.f__law_alike T.d__law_alike ps__law_alike sp__law_alike) (F__law_least : DFn P w K mg base k T.f__law_least T.d__law_least ps__law_least sp__law_least) (F__law_same : DFn P w K mg base k T.f__law_same T.d__law_same ps__law_same sp__law_same) (F_Play_len : DFn P w K mg base k T.f_Play_len T.d_Play_len ps_Play_len sp_Play_len) (cdv : Value) (A : Around) (outer : List Env) (s : Shared) (H : Hp) (E : XK) (hr : Room (k + 2) (A.deeper (envOfC "_law_short" (defScope st__law_short) s.heap.objs.size T.f__law_short cdv))) :
    DPSs (cxOf (L2N.CX P w) P w K mg base N__law_short "_law_short" (defScope st__law_short) T.f__law_short cdv A outer s H E) (WE0 E) (defBody st__law_short) (rd__law_short T sp_shortened sp__law_are_places sp__law_alike sp__law_least sp__law_same sp_Play_len) := by
  have hr0 := hr.mono (Nat.le_add_right k 2)
  have hr1 := hr.mono (Nat.le_succ (k + 1))
  exact (ds_cons (ds_set (i := 2) sc__law_short.nd rfl (Or.inl rfl) (d_call F_shortened hr0 takesE T.g_shortened T.k_shortened T.b_shortened .nil (fun _ => rfl) (da_cons (d_var 1) da_nil))) (ds_cons (ds_if (dw_pt (dw_or (dt_not (dt_val (d_callB dcl_isi rfl T.z_isinstance bt_isinstance (da_cons (d_var 2) (da_cons (d_cls rfl T.g_Play) da_nil))))) (dw_or (dt_not (dt_val (d_call F__law_are_places hr0 takesE T.g__law_are_places T.k__law_are_places T.b__law_are_places .nil (fun _ => rfl) (da_cons (d_fld (d_var 2)) da_nil)))) (dw_or1 (dt_not (dt_val (d_call F__law_are_places hr0 takesE T.g__law_are_places T.k__law_are_places T.b__law_are_places .nil (fun _ => rfl) (da_cons (d_fld (d_var 2)) da_nil)))))))) (ds_one (ds_ret d_non)) ds_nil) (ds_cons (ds_set (i := 3) sc__law_short.nd rfl (Or.inl rfl) (d_tup (da_cons (d_fld (d_var 2)) (da_cons (d_fld (d_var 2)) da_nil)))) (ds_cons (ds_if (dw_pt (dw_or (dt_cmp dop_lt (d_callB dcl_len rfl T.z_len bt_len (da_cons (d_ix dix (d_var 3) d_int) da_nil)) d_int rfl) (dw_or (dt_cmp dop_gt (d_callB dcl_len rfl T.z_len bt_len (da_cons (d_ix dix (d_var 3) d_int) da_nil)) (d_callB dcl_len rfl T.z_len bt_len (da_cons (d_ix dix (d_var 0) d_int) da_nil)) rfl) (dw_or1 (dt_cmp dop_gt (d_callB dcl_len rfl T.z_len bt_len (da_cons (d_ix dix (d_var 3) d_int) da_nil)) (d_callB dcl_len rfl T.z_len bt_len (da_cons (d_ix dix (d_var 0) d_int) da_nil)) rfl))))) (ds_one (ds_ret d_non)) ds_nil) (ds_cons (ds_if (dw_pt (dw_or (dt_not (dt_val (d_call F__law_alike hr0 takesE T.g__law_alike T.k__law_alike T.b__law_alike .nil (fun _ => rfl) (da_cons (d_var 3) (da_cons (d_var 0) da_nil))))) (dw_or1 (dt_not (dt_val (d_call F__law_least hr0 takesE T.g__law_least T.k__law_least T.b__law_least .nil (fun _ => rfl) (da_cons (d_var 3) da_nil))))))) (ds_one (ds_ret d_non)) ds_nil) (ds_cons (ds_if (dw_pt (dw_or (dt_not (dt_val (d_call F__law_same hr0 takesE T.g__law_same T.k__law_same T.b__law_same .nil (fun _ => rfl) (da_cons (d_fld (d_var 1)) (da_cons (d_ix dix (d_var 0) d_int) da_nil))))) (dw_or1 (dt_not (dt_val (d_call F__law_same hr0 takesE T.g__law_same T.k__law_same T.b__law_same .nil (fun _ => rfl) (da_cons (d_fld (d_var 1)) (da_cons (d_ix dix (d_var 0) d_int) da_nil)))))))) (ds_one (ds_ret d_non)) ds_nil) (ds_cons (ds_if (dt_not (dt_val (d_call F__law_same hr0 takesE T.g__law_same T.k__law_same T.b__law_same .nil (fun _ => rfl) (da_cons (d_callB (dcl_lenO T.c_Play T.m_Play_len F_Play_len hr1 T.b_Play_len) rfl T.z_len bt_len (da_cons (d_var 2) da_nil)) (da_cons (d_op dop_add (d_callB dcl_len rfl T.z_len bt_len (da_cons (d_ix dix (d_var 3) d_int) da_nil)) (d_callB dcl_len rfl T.z_len bt_len (da_cons (d_ix dix (d_var 3) d_int) da_nil))) da_nil))))) (ds_one (ds_ret d_non)) ds_nil) (ds_one (ds_ret (d_var 3))))))))))
theorem fn__law_short (T : Txt P K mg) {k : Nat} {sp_shortened : DSp} {sp__law_are_places : DSp} {sp__law_alike : DSp} {sp__law_least : DSp} {sp__law_same : DSp} {sp_Play_len : DSp} (F_shortened : DFn P w K mg base k T.f_shortened T.d_shortened ps_shortened sp_shortened) (F__law_are_places : DFn P w K mg base k T.f__law_are_places T.d__law_are_places ps__law_are_places sp__law_are_places) (F__law_alike : DFn P w K mg base k T.f__law_alike T.d__law_alike ps__law_alike sp__law_alike) (F__law_least : DFn P w K mg base k T.f__law_least T.d__law_least ps__law_least sp__law_least) (F__law_same : DFn P w K mg base k T.f__law_same T.d__law_same ps__law_same sp__law_same) (F_Play_len : DFn P w K mg base k T.f_Play_len T.d_Play_len ps_Play_len sp_Play_len) {sp : DSp} (len : ∀ ds Hd Q E, sp ds Hd Q E → ds.length = 2) (h : ∀ ds Hd Q Ed, sp ds Hd Q Ed → rd__law_short T sp_shortened sp__law_are_places sp__law_alike sp__law_least sp__law_same sp_Play_len (endsOf Q Ed) (startD N__law_short ds) Hd) : DFn P w K mg base (k + 3) T.f__law_short T.d__law_short ps__law_short sp :=
  dfun T.F__law_short sc__law_short len fun cdv A outer s H E hr => ⟨_, dv__law_short T F_shortened F__law_are_places F__law_alike F__law_least F__law_same F_Play_len cdv A outer s H E hr, h⟩
def rd__law_refused (T : Txt P K mg) (sp_shortened : DSp) (sp_Play_init : DSp) (hs__law_same : DSp) : DTS := (dSeq (dTry (fun C => PySem.W.exmOne K (.ref C) (.ref T.C_EverplayError)) 1 (dDrop (dCall sp_shortened [] (dCons (dMake T.C_Play sp_Play_init [] (dCons (dVar 0) (dCons (dTup dNil) dNil))) dNil))) (fun a cls d => (dIfS (dAnd (dTest (dCB (dIsE K T.C_InvalidPlay a d cls) (dCons (dVar 1) (dCons (dC (.ty "ValueError")) dNil)))) (dTest (dCB (dIsE K T.C_InvalidPlay a d cls) (dCons (dVar 1) (dCons (dC (.ref T.C_InvalidPlay)) dNil))))) (dRet (dCall hs__law_same [] (dCons (dXf a T.C_InvalidPlay d cls "position" (dVar 1)) (dCons (dCB dLen (dCons (dVar 0) dNil)) dNil)))) dNext))) (dRet (dC (.bl false))))
theorem dv__law_refused (T : Txt P K mg) {k : Nat} {sp_shortened : DSp} {sp_Play_init : DSp} {hs__law_same : DSp} (F_shortened : DFn P w K mg base k T.f_shortened T.d_shortened ps_shortened sp_shortened) (F_Play_init : DFn P w K mg base k T.f_Play_init T.d_Play_init ps_Play_init sp_Play_init) (G__law_same : DFnH P w K mg base k T.f__law_same T.d__law_same ps__law_same hs__law_same) (cdv : Value) (A : Around) (outer : List Env) (s : Shared) (H : Hp) (E : XK) (hr : Room (k + 2) (A.deeper (envOfC "_law_refused" (defScope st__law_refused) s.heap.objs.size T.f__law_refused cdv))) :
    DPSs (cxOf (L2N.CX P w) P w K mg base N__law_refused "_law_refused" (defScope st__law_refused) T.f__law_refused cdv A outer s H E) (WE0 E) (defBody st__law_refused) (rd__law_refused T sp_shortened sp_Play_init hs__law_same) := by
  have hrH := (L2H.roomH_of hr).mono (Nat.le_add_right _ 2)
  have hr0 := hr.mono (Nat.le_add_right k 2)
  have hr1 := hr.mono (Nat.le_succ (k + 1))
  exact (ds_cons (ds_try (i := 1) rfl rfl sc__law_refused.nd rfl rfl ⟨rfl, by decide, (.inl T.g_EverplayError)⟩ takesE (fun W' pn xe tk' ps => (ds_one (ds_expr (d_call F_shortened hr0 tk' T.g_shortened T.k_shortened T.b_shortened .nil (fun _ => rfl) (da_cons (d_make T.M_Play F_Play_init hr1 tk' T.g_Play T.b_Play_init .nil (fun _ => rfl) (da_cons (d_var 0) (da_cons (d_tup da_nil) da_nil))) da_nil))))) (fun a oe cls d pn hz hf => (ds_one (ds_if (dw_pt (dw_and (dt_val (d_callB (dcl_isE T.s_InvalidPlay hz hf) rfl T.z_isinstance bt_isinstance (da_cons (d_var 1) (da_cons (d_ty rfl T.z_ValueError bt_ValueError) da_nil)))) (dw_and1 (dt_val (d_callB (dcl_isE T.s_InvalidPlay hz hf) rfl T.z_isinstance bt_isinstance (da_cons (d_var 1) (da_cons (d_cls rfl T.g_InvalidPlay) da_nil))))))) (ds_one (ds_ret (d_callH G__law_same (roomH_mark hrH) (hot_suite hz hf) takesF T.g__law_same T.k__law_same T.b__law_same (da_cons (d_xf T.x_InvalidPlay T.n_InvalidPlay_position hz hf (d_var 1)) (da_cons (d_callB dcl_len rfl T.z_len bt_len (da_cons (d_var 0) da_nil)) da_nil))))) ds_nil)))) (ds_one (ds_ret d_bl)))
theorem fn__law_refused (T : Txt P K mg) {k : Nat} {sp_shortened : DSp} {sp_Play_init : DSp} {hs__law_same : DSp} (F_shortened : DFn P w K mg base k T.f_shortened T.d_shortened ps_shortened sp_shortened) (F_Play_init : DFn P w K mg base k T.f_Play_init T.d_Play_init ps_Play_init sp_Play_init) (G__law_same : DFnH P w K mg base k T.f__law_same T.d__law_same ps__law_same hs__law_same) {sp : DSp} (len : ∀ ds Hd Q E, sp ds Hd Q E → ds.length = 1) (h : ∀ ds Hd Q Ed, sp ds Hd Q Ed → rd__law_refused T sp_shortened sp_Play_init hs__law_same (endsOf Q Ed) (startD N__law_refused ds) Hd) : DFn P w K mg base (k + 3) T.f__law_refused T.d__law_refused ps__law_refused sp :=
  dfun T.F__law_refused sc__law_refused len fun cdv A outer s H E hr => ⟨_, dv__law_refused T F_shortened F_Play_init G__law_same cdv A outer s H E hr, h⟩
def rd_law (T : Txt P K mg) (sp__law_bag : DSp) (sp__law_lasso : DSp) (sp__law_gone_on : DSp) (sp__law_changed : DSp) (sp_Play_init : DSp) (sp__law_short : DSp) (sp__law_alike : DSp) (sp__law_refused : DSp) (sp__law_same : DSp) : DTS := (dSeq (dSet (dCall sp__law_bag [] (dCons (dVar 0) dNil)) 1) (dSeq (dSet (dCall sp__law_lasso [] (dCons (dVar 1) dNil)) 2) (dSeq (dSet (dCall sp__law_gone_on [] (dCons (dVar 1) (dCons (dVar 2) dNil))) 3) (dSeq (dSet (dCall sp__law_changed [] (dCons (dVar 1) (dCons (dVar 2) dNil))) 4) (dSeq (dSet (dMake T.C_Play sp_Play_init [] (dCons (dOp dIx (dVar 2) (dC (.int 0))) (dCons (dOp dIx (dVar 2) (dC (.int 1))) dNil))) 5) (dSeq (dSet (dMake T.C_Play sp_Play_init [] (dCons (dCB dListOf (dCons (dOp dIx (dVar 3) (dC (.int 0))) dNil)) (dCons (dCB dListOf (dCons (dOp dIx (dVar 3) (dC (.int 1))) dNil)) dNil))) 6) (dSeq (dSet (dCall sp__law_short [] (dCons (dVar 2) (dCons (dVar 5) dNil))) 7) (dSeq (dIfS (dTest (dOp dIsN (dVar 7) (dC .non))) (dRet (dC (.bl false))) dNext) (dSeq (dSet (dCall sp__law_short [] (dCons (dVar 4) (dCons (dMake T.C_Play sp_Play_init [] (dCons (dOp dIx (dVar 4) (dC (.int 0))) (dCons (dOp dIx (dVar 4) (dC (.int 1))) dNil))) dNil))) 8) (dSeq (dIfS (dOr (dTest (dOp dIsN (dVar 8) (dC .non))) (dTest (dOp dNe (dOp dEq (dVar 8) (dVar 7)) (dCall sp__law_alike [] (dCons (dVar 2) (dCons (dVar 4) dNil)))))) (dRet (dC (.bl false))) dNext) (dSeq (dIfS (dOr (dNot (dTest (dCall sp__law_refused [] (dCons (dOp dIx (dVar 2) (dC (.int 0))) dNil)))) (dNot (dTest (dCall sp__law_refused [] (dCons (dTup dNil) dNil))))) (dRet (dC (.bl false))) dNext) (dSeq (dSet (dCall sp__law_short [] (dCons (dVar 3) (dCons (dVar 6) dNil))) 9) (dSeq (dIfS (dOr (dTest (dOp dIsN (dVar 9) (dC .non))) (dNot (dTest (dCall sp__law_same [] (dCons (dVar 9) (dCons (dVar 7) dNil)))))) (dRet (dC (.bl false))) dNext) (dSeq (dSet (dCall sp__law_short [] (dCons (dVar 7) (dCons (dMake T.C_Play sp_Play_init [] (dCons (dOp dIx (dVar 7) (dC (.int 0))) (dCons (dOp dIx (dVar 7) (dC (.int 1))) dNil))) dNil))) 10) (dSeq (dIfS (dOr (dTest (dOp dIsN (dVar 10) (dC .non))) (dNot (dTest (dCall sp__law_same [] (dCons (dVar 10) (dCons (dVar 7) dNil)))))) (dRet (dC (.bl false))) dNext) (dSeq (dSet (dCall sp__law_short [] (dCons (dVar 2) (dCons (dVar 5) dNil))) 11) (dRet (dAndV (dOp dNotN (dVar 11) (dC .non)) (dCall sp__law_same [] (dCons (dVar 11) (dCons (dVar 7) dNil)))))))))))))))))))))
theorem dv_law (T : Txt P K mg) {k : Nat} {sp__law_bag : DSp} {sp__law_lasso : DSp} {sp__law_gone_on : DSp} {sp__law_changed : DSp} {sp_Play_init : DSp} {sp__law_short : DSp} {sp__law_alike : DSp} {sp__law_refused : DSp} {sp__law_same : DSp} (F__law_bag : DFn P w K mg base k T.f__law_bag T.d__law_bag ps__law_bag sp__law_bag) (F__law_lasso : DFn P w K mg base k T.f__law_lasso T.d__law_lasso ps__law_lasso sp__law_lasso) (F__law_gone_on : DFn P w K mg base k T.f__law_gone_on T.d__law_gone_on ps__law_gone_on sp__law_gone_on) (F__law_changed : DFn P w K mg base k T.f__law_changed T.d__law_changed ps__law_changed sp__law_changed) (F_Play_init : DFn P w K mg base k T.f_Play_init T.d_Play_init ps_Play_init sp_Play_init) (F__law_short : DFn P w K mg base k T.f__law_short T.d__law_short ps__law_short sp__law_short) (F__law_alike : DFn P w K mg base k T.f__law_alike T.d__law_alike ps__law_alike sp__law_alike) (F__law_refused : DFn P w K mg base k T.f__law_refused T.d__law_refused ps__law_refused sp__law_refused) (F__law_same : DFn P w K mg base k T.f__law_same T.d__law_same ps__law_same sp__law_same) (cdv : Value) (A : Around) (outer : List Env) (s : Shared) (H : Hp) (E : XK) (hr : Room (k + 2) (A.deeper (envOfC "law" (defScope st_law) s.heap.objs.size T.f_law cdv))) :
    DPSs (cxOf (L2N.CX P w) P w K mg base N_law "law" (defScope st_law) T.f_law cdv A outer s H E) (WE0 E) (defBody st_law) (rd_law T sp__law_bag sp__law_lasso sp__law_gone_on sp__law_changed sp_Play_init sp__law_short sp__law_alike sp__law_refused sp__law_same) := by
  have hu64 := hu64_of hr
  have hr0 := hr.mono (Nat.le_add_right k 2)
  have hr1 := hr.mono (Nat.le_succ (k + 1))
  exact (ds_cons (ds_set (i := 1) sc_law.nd rfl (Or.inl rfl) (d_call F__law_bag hr0 takesE T.g__law_bag T.k__law_bag T.b__law_bag .nil (fun _ => rfl) (da_cons (d_var 0) da_nil))) (ds_cons (ds_set (i := 2) sc_law.nd rfl (Or.inl rfl) (d_call F__law_lasso hr0 takesE T.g__law_lasso T.k__law_lasso T.b__law_lasso .nil (fun _ => rfl) (da_cons (d_var 1) da_nil))) (ds_cons (ds_set (i := 3) sc_law.nd rfl (Or.inl rfl) (d_call F__law_gone_on hr0 takesE T.g__law_gone_on T.k__law_gone_on T.b__law_gone_on .nil (fun _ => rfl) (da_cons (d_var 1) (da_cons (d_var 2) da_nil)))) (ds_cons (ds_set (i := 4) sc_law.nd rfl (Or.inl rfl) (d_call F__law_changed hr0 takesE T.g__law_changed T.k__law_changed T.b__law_changed .nil (fun _ => rfl) (da_cons (d_var 1) (da_cons (d_var 2) da_nil)))) (ds_cons (ds_set (i := 5) sc_law.nd rfl (Or.inl rfl) (d_make T.M_Play F_Play_init hr1 takesE T.g_Play T.b_Play_init .nil (fun _ => rfl) (da_cons (d_ix dix (d_var 2) d_int) (da_cons (d_ix dix (d_var 2) d_int) da_nil)))) (ds_cons (ds_set (i := 6) sc_law.nd rfl (Or.inl rfl) (d_make T.M_Play F_Play_init hr1 takesE T.g_Play T.b_Play_init .nil (fun _ => rfl) (da_cons (d_callTy dcl_list rfl T.z_list bt_list (da_cons (d_ix dix (d_var 3) d_int) da_nil)) (da_cons (d_callTy dcl_list rfl T.z_list bt_list (da_cons (d_ix dix (d_var 3) d_int) da_nil)) da_nil)))) (ds_cons (ds_set (i := 7) sc_law.nd rfl (Or.inl rfl) (d_call F__law_short hr0 takesE T.g__law_short T.k__law_short T.b__law_short .nil (fun _ => rfl) (da_cons (d_var 2) (da_cons (d_var 5) da_nil)))) (ds_cons (ds_if (dt_cmp dop_isN (d_var 7) d_non rfl) (ds_one (ds_ret d_bl)) ds_nil) (ds_cons (ds_set (i := 8) sc_law.nd rfl (Or.inl rfl) (d_call F__law_short hr0 takesE T.g__law_short T.k__law_short T.b__law_short .nil (fun _ => rfl) (da_cons (d_var 4) (da_cons (d_make T.M_Play F_Play_init hr1 takesE T.g_Play T.b_Play_init .nil (fun _ => rfl) (da_cons (d_ix dix (d_var 4) d_int) (da_cons (d_ix dix (d_var 4) d_int) da_nil))) da_nil)))) (ds_cons (ds_if (dw_pt (dw_or (dt_cmp dop_isN (d_var 8) d_non rfl) (dw_or1 (dt_cmp (dop_ne hu64) (d_cmp (dop_eq hu64) (d_var 8) (d_var 7) rfl) (d_call F__law_alike hr0 takesE T.g__law_alike T.k__law_alike T.b__law_alike .nil (fun _ => rfl) (da_cons (d_var 2) (da_cons (d_var 4) da_nil))) rfl)))) (ds_one (ds_ret d_bl)) ds_nil) (ds_cons (ds_if (dw_pt (dw_or (dt_not (dt_val (d_call F__law_refused hr0 takesE T.g__law_refused T.k__law_refused T.b__law_refused .nil (fun _ => rfl) (da_cons (d_ix dix (d_var 2) d_int) da_nil)))) (dw_or1 (dt_not (dt_val (d_call F__law_refused hr0 takesE T.g__law_refused T.k__law_refused T.b__law_refused .nil (fun _ => rfl) (da_cons (d_tup da_nil) da_nil))))))) (ds_one (ds_ret d_bl)) ds_nil) (ds_cons (ds_set (i := 9) sc_law.nd rfl (Or.inl rfl) (d_call F__law_short hr0 takesE T.g__law_short T.k__law_short T.b__law_short .nil (fun _ => rfl) (da_cons (d_var 3) (da_cons (d_var 6) da_nil)))) (ds_cons (ds_if (dw_pt (dw_or (dt_cmp dop_isN (d_var 9) d_non rfl) (dw_or1 (dt_not (dt_val (d_call F__law_same hr0 takesE T.g__law_same T.k__law_same T.b__law_same .nil (fun _ => rfl) (da_cons (d_var 9) (da_cons (d_var 7) da_nil)))))))) (ds_one (ds_ret d_bl)) ds_nil) (ds_cons (ds_set (i := 10) sc_law.nd rfl (Or.inl rfl) (d_call F__law_short hr0 takesE T.g__law_short T.k__law_short T.b__law_short .nil (fun _ => rfl) (da_cons (d_var 7) (da_cons (d_make T.M_Play F_Play_init hr1 takesE T.g_Play T.b_Play_init .nil (fun _ => rfl) (da_cons (d_ix dix (d_var 7) d_int) (da_cons (d_ix dix (d_var 7) d_int) da_nil))) da_nil)))) (ds_cons (ds_if (dw_pt (dw_or (dt_cmp dop_isN (d_var 10) d_non rfl) (dw_or1 (dt_not (dt_val (d_call F__law_same hr0 takesE T.g__law_same T.k__law_same T.b__law_same .nil (fun _ => rfl) (da_cons (d_var 10) (da_cons (d_var 7) da_nil)))))))) (ds_one (ds_ret d_bl)) ds_nil) (ds_cons (ds_set (i := 11) sc_law.nd rfl (Or.inl rfl) (d_call F__law_short hr0 takesE T.g__law_short T.k__law_short T.b__law_short .nil (fun _ => rfl) (da_cons (d_var 2) (da_cons (d_var 5) da_nil)))) (ds_one (ds_ret (d_and (d_cmp dop_notN (d_var 11) d_non rfl) (d_one (d_call F__law_same hr0 takesE T.g__law_same T.k__law_same T.b__law_same .nil (fun _ => rfl) (da_cons (d_var 11) (da_cons (d_var 7) da_nil)))))))))))))))))))))))
theorem fn_law (T : Txt P K mg) {k : Nat} {sp__law_bag : DSp} {sp__law_lasso : DSp} {sp__law_gone_on : DSp} {sp__law_changed : DSp} {sp_Play_init : DSp} {sp__law_short : DSp} {sp__law_alike : DSp} {sp__law_refused : DSp} {sp__law_same : DSp} (F__law_bag : DFn P w K mg base k T.f__law_bag T.d__law_bag ps__law_bag sp__law_bag) (F__law_lasso : DFn P w K mg base k T.f__law_lasso T.d__law_lasso ps__law_lasso sp__law_lasso) (F__law_gone_on : DFn P w K mg base k T.f__law_gone_on T.d__law_gone_on ps__law_gone_on sp__law_gone_on) (F__law_changed : DFn P w K mg base k T.f__law_changed T.d__law_changed ps__law_changed sp__law_changed) (F_Play_init : DFn P w K mg base k T.f_Play_init T.d_Play_init ps_Play_init sp_Play_init) (F__law_short : DFn P w K mg base k T.f__law_short T.d__law_short ps__law_short sp__law_short) (F__law_alike : DFn P w K mg base k T.f__law_alike T.d__law_alike ps__law_alike sp__law_alike) (F__law_refused : DFn P w K mg base k T.f__law_refused T.d__law_refused ps__law_refused sp__law_refused) (F__law_same : DFn P w K mg base k T.f__law_same T.d__law_same ps__law_same sp__law_same) {sp : DSp} (len : ∀ ds Hd Q E, sp ds Hd Q E → ds.length = 1) (h : ∀ ds Hd Q Ed, sp ds Hd Q Ed → rd_law T sp__law_bag sp__law_lasso sp__law_gone_on sp__law_changed sp_Play_init sp__law_short sp__law_alike sp__law_refused sp__law_same (endsOf Q Ed) (startD N_law ds) Hd) : DFn P w K mg base (k + 3) T.f_law T.d_law ps_law sp :=
  dfun T.F_law sc_law len fun cdv A outer s H E hr => ⟨_, dv_law T F__law_bag F__law_lasso F__law_gone_on F__law_changed F_Play_init F__law_short F__law_alike F__law_refused F__law_same cdv A outer s H E hr, h⟩
def rd_Play_init (T : Txt P K mg) (sp_frozen : DSp) : DTS := (dSeq (dSetFld K (dVar 0) (dCall sp_frozen [] (dCons (dVar 1) dNil)) "stem") (dSetFld K (dVar 0) (dCall sp_frozen [] (dCons (dVar 2) dNil)) "loop"))
theorem dv_Play_init (T : Txt P K mg) {k : Nat} {sp_frozen : DSp} (F_frozen : DFn P w K mg base k T.f_frozen T.d_frozen ps_frozen sp_frozen) (cdv : Value) (A : Around) (outer : List Env) (s : Shared) (H : Hp) (E : XK) (hr : Room (k + 2) (A.deeper (envOfC "Play.__init__" (defScope st_Play_init) s.heap.objs.size T.f_Play_init cdv))) :
    DPSs (cxOf (L2N.CX P w) P w K mg base N_Play_init "Play.__init__" (defScope st_Play_init) T.f_Play_init cdv A outer s H E) (WE0 E) (defBody st_Play_init) (rd_Play_init T sp_frozen) := by
  have hr0 := hr.mono (Nat.le_add_right k 2)
  exact (ds_cons (ds_fld (d_var 0) (d_call F_frozen hr0 takesE T.g_frozen T.k_frozen T.b_frozen .nil (fun _ => rfl) (da_cons (d_var 1) da_nil))) (ds_one (ds_fld (d_var 0) (d_call F_frozen hr0 takesE T.g_frozen T.k_frozen T.b_frozen .nil (fun _ => rfl) (da_cons (d_var 2) da_nil)))))
theorem fn_Play_init (T : Txt P K mg) {k : Nat} {sp_frozen : DSp} (F_frozen : DFn P w K mg base k T.f_frozen T.d_frozen ps_frozen sp_frozen) {sp : DSp} (len : ∀ ds Hd Q E, sp ds Hd Q E → ds.length = 3) (h : ∀ ds Hd Q Ed, sp ds Hd Q Ed → rd_Play_init T sp_frozen (endsOf Q Ed) (startD N_Play_init ds) Hd) : DFn P w K mg base (k + 3) T.f_Play_init T.d_Play_init ps_Play_init sp :=
  dfun T.F_Play_init sc_Play_init len fun cdv A outer s H E hr => ⟨_, dv_Play_init T F_frozen cdv A outer s H E hr, h⟩
def rd_Play_len (T : Txt P K mg) : DTS := (dRet (dCB dLen (dCons (dOp dAdd (dFld K (dVar 0) "stem") (dFld K (dVar 0) "loop")) dNil)))
theorem dv_Play_len (T : Txt P K mg) {k : Nat} (cdv : Value) (A : Around) (outer : List Env) (s : Shared) (H : Hp) (E : XK) (hr : Room (k + 2) (A.deeper (envOfC "Play.__len__" (defScope st_Play_len) s.heap.objs.size T.f_Play_len cdv))) :
    DPSs (cxOf (L2N.CX P w) P w K mg base N_Play_len "Play.__len__" (defScope st_Play_len) T.f_Play_len cdv A outer s H E) (WE0 E) (defBody st_Play_len) (rd_Play_len T) := by
  exact (ds_one (ds_ret (d_callB dcl_len rfl T.z_len bt_len (da_cons (d_op dop_add (d_fld (d_var 0)) (d_fld (d_var 0))) da_nil))))
theorem fn_Play_len (T : Txt P K mg) {k : Nat} {sp : DSp} (len : ∀ ds Hd Q E, sp ds Hd Q E → ds.length = 1) (h : ∀ ds Hd Q Ed, sp ds Hd Q Ed → rd_Play_len T (endsOf Q Ed) (startD N_Play_len ds) Hd) : DFn P w K mg base (k + 3) T.f_Play_len T.d_Play_len ps_Play_len sp :=
  dfun T.F_Play_len sc_Play_len len fun cdv A outer s H E hr => ⟨_, dv_Play_len T cdv A outer s H E hr, h⟩
end
end K05

local macro_rules | `(tactic| walk_at "ne") => `(tactic| first | assumption | (apply Ne.symm; assumption) | (refine DL.dne_of_none ?_ ?_ <;> assumption) | (apply Ne.symm; refine DL.dne_of_none ?_ ?_ <;> assumption))
local macro_rules | `(tactic| walk_at "dh") => `(tactic| first
  | assumption
  | exact DL.put_same
  | (refine DL.put_old ?_ ?_; (walk_at "dh"); assumption)
  | (refine (DL.put_ne ?_).trans ?_; (walk_at "ne"); (walk_at "dh")))
local macro_rules | `(tactic| walk_at "sz") => `(tactic| first | assumption | exact Nat.le_of_lt (L2.small1000 (by first | decide | omega)) | exact L2.small1000 (by first | decide | omega) | (rw [PySem.sizeLine_eq]; simp only [List.length_cons, List.length_nil, List.length_append, List.length_map] <;> omega))
local macro_rules | `(tactic| walk_at "dx") => `(tactic| first
  | with_reducible refine DL.x_set ?_ | with_reducible refine DL.x_drop ?_ | with_reducible refine DL.x_asg ?_ | with_reducible refine DL.x_if ?_ | with_reducible refine DL.x_ret ?_ | with_reducible refine DL.x_ret1 ?_
  | with_reducible refine DL.x_next ?_ | with_reducible refine DL.x_seq ?_ | with_reducible refine DL.x_set1 ?_ | with_reducible refine DL.x_drop1 ?_ | with_reducible refine DL.x_asg1 ?_ | with_reducible refine DL.x_if1 ?_ | with_reducible refine DL.x_next1 ?_
  | with_reducible refine DL.x_retN ?_ | with_reducible refine DL.x_retN1 ?_ | with_reducible refine DL.x_brk ?_ | with_reducible refine DL.x_brk1 ?_ | with_reducible refine DL.x_cnt ?_ | with_reducible refine DL.x_cnt1 ?_
  | with_reducible refine DL.x_sfld ?_ | with_reducible refine DL.x_sfld1 ?_ | with_reducible refine DL.x_raise ?_ | with_reducible refine DL.x_raise1 ?_ | with_reducible refine DL.x_mk ?_ | with_reducible refine DL.x_dput ?_ | with_reducible refine DL.x_dput1 ?_
  | ((with_reducible refine' DL.x_var ?h ?_); (case h => exact rfl))
  | with_reducible refine DL.x_c ?_ | with_reducible refine DL.x_op ?_ | with_reducible refine DL.x_un ?_ | with_reducible refine DL.x_nil ?_ | with_reducible refine DL.x_cons ?_
  | with_reducible refine DL.x_tup ?_ | ((with_reducible refine DL.x_sz ?h ?_); (case h => walk_at "sz")) | with_reducible refine DL.x_lst ?_ | with_reducible refine DL.x_cb ?_ | with_reducible refine DL.x_test ?_ | with_reducible refine DL.x_and ?_ | with_reducible refine DL.x_or ?_ | with_reducible refine DL.x_not ?_
  | with_reducible refine DL.x_andV ?_ | with_reducible refine DL.x_orV ?_ | with_reducible refine DL.x_notV ?_ | with_reducible refine DL.x_ifx ?_ | with_reducible refine DL.x_noPart ?_ | with_reducible refine DL.x_part ?_ | with_reducible refine DL.x_sl ?_
  | with_reducible refine DL.x_call ?_ | with_reducible refine DL.x_make ?_ | with_reducible refine DL.x_meth ?_ | with_reducible refine DL.x_fld ?_ | with_reducible refine DL.x_bm ?_ | with_reducible refine DL.x_dget ?_ | with_reducible refine DL.x_dnew ?_
  | with_reducible refine DL.x_for ?_ | with_reducible refine DL.x_for1 ?_ | with_reducible refine DL.x_while ?_ | with_reducible refine DL.x_while1 ?_ | with_reducible refine DL.x_seqT ?_ | with_reducible refine DL.x_rng1 ?_ | with_reducible refine DL.x_rng2 ?_
  | with_reducible refine DL.x_gIx ?_ | with_reducible refine DL.x_gNm ?_
  | with_reducible refine DL.x_i0 ?_ | with_reducible refine DL.x_neg ?_ | with_reducible refine DL.x_addI ?_ | with_reducible refine DL.x_isN ?_ | with_reducible refine DL.x_notN ?_
  | with_reducible refine DL.x_cutT ?_ | with_reducible refine DL.x_cutF ?_ | with_reducible refine DL.x_lenT ?_ | with_reducible refine DL.x_lenF ?_ | with_reducible refine DL.x_intI ?_ | with_reducible refine DL.x_max2 ?_ | with_reducible refine DL.x_min2 ?_ | with_reducible refine DL.x_tupT ?_ | with_reducible refine DL.x_tupF ?_ | with_reducible refine DL.x_lstT ?_ | with_reducible refine DL.x_lstF ?_
  | ((with_reducible refine' DL.x_lenL ?h ?_); (case h => walk_at "dh")) | ((with_reducible refine' DL.x_tupL ?h ?_); (case h => walk_at "dh")) | ((with_reducible refine' DL.x_lstL ?h ?_); (case h => walk_at "dh")) | ((with_reducible refine' DL.x_cutL ?h ?_); (case h => walk_at "dh"))
  | ((with_reducible refine' DL.x_ixT ?h ?_); (case h => first | assumption | exact rfl)) | ((with_reducible refine' DL.x_ixF ?h ?_); (case h => first | assumption | exact rfl)) | ((with_reducible refine' DL.x_ixL ?g ?h ?_); (case g => walk_at "dh"); (case h => first | assumption | exact rfl))
  | ((with_reducible refine' DL.x_setIx ?g ?h ?_); (case g => walk_at "dh"); (case h => first | assumption | exact rfl))
  | ((with_reducible refine' DL.x_app ?g ?h ?_); (case g => walk_at "dh"); (case h => walk_at "sz"))
  | ((with_reducible refine DL.x_tym ?h ?_); (case h => first | exact DL.tyM_lst (by walk_at "dh") | exact DL.tyM_dct (by walk_at "dh")))
  | ((with_reducible refine' DL.x_fldAt ?h ?c ?n ?l ?_); (case h => walk_at "dh"); (case c => assumption); (case n => assumption); (case l => first | exact rfl | (simp [List.lookup])))
  | ((with_reducible refine' DL.x_sfldAt ?h ?c ?n ?l ?_); (case h => walk_at "dh"); (case c => assumption); (case n => assumption); (case l => first | (simp; done) | exact Nat.le_of_ble_eq_true rfl))
  | ((with_reducible refine' DL.x_methAt ?h ?l ?_); (case h => walk_at "dh"); (case l => first | exact rfl | (simp [List.lookup])))
  | ((with_reducible refine' DL.x_dgetAt ?h ?k ?l ?_); (case h => walk_at "dh"); (case k => exact rfl); (case l => assumption))
  | ((with_reducible refine' DL.x_lenO ?h ?l ?_); (case h => walk_at "dh"); (case l => first | exact rfl | (simp [List.lookup])))
  | ((with_reducible refine DL.x_eqn ?h ?_); (case h => exact rfl))
  | with_reducible refine DL.x_try ?_ | with_reducible refine DL.x_try1 ?_ | with_reducible refine DL.x_xf ?_
  | with_reducible refine DL.x_lc ?_ | with_reducible refine DL.x_yes ?_ | ((with_reducible refine' DL.x_acc ?h ?l ?_); (case h => walk_at "dh"); (case l => walk_at "sz"))
  | with_reducible refine DL.x_seqTup ?_ | with_reducible refine DL.x_seqFl ?_ | ((with_reducible refine' DL.x_seqLst ?h ?_); (case h => walk_at "dh"))
  | with_reducible refine DL.x_bl ?_ | with_reducible refine DL.x_ii ?_
  | ((with_reducible refine' DL.x_iteT ?h ?_); (case h => exact rfl)) | ((with_reducible refine' DL.x_iteF ?h ?_); (case h => exact rfl)))
local macro_rules | `(tactic| walk_at "dxs") => `(tactic| repeat (walk_at "dx"))

namespace K05
open PySem PySem.Spec PyProof.Rows L2 DL
section
variable {P : Program} {w : World} {K : PySem.W.Frag} {mg : Str → Option Value} {base : Heap}
/-! ### rows -/
def RowIs (H : DH) (x : DL.D) (b : Bool) : Prop := (∃ t, kindD x = some t ∧ b = (isB t "list" || isB t "tuple")) ∨ (∃ a xs, x = .ref a ∧ H a = some (.lst xs) ∧ b = true)
def sp_is_row : DSp := fun ds H Q _ => ∃ x b, ds = [x] ∧ RowIs H x b ∧ Q (.bl b) H
theorem ok_is_row (T : Txt P K mg) : DFn P w K mg base 3 T.f_is_row T.d_is_row ps_is_row sp_is_row := by
  refine fn_is_row (k := 0) T (fun ds H Q E h => ?_) (fun ds H Q E h => ?_)
  · obtain ⟨x, b, rfl, _⟩ := h; rfl
  · obtain ⟨x, b, rfl, hx, q⟩ := h
    unfold rd_is_row
    walk_at "dxs"
    rcases hx with ⟨t, ht, rfl⟩ | ⟨a, xs, rfl, ha, rfl⟩
    · refine x_isiT (cs := ["list", "tuple"]) ht (by decide) (x_endR (Sub.refl _) ?_)
      simpa using q
    · refine x_isiTL (cs := ["list", "tuple"]) ha (by decide) (x_endR (Sub.refl _) ?_)
      exact q

/-! ### frozen -/
mutual
/-- what frozen makes of a value: rows all the way down to tuples -/
inductive Frz (H : DH) : DL.D → DL.D → Prop
  | leaf {x} : RowIs H x false → Frz H x x
  | tup {xs ys} : Frzs H xs ys → Frz H (.tup xs) (.tup ys)
  | fl {xs ys} : Frzs H xs ys → Frz H (.fl xs) (.tup ys)
  | lst {a xs ys} : H a = some (.lst xs) → Frzs H xs ys → Frz H (.ref a) (.tup ys)
inductive Frzs (H : DH) : List DL.D → List DL.D → Prop
  | nil : Frzs H [] []
  | cons {x y xs ys} : Frz H x y → Frzs H xs ys → Frzs H (x :: xs) (y :: ys)
end
theorem Frzs.len {H : DH} : ∀ {xs ys : List DL.D}, Frzs H xs ys → xs.length = ys.length
  | _, _, .nil => rfl
  | _, _, .cons _ h => by rw [List.length_cons, List.length_cons, Frzs.len h]
theorem Frzs.get {H : DH} : ∀ {xs ys : List DL.D} {i : Nat} {x : DL.D}, Frzs H xs ys → xs[i]? = some x → ∃ y, ys[i]? = some y ∧ Frz H x y
  | _, _, _, _, .nil, e => by simp at e
  | _, _, 0, _, .cons h _, e => by
    simp at e
    subst e
    exact ⟨_, rfl, h⟩
  | _, _, i + 1, _, .cons _ h, e => by
    obtain ⟨y, e1, h1⟩ := Frzs.get (i := i) h (by simpa using e)
    exact ⟨y, by simpa using e1, h1⟩
/-- the items of a row -/
inductive Items (H : DH) : DL.D → List DL.D → Prop
  | tup {xs} : Items H (.tup xs) xs
  | fl {xs} : Items H (.fl xs) xs
  | lst {a xs} : H a = some (.lst xs) → Items H (.ref a) xs
theorem Frz.items {H : DH} {x : DL.D} {ys : List DL.D} (h : Frz H x (.tup ys)) : ∃ xs, Items H x xs ∧ Frzs H xs ys := by
  cases h with
  | leaf l =>
    rcases l with ⟨t, e, b⟩ | ⟨a, xs, e, _, b⟩
    · cases e
      exact absurd b (by decide)
    · cases b
  | tup h => exact ⟨_, .tup, h⟩
  | fl h => exact ⟨_, .fl, h⟩
  | lst a h => exact ⟨_, .lst a, h⟩
theorem Frz.row {H : DH} {x y : DL.D} (h : Frz H x y) : (RowIs H x false ∧ y = x) ∨ (RowIs H x true ∧ ∃ ys, y = .tup ys) := by
  cases h with
  | leaf l => exact .inl ⟨l, rfl⟩
  | tup h => exact .inr ⟨.inl ⟨"tuple", rfl, by decide⟩, _, rfl⟩
  | fl h => exact .inr ⟨.inl ⟨"list", rfl, by decide⟩, _, rfl⟩
  | lst a h => exact .inr ⟨.inr ⟨_, _, rfl, a, rfl⟩, _, rfl⟩
theorem RowIs.sub {H H' : DH} {x : DL.D} {b : Bool} (s : ∀ a xs, H a = some (.lst xs) → H' a = some (.lst xs)) (h : RowIs H x b) : RowIs H' x b := by
  rcases h with ⟨t, e, b⟩ | ⟨a, xs, e, h, b⟩
  · exact .inl ⟨t, e, b⟩
  · exact .inr ⟨a, xs, e, s a xs h, b⟩
mutual
/-- a measure of what is to be made -/
def wt : DL.D → Nat
  | .tup ys => 2 + wts ys
  | _ => 1
def wts : List DL.D → Nat
  | [] => 0
  | y :: ys => wt y + wts ys
end
theorem wts_drop : ∀ (ys : List DL.D) (i : Nat) (y : DL.D), ys[i]? = some y → wts (ys.drop i) = wt y + wts (ys.drop (i + 1))
  | [], _, _, e => by simp at e
  | z :: ys, 0, y, e => by
    simp at e
    subst e
    simp [wts]
  | z :: ys, i + 1, y, e => by
    have := wts_drop ys i y (by simpa using e)
    simpa using this
theorem wt_pos (y : DL.D) : 1 ≤ wt y := by
  cases y <;> simp [wt] <;> omega
/-- the depth of what is made: so many rows stand open at most -/
def sp_frozen : DSp := fun ds H Q _ => ∃ x y, ds = [x] ∧ Frz H x y ∧ wt y ≤ 100000 ∧ Q y H
/-- a row that stands open: the row, its items, what it becomes, where its part is laid, how many items are done -/
structure Op where
  r : DL.D
  xs : List DL.D
  ys : List DL.D
  p : Addr
  n : Nat
/-- the open rows, the innermost first -/
def Open (H0 H : DH) (kvs : List (Key × DL.D)) : List Op → Prop
  | [] => True
  | o :: os => (Items H0 o.r o.xs ∧ Frzs H0 o.xs o.ys ∧ wts o.ys ≤ 100000) ∧ o.n ≤ o.ys.length ∧ (H o.p = some (.lst (o.ys.take o.n)) ∧ H0 o.p = none ∧ getP kvs (.inl (os.length : Int)) = some (.ref o.p)) ∧ (∀ u ∈ os, u.p ≠ o.p) ∧
    (∀ u, os.head? = some u → u.xs[u.n]? = some o.r ∧ u.ys[u.n]? = some (.tup o.ys)) ∧ Open H0 H kvs os
theorem Open.keep {H0 H H' : DH} {kvs kvs' : List (Key × DL.D)} : ∀ {os : List Op}, Open H0 H kvs os → (∀ o ∈ os, H' o.p = H o.p) → (∀ j : Nat, j < os.length → getP kvs' (.inl (j : Int)) = getP kvs (.inl (j : Int))) → Open H0 H' kvs' os
  | [], _, _, _ => trivial
  | o :: os, ⟨a, b, ⟨c1, c2, c3⟩, d, e, f⟩, hH, hk => ⟨a, b, ⟨(hH o (List.mem_cons_self ..)).trans c1, c2, (hk _ (Nat.lt_succ_self _)).trans c3⟩, d, e,
      Open.keep f (fun u hu => hH u (List.mem_cons_of_mem _ hu)) fun j hj => hk j (Nat.lt_succ_of_lt hj)⟩
def measB : List Op → Nat
  | [] => 0
  | o :: os => 1 + wts (o.ys.drop (o.n + 1)) + measB os
def meas : List Op → Nat
  | [] => 0
  | o :: os => 1 + wts (o.ys.drop o.n) + measB os
theorem wts_len (ys : List DL.D) : ys.length ≤ wts ys := by
  induction ys with
  | nil => simp [wts]
  | cons y ys ih =>
    have := wt_pos y
    simp [wts]
    omega
theorem wts_mem {ys : List DL.D} {i : Nat} {y : DL.D} (h : ys[i]? = some y) : wt y ≤ wts ys := by
  induction ys generalizing i with
  | nil => simp at h
  | cons z ys ih =>
    cases i with
    | zero =>
      simp at h
      subst h
      simp [wts]
    | succ i =>
      have := ih (i := i) (by simpa using h)
      simp [wts]
      omega
theorem getP_putP {kvs : List (Key × DL.D)} {k j : Key} {d : DL.D} : getP (putP kvs k d) j = if j = k then some d else getP kvs j := by
  unfold getP putP
  by_cases c : (kvs.any fun kv => decide (kv.1 = k)) = true
  · rw [if_pos c]
    induction kvs with
    | nil => simp at c
    | cons p kvs ih =>
      obtain ⟨q, v⟩ := p
      rw [List.map_cons]
      by_cases e : q = k
      · subst e
        by_cases e2 : j = q
        · subst e2
          simp
        · have ne : ¬ q = j := fun z => e2 z.symm
          simp only [if_pos, List.find?_cons, decide_eq_true_eq, ne, decide_false, if_neg e2]
          have nothing : ∀ l : List (Key × DL.D), Option.map (fun x => x.2) (List.find? (fun kv => decide (kv.1 = j)) (List.map (fun kv => if kv.1 = q then (kv.1, d) else kv) l)) = Option.map (fun x => x.2) (List.find? (fun kv => decide (kv.1 = j)) l) := by
            intro l
            induction l with
            | nil => rfl
            | cons p l ih =>
              obtain ⟨a, b⟩ := p
              rw [List.map_cons]
              by_cases h : a = q
              · have : ¬ a = j := fun z => e2 (z.symm.trans h)
                simp only [h, if_pos, List.find?_cons, ne, decide_false]
                exact ih
              · simp only [if_neg h, List.find?_cons]
                by_cases h2 : a = j
                · simp [h2]
                · simp only [h2, decide_false]
                  exact ih
          exact nothing kvs
      · have c2 : (kvs.any fun kv => decide (kv.1 = k)) = true := by simpa [e] using c
        have := ih c2
        simp only [if_neg e, List.find?_cons]
        by_cases h2 : q = j
        · subst h2
          simp [e]
        · simp only [h2, decide_false]
          exact this
  · rw [if_neg c]
    rw [List.find?_append]
    by_cases e : j = k
    · subst e
      have : kvs.find? (fun kv => decide (kv.1 = j)) = none := by
        rw [List.find?_eq_none]
        intro x hx
        have := fun z => c (List.any_eq_true.mpr ⟨x, hx, z⟩)
        exact this
      simp [this]
    · have ne : ¬ k = j := fun z => e z.symm
      simp [e, ne]
theorem putP_len {kvs : List (Key × DL.D)} {k : Key} {d : DL.D} : (putP kvs k d).length ≤ kvs.length + 1 := by
  unfold putP
  split
  · simp
  · simp
theorem atI_last {α : Type} {xs : List α} {x : α} : L2.atI (xs ++ [x]) ((xs.length : Int)) = some x := by
  have h : ixN (xs ++ [x]).length ((xs.length : Int)) = some xs.length := by
    unfold ixN
    simp
    omega
  unfold L2.atI
  rw [h]
  simp
theorem Items.len {H0 H : DH} {r : DL.D} {xs : List DL.D} {Q : DK} (h : Items H0 r xs) (s : Sub H0 H) (k : Q (.int xs.length) H) : dLen [r] H Q := by
  cases h with
  | tup => exact x_lenT k
  | fl => exact x_lenF k
  | lst a => exact x_lenL (s _ _ a) k
theorem Items.ix {H0 H : DH} {r d : DL.D} {xs : List DL.D} {i : Int} {Q : DK} (h : Items H0 r xs) (s : Sub H0 H) (e : L2.atI xs i = some d) (k : Q d H) : dIx r (.int i) H Q := by
  cases h with
  | tup => exact x_ixT e k
  | fl => exact x_ixF e k
  | lst a => exact x_ixL (s _ _ a) e k
theorem atI_nat {α : Type} {xs : List α} {i : Nat} {x : α} (e : xs[i]? = some x) : L2.atI xs (i : Int) = some x := by
  have hl : i < xs.length := (List.getElem?_eq_some_iff.mp e).1
  have h : ixN xs.length (i : Int) = some i := by
    unfold ixN
    simp
    omega
  unfold L2.atI
  rw [h]
  exact e
def FW (H0 : DH) (x0 : DL.D) (r pd : Addr) (ys : List DL.D) (m : Nat) (σ : DSt) (H : DH) : Prop := ∃ os kvs o3 o4 o5 o6, σ = [some x0, some (.ref r), some (.ref pd), o3, o4, o5, o6] ∧ m = meas os ∧ os ≠ [] ∧ H r = some (.lst (os.reverse.map Op.r)) ∧ H pd = some (.dct kvs) ∧ kvs.length + m ≤ 100001 ∧ os.length + m ≤ 100001 ∧ Open H0 H kvs os ∧
        (∀ o ∈ os, o.p ≠ r ∧ o.p ≠ pd) ∧ Sub H0 H ∧ (∀ o, os.getLast? = some o → o.ys = ys)
theorem ok_frozen (T : Txt P K mg) : DFn P w K mg base 6 T.f_frozen T.d_frozen ps_frozen sp_frozen := by
  refine fn_frozen (k := 3) T (ok_is_row T) (fun ds H Q E h => ?_) (fun ds H0 Q E h => ?_)
  · obtain ⟨x, y, rfl, _⟩ := h; rfl
  · obtain ⟨x, y, rfl, hx, hw, q⟩ := h
    unfold rd_frozen
    walk_at "dxs"
    rcases hx.row with ⟨hr, rfl⟩ | ⟨hr, ys, rfl⟩
    · refine ⟨y, false, rfl, hr, ?_⟩
      walk_at "dxs"
      exact x_endR (Sub.refl _) q
    · refine ⟨x, true, rfl, hr, ?_⟩
      walk_at "dxs"
      intro r fr
      walk_at "dxs"
      intro pd fd
      walk_at "dxs"
      intro p0 fp
      walk_at "dxs"
      have fr0 : H0 r = none := fr
      have nrd : pd ≠ r := fun e => by rw [e, put_same] at fd; cases fd
      have fd0 : H0 pd = none := by rw [put_ne nrd] at fd; exact fd
      have npd : p0 ≠ pd := fun e => by rw [e, put_same] at fp; cases fp
      have npr : p0 ≠ r := fun e => by rw [e, put_ne nrd.symm, put_same] at fp; cases fp
      have fp0 : H0 p0 = none := by rw [put_ne npd, put_ne npr] at fp; exact fp
      refine x_dputAt (kvs := []) (by rw [put_ne npd.symm, put_same]) rfl (by rw [sizeLine_eq]; decide) ?_
      obtain ⟨xs, hi, hs⟩ := hx.items
      have hwy : wts ys ≤ 99998 := by simp only [wt] at hw; omega
      refine x_while1 ⟨FW H0 x r pd ys, ⟨_, [⟨x, xs, ys, p0, 0⟩], putP [] (.inl 0) (.ref p0), none, none, none, none, rfl, rfl, by simp, ?_, put_same, ?_, ?_, ?_, ?_, ?_, ?_⟩, ?_⟩
      · rw [put_ne nrd.symm, put_ne npr.symm, put_ne nrd.symm, put_same]; rfl
      · have e1 : (putP ([] : List (Key × DL.D)) (.inl 0) (.ref p0)).length = 1 := rfl
        have e2 : meas [⟨x, xs, ys, p0, 0⟩] = 1 + wts ys + 0 := rfl
        rw [e1, e2]
        omega
      · have e2 : meas [⟨x, xs, ys, p0, 0⟩] = 1 + wts ys + 0 := rfl
        rw [e2]
        show 1 + _ ≤ _
        omega
      · refine ⟨⟨hi, hs, by show wts ys ≤ 100000; omega⟩, Nat.zero_le _, ⟨?_, fp0, ?_⟩, by simp, by simp, trivial⟩
        · rw [put_ne npd, put_same]; rfl
        · rw [getP_putP]; simp
      · simp [npr, npd]
      · intro a o e
        rw [put_ne (dne_of_none e fd0), put_ne (dne_of_none e fp0), put_ne (dne_of_none e fd0), put_ne (dne_of_none e fr0)]
        exact e
      · simp
      · rintro m σ H ⟨os, kvs, o3, o4, o5, o6, rfl, rfl, hne, hR, hD, hk, hl, hO, hN, hS, hY⟩
        cases os with
        | nil => exact absurd rfl hne
        | cons o os =>
          obtain ⟨⟨oi, oF, ow⟩, on, ⟨oH, o0, oK⟩, oD, oP, oO⟩ := hO
          have eR : (((o :: os).reverse.map Op.r)) = os.reverse.map Op.r ++ [o.r] := by simp
          rw [eR] at hR
          have eL : ((os.reverse.map Op.r ++ [o.r]).length : Int) - 1 = ((os.reverse.map Op.r).length : Int) := by simp
          have eM : ((os.reverse.map Op.r).length : Int) = (os.length : Int) := by simp
          walk_at "dxs"
          refine ⟨fun σ' H' => ∃ m', m' < meas (o :: os) ∧ FW H0 x r pd ys m' σ' H', fun _ _ h => h, ?_⟩
          walk_at "dxs"
          rw [eL]
          refine x_ixL hR atI_last ?_
          rw [eM]
          walk_at "dxs"
          have lenT : ((o.ys.take o.n).length : Int) = (o.n : Int) := by rw [List.length_take]; omega
          rw [lenT]
          refine oi.len hS (x_eqI ?_)
          rw [oF.len]
          walk_at "dxs"
          refine x_ite (fun c => ?_) fun c => ?_
          · have c : (o.n : Int) = o.ys.length := of_decide_eq_true c
            walk_at "dxs"
            refine x_pop (y := o.r) hR (by simp) ?_
            rw [List.dropLast_concat]
            walk_at "dxs"
            obtain ⟨nor, nop⟩ := hN o (List.mem_cons_self ..)
            walk_at "dxs"
            have eT : o.ys.take o.n = o.ys := by rw [List.take_of_length_le]; omega
            rw [eT]
            have S2 : ∀ u, Sub H0 (put H r u) := fun u a o' e => by rw [put_ne (dne_of_none e fr0)]; exact hS a o' e
            refine x_eqI ?_
            walk_at "dxs"
            refine x_ite (fun z => ?_) fun z => ?_
            · have z : (os.length : Int) = 0 := of_decide_eq_true z
              have e0 : os = [] := List.length_eq_zero_iff.mp (by omega)
              subst e0
              walk_at "dxs"
              refine ⟨H0, S2 _, ?_⟩
              rw [hY o rfl]
              exact q
            · have z : ¬ (os.length : Int) = 0 := of_decide_eq_false z
              cases os with
              | nil => exact absurd rfl z
              | cons u os =>
                obtain ⟨⟨ui, uF, uw⟩, un, ⟨uH, u0, uK⟩, uD, uP, uO⟩ := oO
                obtain ⟨e1, e2⟩ := oP u rfl
                obtain ⟨nur, nup⟩ := hN u (by simp)
                have eK : (((u :: os).length : Int)) - 1 = (os.length : Int) := by simp
                walk_at "dxs"
                rw [eK]
                refine x_dgetAt ((put_ne nrd).trans hD) rfl uK ?_
                have uH' : put H r (.lst ((u :: os).reverse.map Op.r)) u.p = some (.lst (u.ys.take u.n)) := (put_ne nur).trans uH
                have hlen : (u.ys.take u.n).length < sizeLine := by
                  have := wts_len u.ys
                  rw [List.length_take, sizeLine_eq]
                  omega
                refine ⟨tyM_lst uH', ?_⟩
                walk_at "dxs"
                have hun : u.n < u.ys.length := (List.getElem?_eq_some_iff.mp e2).1
                have eU : u.ys.take u.n ++ [.tup o.ys] = u.ys.take (u.n + 1) := by rw [List.take_succ, e2]; rfl
                rw [eU]
                have dm : wts (u.ys.drop u.n) = wt (.tup o.ys) + wts (u.ys.drop (u.n + 1)) := wts_drop u.ys u.n _ e2
                have mE : meas (o :: u :: os) = 1 + wts (o.ys.drop o.n) + (1 + wts (u.ys.drop (u.n + 1)) + measB os) := rfl
                have mN : meas ({ u with n := u.n + 1 } :: os) = 1 + wts (u.ys.drop (u.n + 1)) + measB os := rfl
                refine ⟨_, ?_, { u with n := u.n + 1 } :: os, kvs, _, _, _, _, rfl, rfl, by simp, ?_, ?_, ?_, ?_, ?_, ?_, ?_, ?_⟩
                · rw [mE, mN]; omega
                · rw [put_ne nur.symm, put_same]; simp
                · rw [put_ne nup.symm, put_ne nrd]; exact hD
                · rw [mN]; omega
                · rw [mN]; simp only [List.length_cons] at hl ⊢; omega
                · refine ⟨⟨ui, uF, uw⟩, hun, ⟨put_same, u0, uK⟩, uD, uP, uO.keep (fun v hv => ?_) fun _ _ => rfl⟩
                  obtain ⟨nvr, _⟩ := hN v (by simp [hv])
                  rw [put_ne (uD v hv), put_ne nvr]
                · intro v hv
                  rcases List.mem_cons.mp hv with e | hv
                  · rw [e]; exact ⟨nur, nup⟩
                  · exact hN v (by simp [hv])
                · intro a o' e
                  rw [put_ne (dne_of_none e u0)]
                  exact S2 _ a o' e
                · intro v hv
                  cases os with
                  | nil =>
                    have ev : v = { u with n := u.n + 1 } := by simpa using hv.symm
                    rw [ev]
                    exact hY u rfl
                  | cons t os => exact hY v (by simpa using hv)
          · have c : ¬ (o.n : Int) = o.ys.length := of_decide_eq_false c
            have hon : o.n < o.ys.length := by omega
            obtain ⟨nor, nop⟩ := hN o (List.mem_cons_self ..)
            obtain ⟨z, hz⟩ : ∃ z, o.xs[o.n]? = some z := ⟨o.xs[o.n]'(by rw [oF.len]; exact hon), by simp⟩
            obtain ⟨y, hy, hF⟩ := oF.get hz
            have dm : wts (o.ys.drop o.n) = wt y + wts (o.ys.drop (o.n + 1)) := wts_drop o.ys o.n _ hy
            have wy : wt y ≤ wts o.ys := wts_mem hy
            have py := wt_pos y
            have mE : meas (o :: os) = 1 + wts (o.ys.drop o.n) + measB os := rfl
            walk_at "dxs"
            refine oi.ix hS (atI_nat hz) ?_
            walk_at "dxs"
            rcases hF.row with ⟨hr2, rfl⟩ | ⟨hr2, zs, rfl⟩
            · refine ⟨y, false, rfl, hr2.sub fun a xs e => hS _ _ e, ?_⟩
              walk_at "dxs"
              have hlen : (o.ys.take o.n).length < sizeLine := by
                have := wts_len o.ys
                rw [List.length_take, sizeLine_eq]
                omega
              walk_at "dxs"
              refine oi.ix hS (atI_nat hz) ?_
              walk_at "dxs"
              have eU : o.ys.take o.n ++ [y] = o.ys.take (o.n + 1) := by rw [List.take_succ, hy]; rfl
              rw [eU]
              have mN : meas ({ o with n := o.n + 1 } :: os) = 1 + wts (o.ys.drop (o.n + 1)) + measB os := rfl
              refine ⟨_, ?_, { o with n := o.n + 1 } :: os, kvs, _, _, _, _, rfl, rfl, by simp, ?_, ?_, ?_, ?_, ?_, ?_, ?_, ?_⟩
              · rw [mE, mN]; omega
              · rw [put_ne nor.symm, hR]; simp
              · rw [put_ne nop.symm]; exact hD
              · rw [mN]; omega
              · rw [mN]; simp only [List.length_cons] at hl ⊢; omega
              · exact ⟨⟨oi, oF, ow⟩, hon, ⟨put_same, o0, oK⟩, oD, oP, oO.keep (fun v hv => put_ne (oD v hv)) fun _ _ => rfl⟩
              · intro v hv
                rcases List.mem_cons.mp hv with e | hv
                · rw [e]; exact ⟨nor, nop⟩
                · exact hN v (by simp [hv])
              · intro a o' e
                rw [put_ne (dne_of_none e o0)]
                exact hS a o' e
              · intro v hv
                cases os with
                | nil =>
                  have ev : v = { o with n := o.n + 1 } := by simpa using hv.symm
                  rw [ev]
                  exact hY o rfl
                | cons t os => exact hY v (by simpa using hv)
            · refine ⟨z, true, rfl, hr2.sub fun a xs e => hS _ _ e, ?_⟩
              walk_at "dxs"
              refine oi.ix hS (atI_nat hz) ?_
              have hlen : (os.reverse.map Op.r ++ [o.r]).length < sizeLine := by
                simp only [List.length_append, List.length_map, List.length_reverse, List.length_cons, List.length_nil] at hl ⊢
                rw [sizeLine_eq]
                omega
              walk_at "dxs"
              intro p fp'
              have npr' : p ≠ r := fun e => by rw [e, put_same] at fp'; cases fp'
              have fpH : H p = none := by rw [put_ne npr'] at fp'; exact fp'
              have npd' : p ≠ pd := fun e => by rw [e, hD] at fpH; cases fpH
              have fpH0 : H0 p = none := hS.free fpH
              walk_at "dxs"
              refine x_dputAt (kvs := kvs) (by rw [put_ne npd'.symm, put_ne nrd]; exact hD) rfl (by rw [sizeLine_eq]; omega) ?_
              obtain ⟨xs', hi', hs'⟩ := hF.items
              have w2 : wt (.tup zs) = 2 + wts zs := by simp only [wt]
              have mN : meas (⟨z, xs', zs, p, 0⟩ :: o :: os) = 1 + wts zs + (1 + wts (o.ys.drop (o.n + 1)) + measB os) := rfl
              have kl := putP_len (kvs := kvs) (k := .inl ((os.length : Int) + 1)) (d := .ref p)
              have others : ∀ v : Op, v ∈ o :: os → v.p ≠ p := fun v hv e => by
                have key : ∀ (l : List Op), Open H0 H kvs l → v ∈ l → ∃ ds, H v.p = some (.lst ds) := by
                  intro l
                  induction l with
                  | nil => intro _ h; simp at h
                  | cons a l ih =>
                    rintro ⟨_, _, ⟨h, _⟩, _, _, t⟩ hm
                    rcases List.mem_cons.mp hm with e | hm
                    · rw [e]; exact ⟨_, h⟩
                    · exact ih t hm
                obtain ⟨ds, hd⟩ := key (o :: os) ⟨⟨oi, oF, ow⟩, on, ⟨oH, o0, oK⟩, oD, oP, oO⟩ hv
                rw [e, fpH] at hd
                cases hd
              have off : ∀ (v : Op) u1 u2 u3, v ∈ o :: os → put (put (put H r u1) p u2) pd u3 v.p = H v.p := fun v u1 u2 u3 hv => by
                obtain ⟨nvr, nvp⟩ := hN v hv
                rw [put_ne nvp, put_ne (others v hv), put_ne nvr]
              refine ⟨_, ?_, ⟨z, xs', zs, p, 0⟩ :: o :: os, _, _, _, _, _, rfl, rfl, by simp, ?_, put_same, ?_, ?_, ?_, ?_, ?_, ?_⟩
              · rw [mE, mN]; omega
              · rw [put_ne nrd.symm, put_ne npr'.symm, put_same]; simp
              · rw [mN]; omega
              · rw [mN]; simp only [List.length_cons] at hl ⊢; omega
              · refine ⟨⟨hi', hs', by show wts zs ≤ _; omega⟩, Nat.zero_le _, ⟨?_, fpH0, ?_⟩, others, ?_, ?_⟩
                · rw [put_ne npd', put_same]; rfl
                · rw [getP_putP, if_pos (by simp)]
                · intro u hu
                  have eu : u = o := by simpa using hu.symm
                  rw [eu]
                  exact ⟨hz, hy⟩
                · refine Open.keep (H := H) (kvs := kvs) ⟨⟨oi, oF, ow⟩, on, ⟨oH, o0, oK⟩, oD, oP, oO⟩ (fun v hv => off v _ _ _ hv) fun j hj => ?_
                  rw [getP_putP, if_neg]
                  intro e
                  have e : (j : Int) = (os.length : Int) + 1 := Sum.inl.inj e
                  simp only [List.length_cons] at hj
                  omega
              · intro v hv
                rcases List.mem_cons.mp hv with e | hv
                · rw [e]; exact ⟨npr', npd'⟩
                · exact hN v hv
              · intro a o' e
                rw [put_ne (dne_of_none e fd0), put_ne (dne_of_none e fpH0), put_ne (dne_of_none e fr0)]
                exact hS a o' e
              · intro v hv
                exact hY v (by simpa using hv)
end
end K05

namespace K05
open PySem PySem.Spec PyProof.Rows L2 DL
section
variable {P : Program} {w : World} {K : PySem.W.Frag} {mg : Str → Option Value} {base : Heap}
/-! ### Play -/
mutual
theorem Frz.mono {H H' : DH} (s : ∀ a xs, H a = some (.lst xs) → H' a = some (.lst xs)) : ∀ {x y : DL.D}, Frz H x y → Frz H' x y
  | _, _, .leaf h => .leaf (h.sub s)
  | _, _, .tup h => .tup (Frzs.mono s h)
  | _, _, .fl h => .fl (Frzs.mono s h)
  | _, _, .lst a h => .lst (s _ _ a) (Frzs.mono s h)
theorem Frzs.mono {H H' : DH} (s : ∀ a xs, H a = some (.lst xs) → H' a = some (.lst xs)) : ∀ {x y : List DL.D}, Frzs H x y → Frzs H' x y
  | _, _, .nil => .nil
  | _, _, .cons h t => .cons (Frz.mono s h) (Frzs.mono s t)
end
theorem frzs_ints {H : DH} : ∀ ns : List Int, Frzs H (ns.map D.int) (ns.map D.int)
  | [] => .nil
  | n :: ns => .cons (.leaf (.inl ⟨"int", rfl, by decide⟩)) (frzs_ints ns)
theorem wts_ints : ∀ ns : List Int, wts (ns.map D.int) = ns.length
  | [] => rfl
  | n :: ns => by
    have := wts_ints ns
    simp only [List.map_cons, wts, wt, List.length_cons, this]
    omega
theorem lst_put {H : DH} {p : Addr} {o u : DO} (h : H p = some o) (no : ∀ xs, o ≠ .lst xs) : ∀ a xs, H a = some (.lst xs) → put H p u a = some (.lst xs) := fun a xs e => by
  rw [put_ne]
  · exact e
  · intro z
    rw [z, h] at e
    exact no xs (Option.some.inj e)
def fsPlay (s l : DL.D) : List (Str × DL.D) := [("stem", s), ("loop", l)]
def sp_Play_init (T : Txt P K mg) : DSp := fun ds H Q _ => ∃ p s l s' l', ds = [.ref p, s, l] ∧ H p = some (.ins T.C_Play []) ∧ Frz H s s' ∧ Frz H l l' ∧ wt s' ≤ 100000 ∧ wt l' ≤ 100000 ∧ Q .non (put H p (.ins T.C_Play (fsPlay s' l')))
theorem ok_Play_init (T : Txt P K mg) : DFn P w K mg base 9 T.f_Play_init T.d_Play_init ps_Play_init (sp_Play_init T) := by
  refine fn_Play_init (k := 6) T (ok_frozen T) (fun ds H Q E h => ?_) (fun ds H Q E h => ?_)
  · obtain ⟨p, s, l, s', l', rfl, _⟩ := h; rfl
  · obtain ⟨p, s, l, s', l', rfl, hp, hs, hl, ws, wl, q⟩ := h
    have cP := T.c_Play
    have nS := T.n_Play_stem
    have nL := T.n_Play_loop
    unfold rd_Play_init
    walk_at "dxs"
    refine ⟨s, s', rfl, hs, ws, ?_⟩
    walk_at "dxs"
    refine ⟨l, l', rfl, hl.mono (lst_put hp (fun _ z => by cases z)), wl, ?_⟩
    walk_at "dxs"
    rw [put_put]
    refine ⟨_, Sub.refl _, ?_⟩
    exact q
def sp_Play_len (T : Txt P K mg) : DSp := fun ds H Q _ => ∃ p s l, ds = [.ref p] ∧ H p = some (.ins T.C_Play (fsPlay (.tup s) (.tup l))) ∧ s.length + l.length ≤ 100000 ∧ Q (.int ((s.length + l.length : Nat) : Int)) H
theorem ok_Play_len (T : Txt P K mg) : DFn P w K mg base 3 T.f_Play_len T.d_Play_len ps_Play_len (sp_Play_len T) := by
  refine fn_Play_len (k := 0) T (fun ds H Q E h => ?_) (fun ds H Q E h => ?_)
  · obtain ⟨p, s, l, rfl, _⟩ := h; rfl
  · obtain ⟨p, s, l, rfl, hp, hz, q⟩ := h
    have cP := T.c_Play
    have nS := T.n_Play_stem
    have nL := T.n_Play_loop
    unfold rd_Play_len
    walk_at "dxs"
    refine x_addT (a := s) (b := l) (by rw [sizeLine_eq]; omega) ?_
    walk_at "dxs"
    refine ⟨_, Sub.refl _, ?_⟩
    rw [List.length_append]
    exact q
/-! ### shortest_period -/
def PdOk (ns : List Int) (d : Nat) : Prop := ns.length % d = 0 ∧ (List.replicate (ns.length / d) (ns.take d)).flatten = ns
def SPer (ns ms : List Int) : Prop := (∃ d, 1 ≤ d ∧ d < ns.length ∧ PdOk ns d ∧ (∀ e, 1 ≤ e → e < d → ¬ PdOk ns e) ∧ ms = ns.take d) ∨ ((∀ e, 1 ≤ e → e < ns.length → ¬ PdOk ns e) ∧ ms = ns)
def sp_shortest_period : DSp := fun ds H Q _ => ∃ ns : List Int, ds = [.tup (ns.map D.int)] ∧ ns.length ≤ 1000 ∧ ∀ ms, SPer ns ms → Q (.tup (ms.map D.int)) H
theorem cut_take {α : Type} {xs : List α} {d : Nat} (h : d ≤ xs.length) : DL.cut xs none (some (d : Int)) = xs.take d := by
  unfold DL.cut
  rw [HT.sIx_nat, HT.sIx_none]
  simp [Nat.min_eq_left h]
theorem cut_drop {α : Type} {xs : List α} {d : Nat} (h : d ≤ xs.length) : DL.cut xs (some (d : Int)) none = xs.drop d := by
  unfold DL.cut
  rw [HT.sIx_nat, HT.sIx_none, Nat.min_eq_left h, List.take_of_length_le]
  simp
theorem ok_shortest_period (T : Txt P K mg) : DFn P w K mg base 3 T.f_shortest_period T.d_shortest_period ps_shortest_period sp_shortest_period := by
  refine fn_shortest_period (k := 0) T (fun ds H Q E h => ?_) (fun ds H Q E h => ?_)
  · obtain ⟨ns, rfl, _⟩ := h; rfl
  · obtain ⟨ns, rfl, hn, q⟩ := h
    unfold rd_shortest_period
    walk_at "dxs"
    rw [List.length_map]
    refine x_rng2At (by omega) (by omega) (forRng (W := fun i σ H' => H' = H ∧ (∃ o, σ = [some (.tup (ns.map D.int)), some (.int (ns.length : Int)), o]) ∧ ∀ e, 1 ≤ e → e < 1 + i → ¬ PdOk ns e) ?_ ?_ ?_)
    · exact ⟨rfl, ⟨_, rfl⟩, fun e h1 h2 => by omega⟩
    · rintro i σ H' hi ⟨rfl, ⟨o, rfl⟩, hno⟩
      have hi' : 1 + i < ns.length := by omega
      have ei : ((1 : Int) + (i : Int)) = ((1 + i : Nat) : Int) := by omega
      rw [ei]
      generalize hd : 1 + i = d at *
      have d1 : 1 ≤ d := by omega
      have next : ∀ {Z : DEnds} {σ' : DSt}, (¬ PdOk ns d) → (∃ o, σ' = [some (.tup (ns.map D.int)), some (.int (ns.length : Int)), o]) → H' = H' ∧ (∃ o, σ' = [some (.tup (ns.map D.int)), some (.int (ns.length : Int)), o]) ∧ ∀ e, 1 ≤ e → e < 1 + (i + 1) → ¬ PdOk ns e := fun {Z σ'} hn hs => ⟨rfl, hs, fun e h1 h2 => by
        by_cases h : e = d
        · rw [h]; exact hn
        · exact hno e h1 (by omega)⟩
      walk_at "dxs"
      refine x_i (by omega) ?_
      walk_at "dxs"
      refine x_eqI ?_
      walk_at "dxs"
      refine x_ite (fun c => ?_) fun c => ?_
      · have c : (ns.length : Int) % (d : Int) = 0 := of_decide_eq_true c
        have c' : ns.length % d = 0 := by omega
        walk_at "dxs"
        refine x_i (.inl ⟨by omega, by omega⟩) ?_
        rw [cut_take (by rw [List.length_map]; omega)]
        rw [← List.map_take]
        have eq : (ns.length : Int) / (d : Int) = ((ns.length / d : Nat) : Int) := by simp
        have hq : 1 ≤ ns.length / d := (Nat.le_div_iff_mul_le (by omega)).mpr (by omega)
        have hq2 : ns.length / d ≤ ns.length := Nat.div_le_self _ _
        rw [eq]
        refine x_mulT (by omega) (by omega) (by rw [List.length_map, List.length_take]; omega) ?_ ?_
        · intro z
          have z := congrArg List.length z
          rw [List.length_map, List.length_take, List.length_nil] at z
          omega
        rw [Int.toNat_natCast]
        have em : (List.replicate (ns.length / d) ((ns.take d).map D.int)).flatten = ((List.replicate (ns.length / d) (ns.take d)).flatten).map D.int := by simp [List.map_flatten]
        rw [em]
        walk_at "dxs"
        refine x_eqD (nb_ints _) (nb_ints _) (by decide) fun b hb => ?_
        walk_at "dxs"
        refine x_ite (fun c2 => ?_) fun c2 => ?_
        · have e2 := hb.mp c2
          have e2 : (List.replicate (ns.length / d) (ns.take d)).flatten = ns := ints_inj.mp (by injection e2)
          walk_at "dxs"
          rw [cut_take (by rw [List.length_map]; omega), ← List.map_take]
          exact ⟨_, Sub.refl _, q _ (.inl ⟨d, d1, hi', ⟨c', e2⟩, fun e h1 h2 => hno e h1 h2, rfl⟩)⟩
        · walk_at "dxs"
          refine next (Z := endsOf Q E) (fun p => ?_) ⟨_, rfl⟩
          rw [hb.mpr (by rw [p.2])] at c2
          cases c2
      · have c : ¬ (ns.length : Int) % (d : Int) = 0 := of_decide_eq_false c
        walk_at "dxs"
        refine next (Z := endsOf Q E) (fun p => ?_) ⟨_, rfl⟩
        have := p.1
        omega
    · rintro σ H' ⟨rfl, ⟨o, rfl⟩, hno⟩
      walk_at "dxs"
      exact ⟨_, Sub.refl _, q _ (.inr ⟨fun e h1 h2 => hno e h1 (by omega), rfl⟩)⟩
end
end K05

namespace K05
open PySem PySem.Spec PyProof.Rows L2 DL
section
variable {P : Program} {w : World} {K : PySem.W.Frag} {mg : Str → Option Value} {base : Heap}
theorem atI_neg {α : Type} {xs : List α} {k : Nat} {x : α} (e : xs[xs.length - 1 - k]? = some x) (h : k < xs.length) : L2.atI xs (-1 - (k : Int)) = some x := by
  have i : ixN xs.length (-1 - (k : Int)) = some (xs.length - 1 - k) := by
    unfold ixN
    rw [if_neg (by omega), if_pos (by omega)]
    exact congrArg some (by omega)
  unfold L2.atI
  rw [i]
  exact e
/-- what shortened makes of a stem and a loop -/
structure Short (s l s' l' : List Int) : Prop where
  ex : ∃ (ms : List Int) (b : Nat), SPer l ms ∧ ms ≠ [] ∧ b ≤ s.length ∧ (∀ j, j < b → s[s.length - 1 - j]? = ms[ms.length - 1 - j % ms.length]?) ∧ (b < s.length → s[s.length - 1 - b]? ≠ ms[ms.length - 1 - b % ms.length]?) ∧
    s' = s.take (s.length - b) ∧ l' = ms.drop (ms.length - b % ms.length) ++ ms.take (ms.length - b % ms.length)
theorem sper_ne {l ms : List Int} (h : SPer l ms) (hl : l ≠ []) : ms ≠ [] ∧ ms.length ≤ l.length := by
  have hl0 : 0 < l.length := List.length_pos_iff.mpr hl
  rcases h with ⟨d, h1, h2, _, _, rfl⟩ | ⟨_, rfl⟩
  · refine ⟨?_, by rw [List.length_take]; omega⟩
    intro z
    have := congrArg List.length z
    rw [List.length_take, List.length_nil] at this
    omega
  · exact ⟨hl, Nat.le_refl _⟩
def playI (s l : List Int) : List (Str × DL.D) := fsPlay (.tup (s.map D.int)) (.tup (l.map D.int))
def sp_shortened (T : Txt P K mg) : DSp := fun ds H Q E => ∃ p s l, ds = [.ref p] ∧ H p = some (.ins T.C_Play (playI s l)) ∧ s.length ≤ 1000 ∧ l.length ≤ 1000 ∧
  (l = [] → ∀ d, H d = none → E T.C_InvalidPlay (some d) (put H d (.xd [("position", .int (s.length : Int))]))) ∧
  (l ≠ [] → ∀ s' l', Short s l s' l' → ∀ q, H q = none → Q (.ref q) (put H q (.ins T.C_Play (playI s' l'))))
theorem ok_shortened (T : Txt P K mg) : DFn P w K mg base 12 T.f_shortened T.d_shortened ps_shortened (sp_shortened T) := by
  refine fn_shortened (k := 9) T ((ok_Play_len T).mono (by decide)) ((ok_shortest_period T).mono (by decide)) (ok_Play_init T) (fun ds H Q E h => ?_) (fun ds H Q E h => ?_)
  · obtain ⟨p, s, l, rfl, _⟩ := h; rfl
  · obtain ⟨p, s, l, rfl, hp, hs, hl, hE, hQ⟩ := h
    have cP := T.c_Play
    have nS := T.n_Play_stem
    have nL := T.n_Play_loop
    unfold rd_shortened
    walk_at "dxs"
    refine x_eqI ?_
    walk_at "dxs"
    refine x_ite (fun c => ?_) fun c => ?_
    · have c : ((l.map D.int).length : Int) = 0 := of_decide_eq_true c
      have e : l = [] := by
        rw [List.length_map] at c
        exact List.length_eq_zero_iff.mp (by omega)
      subst e
      walk_at "dxs"
      refine ⟨p, s.map D.int, [], rfl, hp, by rw [List.length_map]; simp; omega, ?_⟩
      simp only [List.length_map, List.length_nil, Nat.add_zero]
      refine ⟨_, rfl, ⟨by omega, by omega⟩, ?_⟩
      walk_at "dxs"
      intro d hd
      exact ⟨_, Sub.refl _, hE rfl d hd⟩
    · have c : ¬ ((l.map D.int).length : Int) = 0 := of_decide_eq_false c
      have hne : l ≠ [] := fun e => by rw [e] at c; exact c rfl
      walk_at "dxs"
      refine ⟨l, rfl, hl, fun ms hm => ?_⟩
      obtain ⟨mne, mle⟩ := sper_ne hm hne
      have mpos : 0 < ms.length := List.length_pos_iff.mpr mne
      walk_at "dxs"
      refine ⟨fun m σ H' => H' = H ∧ ∃ (b : Nat) (o : Option DL.D), σ = [some (.ref p), some (.tup (ms.map D.int)), some (.int (ms.length : Int)), some (.int (b : Int)), o] ∧ m = s.length - b ∧ b ≤ s.length ∧ ∀ j, j < b → s[s.length - 1 - j]? = ms[ms.length - 1 - j % ms.length]?, ⟨_, rfl, 0, _, by rw [List.length_map]; rfl, rfl, Nat.zero_le _, fun j hj => by omega⟩, ?_⟩
      rintro m σ H' ⟨rfl, b, o, rfl, rfl, hb, hall⟩
      walk_at "dxs"
      have ix : ∀ {xs : List Int} {k : Nat}, k < xs.length → ∃ x, L2.atI (xs.map D.int) (-1 - (k : Int)) = some (.int x) ∧ xs[xs.length - 1 - k]? = some x := fun {xs k} h => by
        obtain ⟨x, hx⟩ : ∃ x, xs[xs.length - 1 - k]? = some x := ⟨xs[xs.length - 1 - k]'(by omega), by simp⟩
        refine ⟨x, atI_neg ?_ (by rw [List.length_map]; exact h), hx⟩
        rw [List.length_map, List.getElem?_map, hx]
        rfl
      have emod : (b : Int) % (ms.length : Int) = ((b % ms.length : Nat) : Int) := by simp
      have esub : (ms.length : Int) - ((b % ms.length : Nat) : Int) = ((ms.length - b % ms.length : Nat) : Int) := by
        have := Nat.mod_lt b mpos
        omega
      have hmod : b % ms.length < ms.length := Nat.mod_lt _ mpos
      have fin : (b < s.length → s[s.length - 1 - b]? ≠ ms[ms.length - 1 - b % ms.length]?) → ∀ t : Int, t = ((ms.length - b % ms.length : Nat) : Int) → dRet (dMake T.C_Play (sp_Play_init T) [] (dCons (dSl dCut (dFld K (dVar 0) "stem") dNoPart (dPart (dOp (dI0 fun i j => .int (i - j)) (dCB dLen (dCons (dFld K (dVar 0) "stem") dNil)) (dVar 3)))) (dCons (dOp dAdd (dSl dCut (dVar 1) (dPart (dVar 4)) dNoPart) (dSl dCut (dVar 1) dNoPart (dPart (dVar 4)))) dNil))) (endsOf Q E) [some (.ref p), some (.tup (ms.map D.int)), some (.int (ms.length : Int)), some (.int (b : Int)), some (.int t)] H' := fun hstop t et => by
        subst et
        walk_at "dxs"
        have eb : ((s.map D.int).length : Int) - (b : Int) = ((s.length - b : Nat) : Int) := by rw [List.length_map]; omega
        rw [eb, cut_take (by rw [List.length_map]; omega), cut_take (by rw [List.length_map]; omega), cut_drop (by rw [List.length_map]; omega), ← List.map_take, ← List.map_take, ← List.map_drop]
        refine x_addT (by rw [List.length_map, List.length_map, List.length_drop, List.length_take, sizeLine_eq]; omega) ?_
        rw [← List.map_append]
        walk_at "dxs"
        intro q hq
        refine ⟨q, _, _, _, _, rfl, put_same, .tup (frzs_ints _), .tup (frzs_ints _), ?_, ?_, rfl, ?_⟩
        · simp only [wt, wts_ints, List.length_take]; omega
        · simp only [wt, wts_ints, List.length_append, List.length_take, List.length_drop]; omega
        · rw [put_put]
          exact ⟨_, Sub.refl _, hQ hne _ _ ⟨ms, b, hm, mne, hb, hall, hstop, rfl, rfl⟩ q hq⟩
      refine x_ite (fun c1 => ?_) fun c1 => ?_
      · have c1 : (b : Int) < ((s.map D.int).length : Int) := of_decide_eq_true c1
        rw [List.length_map] at c1
        obtain ⟨x, ex, gx⟩ := ix (xs := s) (k := b) (by omega)
        obtain ⟨y, ey, gy⟩ := ix (xs := ms) (k := b % ms.length) hmod
        walk_at "dxs"
        refine x_i (by omega) ?_
        rw [emod]
        walk_at "dxs"
        refine x_eqI ?_
        walk_at "dxs"
        refine x_ite (fun c2 => ?_) fun c2 => ?_
        · have c2 : x = y := of_decide_eq_true c2
          refine ⟨_, fun _ _ h => h, ?_⟩
          walk_at "dxs"
          refine ⟨s.length - (b + 1), by omega, rfl, b + 1, _, rfl, rfl, by omega, fun j hj => ?_⟩
          by_cases e : j = b
          · rw [e, gx, gy, c2]
          · exact hall j (by omega)
        · have c2 : ¬ x = y := of_decide_eq_false c2
          walk_at "dxs"
          refine x_i (by omega) ?_
          rw [emod]
          refine x_i0 ?_
          refine fin (fun _ z => c2 ?_) _ esub
          rw [gx, gy] at z
          exact Option.some.inj z
      · have c1 : ¬ (b : Int) < ((s.map D.int).length : Int) := of_decide_eq_false c1
        rw [List.length_map] at c1
        walk_at "dxs"
        refine x_i (by omega) ?_
        rw [emod]
        refine x_i0 ?_
        exact fin (fun h => absurd h (by omega)) _ esub
end
end K05

namespace K05
open PySem PySem.Spec PyProof.Rows L2 DL
/-! ### plays, plainly -/
def per (l : List Int) (i : Nat) : Int := l.getD (i % l.length) 0
def pat (s l : List Int) (t : Nat) : Int := if t < s.length then s.getD t 0 else per l (t - s.length)
structure Can (s l : List Int) : Prop where
  ne : l ≠ []
  rot : ∀ e, 1 ≤ e → e < l.length → l.drop e ++ l.take e ≠ l
  last : s = [] ∨ s.getLast? ≠ l.getLast?
def Per (f : Nat → Int) (k : Nat) : Prop := ∀ i, f (i + k) = f i
theorem Per.mul {f : Nat → Int} {a : Nat} (h : Per f a) : ∀ k, Per f (a * k)
  | 0 => fun i => rfl
  | k + 1 => fun i => by
    rw [Nat.mul_succ, ← Nat.add_assoc, h, Per.mul h k]
theorem Per.sub {f : Nat → Int} {a b : Nat} (ha : Per f a) (hb : Per f b) (h : a ≤ b) : Per f (b - a) := fun i => by
  have e : i + (b - a) + a = i + b := by omega
  rw [← ha (i + (b - a)), e, hb]
theorem Per.mod {f : Nat → Int} {a b : Nat} (ha : Per f a) (hb : Per f b) : Per f (b % a) := by
  have e : b % a = b - a * (b / a) := by
    have := Nat.div_add_mod b a
    omega
  rw [e]
  exact (ha.mul _).sub hb (Nat.mul_div_le b a)
theorem Per.gcd {f : Nat → Int} (a b : Nat) : Per f a → Per f b → Per f (Nat.gcd a b) := by
  induction a, b using Nat.gcd.induction with
  | H0 n => intro _ hb; rw [Nat.gcd_zero_left]; exact hb
  | H1 m n hm ih =>
    intro ha hb
    rw [Nat.gcd_rec]
    exact ih (ha.mod hb) ha
theorem per_per {l : List Int} : Per (per l) l.length := fun i => by
  unfold per
  rw [Nat.add_mod_right]
theorem ext_getD {l m : List Int} (h : l.length = m.length) (g : ∀ i, i < l.length → l.getD i 0 = m.getD i 0) : l = m := by
  apply List.ext_getElem h
  intro i h1 h2
  have := g i h1
  simpa [List.getD_eq_getElem?_getD, h1, h2] using this
theorem rot_get {l : List Int} {e i : Nat} (he : e ≤ l.length) (hi : i < l.length) : (l.drop e ++ l.take e).getD i 0 = l.getD ((i + e) % l.length) 0 := by
  rw [List.getD_eq_getElem?_getD, List.getD_eq_getElem?_getD]
  congr 1
  by_cases h : i < l.length - e
  · rw [List.getElem?_append_left (by rw [List.length_drop]; exact h), List.getElem?_drop, Nat.mod_eq_of_lt (by omega), Nat.add_comm]
  · rw [List.getElem?_append_right (by rw [List.length_drop]; omega), List.length_drop]
    have e1 : (i + e) % l.length = i - (l.length - e) := by
      have e2 : i + e = (i - (l.length - e)) + l.length := by omega
      rw [e2, Nat.add_mod_right, Nat.mod_eq_of_lt (by omega)]
    rw [e1, List.getElem?_take_of_lt (by omega)]
theorem rot_iff {l : List Int} {e : Nat} (he : e ≤ l.length) : l.drop e ++ l.take e = l ↔ Per (per l) e := by
  by_cases hl : l.length = 0
  · have e0 : l = [] := List.length_eq_zero_iff.mp hl
    subst e0
    refine ⟨fun _ i => by simp [per], fun _ => by simp⟩
  · have hp : 0 < l.length := Nat.pos_of_ne_zero hl
    constructor
    · intro h i
      unfold per
      have hi : i % l.length < l.length := Nat.mod_lt _ hp
      have := rot_get he hi
      rw [h, Nat.mod_add_mod] at this
      exact this.symm
    · intro h
      apply ext_getD
      · rw [List.length_append, List.length_drop, List.length_take]; omega
      · intro i hi
        rw [List.length_append, List.length_drop, List.length_take] at hi
        have hi : i < l.length := by omega
        rw [rot_get he hi]
        have := h i
        unfold per at this
        rw [this, Nat.mod_eq_of_lt hi]
theorem rep_getD {l : List Int} {k i : Nat} (h : i < k * l.length) : (List.replicate k l).flatten.getD i 0 = l.getD (i % l.length) 0 := by
  induction k generalizing i with
  | zero => simp at h
  | succ k ih =>
    rw [List.replicate_succ, List.flatten_cons]
    rw [List.getD_eq_getElem?_getD, List.getD_eq_getElem?_getD]
    by_cases hi : i < l.length
    · rw [List.getElem?_append_left hi, Nat.mod_eq_of_lt hi]
    · rw [List.getElem?_append_right (by omega)]
      have e : i % l.length = (i - l.length) % l.length := by
        have : i = (i - l.length) + l.length := by omega
        rw [this, Nat.add_mod_right]
        congr 1
        omega
      have := ih (i := i - l.length) (by rw [Nat.succ_mul] at h; omega)
      rw [List.getD_eq_getElem?_getD, List.getD_eq_getElem?_getD] at this
      rw [this, e]
/-- the loop's parts -/
theorem pdOk_iff {l : List Int} {d : Nat} (h1 : 1 ≤ d) (h2 : d ≤ l.length) : PdOk l d ↔ l.length % d = 0 ∧ Per (per l) d := by
  have ht : (l.take d).length = d := by rw [List.length_take]; omega
  constructor
  · rintro ⟨hm, hr⟩
    refine ⟨hm, fun i => ?_⟩
    have key : ∀ j, j < l.length → l.getD j 0 = (l.take d).getD (j % d) 0 := fun j hj => by
      have hk : j < l.length / d * (l.take d).length := by
        rw [ht, Nat.div_mul_cancel (Nat.dvd_of_mod_eq_zero hm)]
        exact hj
      have := rep_getD hk
      rw [hr, ht] at this
      exact this
    have hp : 0 < l.length := by omega
    unfold per
    rw [key _ (Nat.mod_lt _ hp), key _ (Nat.mod_lt _ hp), Nat.mod_mod_of_dvd _ (Nat.dvd_of_mod_eq_zero hm), Nat.mod_mod_of_dvd _ (Nat.dvd_of_mod_eq_zero hm), Nat.add_mod_right]
  · rintro ⟨hm, hp⟩
    refine ⟨hm, ?_⟩
    have hlen : (List.replicate (l.length / d) (l.take d)).flatten.length = l.length := by
      rw [List.length_flatten]
      simp [ht, Nat.div_mul_cancel (Nat.dvd_of_mod_eq_zero hm)]
    apply ext_getD hlen
    intro i hi
    rw [hlen] at hi
    have hk : i < l.length / d * (l.take d).length := by
      rw [ht, Nat.div_mul_cancel (Nat.dvd_of_mod_eq_zero hm)]
      exact hi
    rw [rep_getD hk, ht]
    have hd : i % d < d := Nat.mod_lt _ h1
    have e1 : (l.take d).getD (i % d) 0 = l.getD (i % d) 0 := by
      rw [List.getD_eq_getElem?_getD, List.getD_eq_getElem?_getD, List.getElem?_take_of_lt hd]
    rw [e1]
    have := hp.mul (i / d) (i % d)
    have e2 : i % d + d * (i / d) = i := by have := Nat.div_add_mod i d; omega
    rw [e2] at this
    unfold per at this
    rw [Nat.mod_eq_of_lt hi, Nat.mod_eq_of_lt (by omega : i % d < l.length)] at this
    exact this.symm
/-- what shortest_period tells: the same running round, no shorter period -/
theorem sper_ok {l ms : List Int} (h : SPer l ms) (hl : l ≠ []) : ms ≠ [] ∧ ms.length ≤ l.length ∧ per ms = per l ∧ ∀ e, 1 ≤ e → e < ms.length → ¬ Per (per l) e := by
  have hl0 : 0 < l.length := List.length_pos_iff.mpr hl
  rcases h with ⟨d, h1, h2, hp, hmin, rfl⟩ | ⟨hmin, rfl⟩
  · have ht : (l.take d).length = d := by rw [List.length_take]; omega
    obtain ⟨hm, hP⟩ := (pdOk_iff h1 (Nat.le_of_lt h2)).mp hp
    refine ⟨fun z => ?_, by rw [ht]; omega, ?_, fun e e1 e2 he => ?_⟩
    · rw [z] at ht
      simp at ht
      omega
    · funext i
      unfold per
      rw [ht]
      have hd : i % d < d := Nat.mod_lt _ h1
      have e1 : (l.take d).getD (i % d) 0 = l.getD (i % d) 0 := by
        rw [List.getD_eq_getElem?_getD, List.getD_eq_getElem?_getD, List.getElem?_take_of_lt hd]
      rw [e1]
      have := hP.mul (i / d) (i % d)
      have e2 : i % d + d * (i / d) = i := by have := Nat.div_add_mod i d; omega
      rw [e2] at this
      unfold per at this
      rw [Nat.mod_eq_of_lt (by omega : i % d < l.length)] at this
      exact this.symm
    · rw [ht] at e2
      have hg := Per.gcd e d he hP
      have g1 : 1 ≤ Nat.gcd e d := Nat.gcd_pos_of_pos_left _ e1
      have g2 : Nat.gcd e d ≤ e := Nat.gcd_le_left _ e1
      refine hmin _ g1 (by omega) ((pdOk_iff g1 (by omega)).mpr ⟨?_, hg⟩)
      exact Nat.mod_eq_zero_of_dvd (Nat.dvd_trans (Nat.gcd_dvd_right e d) (Nat.dvd_of_mod_eq_zero hm))
  · refine ⟨hl, Nat.le_refl _, rfl, fun e e1 e2 he => ?_⟩
    have hg := Per.gcd e ms.length he per_per
    have g1 : 1 ≤ Nat.gcd e ms.length := Nat.gcd_pos_of_pos_left _ e1
    have g2 : Nat.gcd e ms.length ≤ e := Nat.gcd_le_left _ e1
    exact hmin _ g1 (by omega) ((pdOk_iff g1 (by omega)).mpr ⟨Nat.mod_eq_zero_of_dvd (Nat.gcd_dvd_right e _), hg⟩)
end K05

namespace K05
open PySem PySem.Spec PyProof.Rows L2 DL
theorem pat_lt {s l : List Int} {t : Nat} (h : t < s.length) : pat s l t = s.getD t 0 := if_pos h
theorem pat_ge {s l : List Int} {t : Nat} (h : s.length ≤ t) : pat s l t = per l (t - s.length) := if_neg (by omega)
theorem pat_per {s l : List Int} {t : Nat} (h : s.length ≤ t) : pat s l (t + l.length) = pat s l t := by
  rw [pat_ge h, pat_ge (by omega), show t + l.length - s.length = (t - s.length) + l.length by omega]
  exact per_per _
theorem mod_back {d j m : Nat} (hd : 0 < d) (hj : j < d * m) : (d * m - 1 - j) % d = d - 1 - j % d := by
  have e := Nat.div_add_mod j d
  have hv : j % d < d := Nat.mod_lt _ hd
  have hu : j / d < m := Nat.div_lt_of_lt_mul hj
  have e2 : d * m - 1 - j = (d - 1 - j % d) + d * (m - 1 - j / d) := by
    have e3 : d * m = d * (m - 1 - j / d) + d * (j / d) + d := by
      rw [← Nat.mul_add, ← Nat.mul_succ]
      congr 1
      omega
    omega
  rw [e2, Nat.add_mul_mod_self_left, Nat.mod_eq_of_lt (by omega)]
theorem getD_of_get {xs : List Int} {i : Nat} {o : Option Int} (h : xs[i]? = o) : xs.getD i 0 = o.getD 0 := by
  rw [List.getD_eq_getElem?_getD, h]
theorem per_lt {l : List Int} {i : Nat} (h : i < l.length) : per l i = l.getD i 0 := by
  unfold per
  rw [Nat.mod_eq_of_lt h]
theorem short_ok {s l s' l' : List Int} (h : Short s l s' l') (hl : l ≠ []) : Can s' l' ∧ (∀ t, pat s' l' t = pat s l t) ∧ s'.length ≤ s.length ∧ l'.length ≤ l.length := by
  obtain ⟨ms, b, hp, hne, hb, hall, hstop, rfl, rfl⟩ := h.ex
  obtain ⟨_, hle, hper, hmin⟩ := sper_ok hp hl
  generalize hd : ms.length = d at *
  have d0 : 0 < d := by rw [← hd]; exact List.length_pos_iff.mpr hne
  have hbm : b % d < d := Nat.mod_lt _ d0
  generalize ht : d - b % d = tn at *
  have t1 : 1 ≤ tn ∧ tn ≤ d := by omega
  have hlen : (ms.drop tn ++ ms.take tn).length = d := by rw [List.length_append, List.length_drop, List.length_take]; omega
  have hrot : ∀ i, per (ms.drop tn ++ ms.take tn) i = per l (i + tn) := fun i => by
    rw [← hper]
    unfold per
    rw [hlen, hd, rot_get (by omega) (by rw [hd]; exact Nat.mod_lt _ d0), hd, Nat.mod_add_mod]
  have hs' : (s.take (s.length - b)).length = s.length - b := by rw [List.length_take]; omega
  have perd : Per (per l) d := by rw [← hper, ← hd]; exact per_per
  have msget : ∀ i, i < d → ms.getD i 0 = per l i := fun i hi => by rw [← hper, per_lt (by omega)]
  have kt : ∀ k, per l (k + tn) = per l (k + d - b % d) := fun k => by rw [← ht]; congr 1; omega
  refine ⟨⟨fun z => ?_, fun e e1 e2 he => ?_, ?_⟩, fun t => ?_, by rw [hs']; omega, by rw [hlen]; exact hle⟩
  · rw [z] at hlen
    simp at hlen
    omega
  · rw [hlen] at e2
    have he := (rot_iff (by omega)).mp he
    refine hmin e e1 e2 fun i => ?_
    have := he (i + d - tn)
    rw [hrot, hrot, show i + d - tn + e + tn = i + e + d by omega, show i + d - tn + tn = i + d by omega, perd, perd] at this
    exact this
  · by_cases hbs : b < s.length
    · refine .inr fun z => hstop hbs ?_
      rw [List.getLast?_eq_getElem?, List.getLast?_eq_getElem?, hs', hlen] at z
      rw [List.getElem?_take_of_lt (by omega)] at z
      have e1 : s.length - b - 1 = s.length - 1 - b := by omega
      rw [e1] at z
      rw [z]
      have h1 : (ms.drop tn ++ ms.take tn).getD (d - 1) 0 = ms.getD (d - 1 - b % d) 0 := by
        rw [rot_get (by omega) (by omega), hd]
        congr 1
        have : d - 1 + tn = (d - 1 - b % d) + d := by omega
        rw [this, Nat.add_mod_right, Nat.mod_eq_of_lt (by omega)]
      have a1 : ∃ x, (ms.drop tn ++ ms.take tn)[d - 1]? = some x := ⟨_, List.getElem?_eq_getElem (by rw [hlen]; omega)⟩
      have a2 : ∃ x, ms[d - 1 - b % d]? = some x := ⟨_, List.getElem?_eq_getElem (by omega)⟩
      obtain ⟨x1, y1⟩ := a1
      obtain ⟨x2, y2⟩ := a2
      rw [getD_of_get y1, getD_of_get y2] at h1
      rw [y1, y2]
      exact congrArg some h1
    · left
      have : s.length - b = 0 := by omega
      rw [this, List.take_zero]
  · by_cases c1 : t < s.length - b
    · rw [pat_lt (by rw [hs']; exact c1), pat_lt (by omega), List.getD_eq_getElem?_getD, List.getD_eq_getElem?_getD, List.getElem?_take_of_lt c1]
    · rw [pat_ge (by rw [hs']; omega), hs', hrot]
      by_cases c2 : t < s.length
      · rw [pat_lt c2]
        have hj := hall (s.length - 1 - t) (by omega)
        rw [show s.length - 1 - (s.length - 1 - t) = t by omega] at hj
        have hx : d - 1 - (s.length - 1 - t) % d < d := by omega
        have e3 : ∃ x, ms[d - 1 - (s.length - 1 - t) % d]? = some x := ⟨_, List.getElem?_eq_getElem (by omega)⟩
        obtain ⟨x, ex⟩ := e3
        rw [getD_of_get hj, ← getD_of_get (xs := ms) rfl, msget _ hx]
        -- both places of the loop are the same
        have key : (t - (s.length - b) + tn) % d = d - 1 - (s.length - 1 - t) % d := by
          have e4 : t - (s.length - b) + tn = d * (b / d + 1) - 1 - (s.length - 1 - t) := by
            have := Nat.div_add_mod b d
            rw [Nat.mul_succ]
            omega
          rw [e4]
          apply mod_back d0
          have := Nat.div_add_mod b d
          rw [Nat.mul_succ]
          omega
        have e5 := (perd.mul ((t - (s.length - b) + tn) / d)) ((t - (s.length - b) + tn) % d)
        have e6 : (t - (s.length - b) + tn) % d + d * ((t - (s.length - b) + tn) / d) = t - (s.length - b) + tn := by
          have := Nat.div_add_mod (t - (s.length - b) + tn) d
          omega
        rw [e6] at e5
        rw [e5, key]
      · rw [pat_ge (by omega)]
        have e7 : t - (s.length - b) + tn = (t - s.length) + d * (b / d + 1) := by
          have := Nat.div_add_mod b d
          rw [Nat.mul_succ]
          omega
        rw [e7]
        exact (perd.mul _) _
/-- one play has one shortest lasso -/
theorem can_len {s l s' l' : List Int} (a : Can s l) (b : Can s' l') (h : ∀ t, pat s l t = pat s' l' t) : l.length ∣ l'.length := by
  have p0 : 0 < l.length := List.length_pos_iff.mpr a.ne
  have q0 : 0 < l'.length := List.length_pos_iff.mpr b.ne
  have hf : Per (fun i => pat s l (max s.length s'.length + i)) l.length ∧ Per (fun i => pat s l (max s.length s'.length + i)) l'.length := by
    constructor
    · intro i
      show pat s l (_ + (i + l.length)) = pat s l _
      rw [← Nat.add_assoc]
      exact pat_per (by omega)
    · intro i
      show pat s l (_ + (i + l'.length)) = pat s l _
      rw [← Nat.add_assoc, h, h]
      exact pat_per (by omega)
  obtain ⟨h1, h2⟩ := hf
  have hg := Per.gcd _ _ h1 h2
  have g1 : 1 ≤ Nat.gcd l.length l'.length := Nat.gcd_pos_of_pos_left _ p0
  have g2 : Nat.gcd l.length l'.length ≤ l.length := Nat.gcd_le_left _ p0
  by_cases c : Nat.gcd l.length l'.length = l.length
  · rw [← c]; exact Nat.gcd_dvd_right _ _
  · exfalso
    refine a.rot _ g1 (by omega) ((rot_iff g2).mpr fun j => ?_)
    have := hg (j + l.length * (max s.length s'.length) - (max s.length s'.length - s.length))
    have big : max s.length s'.length ≤ l.length * max s.length s'.length := Nat.le_mul_of_pos_left _ p0
    simp only at this
    rw [pat_ge (by omega), pat_ge (by omega)] at this
    rw [show max s.length s'.length + (j + l.length * max s.length s'.length - (max s.length s'.length - s.length) + Nat.gcd l.length l'.length) - s.length = (j + Nat.gcd l.length l'.length) + l.length * max s.length s'.length by omega,
      show max s.length s'.length + (j + l.length * max s.length s'.length - (max s.length s'.length - s.length)) - s.length = j + l.length * max s.length s'.length by omega, per_per.mul, per_per.mul] at this
    exact this
theorem can_stem {s l s' l' : List Int} (a : Can s l) (b : Can s' l') (h : ∀ t, pat s l t = pat s' l' t) (e : l.length = l'.length) : s'.length ≤ s.length := by
  have q0 : 0 < l'.length := List.length_pos_iff.mpr b.ne
  by_cases c : s'.length ≤ s.length
  · exact c
  · exfalso
    have hl : s' ≠ [] := fun z => by rw [z] at c; simp at c
    rcases b.last with z | z
    · exact hl z
    · apply z
      have h1 := pat_per (s := s) (l := l) (t := s'.length - 1) (by omega)
      rw [h, h, e, pat_ge (by omega), pat_lt (by omega)] at h1
      rw [show s'.length - 1 + l'.length - s'.length = l'.length - 1 by omega, per_lt (by omega)] at h1
      rw [List.getLast?_eq_getElem?, List.getLast?_eq_getElem?]
      rw [List.getD_eq_getElem?_getD, List.getD_eq_getElem?_getD] at h1
      rw [List.getElem?_eq_getElem (by omega : l'.length - 1 < l'.length), List.getElem?_eq_getElem (by omega : s'.length - 1 < s'.length)] at h1 ⊢
      simp only [Option.getD_some] at h1
      rw [h1]
theorem can_unique {s l s' l' : List Int} (a : Can s l) (b : Can s' l') (h : ∀ t, pat s l t = pat s' l' t) : s = s' ∧ l = l' := by
  have e : l.length = l'.length := Nat.dvd_antisymm (can_len a b h) (can_len b a fun t => (h t).symm)
  have e2 : s.length = s'.length := Nat.le_antisymm (can_stem b a (fun t => (h t).symm) e.symm) (can_stem a b h e)
  refine ⟨ext_getD e2 fun i hi => ?_, ext_getD e fun i hi => ?_⟩
  · have := h i
    rw [pat_lt hi, pat_lt (by omega)] at this
    exact this
  · have := h (s.length + i)
    rw [pat_ge (by omega), pat_ge (by omega), e2, Nat.add_sub_cancel_left, per_lt hi, per_lt (by omega)] at this
    exact this
theorem pat_bound {s l s' l' : List Int} (h1 : l ≠ []) (h2 : l' ≠ []) (h : ∀ t, t < max s.length s'.length + l.length + l'.length → pat s l t = pat s' l' t) : ∀ t, pat s l t = pat s' l' t := by
  have p0 : 0 < l.length := List.length_pos_iff.mpr h1
  have q0 : 0 < l'.length := List.length_pos_iff.mpr h2
  intro t
  induction t using Nat.strongRecOn with
  | ind t ih =>
    by_cases c : t < max s.length s'.length + l.length + l'.length
    · exact h t c
    · have a1 := pat_per (s := s) (l := l) (t := t - l.length) (by omega)
      rw [show t - l.length + l.length = t by omega] at a1
      have a2 := ih (t - l.length) (by omega)
      have a3 := pat_per (s := s') (l := l') (t := t - l.length - l'.length) (by omega)
      rw [show t - l.length - l'.length + l'.length = t - l.length by omega] at a3
      have a4 := ih (t - l.length - l'.length) (by omega)
      have a5 := pat_per (s := s) (l := l) (t := t - l'.length - l.length) (by omega)
      rw [show t - l'.length - l.length + l.length = t - l'.length by omega] at a5
      have a6 := ih (t - l'.length) (by omega)
      have a7 := pat_per (s := s') (l := l') (t := t - l'.length) (by omega)
      rw [show t - l'.length + l'.length = t by omega] at a7
      rw [a1, a2, a3, ← a4, show t - l.length - l'.length = t - l'.length - l.length by omega, ← a5, a6, ← a7]
end K05

namespace K05
open PySem PySem.Spec PyProof.Rows L2 DL
/-! ### the drawn numbers -/
def bagL (g : Addr) (i x s c : Int) : DO := .lst [.ref g, .int i, .int x, .int s, .int c]
structure BagOk (gs : List Int) (i x s c : Int) (n : Nat) : Prop where
  i0 : 0 ≤ i
  i1 : i ≤ gs.length
  gs0 : ∀ z ∈ gs, 0 ≤ z
  x0 : 0 ≤ x
  s0 : 0 ≤ s
  s1 : s < 2147483647
  c0 : 0 ≤ c
  c1 : c ≤ n
  gl : gs.length ≤ 63
def Bag (H : DH) (b g : Addr) (n : Nat) : Prop := ∃ gs i x s c, g ≠ b ∧ H b = some (bagL g i x s c) ∧ H g = some (.lst (gs.map D.int)) ∧ BagOk gs i x s c n
def Off (b : Addr) (H H' : DH) : Prop := ∀ a, a ≠ b → H' a = H a
theorem Off.refl {b : Addr} {H : DH} : Off b H H := fun _ _ => rfl
theorem Off.trans {b : Addr} {H H1 H2 : DH} (a : Off b H H1) (c : Off b H1 H2) : Off b H H2 := fun x h => (c x h).trans (a x h)
theorem Off.put {b : Addr} {H : DH} {o : DO} : Off b H (put H b o) := fun a h => put_ne h
theorem Bag.mono {H : DH} {b g : Addr} {n m : Nat} (h : Bag H b g n) (l : n ≤ m) : Bag H b g m := by
  obtain ⟨gs, i, x, s, c, ne, h1, h2, ok⟩ := h
  exact ⟨gs, i, x, s, c, ne, h1, h2, { ok with c1 := by have := ok.c1; omega }⟩
/-- another object is made, or changed -/
theorem Bag.keep {H H' : DH} {b g : Addr} {n : Nat} (h : Bag H b g n) (k : ∀ a o, H a = some o → H' a = some o) : Bag H' b g n := by
  obtain ⟨gs, i, x, s, c, ne, h1, h2, ok⟩ := h
  exact ⟨gs, i, x, s, c, ne, k _ _ h1, k _ _ h2, ok⟩
theorem Bag.there {H : DH} {b g : Addr} {n : Nat} (h : Bag H b g n) : (∃ xs, H b = some (.lst xs)) ∧ ∃ xs, H g = some (.lst xs) := by
  obtain ⟨gs, i, x, s, c, ne, h1, h2, ok⟩ := h
  exact ⟨⟨_, h1⟩, _, h2⟩
theorem Bag.put {H : DH} {b g p : Addr} {n : Nat} {o : DO} (h : Bag H b g n) (hp : H p = none) : Bag (put H p o) b g n := h.keep fun a u e => put_old e hp
theorem Bag.putNe {H : DH} {b g p : Addr} {n : Nat} {o : DO} (h : Bag H b g n) (n1 : p ≠ b) (n2 : p ≠ g) : Bag (DL.put H p o) b g n := by
  obtain ⟨gs, i, x, s, c, ne, h1, h2, ok⟩ := h
  exact ⟨gs, i, x, s, c, ne, (put_ne n1.symm).trans h1, (put_ne n2.symm).trans h2, ok⟩
def sp_take : DSp := fun ds H Q _ => ∃ b g m n, ds = [.ref b, .int m] ∧ Bag H b g n ∧ n < 1000000 ∧ 0 < m ∧ m < 1000000000 ∧ ∀ z H', 0 ≤ z → z < m → Off b H H' → Bag H' b g (n + 1) → Q (.int z) H'
section
variable {P : Program} {w : World} {K : PySem.W.Frag} {mg : Str → Option Value} {base : Heap}
theorem ok_take (T : Txt P K mg) : DFn P w K mg base 3 T.f__law_take T.d__law_take ps__law_take sp_take := by
  refine fn__law_take (k := 0) T (fun ds H Q E h => ?_) (fun ds H Q E h => ?_)
  · obtain ⟨b, g, m, n, rfl, _⟩ := h; rfl
  · obtain ⟨b, g, m, n, rfl, ⟨gs, i, x, s, c, gb, hb, hg, ok⟩, hn, m0, m1, q⟩ := h
    unfold bagL at hb
    unfold rd__law_take
    -- behind the first part
    have rest : ∀ (H1 : DH) (i1 x1 : Int), Off b H H1 → H1 b = some (bagL g i1 x1 s c) → 0 ≤ i1 → i1 ≤ gs.length → 0 ≤ x1 →
        (dSeq (dIfS (dTest (dOp (dI0 fun i j => .bl (decide (j < i))) (dOp dIx (dVar 0) (dC (.int 2))) (dC (.int 1)))) (dSeq (dSet (dOp (dI (fun _ j => 0 < j) fun i j => .int (i % j)) (dCB dInt (dCons (dOp dIx (dVar 0) (dC (.int 2))) dNil)) (dVar 1)) 4) (dSeq (dAsg (dOp (dI CDv fun i j => .int (i / j)) (dOp dIx (dVar 0) (dC (.int 2))) (dVar 1)) (gIx (dVar 0) (dC (.int 2)))) (dRet (dVar 4)))) dNext) (dSeq (dAsg (dOp dAdd (dOp dIx (dVar 0) (dC (.int 4))) (dC (.int 1))) (gIx (dVar 0) (dC (.int 4)))) (dSeq (dSet (dOp (dI (fun _ j => 0 < j) fun i j => .int (i % j)) (dCB dInt (dCons (dOp dMul (dOp dAdd (dOp dIx (dVar 0) (dC (.int 3))) (dOp dIx (dVar 0) (dC (.int 4)))) (dC (.int 48271))) dNil)) (dC (.int 2147483647))) 2) (dSeq (dAsg (dVar 2) (gIx (dVar 0) (dC (.int 3)))) (dSeq (dSet (dOp (dI (fun _ j => 0 < j) fun i j => .int (i % j)) (dCB dInt (dCons (dOp dMul (dOp dAdd (dOp (dI CDv fun i j => .int (i / j)) (dVar 2) (dC (.int 3))) (dOp dMul (dOp dIx (dVar 0) (dC (.int 4))) (dOp dIx (dVar 0) (dC (.int 4))))) (dC (.int 69621))) dNil)) (dC (.int 2147483629))) 3) (dRet (dOp (dI (fun _ j => 0 < j) fun i j => .int (i % j)) (dOp (dI CDv fun i j => .int (i / j)) (dVar 3) (dC (.int 16))) (dVar 1))))))))
        (endsOf Q E) (startD N__law_take [.ref b, .int m]) H1 := fun H1 i1 x1 off hb1 i10 i11 x10 => by
      have bag : ∀ (s2 c2 x2 : Int) (n2 : Nat) (u : DH), 0 ≤ x2 → 0 ≤ s2 → s2 < 2147483647 → 0 ≤ c2 → c2 ≤ n2 → Off b H1 u → u b = some (bagL g i1 x2 s2 c2) → Bag u b g n2 := fun s2 c2 x2 n2 u h1 h2 h3 h4 h5 h6 h7 =>
        ⟨gs, i1, x2, s2, c2, gb, h7, by rw [h6 g gb, off g gb]; exact hg, i10, i11, ok.gs0, h1, h2, h3, h4, h5, ok.gl⟩
      have c0 := ok.c0
      have c1 := ok.c1
      unfold bagL at hb1
      walk_at "dxs"
      refine x_ite (fun d => ?_) fun d => ?_
      · walk_at "dxs"
        refine x_i m0 ?_
        walk_at "dxs"
        refine x_i (.inl ⟨m0, by omega⟩) ?_
        walk_at "dxs"
        have o2 : Off b H1 (DL.put H1 b (.lst [.ref g, .int i1, .int (x1 / m), .int s, .int c])) := Off.put
        refine ⟨_, Sub.refl _, q _ _ (Int.emod_nonneg _ (by omega)) (Int.emod_lt_of_pos _ m0) (off.trans o2) (bag s c (x1 / m) (n + 1) _ (Int.ediv_nonneg x10 (by omega)) ok.s0 ok.s1 c0 (by omega) o2 put_same)⟩
      · walk_at "dxs"
        refine x_mulI (.inl (.inr ⟨by decide, by decide⟩)) ?_
        walk_at "dxs"
        refine x_i (by decide) ?_
        walk_at "dxs"
        generalize hf : (s + (c + 1)) * 48271 % 2147483647 = f1
        have f0 : 0 ≤ f1 ∧ f1 < 2147483647 := by omega
        refine x_i (.inl ⟨by decide, by decide⟩) ?_
        walk_at "dxs"
        refine x_mulI (.inl (.inl ⟨by omega, by omega⟩)) ?_
        walk_at "dxs"
        refine x_mulI (.inl (.inr ⟨by decide, by decide⟩)) ?_
        walk_at "dxs"
        refine x_i (by decide) ?_
        walk_at "dxs"
        refine x_i (.inl ⟨by decide, by decide⟩) ?_
        walk_at "dxs"
        refine x_i m0 ?_
        have o2 : Off b H1 (DL.put (DL.put H1 b (.lst [.ref g, .int i1, .int x1, .int s, .int (c + 1)])) b (.lst [.ref g, .int i1, .int x1, .int f1, .int (c + 1)])) := Off.put.trans Off.put
        refine ⟨_, Sub.refl _, q _ _ (Int.emod_nonneg _ (by omega)) (Int.emod_lt_of_pos _ m0) (off.trans o2) (bag f1 (c + 1) x1 (n + 1) _ x10 f0.1 f0.2 (by omega) (by omega) o2 put_same)⟩
    have i0 := ok.i0
    have i1 := ok.i1
    have x0 := ok.x0
    refine x_ifJ ?_
    walk_at "dxs"
    refine x_ite (fun d => ?_) fun d => ?_
    · walk_at "dxs"
      rw [List.length_map]
      refine x_ite (fun d2 => ?_) fun d2 => ?_
      · have d2 : i < (gs.length : Int) := of_decide_eq_true d2
        obtain ⟨k, rfl⟩ := Int.eq_ofNat_of_zero_le i0
        obtain ⟨z, hz⟩ : ∃ z, gs[k]? = some z := ⟨gs[k]'(by omega), by simp⟩
        have hz2 : L2.atI (gs.map D.int) (k : Int) = some (.int z) := atI_nat (by rw [List.getElem?_map, hz]; rfl)
        walk_at "dxs"
        refine rest _ (k + 1) z (Off.put.trans Off.put) put_same (by omega) (by omega) (ok.gs0 z (List.mem_of_getElem? hz))
      · walk_at "dxs"
        exact rest H i x Off.refl hb i0 i1 x0
    · walk_at "dxs"
      exact rest H i x Off.refl hb i0 i1 x0
end
end K05

namespace K05
open PySem PySem.Spec PyProof.Rows L2 DL
def Keep (b : Addr) (H H' : DH) : Prop := ∀ a o, a ≠ b → H a = some o → H' a = some o
theorem Keep.refl {b : Addr} {H : DH} : Keep b H H := fun _ _ _ e => e
theorem Keep.trans {b : Addr} {H H1 H2 : DH} (a : Keep b H H1) (c : Keep b H1 H2) : Keep b H H2 := fun x o n e => c x o n (a x o n e)
theorem Keep.off {b : Addr} {H H' : DH} (h : Off b H H') : Keep b H H' := fun a o n e => (h a n).trans e
theorem Keep.put {b p : Addr} {H H' : DH} {o : DO} (h : Keep b H H') (hp : H p = none) : Keep b H (DL.put H' p o) := fun a u n e => by rw [put_ne (dne_of_none e hp)]; exact h a u n e
theorem Keep.new {b p : Addr} {H : DH} {o : DO} (h : H p = none) : Keep b H (DL.put H p o) := fun a u n e => put_old e h
abbrev lasD (s l : List Int) : DL.D := .tup [.tup (s.map D.int), .tup (l.map D.int)]
def sp_bag : DSp := fun ds H Q _ => ∃ ns : List Int, ds = [.fl (ns.map D.int)] ∧ ns.length ≤ 63 ∧ ∀ b g H', Sub H H' → H b = none → H g = none → Bag H' b g 0 → Q (.ref b) H'
def sp_places : DSp := fun ds H Q _ => ∃ b g me k n ms, ds = [.ref b, .ref me, .int ((k : Nat) : Int)] ∧ Bag H b g n ∧ me ≠ b ∧ H me = some (.lst (ms.map D.int)) ∧ ms ≠ [] ∧ ms.length ≤ 1000 ∧ k ≤ 1000 ∧ n ≤ 500000 ∧
  ∀ (xs : List Int) p H', xs.length = k → Keep b H H' → H p = none → H' p = some (.lst (xs.map D.int)) → Bag H' b g (n + k) → Q (.ref p) H'
def sp_lasso : DSp := fun ds H Q _ => ∃ b g n, ds = [.ref b] ∧ Bag H b g n ∧ n ≤ 100000 ∧ ∀ s l H', Keep b H H' → Bag H' b g (n + 50) → s.length ≤ 100 → l.length ≤ 100 → l ≠ [] → Q (lasD s l) H'
def sp_place_at : DSp := fun ds H Q _ => ∃ s l t τ, ds = [lasD s l, .int τ] ∧ τ = ((t : Nat) : Int) ∧ l ≠ [] ∧ Q (.int (pat s l t)) H
section
variable {P : Program} {w : World} {K : PySem.W.Frag} {mg : Str → Option Value} {base : Heap}
theorem ok_bag (T : Txt P K mg) : DFn P w K mg base 3 T.f__law_bag T.d__law_bag ps__law_bag sp_bag := by
  refine fn__law_bag (k := 0) T (fun ds H Q E h => ?_) (fun ds H Q E h => ?_)
  · obtain ⟨ns, rfl, _⟩ := h; rfl
  · obtain ⟨ns, rfl, hl, q⟩ := h
    unfold rd__law_bag
    walk_at "dxs"
    intro g hg
    walk_at "dxs"
    intro c hc
    have ncg : c ≠ g := fun e => by rw [e, put_same] at hc; cases hc
    have hc0 : H c = none := by rw [put_ne ncg] at hc; exact hc
    walk_at "dxs"
    have ecut : DL.cut (ns.map D.int) none (some 63) = ns.map D.int := by
      unfold DL.cut
      rw [HT.sIx_none, show (63 : Int) = ((63 : Nat) : Int) from rfl, HT.sIx_nat, List.length_map, List.drop_zero, Nat.sub_zero, List.take_of_length_le]
      rw [List.length_map]
      omega
    rw [ecut]
    refine forLst (ds := ns.map D.int) (fun i σ H' => ∃ (gs : List Int) (s : Int) (o3 o4 : Option DL.D), σ = [some (.fl (ns.map D.int)), some (.ref g), some (.int s), o3, o4] ∧ H' c = some (.lst (ns.map D.int)) ∧ H' g = some (.lst (gs.map D.int)) ∧ gs.length ≤ i ∧ (∀ z ∈ gs, 0 ≤ z) ∧ 0 ≤ s ∧ s < 2147483647 ∧ Sub H H') ?_ (fun i σ H' h => ?_) ?_ ?_
    · exact ⟨[], 11, _, _, rfl, put_same, by rw [put_ne ncg.symm]; exact put_same, Nat.le_refl _, by simp, by decide, by decide, (Sub.new hg).trans (Sub.new hc)⟩
    · obtain ⟨gs, s, o3, o4, _, h, _⟩ := h; exact h
    · rintro i x σ H' hx ⟨gs, s, o3, o4, rfl, h1, h2, h3, h4, h5, h6, h7⟩
      rw [List.getElem?_map] at hx
      obtain ⟨n, hn, rfl⟩ := Option.map_eq_some_iff.mp hx
      have hi : i < ns.length := (List.getElem?_eq_some_iff.mp hn).1
      walk_at "dxs"
      refine x_i ⟨by decide, by decide, by decide⟩ ?_
      walk_at "dxs"
      have p60 : (0 : Int) < 10 ^ (Int.toNat 60) := Int.pow_pos (by decide)
      refine x_i p60 ?_
      generalize hz : n % 10 ^ (Int.toNat 60) = z
      have z0 : 0 ≤ z := by rw [← hz]; exact Int.emod_nonneg _ (Int.ne_of_gt p60)
      walk_at "dxs"
      refine x_i ⟨by decide, by decide, by decide⟩ ?_
      walk_at "dxs"
      have last : ∀ (gs2 : List Int) (H2 : DH), H2 c = some (.lst (ns.map D.int)) → H2 g = some (.lst (gs2.map D.int)) → gs2.length ≤ i + 1 → (∀ z ∈ gs2, 0 ≤ z) → Sub H H2 → ∃ (gs : List Int) (s2 : Int) (o3 o4 : Option DL.D), [some (.fl (ns.map D.int)), some (.ref g), some (.int ((s * 48271 + z + 1) % 2147483647)), some (.int n), some (.int z)] = [some (.fl (ns.map D.int)), some (.ref g), some (.int s2), o3, o4] ∧ H2 c = some (.lst (ns.map D.int)) ∧ H2 g = some (.lst (gs.map D.int)) ∧ gs.length ≤ i + 1 ∧ (∀ z ∈ gs, 0 ≤ z) ∧ 0 ≤ s2 ∧ s2 < 2147483647 ∧ Sub H H2 :=
        fun gs2 H2 a1 a2 a3 a4 a5 => ⟨gs2, _, _, _, rfl, a1, a2, a3, a4, Int.emod_nonneg _ (by decide), Int.emod_lt_of_pos _ (by decide), a5⟩
      have hgl : (gs.map D.int).length < sizeLine := by rw [List.length_map, sizeLine_eq]; omega
      refine x_ite (fun d => ?_) fun d => ?_
      · walk_at "dxs"
        refine x_mulI (.inl (.inr ⟨by decide, by decide⟩)) ?_
        walk_at "dxs"
        refine x_i (by decide) ?_
        walk_at "dxs"
        refine last (gs ++ [z]) _ ((put_ne ncg).trans h1) (by rw [put_same, List.map_append]; rfl) (by rw [List.length_append]; simp; omega) (fun y hy => ?_) fun a o e => ?_
        · rcases List.mem_append.mp hy with hy | hy
          · exact h4 y hy
          · rw [List.mem_singleton.mp hy]; exact z0
        · rw [put_ne (dne_of_none e hg)]
          exact h7 a o e
      · walk_at "dxs"
        refine x_mulI (.inl (.inr ⟨by decide, by decide⟩)) ?_
        walk_at "dxs"
        refine x_i (by decide) ?_
        walk_at "dxs"
        exact last gs H' h1 h2 (by omega) h4 h7
    · rintro σ H' ⟨gs, s, o3, o4, rfl, h1, h2, h3, h4, h5, h6, h7⟩
      walk_at "dxs"
      intro b hb
      have nbg : g ≠ b := fun e => by rw [← e, h2] at hb; cases hb
      refine ⟨_, Sub.refl _, q b g _ (fun a o e => put_old (h7 a o e) hb) (h7.free hb) hg ⟨gs, 0, 0, s, 0, nbg, put_same, (put_ne nbg).trans h2, ⟨Int.le_refl _, by omega, h4, Int.le_refl _, h5, h6, Int.le_refl _, Int.le_refl _, by rw [List.length_map] at h3; omega⟩⟩⟩
theorem ok_place_at (T : Txt P K mg) : DFn P w K mg base 3 T.f__law_place_at T.d__law_place_at ps__law_place_at sp_place_at := by
  refine fn__law_place_at (k := 0) T (fun ds H Q E h => ?_) (fun ds H Q E h => ?_)
  · obtain ⟨s, l, t, τ, rfl, _⟩ := h; rfl
  · obtain ⟨s, l, t, τ, rfl, rfl, hl, q⟩ := h
    have l0 : 0 < l.length := List.length_pos_iff.mpr hl
    unfold rd__law_place_at lasD
    walk_at "dxs"
    rw [List.length_map]
    refine x_ite (fun d => ?_) fun d => ?_
    · have d : (t : Int) < (s.length : Int) := of_decide_eq_true d
      have d' : t < s.length := by omega
      have hx : L2.atI (s.map D.int) (t : Int) = some (.int (pat s l t)) := atI_nat (by rw [List.getElem?_map, List.getElem?_eq_getElem d', pat_lt d', List.getD_eq_getElem?_getD, List.getElem?_eq_getElem d']; rfl)
      walk_at "dxs"
      exact ⟨_, Sub.refl _, q⟩
    · have d : ¬ (t : Int) < (s.length : Int) := of_decide_eq_false d
      walk_at "dxs"
      rw [List.length_map, List.length_map]
      refine x_i (by omega) ?_
      have e : ((t : Int) - (s.length : Int)) % (l.length : Int) = (((t - s.length) % l.length : Nat) : Int) := by
        rw [show (t : Int) - (s.length : Int) = ((t - s.length : Nat) : Int) by omega]
        simp
      rw [e]
      have hm : (t - s.length) % l.length < l.length := Nat.mod_lt _ l0
      have hx : L2.atI (l.map D.int) (((t - s.length) % l.length : Nat) : Int) = some (.int (pat s l t)) := atI_nat (by rw [List.getElem?_map, List.getElem?_eq_getElem hm, pat_ge (by omega), per, List.getD_eq_getElem?_getD, List.getElem?_eq_getElem hm]; rfl)
      walk_at "dxs"
      exact ⟨_, Sub.refl _, q⟩
end
end K05

namespace K05
open PySem PySem.Spec PyProof.Rows L2 DL
theorem ix_ints {ms : List Int} {z : Int} (h0 : 0 ≤ z) (h1 : z < (ms.length : Int)) : ∃ x, L2.atI (ms.map D.int) z = some (.int x) := by
  obtain ⟨k, rfl⟩ := Int.eq_ofNat_of_zero_le h0
  have hk : k < ms.length := by omega
  exact ⟨ms[k], atI_nat (by rw [List.getElem?_map, List.getElem?_eq_getElem hk]; rfl)⟩
section
variable {P : Program} {w : World} {K : PySem.W.Frag} {mg : Str → Option Value} {base : Heap}
theorem ok_places (T : Txt P K mg) : DFn P w K mg base 6 T.f__law_places T.d__law_places ps__law_places sp_places := by
  refine fn__law_places (k := 3) T (ok_take T) (fun ds H Q E h => ?_) (fun ds H Q E h => ?_)
  · obtain ⟨b, g, me, k, n, ms, rfl, _⟩ := h; rfl
  · obtain ⟨b, g, me, k, n, ms, rfl, hB, nmb, hm, mne, ml, kl, nl, q⟩ := h
    have m0 : 0 < ms.length := List.length_pos_iff.mpr mne
    unfold rd__law_places
    walk_at "dxs"
    refine x_rng1At rfl (by omega) ?_
    intro p hp
    obtain ⟨⟨_, hbl⟩, _, hgl⟩ := hB.there
    have npb : p ≠ b := fun e => by rw [e, hbl] at hp; cases hp
    have npg : p ≠ g := fun e => by rw [e, hgl] at hp; cases hp
    refine lcRng (W := fun i H' => ∃ xs : List Int, xs.length = i ∧ Keep b H H' ∧ H' p = some (.lst (xs.map D.int)) ∧ Bag H' b g (n + i)) ⟨[], rfl, Keep.new hp, put_same, hB.put hp⟩ ?_ ?_
    · rintro i H' hi ⟨xs, hl, hk, hx, hB'⟩
      have hm' := hk me _ nmb hm
      walk_at "dxs"
      rw [List.length_map]
      refine ⟨b, g, _, n + i, rfl, hB', by omega, by omega, by omega, fun z H2 z0 z1 off hB2 => ?_⟩
      obtain ⟨x, hx2⟩ := ix_ints z0 z1
      have hm2 := (off me nmb).trans hm'
      have hp2 := (off p npb).trans hx
      have hl2 : (xs.map D.int).length < sizeLine := by rw [List.length_map, sizeLine_eq]; omega
      walk_at "dxs"
      refine ⟨_, hp2, hl2, xs ++ [x], by rw [List.length_append, hl]; rfl, (hk.trans (Keep.off off)).put hp, by rw [put_same, List.map_append]; rfl, ?_⟩
      exact (hB2.mono (by omega)).putNe npb npg
    · rintro H' ⟨xs, hl, hk, hx, hB'⟩
      exact ⟨_, Sub.refl _, q xs p H' hl hk hp hx hB'⟩
theorem ok_lasso (T : Txt P K mg) : DFn P w K mg base 9 T.f__law_lasso T.d__law_lasso ps__law_lasso sp_lasso := by
  refine fn__law_lasso (k := 6) T ((ok_take T).mono (by decide)) (ok_places T) (fun ds H Q E h => ?_) (fun ds H Q E h => ?_)
  · obtain ⟨b, g, n, rfl, _⟩ := h; rfl
  · obtain ⟨b, g, n, rfl, hB, nl, q⟩ := h
    unfold rd__law_lasso
    walk_at "dxs"
    refine ⟨b, g, _, n, rfl, hB, by omega, by decide, by decide, fun z1 H1 z10 z11 off1 hB1 => ?_⟩
    walk_at "dxs"
    refine x_rng1At (n := (1 + z1).toNat) (by omega) (by omega) ?_
    intro p hp
    obtain ⟨⟨_, hbl⟩, _, hgl⟩ := hB1.there
    have npb : p ≠ b := fun e => by rw [e, hbl] at hp; cases hp
    have npg : p ≠ g := fun e => by rw [e, hgl] at hp; cases hp
    refine lcRng (W := fun i H' => ∃ xs : List Int, xs.length = i ∧ Keep b H1 H' ∧ H' p = some (.lst (xs.map D.int)) ∧ Bag H' b g (n + 1 + i)) ⟨[], rfl, Keep.new hp, put_same, hB1.put hp⟩ ?_ ?_
    · rintro i H' hi ⟨xs, hl, hk, hx, hB'⟩
      walk_at "dxs"
      refine ⟨b, g, _, n + 1 + i, rfl, hB', by omega, by decide, by decide, fun z H2 z0 z1 off hB2 => ?_⟩
      have hp2 := (off p npb).trans hx
      have hl2 : (xs.map D.int).length < sizeLine := by rw [List.length_map, sizeLine_eq]; omega
      exact ⟨_, hp2, hl2, xs ++ [z], by rw [List.length_append, hl]; rfl, (hk.trans (Keep.off off)).put hp, by rw [put_same, List.map_append]; rfl, (hB2.mono (by omega)).putNe npb npg⟩
    · rintro H2 ⟨ms, hl, hk, hm, hB2⟩
      have mpos : ms ≠ [] := fun e => by rw [e] at hl; simp at hl; omega
      walk_at "dxs"
      refine ⟨b, g, _, _, rfl, hB2, by omega, by decide, by decide, fun z3 H3 z30 z31 off3 hB3 => ?_⟩
      obtain ⟨k3, rfl⟩ := Int.eq_ofNat_of_zero_le z30
      walk_at "dxs"
      refine ⟨b, g, p, k3, _, ms, rfl, hB3, npb, (off3 p npb).trans hm, mpos, by omega, by omega, by omega, fun s st H4 hs hk4 hst0 hst hB4 => ?_⟩
      walk_at "dxs"
      refine ⟨b, g, _, _, rfl, hB4, by omega, by decide, by decide, fun z5 H5 z50 z51 off5 hB5 => ?_⟩
      walk_at "dxs"
      have hm5 : H5 p = some (.lst (ms.map D.int)) := (off5 p npb).trans (hk4 p _ npb ((off3 p npb).trans hm))
      refine ⟨b, g, p, (1 + z5).toNat, _, ms, by rw [Int.toNat_of_nonneg (by omega)]; rfl, hB5, npb, hm5, mpos, by omega, by omega, by omega, fun l lo H6 hlo hk6 hlo0 hlo6 hB6 => ?_⟩
      obtain ⟨⟨_, hbl4⟩, _, hgl4⟩ := hB3.there
      have nsb : st ≠ b := fun e => by rw [e, hbl4] at hst0; cases hst0
      obtain ⟨⟨_, hbl5⟩, _, hgl5⟩ := hB5.there
      have nlb : lo ≠ b := fun e => by rw [e, hbl5] at hlo0; cases hlo0
      have hst6 : H6 st = some (.lst (s.map D.int)) := hk6 _ _ nsb ((off5 st nsb).trans hst)
      have hkk : Keep b H H6 := (((((Keep.off off1).trans hk).trans (Keep.off off3)).trans hk4).trans (Keep.off off5)).trans hk6
      have lne : l ≠ [] := fun e => by rw [e] at hlo; simp at hlo; omega
      walk_at "dxs"
      refine ⟨b, g, _, _, rfl, hB6, by omega, by decide, by decide, fun z7 H7 z70 z71 off7 hB7 => ?_⟩
      have hst7 := (off7 st nsb).trans hst6
      have hlo7 := (off7 lo nlb).trans hlo6
      have hk7 : Keep b H H7 := hkk.trans (Keep.off off7)
      have cases3 : z7 = 0 ∨ z7 = 1 ∨ z7 = 2 := by omega
      rcases cases3 with rfl | rfl | rfl
      · walk_at "dxs"
        refine x_eqI ?_
        walk_at "dxs"
        refine ⟨b, g, _, _, rfl, hB7, by omega, by decide, by decide, fun z8 H8 z80 z81 off8 hB8 => ?_⟩
        have hst8 := (off8 st nsb).trans hst7
        have hlo8 := (off8 lo nlb).trans hlo7
        walk_at "dxs"
        have hln : l.length ≤ 12 := by omega
        refine x_mulL hlo8 ⟨by omega, by omega⟩ ?_ ?_
        · rw [List.length_map, sizeLine_eq]
          have : l.length * (1 + z8).toNat ≤ 12 * 5 := Nat.mul_le_mul hln (by omega)
          omega
        intro l2 hl2
        walk_at "dxs"
        refine x_eqI ?_
        walk_at "dxs"
        have em : (List.replicate (1 + z8).toNat (l.map D.int)).flatten = ((List.replicate (1 + z8).toNat l).flatten).map D.int := by simp [List.map_flatten]
        rw [em]
        refine ⟨_, Sub.refl _, q s _ _ ((hk7.trans (Keep.off off8)).trans (Keep.new hl2)) ((hB8.mono (by omega)).put hl2) (by omega) ?_ ?_⟩
        · have hlen : (List.replicate (1 + z8).toNat l).flatten.length = (1 + z8).toNat * l.length := by simp
          have : (1 + z8).toNat * l.length ≤ 5 * 12 := Nat.mul_le_mul (by omega) hln
          omega
        · intro e
          have hlen : (List.replicate (1 + z8).toNat l).flatten.length = (1 + z8).toNat * l.length := by simp
          rw [e, List.length_nil] at hlen
          have := Nat.mul_pos (show 0 < (1 + z8).toNat by omega) (List.length_pos_iff.mpr lne)
          omega
      · walk_at "dxs"
        refine x_eqI ?_
        walk_at "dxs"
        refine x_eqI ?_
        walk_at "dxs"
        refine x_addL hlo7 hlo7 (by rw [List.length_map, sizeLine_eq]; omega) ?_
        intro l2 hl2
        obtain ⟨⟨_, hbl7⟩, _, hgl7⟩ := hB7.there
        have n2b : l2 ≠ b := fun e => by rw [e, hbl7] at hl2; cases hl2
        have hlo72 : put H7 l2 (.lst (l.map D.int ++ l.map D.int)) lo = some (.lst (l.map D.int)) := put_old hlo7 hl2
        walk_at "dxs"
        rw [List.length_map]
        refine ⟨b, g, _, _, rfl, hB7.put hl2, by omega, by omega, by omega, fun z8 H8 z80 z81 off8 hB8 => ?_⟩
        have hl28 := (off8 l2 n2b).trans put_same
        have hst8 := (off8 st nsb).trans (put_old hst7 hl2)
        have hlo8 := (off8 lo nlb).trans hlo72
        obtain ⟨k8, rfl⟩ := Int.eq_ofNat_of_zero_le z80
        walk_at "dxs"
        intro l3 hl3
        rw [← List.map_append, cut_drop (by rw [List.length_map, List.length_append]; omega), ← List.map_drop]
        have hst9 : put H8 l3 (.lst (((l ++ l).drop k8).map D.int)) st = some (.lst (s.map D.int)) := put_old hst8 hl3
        have hlo9 : put H8 l3 (.lst (((l ++ l).drop k8).map D.int)) lo = some (.lst (l.map D.int)) := put_old hlo8 hl3
        have dl : ((l ++ l).drop k8).length ≤ 24 := by rw [List.length_drop, List.length_append]; omega
        refine x_addL hst9 put_same (by rw [List.length_map, List.length_map, sizeLine_eq]; omega) ?_
        intro l4 hl4
        rw [← List.map_append]
        have hlo10 := put_old (o := .lst ((s ++ (l ++ l).drop k8).map D.int)) hlo9 hl4
        walk_at "dxs"
        refine ⟨_, Sub.refl _, q (s ++ (l ++ l).drop k8) l _ ((((hk7.trans (Keep.new hl2)).trans (Keep.off off8)).trans (Keep.new hl3)).trans (Keep.new hl4)) (((hB8.mono (by omega)).put hl3).put hl4) (by rw [List.length_append]; omega) (by omega) lne⟩
      · walk_at "dxs"
        refine x_eqI ?_
        walk_at "dxs"
        refine x_eqI ?_
        walk_at "dxs"
        exact ⟨_, Sub.refl _, q s l _ hk7 (hB7.mono (by omega)) (by omega) (by omega) lne⟩
end
end K05

namespace K05
open PySem PySem.Spec PyProof.Rows L2 DL
theorem pat_gone {s l : List Int} {m r : Nat} (hl : l ≠ []) (hr : 1 ≤ r) (t : Nat) :
    pat (s ++ (List.range m).map (fun k => pat s l (s.length + k))) (List.replicate r (l.drop (m % l.length) ++ l.take (m % l.length))).flatten t = pat s l t := by
  have n0 : 0 < l.length := List.length_pos_iff.mpr hl
  have hb : m % l.length < l.length := Nat.mod_lt _ n0
  have hs : (s ++ (List.range m).map (fun k => pat s l (s.length + k))).length = s.length + m := by simp
  have hrl : (l.drop (m % l.length) ++ l.take (m % l.length)).length = l.length := by rw [List.length_append, List.length_drop, List.length_take]; omega
  by_cases c1 : t < s.length + m
  · rw [pat_lt (by rw [hs]; exact c1)]
    by_cases c2 : t < s.length
    · rw [pat_lt c2, List.getD_eq_getElem?_getD, List.getD_eq_getElem?_getD, List.getElem?_append_left c2]
    · rw [List.getD_eq_getElem?_getD, List.getElem?_append_right (by omega), List.getElem?_map, List.getElem?_range (by omega)]
      show pat s l (s.length + (t - s.length)) = _
      congr 1
      omega
  · rw [pat_ge (by rw [hs]; omega), hs, pat_ge (by omega)]
    unfold per
    have hlen : (List.replicate r (l.drop (m % l.length) ++ l.take (m % l.length))).flatten.length = r * l.length := by simp [hrl]
    rw [hlen]
    have hi : (t - (s.length + m)) % (r * l.length) < r * l.length := Nat.mod_lt _ (Nat.mul_pos (by omega) n0)
    rw [rep_getD (by rw [hrl]; exact hi), hrl, Nat.mod_mod_of_dvd _ (Nat.dvd_mul_left _ _), rot_get (by omega) (Nat.mod_lt _ n0), ← Nat.add_mod]
    congr 2
    omega
def sp_gone_on : DSp := fun ds H Q _ => ∃ b g n s l, ds = [.ref b, lasD s l] ∧ Bag H b g n ∧ n ≤ 100000 ∧ l ≠ [] ∧ s.length ≤ 100 ∧ l.length ≤ 100 ∧ ∀ s' l' H', Keep b H H' → Bag H' b g (n + 2) → (∀ t, pat s' l' t = pat s l t) → l' ≠ [] → s'.length ≤ 120 → l'.length ≤ 300 → Q (lasD s' l') H'
def sp_changed : DSp := fun ds H Q _ => ∃ b g n s l, ds = [.ref b, lasD s l] ∧ Bag H b g n ∧ n ≤ 100000 ∧ l ≠ [] ∧ s.length ≤ 100 ∧ l.length ≤ 100 ∧ ∀ s' l' H', Keep b H H' → Bag H' b g (n + 3) → s'.length = s.length → l'.length = l.length → Q (lasD s' l') H'
def sp_alike : DSp := fun ds H Q _ => ∃ s l s' l', ds = [lasD s l, lasD s' l'] ∧ l ≠ [] ∧ l' ≠ [] ∧ s.length ≤ 1000 ∧ l.length ≤ 1000 ∧ s'.length ≤ 1000 ∧ l'.length ≤ 1000 ∧ ∀ c, (c = true ↔ ∀ t, pat s l t = pat s' l' t) → Q (.bl c) H
def sp_least : DSp := fun ds H Q _ => ∃ s l, ds = [lasD s l] ∧ l ≠ [] ∧ l.length ≤ 1000 ∧ ∀ c, (c = true ↔ Can s l) → Q (.bl c) H
def sp_are_places : DSp := fun ds H Q _ => ∃ ns : List Int, ds = [.tup (ns.map D.int)] ∧ Q (.bl true) H
theorem atI_m1 {α : Type} {xs : List α} {x : α} (e : xs.getLast? = some x) : L2.atI xs (-1) = some x := by
  have hne : xs ≠ [] := fun z => by rw [z] at e; cases e
  have h0 : 0 < xs.length := List.length_pos_iff.mpr hne
  have i : ixN xs.length (-1) = some (xs.length - 1) := by
    unfold ixN
    rw [if_neg (by omega), if_pos (by omega)]
    exact congrArg some (by omega)
  unfold L2.atI
  rw [i]
  rw [List.getLast?_eq_getElem?] at e
  exact e
section
variable {P : Program} {w : World} {K : PySem.W.Frag} {mg : Str → Option Value} {base : Heap}
theorem ok_are_places (T : Txt P K mg) : DFn P w K mg base 3 T.f__law_are_places T.d__law_are_places ps__law_are_places sp_are_places := by
  refine fn__law_are_places (k := 0) T (fun ds H Q E h => ?_) (fun ds H Q E h => ?_)
  · obtain ⟨ns, rfl, _⟩ := h; rfl
  · obtain ⟨ns, rfl, q⟩ := h
    unfold rd__law_are_places
    walk_at "dxs"
    refine x_isi rfl (by decide) ?_
    walk_at "dxs"
    refine forSeq (fun i σ H' => H' = H ∧ ∃ o, σ = [some (.tup (ns.map D.int)), o]) ⟨rfl, _, rfl⟩ ?_ ?_
    · rintro i x σ H' hx ⟨rfl, o, rfl⟩
      rw [List.getElem?_map] at hx
      obtain ⟨n, hn, rfl⟩ := Option.map_eq_some_iff.mp hx
      walk_at "dxs"
      refine x_isi rfl (by decide) ?_
      walk_at "dxs"
      refine x_isi rfl (by decide) ?_
      walk_at "dxs"
      exact ⟨rfl, _, rfl⟩
    · rintro σ H' ⟨rfl, o, rfl⟩
      walk_at "dxs"
      exact ⟨_, Sub.refl _, q⟩
theorem ok_alike (T : Txt P K mg) : DFn P w K mg base 6 T.f__law_alike T.d__law_alike ps__law_alike sp_alike := by
  refine fn__law_alike (k := 3) T (ok_place_at T) (fun ds H Q E h => ?_) (fun ds H Q E h => ?_)
  · obtain ⟨s, l, s', l', rfl, _⟩ := h; rfl
  · obtain ⟨s, l, s', l', rfl, h1, h2, b1, b2, b3, b4, q⟩ := h
    unfold rd__law_alike lasD
    walk_at "dxs"
    simp only [List.length_map]
    refine x_rng1At (n := max s.length s'.length + l.length + l'.length) (by split <;> omega) (by omega) ?_
    refine forRng (W := fun i σ H' => H' = H ∧ (∃ o, σ = [some (lasD s l), some (lasD s' l'), o]) ∧ ∀ t, t < i → pat s l t = pat s' l' t) ⟨rfl, ⟨_, rfl⟩, fun t ht => by omega⟩ ?_ ?_
    · rintro i σ H' hi ⟨rfl, ⟨o, rfl⟩, hall⟩
      walk_at "dxs"
      refine ⟨s, l, i, _, rfl, by omega, h1, ?_⟩
      walk_at "dxs"
      refine ⟨s', l', i, _, rfl, by omega, h2, ?_⟩
      refine x_neI ?_
      walk_at "dxs"
      refine x_ite (fun d => ?_) fun d => ?_
      · walk_at "dxs"
        refine ⟨_, Sub.refl _, q false ⟨fun z => (by cases z), fun z => ?_⟩⟩
        rw [z i] at d
        simp at d
      · walk_at "dxs"
        refine ⟨rfl, ⟨_, rfl⟩, fun t ht => ?_⟩
        by_cases e : t = i
        · rw [e]
          simpa using d
        · exact hall t (by omega)
    · rintro σ H' ⟨rfl, ⟨o, rfl⟩, hall⟩
      walk_at "dxs"
      exact ⟨_, Sub.refl _, q true ⟨fun _ => pat_bound h1 h2 hall, fun _ => rfl⟩⟩
theorem ok_least (T : Txt P K mg) : DFn P w K mg base 3 T.f__law_least T.d__law_least ps__law_least sp_least := by
  refine fn__law_least (k := 0) T (fun ds H Q E h => ?_) (fun ds H Q E h => ?_)
  · obtain ⟨s, l, rfl, _⟩ := h; rfl
  · obtain ⟨s, l, rfl, hl, bl, q⟩ := h
    have l0 : 0 < l.length := List.length_pos_iff.mpr hl
    unfold rd__law_least lasD
    walk_at "dxs"
    simp only [List.length_map]
    refine x_rng2At (by omega) (by omega) (forRng (W := fun i σ H' => H' = H ∧ (∃ o, σ = [some (lasD s l), some (.tup (l.map D.int)), o]) ∧ ∀ e, 1 ≤ e → e < 1 + i → l.drop e ++ l.take e ≠ l) ⟨rfl, ⟨_, rfl⟩, fun t ht => by omega⟩ ?_ ?_)
    · rintro i σ H' hi ⟨rfl, ⟨o, rfl⟩, hall⟩
      have ei : ((1 : Int) + (i : Int)) = ((1 + i : Nat) : Int) := by omega
      rw [ei]
      generalize hd : 1 + i = d at *
      walk_at "dxs"
      rw [cut_take (by rw [List.length_map]; omega), cut_drop (by rw [List.length_map]; omega), ← List.map_take, ← List.map_drop]
      refine x_addT (by rw [List.length_map, List.length_map, List.length_drop, List.length_take, sizeLine_eq]; omega) ?_
      rw [← List.map_append]
      walk_at "dxs"
      refine x_eqD (nb_ints _) (nb_ints _) (by decide) fun c hc => ?_
      walk_at "dxs"
      refine x_ite (fun d2 => ?_) fun d2 => ?_
      · walk_at "dxs"
        refine ⟨_, Sub.refl _, q false ⟨fun z => (by cases z), fun z => ?_⟩⟩
        have e := hc.mp d2
        exact absurd (ints_inj.mp (by injection e)) (z.rot d (by omega) (by omega))
      · walk_at "dxs"
        refine ⟨rfl, ⟨_, rfl⟩, fun e e1 e2 => ?_⟩
        by_cases he : e = d
        · intro z
          rw [he] at z
          rw [hc.mpr (by rw [z])] at d2
          cases d2
        · exact hall e e1 (by omega)
    · rintro σ H' ⟨rfl, ⟨o, rfl⟩, hall⟩
      have hall' : ∀ e, 1 ≤ e → e < l.length → l.drop e ++ l.take e ≠ l := fun e e1 e2 => hall e e1 (by omega)
      walk_at "dxs"
      refine x_eqI ?_
      walk_at "dxs"
      refine x_ite (fun d => ?_) fun d => ?_
      · have d : ((s.map D.int).length : Int) = 0 := of_decide_eq_true d
        rw [List.length_map] at d
        walk_at "dxs"
        exact ⟨_, Sub.refl _, q true ⟨fun _ => ⟨hl, hall', .inl (List.length_eq_zero_iff.mp (by omega))⟩, fun _ => rfl⟩⟩
      · have d : ¬ ((s.map D.int).length : Int) = 0 := of_decide_eq_false d
        rw [List.length_map] at d
        have s0 : s ≠ [] := fun e => by rw [e] at d; exact d rfl
        obtain ⟨x, hx⟩ : ∃ x, s.getLast? = some x := ⟨s.getLast s0, List.getLast?_eq_some_getLast s0⟩
        obtain ⟨y, hy⟩ : ∃ x, l.getLast? = some x := ⟨l.getLast hl, List.getLast?_eq_some_getLast hl⟩
        have ax : L2.atI (s.map D.int) (-1) = some (.int x) := atI_m1 (by rw [List.getLast?_map, hx]; rfl)
        have ay : L2.atI (l.map D.int) (-1) = some (.int y) := atI_m1 (by rw [List.getLast?_map, hy]; rfl)
        walk_at "dxs"
        refine x_neI ?_
        walk_at "dxs"
        refine ⟨_, Sub.refl _, q _ ⟨fun z => ⟨hl, hall', .inr fun e => ?_⟩, fun z => ?_⟩⟩
        · rw [hx, hy] at e
          have := Option.some.inj e
          simp [this] at z
        · rcases z.last with z | z
          · exact absurd z s0
          · rw [hx, hy] at z
            have ne : ¬ x = y := fun e => z (by rw [e])
            simp [ne]
end
end K05

namespace K05
open PySem PySem.Spec PyProof.Rows L2 DL
section
variable {P : Program} {w : World} {K : PySem.W.Frag} {mg : Str → Option Value} {base : Heap}
theorem ok_gone_on (T : Txt P K mg) : DFn P w K mg base 6 T.f__law_gone_on T.d__law_gone_on ps__law_gone_on sp_gone_on := by
  refine fn__law_gone_on (k := 3) T (ok_take T) (ok_place_at T) (fun ds H Q E h => ?_) (fun ds H Q E h => ?_)
  · obtain ⟨b, g, n, s, l, rfl, _⟩ := h; rfl
  · obtain ⟨b, g, n, s, l, rfl, hB, nl, hl, bs, bl, q⟩ := h
    have l0 : 0 < l.length := List.length_pos_iff.mpr hl
    unfold rd__law_gone_on
    walk_at "dxs"
    refine ⟨b, g, _, n, rfl, hB, by omega, by decide, by decide, fun z1 H1 z10 z11 off1 hB1 => ?_⟩
    obtain ⟨m, rfl⟩ := Int.eq_ofNat_of_zero_le z10
    walk_at "dxs"
    refine x_rng1At rfl (by omega) ?_
    intro p hp
    refine lcRng (W := fun i H' => H' = put H1 p (.lst (((List.range i).map (fun k => pat s l (s.length + k))).map D.int))) rfl ?_ ?_
    · rintro i H' hi rfl
      walk_at "dxs"
      rw [List.length_map]
      refine ⟨s, l, s.length + i, _, rfl, by omega, hl, ?_⟩
      refine ⟨_, put_same, by rw [List.length_map, List.length_map, List.length_range, sizeLine_eq]; omega, ?_⟩
      rw [put_put, List.range_succ, List.map_append, List.map_append]
      rfl
    · rintro H' rfl
      walk_at "dxs"
      refine x_addT (by rw [List.length_map, List.length_map, List.length_map, List.length_range, sizeLine_eq]; omega) ?_
      rw [← List.map_append]
      walk_at "dxs"
      rw [List.length_map]
      refine x_i (by omega) ?_
      have em : (m : Int) % (l.length : Int) = ((m % l.length : Nat) : Int) := by simp
      rw [em]
      have hb : m % l.length < l.length := Nat.mod_lt _ l0
      walk_at "dxs"
      rw [cut_take (by rw [List.length_map]; omega), cut_drop (by rw [List.length_map]; omega), ← List.map_take, ← List.map_drop]
      refine x_addT (by rw [List.length_map, List.length_map, List.length_drop, List.length_take, sizeLine_eq]; omega) ?_
      rw [← List.map_append]
      have hrl : (l.drop (m % l.length) ++ l.take (m % l.length)).length = l.length := by rw [List.length_append, List.length_drop, List.length_take]; omega
      walk_at "dxs"
      refine ⟨b, g, _, _, rfl, hB1.put hp, by omega, by decide, by decide, fun z2 H2 z20 z21 off2 hB2 => ?_⟩
      walk_at "dxs"
      refine x_mulT (by omega) (by omega) (by rw [List.length_map, hrl]; omega) (fun e => ?_) ?_
      · have := congrArg List.length e
        rw [List.length_map, hrl, List.length_nil] at this
        omega
      have emf : (List.replicate (1 + z2).toNat ((l.drop (m % l.length) ++ l.take (m % l.length)).map D.int)).flatten = ((List.replicate (1 + z2).toNat (l.drop (m % l.length) ++ l.take (m % l.length))).flatten).map D.int := by simp [List.map_flatten]
      rw [emf]
      have hlen : (List.replicate (1 + z2).toNat (l.drop (m % l.length) ++ l.take (m % l.length))).flatten.length = (1 + z2).toNat * l.length := by simp [hrl]
      have h3 : (1 + z2).toNat * l.length ≤ 3 * 100 := Nat.mul_le_mul (by omega) bl
      have h4 : 0 < (1 + z2).toNat * l.length := Nat.mul_pos (by omega) l0
      walk_at "dxs"
      refine ⟨_, Sub.refl _, q _ _ _ (((Keep.off off1).trans (Keep.new hp)).trans (Keep.off off2)) hB2 (pat_gone hl (by omega)) (fun e => ?_) (by simp; omega) (by omega)⟩
      rw [e, List.length_nil] at hlen
      omega
theorem ok_changed (T : Txt P K mg) : DFn P w K mg base 6 T.f__law_changed T.d__law_changed ps__law_changed sp_changed := by
  refine fn__law_changed (k := 3) T (ok_take T) (fun ds H Q E h => ?_) (fun ds H Q E h => ?_)
  · obtain ⟨b, g, n, s, l, rfl, _⟩ := h; rfl
  · obtain ⟨b, g, n, s, l, rfl, hB, nl, hl, bs, bl, q⟩ := h
    have l0 : 0 < l.length := List.length_pos_iff.mpr hl
    unfold rd__law_changed
    walk_at "dxs"
    refine x_addT (by rw [List.length_map, List.length_map, sizeLine_eq]; omega) ?_
    rw [← List.map_append]
    generalize ht : s ++ l = tr
    have tl : tr.length = s.length + l.length := by rw [← ht, List.length_append]
    walk_at "dxs"
    intro p hp
    obtain ⟨⟨_, hbl⟩, _, hgl⟩ := hB.there
    have npb : p ≠ b := fun e => by rw [e, hbl] at hp; cases hp
    have npg : p ≠ g := fun e => by rw [e, hgl] at hp; cases hp
    walk_at "dxs"
    rw [List.length_map]
    refine ⟨b, g, _, n, rfl, hB.put hp, by omega, by omega, by omega, fun z1 H1 z10 z11 off1 hB1 => ?_⟩
    have hp1 := (off1 p npb).trans put_same
    obtain ⟨k, rfl⟩ := Int.eq_ofNat_of_zero_le z10
    have hk : ixN (tr.map D.int).length (k : Int) = some k := by
      unfold ixN
      rw [List.length_map, if_pos (by omega), if_pos (by omega)]
      rfl
    -- the last part
    have fin : ∀ (tr2 : List Int) (H2 : DH) (m : Nat), tr2.length = tr.length → H2 p = some (.lst (tr2.map D.int)) → Keep b H H2 → Bag H2 b g m → m ≤ n + 3 → H2 p = some (.lst (tr2.map D.int)) →
        dRet (dTup (dCons (dCB dTupleOf (dCons (dSl dCut (dVar 2) dNoPart (dPart (dCB dLen (dCons (dOp dIx (dVar 1) (dC (.int 0))) dNil)))) dNil)) (dCons (dCB dTupleOf (dCons (dSl dCut (dVar 2) (dPart (dCB dLen (dCons (dOp dIx (dVar 1) (dC (.int 0))) dNil))) dNoPart) dNil)) dNil))) (endsOf Q E) [some (.ref b), some (lasD s l), some (.ref p), some (.int (k : Int))] H2 := fun tr2 H2 m h1 h2 h3 h4 h5 _ => by
      walk_at "dxs"
      intro q1 hq1
      rw [List.length_map, cut_take (by rw [List.length_map]; omega), ← List.map_take]
      have h6 := put_old (o := .lst ((tr2.take s.length).map D.int)) h2 hq1
      walk_at "dxs"
      intro q2 hq2
      rw [List.length_map, cut_drop (by rw [List.length_map]; omega), ← List.map_drop]
      walk_at "dxs"
      exact ⟨_, Sub.refl _, q (tr2.take s.length) (tr2.drop s.length) _ ((h3.trans (Keep.new hq1)).trans (Keep.new hq2)) (((h4.mono h5).put hq1).put hq2) (by rw [List.length_take]; omega) (by rw [List.length_drop]; omega)⟩
    refine x_ifJ ?_
    walk_at "dxs"
    refine ⟨b, g, _, _, rfl, hB1, by omega, by decide, by decide, fun z2 H2 z20 z21 off2 hB2 => ?_⟩
    have hp2 := (off2 p npb).trans hp1
    have hk2 : Keep b H H2 := ((Keep.new hp).trans (Keep.off off1)).trans (Keep.off off2)
    walk_at "dxs"
    refine x_eqI ?_
    walk_at "dxs"
    refine x_ite (fun d => ?_) fun d => ?_
    · walk_at "dxs"
      rw [List.length_map]
      refine ⟨b, g, _, _, rfl, hB2, by omega, by omega, by omega, fun z3 H3 z30 z31 off3 hB3 => ?_⟩
      have hp3 := (off3 p npb).trans hp2
      obtain ⟨y, hy⟩ := ix_ints z30 z31
      refine x_ixL hp3 hy ?_
      walk_at "dxs"
      have es : (tr.map D.int).set k (.int y) = (tr.set k y).map D.int := by rw [List.map_set]
      rw [es]
      exact fin (tr.set k y) _ _ (by rw [List.length_set]) put_same ((hk2.trans (Keep.off off3)).put hp) (hB3.putNe npb npg) (by omega) put_same
    · walk_at "dxs"
      refine ⟨b, g, _, _, rfl, hB2, by omega, by decide, by decide, fun z3 H3 z30 z31 off3 hB3 => ?_⟩
      have hp3 := (off3 p npb).trans hp2
      walk_at "dxs"
      have es : (tr.map D.int).set k (.int z3) = (tr.set k z3).map D.int := by rw [List.map_set]
      rw [es]
      exact fin (tr.set k z3) _ _ (by rw [List.length_set]) put_same ((hk2.trans (Keep.off off3)).put hp) (hB3.putNe npb npg) (by omega) put_same
end
end K05

namespace K05
open PySem PySem.Spec PyProof.Rows L2 DL
theorem dfn_false {P : Program} {w : World} {K : PySem.W.Frag} {mg : Str → Option Value} {base : Heap} {k : Nat} {f : Addr} {fd : FuncData} {ps : List Str} : DFn P w K mg base k f fd ps (fun _ _ _ _ => False) :=
  ⟨fun _ _ _ _ ⟨_, _, _, _, _, _, h, _⟩ => h.elim, fun _ _ _ _ _ _ _ _ _ _ _ _ _ ⟨_, _, _, _, _, _, h, _⟩ => h.elim⟩
def sp_same (d : Nat) : DSp := fun ds H Q _ => ∃ x y n, ds = [x, y] ∧ NB n x ∧ NB d y ∧ wt y ≤ 100000 ∧ ∀ c, (c = true ↔ x = y) → Q (.bl c) H
theorem nbs_get {n : Nat} : ∀ {ds : List DL.D} {i : Nat} {d : DL.D}, NBs n ds → ds[i]? = some d → NB n d
  | _, _, _, .nil _, e => by simp at e
  | _, 0, _, .cons h _, e => by
    simp at e
    subst e
    exact h
  | _, i + 1, _, .cons _ t, e => nbs_get (i := i) t (by simpa using e)
section
variable {P : Program} {w : World} {K : PySem.W.Frag} {mg : Str → Option Value} {base : Heap}
/-- behind the first if: due is no row -/
theorem same_leaf (T : Txt P K mg) {sp : DSp} {x y : DL.D} {n d : Nat} {H : DH} {Q : DK} {E : DX} (hx : NB n x) (hy : NB d y) (nt : ∀ ys, y ≠ .tup ys) (q : ∀ c, (c = true ↔ x = y) → Q (.bl c) H) : rd__law_same T sp (endsOf Q E) (startD N__law_same [x, y]) H := by
  unfold rd__law_same
  have fin : ∀ c, (c = true ↔ x = y) → (endsOf Q E).rt (.bl c) H := fun c h => ⟨_, Sub.refl _, q c h⟩
  cases hy with
  | tup _ => exact absurd rfl (nt _)
  | non _ =>
    walk_at "dxs"
    refine x_isi rfl (by decide) ?_
    walk_at "dxs"
    refine x_isi rfl (by decide) ?_
    walk_at "dxs"
    cases hx <;> (walk_at "dxs"; exact fin _ (by simp [isN]))
  | str _ u =>
    walk_at "dxs"
    refine x_isi rfl (by decide) ?_
    walk_at "dxs"
    refine x_isi rfl (by decide) ?_
    walk_at "dxs"
    cases hx with
    | str _ v =>
      refine x_isi rfl (by decide) ?_
      walk_at "dxs"
      exact x_eqD (.str 0 _) (.str 0 _) (by decide) fun c hc => fin c hc
    | non _ => refine x_isi rfl (by decide) ?_; walk_at "dxs"; exact fin _ (by simp)
    | int _ i => refine x_isi rfl (by decide) ?_; walk_at "dxs"; exact fin _ (by simp)
    | tup _ => refine x_isi rfl (by decide) ?_; walk_at "dxs"; exact fin _ (by simp)
  | int _ u =>
    walk_at "dxs"
    refine x_isi rfl (by decide) ?_
    walk_at "dxs"
    refine x_isi rfl (by decide) ?_
    walk_at "dxs"
    refine x_isi rfl (by decide) ?_
    walk_at "dxs"
    cases hx with
    | int _ v =>
      refine x_isi rfl (by decide) ?_
      walk_at "dxs"
      refine x_isi rfl (by decide) ?_
      walk_at "dxs"
      exact x_eqD (.int 0 _) (.int 0 _) (by decide) fun c hc => fin c hc
    | non _ => refine x_isi rfl (by decide) ?_; walk_at "dxs"; exact fin _ (by simp)
    | str _ i => refine x_isi rfl (by decide) ?_; walk_at "dxs"; exact fin _ (by simp)
    | tup _ => refine x_isi rfl (by decide) ?_; walk_at "dxs"; exact fin _ (by simp)
theorem ok_same (T : Txt P K mg) : ∀ d : Nat, DFn P w K mg base (3 * d + 3) T.f__law_same T.d__law_same ps__law_same (sp_same d)
  | 0 => by
    refine fn__law_same (k := 0) T dfn_false (fun ds H Q E h => ?_) (fun ds H Q E h => ?_)
    · obtain ⟨x, y, n, rfl, _⟩ := h; rfl
    · obtain ⟨x, y, n, rfl, hx, hy, hw, q⟩ := h
      exact same_leaf T hx hy (fun ys e => by subst e; cases hy) q
  | d + 1 => by
    have ih := ok_same T d
    refine fn__law_same (k := 3 * d + 3) T ih (fun ds H Q E h => ?_) (fun ds H Q E h => ?_)
    · obtain ⟨x, y, n, rfl, _⟩ := h; rfl
    · obtain ⟨x, y, n, rfl, hx, hy, hw, q⟩ := h
      by_cases c : ∃ ys, y = .tup ys
      · obtain ⟨ys, rfl⟩ := c
        have hys : NBs d ys := by cases hy; assumption
        have fin : ∀ c, (c = true ↔ x = .tup ys) → ∃ H0, Sub H0 H ∧ Q (.bl c) H0 := fun c h => ⟨_, Sub.refl _, q c h⟩
        have wl : ys.length ≤ 100000 := by
          have := wts_len ys
          simp only [wt] at hw
          omega
        unfold rd__law_same
        walk_at "dxs"
        refine x_isi rfl (by decide) ?_
        walk_at "dxs"
        cases hx with
        | non _ => refine x_isi rfl (by decide) ?_; walk_at "dxs"; exact fin _ (by simp)
        | int _ i => refine x_isi rfl (by decide) ?_; walk_at "dxs"; exact fin _ (by simp)
        | str _ i => refine x_isi rfl (by decide) ?_; walk_at "dxs"; exact fin _ (by simp)
        | @tup m xs hxs =>
          refine x_isi rfl (by decide) ?_
          walk_at "dxs"
          refine x_neI ?_
          walk_at "dxs"
          refine x_ite (fun e => ?_) fun e => ?_
          · walk_at "dxs"
            refine fin _ ⟨fun z => (by cases z), fun z => ?_⟩
            have z : xs = ys := by injection z
            rw [z] at e
            simp at e
          · have e : xs.length = ys.length := by
              have : (xs.length : Int) = (ys.length : Int) := by simpa using e
              omega
            walk_at "dxs"
            refine x_rng1At rfl (by omega) ?_
            refine forRng (W := fun i σ H' => H' = H ∧ (∃ o, σ = [some (.tup xs), some (.tup ys), o]) ∧ ∀ j, j < i → xs[j]? = ys[j]?) ⟨rfl, ⟨_, rfl⟩, fun t ht => by omega⟩ ?_ ?_
            · rintro i σ H' hi ⟨rfl, ⟨o, rfl⟩, hall⟩
              obtain ⟨y, hy⟩ : ∃ y, ys[i]? = some y := ⟨ys[i], List.getElem?_eq_getElem hi⟩
              obtain ⟨x, hx⟩ : ∃ y, xs[i]? = some y := ⟨xs[i]'(by omega), List.getElem?_eq_getElem (by omega)⟩
              have ay : L2.atI ys (0 + (i : Int)) = some y := by rw [Int.zero_add]; exact atI_nat hy
              have ax : L2.atI xs (0 + (i : Int)) = some x := by rw [Int.zero_add]; exact atI_nat hx
              walk_at "dxs"
              refine ⟨x, y, m, rfl, nbs_get hxs hx, nbs_get hys hy, ?_, fun c hc => ?_⟩
              · have := wts_mem hy
                simp only [wt] at hw
                omega
              · walk_at "dxs"
                refine x_ite (fun e2 => ?_) fun e2 => ?_
                · walk_at "dxs"
                  refine fin _ ⟨fun z => (by cases z), fun z => ?_⟩
                  have z : xs = ys := by injection z
                  rw [z, hy] at hx
                  have : c = true := hc.mpr (Option.some.inj hx).symm
                  rw [this] at e2
                  cases e2
                · walk_at "dxs"
                  refine ⟨rfl, ⟨_, rfl⟩, fun j hj => ?_⟩
                  by_cases ej : j = i
                  · rw [ej, hx, hy, hc.mp (by simpa using e2)]
                  · exact hall j (by omega)
            · rintro σ H' ⟨rfl, ⟨o, rfl⟩, hall⟩
              walk_at "dxs"
              refine fin _ ⟨fun _ => ?_, fun _ => rfl⟩
              congr 1
              apply List.ext_getElem?
              intro j
              by_cases hj : j < ys.length
              · exact hall j hj
              · rw [List.getElem?_eq_none (by omega), List.getElem?_eq_none (by omega)]
      · exact same_leaf T hx hy (fun ys e => c ⟨ys, e⟩) q
def sp_sameH : DSp := fun ds H Q _ => ∃ i j : Int, ds = [.int i, .int j] ∧ Q (.bl (decide (i = j))) H
theorem okH_same (T : Txt P K mg) : DFnH P w K mg base 1 T.f__law_same T.d__law_same ps__law_same sp_sameH := by
  refine fh__law_same (k := 0) T (fun ds H Q E h => ?_) (fun ds H Q E h => ?_)
  · obtain ⟨i, j, rfl, _⟩ := h; rfl
  · obtain ⟨i, j, rfl, q⟩ := h
    unfold rh__law_same
    walk_at "dxs"
    refine x_isi rfl (by decide) ?_
    walk_at "dxs"
    refine x_isi rfl (by decide) ?_
    walk_at "dxs"
    refine x_isi rfl (by decide) ?_
    walk_at "dxs"
    refine x_isi rfl (by decide) ?_
    walk_at "dxs"
    refine x_isi rfl (by decide) ?_
    walk_at "dxs"
    refine x_eqI ?_
    exact ⟨_, Sub.refl _, q⟩
end
end K05

namespace K05
open PySem PySem.Spec PyProof.Rows L2 DL
theorem nb_intsN (n : Nat) (ns : List Int) : NB (n + 1) (.tup (ns.map D.int)) := .tup (nbs_ints n ns)
theorem wt_ints (ns : List Int) : wt (.tup (ns.map D.int)) = 2 + ns.length := by simp only [wt, wts_ints]
section
variable {P : Program} {w : World} {K : PySem.W.Frag} {mg : Str → Option Value} {base : Heap}
def sp_short (T : Txt P K mg) : DSp := fun ds H Q _ => ∃ s l p, ds = [lasD s l, .ref p] ∧ H p = some (.ins T.C_Play (playI s l)) ∧ l ≠ [] ∧ s.length ≤ 500 ∧ l.length ≤ 500 ∧ ∀ s' l', Short s l s' l' → Q (lasD s' l') H
theorem ok_short (T : Txt P K mg) : DFn P w K mg base 15 T.f__law_short T.d__law_short ps__law_short (sp_short T) := by
  refine fn__law_short (k := 12) T (ok_shortened T) ((ok_are_places T).mono (by decide)) ((ok_alike T).mono (by decide)) ((ok_least T).mono (by decide)) ((ok_same T 3).mono (by decide)) ((ok_Play_len T).mono (by decide)) (fun ds H Q E h => ?_) (fun ds H Q E h => ?_)
  · obtain ⟨s, l, p, rfl, _⟩ := h; rfl
  · obtain ⟨s, l, p, rfl, hp, hl, bs, bl, q⟩ := h
    have cP := T.c_Play
    have nS := T.n_Play_stem
    have nL := T.n_Play_loop
    unfold rd__law_short
    walk_at "dxs"
    refine ⟨p, s, l, rfl, hp, by omega, by omega, fun e => absurd e hl, fun _ s' l' hsh r hr => ?_⟩
    obtain ⟨hcan, hpat, ls, ll⟩ := short_ok hsh hl
    have npr : p ≠ r := dne_of_none hp hr
    have hp2 : put H r (.ins T.C_Play (playI s' l')) p = some (.ins T.C_Play (playI s l)) := put_old hp hr
    have hr2 : put H r (.ins T.C_Play (playI s' l')) r = some (.ins T.C_Play (playI s' l')) := put_same
    have hS : Sub H (put H r (.ins T.C_Play (playI s' l'))) := Sub.new hr
    generalize put H r (.ins T.C_Play (playI s' l')) = H2 at hp2 hr2 hS ⊢
    unfold playI at hp2 hr2
    walk_at "dxs"
    refine x_isiO hr2 T.o_Play kit_self ?_
    walk_at "dxs"
    refine ⟨s', rfl, ?_⟩
    walk_at "dxs"
    refine ⟨l', rfl, ?_⟩
    walk_at "dxs"
    have l0 : 0 < l'.length := List.length_pos_iff.mpr hcan.ne
    simp only [List.length_map]
    refine x_iteF (decide_eq_false (by omega)) ?_
    walk_at "dxs"
    simp only [List.length_map]
    refine x_iteF (decide_eq_false (by omega)) ?_
    walk_at "dxs"
    simp only [List.length_map]
    refine x_iteF (decide_eq_false (by omega)) ?_
    walk_at "dxs"
    refine ⟨s', l', s, l, rfl, hcan.ne, hl, by omega, by omega, by omega, by omega, fun c hc => ?_⟩
    have ec : c = true := hc.mpr hpat
    subst ec
    walk_at "dxs"
    refine ⟨s', l', rfl, hcan.ne, by omega, fun c hc => ?_⟩
    have ec : c = true := hc.mpr hcan
    subst ec
    walk_at "dxs"
    refine ⟨_, _, 1, rfl, nb_ints s, nb_intsN 2 s, by rw [wt_ints]; omega, fun c hc => ?_⟩
    have ec : c = true := hc.mpr rfl
    subst ec
    walk_at "dxs"
    refine ⟨_, _, 1, rfl, nb_ints l, nb_intsN 2 l, by rw [wt_ints]; omega, fun c hc => ?_⟩
    have ec : c = true := hc.mpr rfl
    subst ec
    walk_at "dxs"
    refine ⟨r, _, _, rfl, hr2, by rw [List.length_map, List.length_map]; omega, ?_⟩
    simp only [List.length_map]
    refine ⟨_, rfl, ⟨by omega, by omega⟩, ?_⟩
    walk_at "dxs"
    refine ⟨_, _, 0, rfl, .int 0 _, .int 3 _, by simp [wt], fun c hc => ?_⟩
    have ec : c = true := hc.mpr (by simp)
    subst ec
    walk_at "dxs"
    exact ⟨H, hS, q s' l' hsh⟩
def sp_refused (T : Txt P K mg) : DSp := fun ds H Q _ => ∃ s : List Int, ds = [.tup (s.map D.int)] ∧ s.length ≤ 500 ∧ Q (.bl true) H
end
end K05

namespace K05
open PySem PySem.Spec PyProof.Rows L2 DL
theorem dfnH_mono {P : Program} {w : World} {K : PySem.W.Frag} {mg : Str → Option Value} {base : Heap} {j k : Nat} {f : Addr} {fd : FuncData} {ps : List Str} {sp : DSp} (F : DFnH P w K mg base j f fd ps sp) (h : j ≤ k) : DFnH P w K mg base k f fd ps sp :=
  ⟨F.len, fun A outer s H args us vs Q E p hr hot hp e0 hb r hs => F.run A outer s H args us vs Q E p (hr.mono h) hot hp e0 hb r hs⟩
section
variable {P : Program} {w : World} {K : PySem.W.Frag} {mg : Str → Option Value} {base : Heap}
theorem ok_refused (T : Txt P K mg) : DFn P w K mg base 15 T.f__law_refused T.d__law_refused ps__law_refused (sp_refused T) := by
  refine fn__law_refused (k := 12) T (ok_shortened T) ((ok_Play_init T).mono (by decide)) (dfnH_mono (okH_same T) (by decide)) (fun ds H Q E h => ?_) (fun ds H Q E h => ?_)
  · obtain ⟨s, rfl, _⟩ := h; rfl
  · obtain ⟨s, rfl, bs, q⟩ := h
    unfold rd__law_refused
    walk_at "dxs"
    intro p hp
    refine ⟨p, _, _, _, _, rfl, put_same, .tup (frzs_ints s), .tup .nil, by rw [wt_ints]; omega, by simp [wt, wts], rfl, ?_⟩
    rw [put_put]
    walk_at "dxs"
    refine ⟨p, s, [], rfl, put_same, by omega, by simp, fun _ d hd => ?_, fun e => absurd rfl e⟩
    refine ⟨true, T.ex_InvalidPlay_EverplayError, fun _ a ha => ?_, fun z => by cases z⟩
    walk_at "dxs"
    refine x_isE put_same (.ty _) T.kv_InvalidPlay ?_
    walk_at "dxs"
    refine x_isE put_same (.own _) T.kt_InvalidPlay_InvalidPlay ?_
    walk_at "dxs"
    refine ⟨rfl, rfl, d, _, _, rfl, put_same, rfl, ?_⟩
    walk_at "dxs"
    rw [List.length_map]
    refine ⟨_, _, rfl, ?_⟩
    rw [decide_eq_true rfl]
    exact ⟨H, (Sub.new hp).trans (Sub.new hd), q⟩
end
end K05

namespace K05
open PySem PySem.Spec PyProof.Rows L2 DL
theorem x_neB {a b : Bool} {H : DH} {Q : DK} (k : Q (.bl (!(a == b))) H) : dNe (.bl a) (.bl b) H Q :=
  ⟨.bool a, .bool b, .bl a, .bl b, by show min 0 0 ≤ 64; decide, k⟩
theorem lasD_inj {s l s' l' : List Int} : lasD s l = lasD s' l' ↔ s = s' ∧ l = l' := by
  constructor
  · intro h
    injection h with h
    injection h with h1 h2
    injection h1 with h1
    injection h2 with h2 _
    injection h2 with h2
    exact ⟨ints_inj.mp h1, ints_inj.mp h2⟩
  · rintro ⟨rfl, rfl⟩
    rfl
theorem nb_las (n : Nat) (s l : List Int) : NB (n + 2) (lasD s l) := .tup (.cons (nb_intsN n s) (.cons (nb_intsN n l) (.nil _)))
theorem wt_las (s l : List Int) : wt (lasD s l) = 6 + s.length + l.length := by simp only [lasD, wt, wts, wts_ints]; omega
section
variable {P : Program} {w : World} {K : PySem.W.Frag} {mg : Str → Option Value} {base : Heap}
theorem ok_law (T : Txt P K mg) : DFn P w K mg base 30 T.f_law T.d_law ["script"] spLaw := by
  have main : DFn P w K mg base 18 T.f_law T.d_law ps_law spLaw := by
    refine fn_law (k := 15) T ((ok_bag T).mono (by decide)) ((ok_lasso T).mono (by decide)) ((ok_gone_on T).mono (by decide)) ((ok_changed T).mono (by decide)) ((ok_Play_init T).mono (by decide)) (ok_short T) ((ok_alike T).mono (by decide)) (ok_refused T) ((ok_same T 4).mono (by decide)) (fun ds H Q E h => ?_) (fun ds H Q E h => ?_)
    · obtain ⟨ns, rfl, _⟩ := h; rfl
    · obtain ⟨ns, rfl, hl, q⟩ := h
      have fin : ∀ H', (endsOf Q E).rt (.bl true) H' := fun H' => ⟨_, Sub.refl _, q _⟩
      unfold rd_law
      walk_at "dxs"
      refine ⟨ns, rfl, hl, fun b g H1 _ _ _ hB1 => ?_⟩
      walk_at "dxs"
      refine ⟨b, g, 0, rfl, hB1, by omega, fun s l H2 hk2 hB2 bs bl hne => ?_⟩
      walk_at "dxs"
      refine ⟨b, g, _, s, l, rfl, hB2, by omega, hne, bs, bl, fun s2 l2 H3 hk3 hB3 hp2 hne2 bs2 bl2 => ?_⟩
      walk_at "dxs"
      refine ⟨b, g, _, s, l, rfl, hB3, by omega, hne, bs, bl, fun s3 l3 H4 hk4 hB4 es3 el3 => ?_⟩
      have hne3 : l3 ≠ [] := fun e => by
        rw [e] at el3
        exact hne (List.length_eq_zero_iff.mp el3.symm)
      walk_at "dxs"
      intro p1 hp1
      refine ⟨p1, _, _, _, _, rfl, put_same, .tup (frzs_ints s), .tup (frzs_ints l), by rw [wt_ints]; omega, by rw [wt_ints]; omega, rfl, ?_⟩
      rw [put_put]
      walk_at "dxs"
      intro a1 ha1
      walk_at "dxs"
      intro a2 ha2
      walk_at "dxs"
      intro p2 hp2'
      have n12 : a1 ≠ a2 := fun e => by rw [← e, put_same] at ha2; cases ha2
      have n1p : a1 ≠ p2 := fun e => by rw [← e, put_ne n12, put_same] at hp2'; cases hp2'
      have n2p : a2 ≠ p2 := fun e => by rw [← e, put_same] at hp2'; cases hp2'
      refine ⟨p2, _, _, _, _, rfl, put_same, .lst (by rw [put_ne n1p, put_ne n12, put_same]) (frzs_ints s2), .lst (by rw [put_ne n2p, put_same]) (frzs_ints l2), by rw [wt_ints]; omega, by rw [wt_ints]; omega, rfl, ?_⟩
      rw [put_put]
      walk_at "dxs"
      generalize hG : put (put (put (put H4 p1 (.ins T.C_Play (fsPlay (.tup (s.map D.int)) (.tup (l.map D.int))))) a1 (.lst (s2.map D.int))) a2 (.lst (l2.map D.int))) p2 (.ins T.C_Play (fsPlay (.tup (s2.map D.int)) (.tup (l2.map D.int)))) = H5
      have h1 : H5 p1 = some (.ins T.C_Play (playI s l)) := by rw [← hG]; exact put_old (put_old (put_old put_same ha1) ha2) hp2'
      have h2 : H5 p2 = some (.ins T.C_Play (playI s2 l2)) := by rw [← hG]; exact put_same
      clear hG hp1 ha1 ha2 hp2'
      refine ⟨s, l, p1, rfl, h1, hne, by omega, by omega, fun s' l' hs1 => ?_⟩
      obtain ⟨c1, q1, b1, b1'⟩ := short_ok hs1 hne
      walk_at "dxs"
      intro p3 hp3
      refine ⟨p3, _, _, _, _, rfl, put_same, .tup (frzs_ints s3), .tup (frzs_ints l3), by rw [wt_ints]; omega, by rw [wt_ints]; omega, rfl, ?_⟩
      rw [put_put]
      refine ⟨s3, l3, p3, rfl, put_same, hne3, by omega, by omega, fun s4 l4 hs4 => ?_⟩
      obtain ⟨c4, q4, b4, b4'⟩ := short_ok hs4 hne3
      have h1' : put H5 p3 (.ins T.C_Play (fsPlay (.tup (s3.map D.int)) (.tup (l3.map D.int)))) p1 = some (.ins T.C_Play (playI s l)) := put_old h1 hp3
      have h2' : put H5 p3 (.ins T.C_Play (fsPlay (.tup (s3.map D.int)) (.tup (l3.map D.int)))) p2 = some (.ins T.C_Play (playI s2 l2)) := put_old h2 hp3
      generalize put H5 p3 (.ins T.C_Play (fsPlay (.tup (s3.map D.int)) (.tup (l3.map D.int)))) = H6 at h1' h2' ⊢
      walk_at "dxs"
      refine x_eqD (nb_las 0 _ _) (nb_las 0 _ _) (by decide) fun e1 he1 => ?_
      walk_at "dxs"
      refine ⟨s, l, s3, l3, rfl, hne, hne3, by omega, by omega, by omega, by omega, fun e2 he2 => ?_⟩
      have eqb : e1 = e2 := by
        have : e1 = true ↔ e2 = true := by
          rw [he1, he2, lasD_inj]
          constructor
          · rintro ⟨rfl, rfl⟩ t
            rw [← q1, q4]
          · intro h
            exact can_unique c4 c1 fun t => by rw [q4, q1, h]
        cases e1 <;> cases e2 <;> simp_all
      subst eqb
      refine x_neB ?_
      rw [beq_self_eq_true]
      walk_at "dxs"
      refine ⟨s, rfl, by omega, ?_⟩
      walk_at "dxs"
      refine ⟨[], rfl, by simp, ?_⟩
      walk_at "dxs"
      refine ⟨s2, l2, p2, rfl, h2', hne2, by omega, by omega, fun s5 l5 hs5 => ?_⟩
      obtain ⟨c5, q5, b5, b5'⟩ := short_ok hs5 hne2
      obtain ⟨rfl, rfl⟩ := can_unique c1 c5 fun t => by rw [q1, q5, hp2]
      walk_at "dxs"
      refine ⟨_, _, 2, rfl, nb_las 0 _ _, nb_las 2 _ _, by rw [wt_las]; omega, fun c hc => ?_⟩
      have ec : c = true := hc.mpr rfl
      subst ec
      walk_at "dxs"
      intro p4 hp4
      refine ⟨p4, _, _, _, _, rfl, put_same, .tup (frzs_ints s'), .tup (frzs_ints l'), by rw [wt_ints]; omega, by rw [wt_ints]; omega, rfl, ?_⟩
      rw [put_put]
      refine ⟨s', l', p4, rfl, put_same, c1.ne, by omega, by omega, fun s6 l6 hs6 => ?_⟩
      obtain ⟨c6, q6, b6, b6'⟩ := short_ok hs6 c1.ne
      obtain ⟨rfl, rfl⟩ := can_unique c1 c6 fun t => by rw [q6]
      have h1'' : put H6 p4 (.ins T.C_Play (fsPlay (.tup (s'.map D.int)) (.tup (l'.map D.int)))) p1 = some (.ins T.C_Play (playI s l)) := put_old h1' hp4
      generalize put H6 p4 (.ins T.C_Play (fsPlay (.tup (s'.map D.int)) (.tup (l'.map D.int)))) = H7 at h1'' ⊢
      walk_at "dxs"
      refine ⟨_, _, 2, rfl, nb_las 0 _ _, nb_las 2 _ _, by rw [wt_las]; omega, fun c hc => ?_⟩
      have ec : c = true := hc.mpr rfl
      subst ec
      walk_at "dxs"
      refine ⟨s, l, p1, rfl, h1'', hne, by omega, by omega, fun s8 l8 hs8 => ?_⟩
      obtain ⟨c8, q8, b8, b8'⟩ := short_ok hs8 hne
      obtain ⟨rfl, rfl⟩ := can_unique c1 c8 fun t => by rw [q1, q8]
      walk_at "dxs"
      refine ⟨_, _, 2, rfl, nb_las 0 _ _, nb_las 2 _ _, by rw [wt_las]; omega, fun c hc => ?_⟩
      have ec : c = true := hc.mpr rfl
      subst ec
      exact fin _
  exact main.mono (by decide)
end
end K05

namespace K05
open PySem PySem.Spec PyProof.Rows L2 DL
theorem walk {l : PySem.W.OpenLaw} {q : Program} {loose : List Str} {XP : (Str → Option Value) → Heap → Prop} {YP : World → Heap → Prop} {d : DefRec} {K : Params → PySem.W.Frag} (hn : l.most = some 63) (hdf : d.params.defaults = []) (hnm : d.name = "law")
    (hY : ∀ (w : World) (h : Heap), YP w h → (K w.params).In h)
    (F : ∀ (w : World) (mg : Str → Option Value) (h : Heap), (K w.params).In h → h.Ns mainGlobals mg → ∃ (T : Txt l.prog (K w.params) mg) (kV doc pm : Value) (an : Option Addr) (cd ct : Value), T.d_law = PySem.W.fnOf "law" "law" (defArgs st_law) (defBody st_law) (defScope st_law) .none kV doc pm an cd ct) :
    PySem.W.WalkO q loose XP YP l.row.toRowW d [] (fun f vs => PySem.call f vs) :=
  walk_d (k := 30) hn hdf ⟨rfl, by decide, by decide⟩ hY fun w mg fa h KX G hmg => by
    obtain ⟨T, kV, doc, pm, an, cd, ct, e2⟩ := F w mg h KX G
    have e : T.f_law = fa := Value.ref.inj (Option.some.inj (T.g_law.symm.trans (by rw [← hnm]; exact hmg)))
    refine ⟨T.d_law, fun s u => ?_, fun base _ _ => e ▸ ok_law T⟩
    rw [e2]
    exact .of_eq rfl
end K05
open PySem PySem.W PyProof.Rows in
set_option maxRecDepth 100000 in
set_option maxHeartbeats 0 in
theorem PySem.Challenge.cw_everplay_k05_plays_shortened_holds : PySem.Challenge.rw_everplay_k05_plays_shortened.Holds := by
  w_on; o_law; k_head; (case hw => w_witness2)
  k_fill
  refine K05.walk (l := PySem.Challenge.rw_everplay_k05_plays_shortened) rfl rfl rfl (fun w h Y => PySem.W.kIn_of Y) ?F
  case F =>
    intro w mg h KX G
    refine' K05.mkT (P := PySem.Challenge.rw_everplay_k05_plays_shortened.prog) KX G ?top ?z_ValueError ?z_bool ?z_int ?z_isinstance ?z_len ?z_list ?z_max ?z_range ?z_str ?z_tuple ?z_super ?opq ?g_Play ?c1_Play ?c2_Play ?c3_Play ?c4_Play ?n_Play_loop ?n_Play_stem ?o1_Play ?o2_Play ?o3_Play ?o4_Play ?a_Play_init ?l_Play_init ?cd_Play_init_ ?k_Play_init ?i_Play_init ?a_Play_len ?l_Play_len ?cd_Play_len_ ?k_Play_len ?i_Play_len ?mk_Play ?kc_Play ?g_is_row ?l_is_row ?cd_is_row_ ?k_is_row ?g_frozen ?l_frozen ?cd_frozen_ ?k_frozen ?g_shortest_period ?l_shortest_period ?cd_shortest_period_ ?k_shortest_period ?g_shortened ?l_shortened ?cd_shortened_ ?k_shortened ?g__law_bag ?l__law_bag ?cd__law_bag_ ?k__law_bag ?g__law_take ?l__law_take ?cd__law_take_ ?k__law_take ?g__law_same ?l__law_same ?cd__law_same_ ?k__law_same ?g__law_places ?l__law_places ?cd__law_places_ ?k__law_places ?g__law_lasso ?l__law_lasso ?cd__law_lasso_ ?k__law_lasso ?g__law_place_at ?l__law_place_at ?cd__law_place_at_ ?k__law_place_at ?g__law_gone_on ?l__law_gone_on ?cd__law_gone_on_ ?k__law_gone_on ?g__law_changed ?l__law_changed ?cd__law_changed_ ?k__law_changed ?g__law_alike ?l__law_alike ?cd__law_alike_ ?k__law_alike ?g__law_least ?l__law_least ?cd__law_least_ ?k__law_least ?g__law_are_places ?l__law_are_places ?cd__law_are_places_ ?k__law_are_places ?g__law_short ?l__law_short ?cd__law_short_ ?k__law_short ?g__law_refused ?l__law_refused ?cd__law_refused_ ?k__law_refused ?g_law ?l_law ?cd_law_ ?k_law ?g_EverplayError ?x_EverplayError_ ?eC_EverplayError ?tC_EverplayError ?hC_EverplayError ?g_InvalidPlay ?x_InvalidPlay_ ?eC_InvalidPlay ?tC_InvalidPlay ?hC_InvalidPlay ?sa_InvalidPlay ?kC_InvalidPlay ?iC_InvalidPlay ?tI_InvalidPlay ?l_InvalidPlay ?cd_InvalidPlay_ ?ll_InvalidPlay ?lc_InvalidPlay ?vE_InvalidPlay ?mC_InvalidPlay ?fB_InvalidPlay ?vf_InvalidPlay ?ga_InvalidPlay ?gg_InvalidPlay ?cA_InvalidPlay ?cB_InvalidPlay ?cC_InvalidPlay ?cD_InvalidPlay ?n_InvalidPlay_position ?su_InvalidPlay_EverplayError ?ic_InvalidPlay_EverplayError ?ne_InvalidPlay_EverplayError ?su_InvalidPlay_InvalidPlay
    (case top => decide +kernel)
    (case z_ValueError => k_is)
    (case z_bool => k_is)
    (case z_int => k_is)
    (case z_isinstance => k_is)
    (case z_len => k_is)
    (case z_list => k_is)
    (case z_max => k_is)
    (case z_range => k_is)
    (case z_str => k_is)
    (case z_tuple => k_is)
    (case z_super => k_is)
    (case opq => k_is)
    (case g_Play => k_is)
    (case c1_Play => k_is)
    (case c2_Play => k_is)
    (case c3_Play => k_is)
    (case c4_Play => k_is)
    (case n_Play_loop => k_is)
    (case n_Play_stem => k_is)
    (case o1_Play => k_is)
    (case o2_Play => k_is)
    (case o3_Play => k_is)
    (case o4_Play => k_is)
    (case a_Play_init => k_is)
    (case l_Play_init => k_is)
    (case cd_Play_init_ => k_is)
    (case k_Play_init => k_is)
    (case i_Play_init => k_is)
    (case a_Play_len => k_is)
    (case l_Play_len => k_is)
    (case cd_Play_len_ => k_is)
    (case k_Play_len => k_is)
    (case i_Play_len => k_is)
    (case mk_Play => k_is)
    (case kc_Play => k_is)
    (case g_is_row => k_is)
    (case l_is_row => k_is)
    (case cd_is_row_ => k_is)
    (case k_is_row => k_is)
    (case g_frozen => k_is)
    (case l_frozen => k_is)
    (case cd_frozen_ => k_is)
    (case k_frozen => k_is)
    (case g_shortest_period => k_is)
    (case l_shortest_period => k_is)
    (case cd_shortest_period_ => k_is)
    (case k_shortest_period => k_is)
    (case g_shortened => k_is)
    (case l_shortened => k_is)
    (case cd_shortened_ => k_is)
    (case k_shortened => k_is)
    (case g__law_bag => k_is)
    (case l__law_bag => k_is)
    (case cd__law_bag_ => k_is)
    (case k__law_bag => k_is)
    (case g__law_take => k_is)
    (case l__law_take => k_is)
    (case cd__law_take_ => k_is)
    (case k__law_take => k_is)
    (case g__law_same => k_is)
    (case l__law_same => k_is)
    (case cd__law_same_ => k_is)
    (case k__law_same => k_is)
    (case g__law_places => k_is)
    (case l__law_places => k_is)
    (case cd__law_places_ => k_is)
    (case k__law_places => k_is)
    (case g__law_lasso => k_is)
    (case l__law_lasso => k_is)
    (case cd__law_lasso_ => k_is)
    (case k__law_lasso => k_is)
    (case g__law_place_at => k_is)
    (case l__law_place_at => k_is)
    (case cd__law_place_at_ => k_is)
    (case k__law_place_at => k_is)
    (case g__law_gone_on => k_is)
    (case l__law_gone_on => k_is)
    (case cd__law_gone_on_ => k_is)
    (case k__law_gone_on => k_is)
    (case g__law_changed => k_is)
    (case l__law_changed => k_is)
    (case cd__law_changed_ => k_is)
    (case k__law_changed => k_is)
    (case g__law_alike => k_is)
    (case l__law_alike => k_is)
    (case cd__law_alike_ => k_is)
    (case k__law_alike => k_is)
    (case g__law_least => k_is)
    (case l__law_least => k_is)
    (case cd__law_least_ => k_is)
    (case k__law_least => k_is)
    (case g__law_are_places => k_is)
    (case l__law_are_places => k_is)
    (case cd__law_are_places_ => k_is)
    (case k__law_are_places => k_is)
    (case g__law_short => k_is)
    (case l__law_short => k_is)
    (case cd__law_short_ => k_is)
    (case k__law_short => k_is)
    (case g__law_refused => k_is)
    (case l__law_refused => k_is)
    (case cd__law_refused_ => k_is)
    (case k__law_refused => k_is)
    (case g_law => k_is)
    (case l_law => k_is)
    (case cd_law_ => k_is)
    (case k_law => k_is)
    (case g_EverplayError => k_is)
    (case x_EverplayError_ => k_is)
    (case eC_EverplayError => k_is)
    (case tC_EverplayError => k_is)
    (case hC_EverplayError => k_is)
    (case g_InvalidPlay => k_is)
    (case x_InvalidPlay_ => k_is)
    (case eC_InvalidPlay => k_is)
    (case tC_InvalidPlay => k_is)
    (case hC_InvalidPlay => k_is)
    (case sa_InvalidPlay => k_is)
    (case kC_InvalidPlay => k_is)
    (case iC_InvalidPlay => k_is)
    (case tI_InvalidPlay => k_is)
    (case l_InvalidPlay => k_is)
    (case cd_InvalidPlay_ => k_is)
    (case ll_InvalidPlay => k_is)
    (case lc_InvalidPlay => k_is)
    (case vE_InvalidPlay => k_is)
    (case mC_InvalidPlay => k_is)
    (case fB_InvalidPlay => k_is)
    (case vf_InvalidPlay => exact ⟨rfl, by decide +kernel⟩)
    (case ga_InvalidPlay => k_is)
    (case gg_InvalidPlay => k_is)
    (case cA_InvalidPlay => k_is)
    (case cB_InvalidPlay => k_is)
    (case cC_InvalidPlay => k_is)
    (case cD_InvalidPlay => k_is)
    (case n_InvalidPlay_position => k_is)
    (case su_InvalidPlay_EverplayError => k_is)
    (case ic_InvalidPlay_EverplayError => k_is)
    (case ne_InvalidPlay_EverplayError => decide)
    (case su_InvalidPlay_InvalidPlay => k_is)
#print axioms PySem.Challenge.cw_everplay_k05_plays_shortened_holds

