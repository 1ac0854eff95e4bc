import PyProof.Rows.All
import Wide.All
import OpenK.AllK
import Wide.FinOn
import HandS.ForMost
import HandS.ForExc
import HandS.TupAny
import HandS.TupMul
import HandS.IsInst
import HandS.Conv
import HandS.Wide
import HandS.ExcInit
import HandS.ExcField
import HandS.ExcIs
import HandS.Flow
import HandS.HotCalls
import KE.DataEq
import KE.KExcSuper
import HandS.CallSlots
import HandS.More
import HandS.Style
import HandS.Iter
import KE.GoesEnum
import PyProof.EnumMake
import KE.DataMinMax
import HandS.Gcd
import HandS.Codes
import HandS.SortInts
import HandS.Text
import HandS.ClsMeth
import HandS.Property
import HandS.Defaults
import PySem.Challenge.RW_everplay_k02_boards_invalid
set_option Elab.async false
set_option linter.all false
set_option maxRecDepth 100000
set_option maxHeartbeats 4000000
open PySem PySem.W PyProof.Rows in
set_option maxRecDepth 100000 in
set_option maxHeartbeats 0 in
theorem K02.said (X : PySem.Challenge.rw_everplay_k02_boards_invalid.row.wellSaid = true → PySem.Challenge.rw_everplay_k02_boards_invalid.row.Holds) : PySem.Challenge.rw_everplay_k02_boards_invalid.Holds := by
  w_on; o_law; exact X (by assumption)

/-! The data layer, part A: values by value (tuples as lists), objects that change by address; how they stand in the abstract heap. -/
namespace DL
open PySem PySem.Spec PyProof.Rows L2

/-- a value: tuples (and lists that nobody changes) by their items, other objects by their address -/
inductive D where
  | non | bl (b : Bool) | int (i : Int) | str (x : Str) | ref (a : Addr) | ty (n : String)
  | tup (xs : List D)
  | fl (xs : List D)

/-- a list that is known to stay as it is: locked, or of the written part -/
def Fl (K : PySem.W.Frag) (H : Hp) (a : Addr) (xs : List V) : Prop := (∃ o, H a = some (.frz o (.lst xs))) ∨ (∀ H' : Hp, SqL K H' a xs)

mutual
def Rep (K : PySem.W.Frag) (H : Hp) : D → V → Prop
  | .non, v => v = .non
  | .bl b, v => v = .bl b
  | .int i, v => v = .int i
  | .str x, v => v = .str x
  | .ref a, v => v = .ref a
  | .ty n, v => v = .ty n
  | .tup ds, v => ∃ a xs, v = .ref a ∧ SqT K H a xs ∧ Reps K H ds xs
  | .fl ds, v => ∃ a xs, v = .ref a ∧ Fl K H a xs ∧ Reps K H ds xs
def Reps (K : PySem.W.Frag) (H : Hp) : List D → List V → Prop
  | [], vs => vs = []
  | d :: ds, vs => ∃ v r, vs = v :: r ∧ Rep K H d v ∧ Reps K H ds r
end

/-- what never goes: tuples, locked things -/
structure Up (H H' : Hp) : Prop where
  tup : ∀ a xs, H a = some (.tup xs) → H' a = some (.tup xs)
  frz : ∀ a o u, H a = some (.frz o u) → H' a = some (.frz o u)
theorem Up.refl (H : Hp) : Up H H := ⟨fun _ _ h => h, fun _ _ _ h => h⟩
theorem Up.trans {H H1 H2 : Hp} (a : Up H H1) (b : Up H1 H2) : Up H H2 := ⟨fun x y h => b.tup x y (a.tup x y h), fun x y z h => b.frz x y z (a.frz x y z h)⟩
theorem Up.new {H : Hp} {p : Addr} {o : HO} (h : H p = none) : Up H (upd H p o) := ⟨fun a xs e => by rw [upd_ne (ne_of_none e h)]; exact e, fun a x u e => by rw [upd_ne (ne_of_none e h)]; exact e⟩
/-- a thing that may change -/
def Chg : HO → Prop
  | .tup _ => False
  | .frz _ _ => False
  | _ => True
theorem Up.put {H : Hp} {p : Addr} {o u : HO} (h : H p = some o) (c : Chg o) : Up H (upd H p u) :=
  ⟨fun a xs e => by
    have n : a ≠ p := fun z => by
      rw [z, h] at e
      cases e
      exact c
    rw [upd_ne n]; exact e, fun a x y e => by
    have n : a ≠ p := fun z => by
      rw [z, h] at e
      cases e
      exact c
    rw [upd_ne n]; exact e⟩
theorem Up.sqT {K : PySem.W.Frag} {H H' : Hp} (u : Up H H') {a : Addr} {xs : List V} (h : SqT K H a xs) : SqT K H' a xs := by
  rcases h with (h | ⟨o, h⟩) | h
  · exact .inl (.inl (u.tup _ _ h))
  · exact .inl (.inr ⟨o, u.frz _ _ _ h⟩)
  · exact .inr h
theorem Fl.sq {K : PySem.W.Frag} {H : Hp} {a : Addr} {xs : List V} (h : Fl K H a xs) : SqL K H a xs := by
  rcases h with ⟨o, h⟩ | h
  · exact .inl (.inr ⟨o, h⟩)
  · exact h H
theorem Up.fl {K : PySem.W.Frag} {H H' : Hp} (u : Up H H') {a : Addr} {xs : List V} (h : Fl K H a xs) : Fl K H' a xs := by
  rcases h with ⟨o, h⟩ | h
  · exact .inl ⟨o, u.frz _ _ _ h⟩
  · exact .inr h

section
variable {K : PySem.W.Frag} {H H' : Hp}
mutual
theorem Rep.up (u : Up H H') : ∀ (d : D) (v : V), Rep K H d v → Rep K H' d v
  | .non, _, h => h
  | .bl _, _, h => h
  | .int _, _, h => h
  | .str _, _, h => h
  | .ref _, _, h => h
  | .ty _, _, h => h
  | .tup ds, _, h => by
    obtain ⟨a, xs, e, q, r⟩ := h
    exact ⟨a, xs, e, u.sqT q, Reps.up u ds xs r⟩
  | .fl ds, _, h => by
    obtain ⟨a, xs, e, q, r⟩ := h
    exact ⟨a, xs, e, u.fl q, Reps.up u ds xs r⟩
theorem Reps.up (u : Up H H') : ∀ (ds : List D) (vs : List V), Reps K H ds vs → Reps K H' ds vs
  | [], _, h => h
  | d :: ds, _, h => by
    obtain ⟨v, r, e, h1, h2⟩ := h
    exact ⟨v, r, e, Rep.up u d v h1, Reps.up u ds r h2⟩
end
theorem Reps.len : ∀ {ds : List D} {vs : List V}, Reps K H ds vs → vs.length = ds.length
  | [], _, h => by rw [show _ = [] from h]; rfl
  | d :: ds, _, h => by
    obtain ⟨v, r, e, _, h2⟩ := h
    rw [e, List.length_cons, List.length_cons, Reps.len h2]
theorem Reps.get : ∀ {ds : List D} {vs : List V} {i : Nat} {d : D}, Reps K H ds vs → ds[i]? = some d → ∃ v, vs[i]? = some v ∧ Rep K H d v
  | [], _, _, _, _, e => by simp at e
  | d :: ds, _, 0, _, h, e => by
    obtain ⟨v, r, ev, h1, _⟩ := h
    simp at e
    subst e ev
    exact ⟨v, rfl, h1⟩
  | d :: ds, _, i + 1, x, h, e => by
    obtain ⟨v, r, ev, _, h2⟩ := h
    subst ev
    obtain ⟨w, e1, r1⟩ := Reps.get (i := i) h2 (by simpa using e)
    exact ⟨w, by simpa using e1, r1⟩
theorem Reps.app : ∀ {ds es : List D} {vs ws : List V}, Reps K H ds vs → Reps K H es ws → Reps K H (ds ++ es) (vs ++ ws)
  | [], _, _, _, h, g => by rw [show _ = [] from h]; exact g
  | d :: ds, es, _, ws, h, g => by
    obtain ⟨v, r, e, h1, h2⟩ := h
    subst e
    exact ⟨v, r ++ ws, rfl, h1, Reps.app h2 g⟩
theorem Reps.take : ∀ {ds : List D} {vs : List V} (n : Nat), Reps K H ds vs → Reps K H (ds.take n) (vs.take n)
  | _, _, 0, _ => rfl
  | [], _, _ + 1, h => by rw [show _ = [] from h]; rfl
  | d :: ds, _, n + 1, h => by
    obtain ⟨v, r, e, h1, h2⟩ := h
    subst e
    exact ⟨v, r.take n, rfl, h1, Reps.take n h2⟩
theorem Reps.drop : ∀ {ds : List D} {vs : List V} (n : Nat), Reps K H ds vs → Reps K H (ds.drop n) (vs.drop n)
  | _, _, 0, h => h
  | [], _, _ + 1, h => by rw [show _ = [] from h]; rfl
  | d :: ds, _, n + 1, h => by
    obtain ⟨v, r, e, h1, h2⟩ := h
    subst e
    exact Reps.drop n h2
theorem Reps.set {x : D} {u : V} (rx : Rep K H x u) : ∀ {ds : List D} {vs : List V} (i : Nat), Reps K H ds vs → Reps K H (ds.set i x) (vs.set i u)
  | [], _, _, h => by rw [show _ = [] from h]; rfl
  | d :: ds, _, 0, h => by
    obtain ⟨v, r, e, h1, h2⟩ := h
    subst e
    exact ⟨u, r, rfl, rx, h2⟩
  | d :: ds, _, i + 1, h => by
    obtain ⟨v, r, e, h1, h2⟩ := h
    subst e
    exact ⟨v, r.set i u, rfl, h1, Reps.set rx i h2⟩
theorem Reps.rep {ds : List D} {vs : List V} (h : Reps K H ds vs) : ∀ n : Nat, Reps K H (List.replicate n ds).flatten (List.replicate n vs).flatten
  | 0 => rfl
  | n + 1 => by
    rw [List.replicate_succ, List.replicate_succ, List.flatten_cons, List.flatten_cons]
    exact h.app (Reps.rep h n)
theorem Reps.rev : ∀ {ds : List D} {vs : List V}, Reps K H ds vs → Reps K H ds.reverse vs.reverse
  | [], _, h => by rw [show _ = [] from h]; rfl
  | d :: ds, _, h => by
    obtain ⟨v, r, e, h1, h2⟩ := h
    subst e
    rw [List.reverse_cons, List.reverse_cons]
    exact (Reps.rev h2).app ⟨v, [], rfl, h1, rfl⟩
theorem Reps.nil_iff {vs : List V} : Reps K H [] vs ↔ vs = [] := Iff.rfl
theorem Reps.one {d : D} {v : V} (h : Rep K H d v) : Reps K H [d] [v] := ⟨v, [], rfl, h, rfl⟩
theorem Reps.empty_iff {ds : List D} {vs : List V} (h : Reps K H ds vs) : vs = [] ↔ ds = [] := by
  cases ds with
  | nil => exact ⟨fun _ => rfl, fun _ => h⟩
  | cons d r =>
    obtain ⟨v, t, e, _⟩ := h
    subst e
    exact ⟨fun z => (by cases z), fun z => (by cases z)⟩
theorem Reps.of_map {α : Type} {f : α → D} {g : α → V} (h : ∀ x, Rep K H (f x) (g x)) : ∀ xs : List α, Reps K H (xs.map f) (xs.map g)
  | [] => rfl
  | x :: r => ⟨g x, r.map g, rfl, h x, Reps.of_map h r⟩
theorem Reps.to_map {α : Type} {f : α → D} {g : α → V} (h : ∀ x v, Rep K H (f x) v → v = g x) : ∀ (xs : List α) (vs : List V), Reps K H (xs.map f) vs → vs = xs.map g
  | [], _, q => q
  | x :: r, _, q => by
    obtain ⟨v, t, e, h1, h2⟩ := q
    subst e
    rw [h x v h1, Reps.to_map h r t h2]
    rfl
theorem Reps.ints {ns : List Int} {vs : List V} (h : Reps K H (ns.map D.int) vs) : vs = ns.map V.int := Reps.to_map (f := D.int) (g := V.int) (fun _ _ q => q) ns vs h
theorem Reps.of_ints (ns : List Int) : Reps K H (ns.map D.int) (ns.map V.int) := Reps.of_map (f := D.int) (g := V.int) (fun _ => rfl) ns
theorem Reps.strs {ns : List Str} {vs : List V} (h : Reps K H (ns.map D.str) vs) : vs = ns.map V.str := Reps.to_map (f := D.str) (g := V.str) (fun _ _ q => q) ns vs h
theorem Reps.of_strs (ns : List Str) : Reps K H (ns.map D.str) (ns.map V.str) := Reps.of_map (f := D.str) (g := V.str) (fun _ => rfl) ns
end

/-- pairs of a key and a value -/
def RepK {κ : Type} (K : PySem.W.Frag) (H : Hp) : List (κ × D) → List (κ × V) → Prop
  | [], vs => vs = []
  | (k, d) :: ds, vs => ∃ v r, vs = (k, v) :: r ∧ Rep K H d v ∧ RepK K H ds r
section
variable {κ : Type} {K : PySem.W.Frag} {H H' : Hp}
theorem RepK.up (u : Up H H') : ∀ {ds : List (κ × D)} {vs : List (κ × V)}, RepK K H ds vs → RepK K H' ds vs
  | [], _, h => h
  | (k, d) :: ds, _, h => by
    obtain ⟨v, r, e, h1, h2⟩ := h
    exact ⟨v, r, e, h1.up u _ _, RepK.up u h2⟩
theorem RepK.len : ∀ {ds : List (κ × D)} {vs : List (κ × V)}, RepK K H ds vs → vs.length = ds.length
  | [], _, h => by rw [show _ = [] from h]; rfl
  | (k, d) :: ds, _, h => by
    obtain ⟨v, r, e, _, h2⟩ := h
    rw [e, List.length_cons, List.length_cons, RepK.len h2]
theorem RepK.keys : ∀ {ds : List (κ × D)} {vs : List (κ × V)}, RepK K H ds vs → vs.map (·.1) = ds.map (·.1)
  | [], _, h => by rw [show _ = [] from h]; rfl
  | (k, d) :: ds, _, h => by
    obtain ⟨v, r, e, _, h2⟩ := h
    rw [e, List.map_cons, List.map_cons, RepK.keys h2]
theorem RepK.lookup [BEq κ] : ∀ {ds : List (κ × D)} {vs : List (κ × V)} {k : κ} {d : D}, RepK K H ds vs → ds.lookup k = some d → ∃ v, vs.lookup k = some v ∧ Rep K H d v
  | [], _, _, _, _, e => nomatch e
  | (k, d) :: ds, _, x, y, h, e => by
    obtain ⟨v, r, ev, h1, h2⟩ := h
    subst ev
    rw [List.lookup_cons] at e ⊢
    cases c : (x == k) with
    | true =>
      rw [c] at e
      cases e
      exact ⟨v, rfl, h1⟩
    | false =>
      rw [c] at e
      exact RepK.lookup h2 e
theorem RepK.lookup_none [BEq κ] : ∀ {ds : List (κ × D)} {vs : List (κ × V)} {k : κ}, RepK K H ds vs → ds.lookup k = none → vs.lookup k = none
  | [], _, _, h, _ => by rw [show _ = [] from h]; rfl
  | (k, d) :: ds, _, x, h, e => by
    obtain ⟨v, r, ev, h1, h2⟩ := h
    subst ev
    rw [List.lookup_cons] at e ⊢
    cases c : (x == k) with
    | true =>
      rw [c] at e
      cases e
    | false =>
      rw [c] at e
      exact RepK.lookup_none h2 e
end
end DL

/-! The data layer, part B: objects, the data heap, its steps. -/
namespace DL
open PySem PySem.Spec PyProof.Rows L2

/-- an object that is known -/
inductive DO where
  | lst (ds : List D)
  | ins (C : Addr) (fs : List (Str × D))
  | dct (kvs : List (Key × D))
  | dctT (kvs : List (List Key × D))
  | xd (fs : List (Str × D))
  | abs (R : Addr → Addr → HO → HO → Prop)
abbrev DH := Addr → Option DO
def put (Hd : DH) (a : Addr) (o : DO) : DH := fun b => if b = a then some o else Hd b
theorem put_same {Hd : DH} {a : Addr} {o : DO} : put Hd a o a = some o := if_pos rfl
theorem put_ne {Hd : DH} {a b : Addr} {o : DO} (h : b ≠ a) : put Hd a o b = Hd b := if_neg h
theorem put_put {Hd : DH} {a : Addr} {o u : DO} : put (put Hd a o) a u = put Hd a u := by
  funext b
  unfold put
  split <;> rfl
theorem dne_of_none {Hd : DH} {a b : Addr} {o : DO} (h : Hd a = some o) (h' : Hd b = none) : a ≠ b := fun e => by
  rw [e, h'] at h
  cases h
theorem dne_of {Hd : DH} {a b : Addr} {o u : DO} (h : Hd a = some o) (h' : Hd b = some u) (d : o ≠ u) : a ≠ b := fun e => by
  rw [e, h'] at h
  exact d (Option.some.inj h).symm
/-- an object made later is another one -/
theorem put_old {Hd : DH} {a b : Addr} {o u : DO} (h : Hd b = some u) (n : Hd a = none) : put Hd a o b = some u := by
  rw [put_ne (dne_of_none h n)]
  exact h

section
variable {κ : Type} [DecidableEq κ]
def getP (kvs : List (κ × D)) (k : κ) : Option D := (kvs.find? fun kv => decide (kv.1 = k)).map (·.2)
def putP (kvs : List (κ × D)) (k : κ) (d : D) : List (κ × D) :=
  if (kvs.any fun kv => decide (kv.1 = k)) = true then kvs.map (fun kv => if kv.1 = k then (kv.1, d) else kv) else kvs ++ [(k, d)]
def delP (kvs : List (κ × D)) (k : κ) : List (κ × D) := kvs.filter fun kv => decide (kv.1 ≠ k)
variable {K : PySem.W.Frag} {H : Hp}
theorem RepK.any {p : κ → Bool} : ∀ {ds : List (κ × D)} {vs : List (κ × V)}, RepK K H ds vs → (vs.any fun x => p x.1) = ds.any fun x => p x.1
  | [], _, h => by rw [show _ = [] from h]; rfl
  | (k, d) :: ds, _, h => by
    obtain ⟨v, r, e, _, h2⟩ := h
    subst e
    rw [List.any_cons, List.any_cons, RepK.any h2]
theorem RepK.get : ∀ {ds : List (κ × D)} {vs : List (κ × V)} {k : κ}, RepK K H ds vs → (∀ d, getP ds k = some d → ∃ v, valV vs k = some v ∧ Rep K H d v) ∧ (getP ds k = none → valV vs k = none)
  | [], _, _, h => by
    rw [show _ = [] from h]
    exact ⟨fun d e => (nomatch e), fun _ => rfl⟩
  | (k, d) :: ds, _, x, h => by
    obtain ⟨v, r, ev, h1, h2⟩ := h
    subst ev
    have ih := RepK.get (k := x) h2
    by_cases c : k = x
    · have g : getP ((k, d) :: ds) x = some d := by unfold getP; simp [List.find?_cons, c]
      rw [g]
      refine ⟨fun y e => ?_, fun z => (nomatch z)⟩
      cases e
      exact ⟨v, valV_pos c, h1⟩
    · have g : getP ((k, d) :: ds) x = getP ds x := by unfold getP; simp [List.find?_cons, c]
      rw [g, valV_neg c]
      exact ih
theorem RepK.app {ds es : List (κ × D)} {vs ws : List (κ × V)} (h : RepK K H ds vs) (g : RepK K H es ws) : RepK K H (ds ++ es) (vs ++ ws) := by
  induction ds generalizing vs with
  | nil => rw [show vs = [] from h]; exact g
  | cons p ds ih =>
    obtain ⟨k, d⟩ := p
    obtain ⟨v, r, e, h1, h2⟩ := h
    subst e
    exact ⟨v, r ++ ws, rfl, h1, ih h2⟩
theorem RepK.upd_all {k : κ} {d : D} {v : V} (rv : Rep K H d v) : ∀ {ds : List (κ × D)} {vs : List (κ × V)}, RepK K H ds vs → RepK K H (ds.map fun kv => if kv.1 = k then (kv.1, d) else kv) (vs.map fun kv => if kv.1 = k then (kv.1, v) else kv)
  | [], _, h => by rw [show _ = [] from h]; rfl
  | (x, y) :: ds, _, h => by
    obtain ⟨w, r, e, h1, h2⟩ := h
    subst e
    have ih := RepK.upd_all (k := k) rv h2
    by_cases c : x = k
    · rw [List.map_cons, List.map_cons]
      simp only [if_pos c]
      exact ⟨v, _, rfl, rv, ih⟩
    · rw [List.map_cons, List.map_cons]
      simp only [if_neg c]
      exact ⟨w, _, rfl, h1, ih⟩
theorem RepK.put {k : κ} {d : D} {v : V} (rv : Rep K H d v) {ds : List (κ × D)} {vs : List (κ × V)} (h : RepK K H ds vs) : RepK K H (putP ds k d) (putK vs k v) := by
  unfold putP putK
  rw [RepK.any (p := fun x => decide (x = k)) h]
  by_cases c : (ds.any fun x => decide (x.1 = k)) = true
  · rw [if_pos c, if_pos c]
    exact RepK.upd_all rv h
  · rw [if_neg c, if_neg c]
    exact RepK.app h ⟨v, [], rfl, rv, rfl⟩
theorem RepK.del {k : κ} : ∀ {ds : List (κ × D)} {vs : List (κ × V)}, RepK K H ds vs → RepK K H (delP ds k) (dropK vs k)
  | [], _, h => by rw [show _ = [] from h]; rfl
  | (x, y) :: ds, _, h => by
    obtain ⟨w, r, e, h1, h2⟩ := h
    subst e
    have ih := RepK.del (k := k) h2
    unfold delP dropK at ih ⊢
    rw [List.filter_cons, List.filter_cons]
    by_cases c : x = k
    · rw [if_neg (by simp [c]), if_neg (by simp [c])]
      exact ih
    · rw [if_pos (by simp [c]), if_pos (by simp [c])]
      exact ⟨w, _, rfl, h1, ih⟩
end

/-- the attributes -/
def putA (f : Str) (d : D) : List (Str × D) → List (Str × D)
  | [] => [(f, d)]
  | (g, x) :: r => if g = f then (g, d) :: r else (g, x) :: putA f d r
theorem RepK.putA {K : PySem.W.Frag} {H : Hp} {f : Str} {d : D} {v : V} (rv : Rep K H d v) : ∀ {ds : List (Str × D)} {vs : List (Str × V)}, RepK K H ds vs → RepK K H (putA f d ds) (putF f v vs)
  | [], _, h => by rw [show _ = [] from h]; exact ⟨v, [], rfl, rv, rfl⟩
  | (g, x) :: ds, _, h => by
    obtain ⟨w, r, e, h1, h2⟩ := h
    subst e
    unfold DL.putA putF
    by_cases c : g = f
    · rw [if_pos c, if_pos c]
      exact ⟨v, r, rfl, rv, h2⟩
    · rw [if_neg c, if_neg c]
      exact ⟨w, _, rfl, h1, RepK.putA rv h2⟩

/-- how an object stands -/
def RO (K : PySem.W.Frag) (Hd : DH) (H : Hp) (a : Addr) : DO → Prop
  | .lst ds => ∃ xs, H a = some (.lst xs) ∧ Reps K H ds xs
  | .ins C fs => ∃ dx gs, H a = some (.ins C dx gs) ∧ RepK K H fs gs
  | .dct kvs => ∃ ws, H a = some (.dK ws) ∧ RepK K H kvs ws
  | .dctT kvs => ∃ ws, H a = some (.dT ws) ∧ RepK K H kvs ws
  | .xd fs => ∃ gs, H a = some (.xd gs) ∧ RepK K H fs gs
  | .abs R => ∃ g oa og, Hd g = none ∧ g ≠ a ∧ H a = some oa ∧ Chg oa ∧ H g = some og ∧ R a g oa og
def RH (K : PySem.W.Frag) (Hd : DH) (H : Hp) : Prop := ∀ a o, Hd a = some o → RO K Hd H a o
section
variable {K : PySem.W.Frag} {Hd Hd' : DH} {H H' : Hp} {a p : Addr} {o : DO}
theorem RO.there (h : RO K Hd H a o) : ∃ u, H a = some u ∧ Chg u := by
  cases o with
  | lst ds => obtain ⟨xs, e, _⟩ := h; exact ⟨_, e, trivial⟩
  | ins C fs => obtain ⟨dx, gs, e, _⟩ := h; exact ⟨_, e, trivial⟩
  | dct kvs => obtain ⟨ws, e, _⟩ := h; exact ⟨_, e, trivial⟩
  | dctT kvs => obtain ⟨ws, e, _⟩ := h; exact ⟨_, e, trivial⟩
  | xd fs => obtain ⟨gs, e, _⟩ := h; exact ⟨_, e, trivial⟩
  | abs R => obtain ⟨g, oa, og, _, _, e, c, _⟩ := h; exact ⟨_, e, c⟩
theorem RH.fresh (r : RH K Hd H) (h : H p = none) : Hd p = none := by
  cases e : Hd p with
  | none => rfl
  | some o =>
    have hr : RO K Hd H p o := r p o e
    obtain ⟨u, q, _⟩ := hr.there
    rw [h] at q
    cases q
/-- an object is untouched -/
theorem RO.stay (u : Up H H') (h : RO K Hd H a o) (ea : H' a = H a) (eg : ∀ g og, Hd g = none → H g = some og → Hd' g = none ∧ H' g = some og) : RO K Hd' H' a o := by
  cases o with
  | lst ds => obtain ⟨xs, e, r⟩ := h; exact ⟨xs, ea.trans e, r.up u _ _⟩
  | ins C fs => obtain ⟨dx, gs, e, r⟩ := h; exact ⟨dx, gs, ea.trans e, r.up u⟩
  | dct kvs => obtain ⟨ws, e, r⟩ := h; exact ⟨ws, ea.trans e, r.up u⟩
  | dctT kvs => obtain ⟨ws, e, r⟩ := h; exact ⟨ws, ea.trans e, r.up u⟩
  | xd fs => obtain ⟨gs, e, r⟩ := h; exact ⟨gs, ea.trans e, r.up u⟩
  | abs R =>
    obtain ⟨g, oa, og, n, ne, e1, c, e2, r⟩ := h
    obtain ⟨n', e2'⟩ := eg g og n e2
    exact ⟨g, oa, og, n', ne, ea.trans e1, c, e2', r⟩
/-- a new thing that the data heap does not know -/
theorem RH.hid (r : RH K Hd H) {u : HO} (h : H p = none) : RH K Hd (upd H p u) := fun a o e => by
  have hr : RO K Hd H a o := r a o e
  obtain ⟨w, q, _⟩ := hr.there
  exact hr.stay (Up.new h) (upd_ne (ne_of_none q h)) fun g og n eg => ⟨n, by rw [upd_ne (ne_of_none eg h)]; exact eg⟩
/-- a new object -/
theorem RH.new (r : RH K Hd H) {u : HO} {x : DO} (h : H p = none) (hx : RO K (put Hd p x) (upd H p u) p x) : RH K (put Hd p x) (upd H p u) := fun a o e => by
  by_cases c : a = p
  · subst c
    rw [put_same] at e
    cases e
    exact hx
  · rw [put_ne c] at e
    have hr : RO K Hd H a o := r a o e
    refine hr.stay (Up.new h) (upd_ne c) fun g og n eg => ?_
    have gp := ne_of_none eg h
    exact ⟨by rw [put_ne gp]; exact n, by rw [upd_ne gp]; exact eg⟩
/-- a known object changes -/
theorem RH.write (r : RH K Hd H) {u : HO} {x o : DO} (h : Hd p = some o) (hx : RO K (put Hd p x) (upd H p u) p x) : RH K (put Hd p x) (upd H p u) ∧ Up H (upd H p u) := by
  have hr0 : RO K Hd H p o := r p o h
  obtain ⟨w, q, c⟩ := hr0.there
  have up : Up H (upd H p u) := Up.put q c
  refine ⟨fun a o' e => ?_, up⟩
  by_cases ca : a = p
  · subst ca
    rw [put_same] at e
    cases e
    exact hx
  · rw [put_ne ca] at e
    have hr : RO K Hd H a o' := r a o' e
    refine hr.stay up (upd_ne ca) fun g og n eg => ?_
    have gp : g ≠ p := fun z => by
      rw [z, h] at n
      cases n
    exact ⟨by rw [put_ne gp]; exact n, by rw [upd_ne gp]; exact eg⟩
/-- less is known -/
def Sub (Hd Hd' : DH) : Prop := ∀ a o, Hd a = some o → Hd' a = some o
theorem Sub.refl (Hd : DH) : Sub Hd Hd := fun _ _ h => h
theorem Sub.trans {H1 H2 H3 : DH} (a : Sub H1 H2) (b : Sub H2 H3) : Sub H1 H3 := fun x o h => b x o (a x o h)
theorem Sub.new (h : Hd p = none) : Sub Hd (put Hd p o) := fun b u e => put_old e h
theorem Sub.free {Hd Hd' : DH} (s : Sub Hd Hd') {a : Addr} (h : Hd' a = Option.none) : Hd a = Option.none := by
  cases e : Hd a with
  | none => rfl
  | some o =>
    rw [s a o e] at h
    cases h
theorem RH.less (s : Sub Hd Hd') (r : RH K Hd' H) : RH K Hd H := fun a o e => by
  have hr : RO K Hd' H a o := r a o (s a o e)
  exact hr.stay (Up.refl H) rfl fun g og n eg => ⟨s.free n, eg⟩
end

/-! ### the frame's names -/
abbrev DSt := List (Option D)
structure RS (K : PySem.W.Frag) (σd : DSt) (Hd : DH) (σ : L2.St) (H : Hp) : Prop where
  len : σ.length = σd.length
  at_ : ∀ (i : Nat) d, σd[i]? = some (some d) → ∃ v, σ[i]? = some (some v) ∧ Rep K H d v
  hp : RH K Hd H
section
variable {K : PySem.W.Frag} {σd : DSt} {σ : L2.St} {Hd Hd' : DH} {H H' : Hp}
theorem RS.mono (r : RS K σd Hd σ H) (u : Up H H') (h : RH K Hd' H') : RS K σd Hd' σ H' := ⟨r.len, fun i d e => by
  obtain ⟨v, q, rv⟩ := r.at_ i d e
  exact ⟨v, q, rv.up u _ _⟩, h⟩
theorem RS.set (r : RS K σd Hd σ H) {d : D} {v : V} (rv : Rep K H d v) (i : Nat) : RS K (σd.set i (some d)) Hd (σ.set i (some v)) H := ⟨by rw [List.length_set, List.length_set]; exact r.len, fun j x e => by
  by_cases c : i = j
  · subst c
    by_cases hl : i < σd.length
    · rw [List.getElem?_set_self hl] at e
      cases e
      exact ⟨v, List.getElem?_set_self (by rw [r.len]; exact hl), rv⟩
    · rw [List.getElem?_eq_none (by rw [List.length_set]; omega)] at e
      cases e
  · rw [List.getElem?_set_ne c] at e ⊢
    exact r.at_ j x e, r.hp⟩
/-- a slot that is let go -/
theorem RS.unset (r : RS K σd Hd σ H) (i : Nat) : RS K (σd.set i none) Hd (σ.set i none) H := ⟨by rw [List.length_set, List.length_set]; exact r.len, fun j x e => by
  by_cases c : i = j
  · subst c
    by_cases hl : i < σd.length
    · rw [List.getElem?_set_self hl] at e
      cases e
    · rw [List.getElem?_eq_none (by rw [List.length_set]; omega)] at e
      cases e
  · rw [List.getElem?_set_ne c] at e ⊢
    exact r.at_ j x e, r.hp⟩
def startD (N : List Str) (ds : List D) : DSt := ds.map some ++ List.replicate (N.length - ds.length) none
theorem RS.start {N : List Str} {ds : List D} {vs : List V} (h : Reps K H ds vs) (r : RH K Hd H) : RS K (startD N ds) Hd (L2.start N vs) H := ⟨by
  unfold startD L2.start
  simp [h.len], fun i d e => by
  unfold startD at e
  unfold L2.start
  have hl := h.len
  by_cases hi : i < ds.length
  · rw [List.getElem?_append_left (by simpa using hi), List.getElem?_map] at e
    rw [List.getElem?_append_left (by simpa [hl] using hi), List.getElem?_map]
    cases q : ds[i]? with
    | none => rw [q] at e; cases e
    | some x =>
      rw [q] at e
      obtain ⟨v, e2, rv⟩ := h.get q
      cases e
      exact ⟨v, by rw [e2]; rfl, rv⟩
  · rw [List.getElem?_append_right (by simpa using hi), List.getElem?_replicate] at e
    split at e <;> (cases e), r⟩
end
end DL

/-! The data layer, part C: readings over data, expressions. -/
namespace DL
open PySem PySem.Spec PyProof.Rows L2

abbrev DK := D → DH → Prop
/-- an exception that leaves: its class, its own dict's address -/
abbrev DX := Addr → Option Addr → DH → Prop
abbrev DTE := DX → DSt → DH → DK → Prop
abbrev DTT := DX → DSt → DH → (Bool → DH → Prop) → Prop
abbrev DTA := DX → DSt → DH → (List D → DH → Prop) → Prop
abbrev DTO := DX → DSt → DH → (Option Int → DH → Prop) → Prop
abbrev DR2 := D → D → DH → DK → Prop
abbrev DR1 := D → DH → DK → Prop
abbrev DRA := List D → DH → DK → Prop

section
variable (K : PySem.W.Frag)
/-- what is wanted of a value of the data, said of a value -/
def Want (σd : DSt) (σ : L2.St) (H : Hp) (Qd : DK) (Q : VK) : Prop := ∀ x Hd' v H', Qd x Hd' → Rep K H' x v → RS K σd Hd' σ H' → Up H H' → Q v H'
/-- .. and of an exception -/
def WantX (W : WX) (σd : DSt) (σ : L2.St) (H : Hp) (E : DX) : Prop := ∀ C dd Hd' H', E C dd Hd' → RS K σd Hd' σ H' → Up H H' → W (.ref C) dd σ H'
def SimE (W : WX) (t : TE) (d : DTE) : Prop := ∀ σd Hd σ H (Qd : DK) (Q : VK) (E : DX), RS K σd Hd σ H → WantX K W σd σ H E → d E σd Hd Qd → Want K σd σ H Qd Q → t σ H Q
def SimT (W : WX) (t : TT) (d : DTT) : Prop := ∀ σd Hd σ H (Qd : Bool → DH → Prop) (Q : Bool → Hp → Prop) (E : DX), RS K σd Hd σ H → WantX K W σd σ H E → d E σd Hd Qd → (∀ b Hd' H', Qd b Hd' → RS K σd Hd' σ H' → Up H H' → Q b H') → t σ H Q
def SimA (W : WX) (t : TA) (d : DTA) : Prop := ∀ σd Hd σ H (Qd : List D → DH → Prop) (Q : List V → Hp → Prop) (E : DX), RS K σd Hd σ H → WantX K W σd σ H E → d E σd Hd Qd → (∀ xs Hd' vs H', Qd xs Hd' → Reps K H' xs vs → RS K σd Hd' σ H' → Up H H' → Q vs H') → t σ H Q
def SimO (W : WX) (t : L2.TO) (d : DTO) : Prop := ∀ σd Hd σ H (Qd : Option Int → DH → Prop) (Q : Option Int → Hp → Prop) (E : DX), RS K σd Hd σ H → WantX K W σd σ H E → d E σd Hd Qd → (∀ o Hd' H', Qd o Hd' → RS K σd Hd' σ H' → Up H H' → Q o H') → t σ H Q
/-- by values -/
def WantV (H : Hp) (Qd : DK) (Q : VK) : Prop := ∀ z Hd' w H', Qd z Hd' → Rep K H' z w → RH K Hd' H' → Up H H' → Q w H'
def SimR (r : R2) (rd : DR2) : Prop := ∀ x y v u Hd H (Qd : DK) (Q : VK), Rep K H x v → Rep K H y u → RH K Hd H → rd x y Hd Qd → WantV K H Qd Q → r v u H Q
def SimU (r : V → Hp → VK → Prop) (rd : DR1) : Prop := ∀ x v Hd H (Qd : DK) (Q : VK), Rep K H x v → RH K Hd H → rd x Hd Qd → WantV K H Qd Q → r v H Q
def SimC (r : List V → Hp → VK → Prop) (rd : DRA) : Prop := ∀ xs vs Hd H (Qd : DK) (Q : VK), Reps K H xs vs → RH K Hd H → rd xs Hd Qd → WantV K H Qd Q → r vs H Q
end
def DPE (X : Cx) (W : WX) (e : Expr) (d : DTE) : Prop := ∃ t, PE X e t ∧ SimE X.K W t d
def DPT (X : Cx) (W : WX) (e : Expr) (d : DTT) : Prop := ∃ t, PT X e t ∧ SimT X.K W t d
def DPW (X : Cx) (W : WX) (e : Expr) (d : DTT) : Prop := ∃ t, PW X e t ∧ SimT X.K W t d
def DPA (X : Cx) (W : WX) (es : List Expr) (d : DTA) : Prop := ∃ t, PA X es t ∧ SimA X.K W t d
def DPO (X : Cx) (W : WX) (e : Option Expr) (d : DTO) : Prop := ∃ t, PO X e t ∧ SimO X.K W t d
def DOp (X : Cx) (f : Value → Value → Sem Value) (rd : DR2) : Prop := ∃ r, OpR X f r ∧ SimR X.K r rd
def DUn (X : Cx) (f : Value → Sem Value) (rd : DR1) : Prop := ∃ r, UnR X f r ∧ SimU X.K r rd
def DCl (X : Cx) (f : Value) (rd : DRA) : Prop := ∃ r, CallR X f r ∧ SimC X.K r rd

section
variable {K : PySem.W.Frag} {σd : DSt} {σ : L2.St} {H H' : Hp} {Qd : DK} {Q : VK}
theorem Want.v (w : Want K σd σ H Qd Q) {Hd : DH} (r : RS K σd Hd σ H) : WantV K H Qd Q := fun z Hd' u H' q rz rh up => w z Hd' u H' q rz (r.mono up rh) up
theorem Want.to (w : Want K σd σ H Qd Q) (u : Up H H') : Want K σd σ H' Qd Q := fun z Hd' v H2 q rz rs up => w z Hd' v H2 q rz rs (u.trans up)
theorem WantX.to {W : WX} {E : DX} (w : WantX K W σd σ H E) (u : Up H H') : WantX K W σd σ H' E := fun C dd Hd' H2 q rs up => w C dd Hd' H2 q rs (u.trans up)
theorem WantV.here {Hd : DH} {z : D} {w : V} (k : WantV K H Qd Q) (q : Qd z Hd) (rz : Rep K H z w) (rh : RH K Hd H) : Q w H := k z Hd w H q rz rh (Up.refl H)
end

/-! ### readings -/
def dVar (i : Nat) : DTE := fun _ σ H Q => ∃ d, σ[i]? = some (some d) ∧ Q d H
def dC (d : D) : DTE := fun _ _ H Q => Q d H
def dOp (r : DR2) (a b : DTE) : DTE := fun E σ H Q => a E σ H fun x H1 => b E σ H1 fun y H2 => r x y H2 Q
def dUn (r : DR1) (a : DTE) : DTE := fun E σ H Q => a E σ H fun x H1 => r x H1 Q
def dNil : DTA := fun _ _ H Q => Q [] H
def dCons (a : DTE) (r : DTA) : DTA := fun E σ H Q => a E σ H fun x H1 => r E σ H1 fun xs H2 => Q (x :: xs) H2
def dTup (a : DTA) : DTE := fun E σ H Q => a E σ H fun xs H1 => xs.length ≤ sizeLine ∧ Q (.tup xs) H1
def dLst (a : DTA) : DTE := fun E σ H Q => a E σ H fun xs H1 => xs.length ≤ sizeLine ∧ ∀ p, H1 p = none → Q (.ref p) (put H1 p (.lst xs))
def dCB (r : DRA) (a : DTA) : DTE := fun E σ H Q => a E σ H fun xs H1 => r xs H1 Q
def dTest (a : DTE) : DTT := fun E σ H Q => a E σ H fun x H1 => ∃ c, x = .bl c ∧ Q c H1
def dAnd (t u : DTT) : DTT := fun E σ H Q => t E σ H fun c H1 => if c = true then u E σ H1 Q else Q false H1
def dOr (t u : DTT) : DTT := fun E σ H Q => t E σ H fun c H1 => if c = true then Q true H1 else u E σ H1 Q
def dNot (t : DTT) : DTT := fun E σ H Q => t E σ H fun c H1 => Q (!c) H1
def dAndV (a b : DTE) : DTE := fun E σ H Q => a E σ H fun x H1 => ∃ c, x = .bl c ∧ if c = true then b E σ H1 Q else Q (.bl false) H1
def dOrV (a b : DTE) : DTE := fun E σ H Q => a E σ H fun x H1 => ∃ c, x = .bl c ∧ if c = true then Q (.bl true) H1 else b E σ H1 Q
def dNotV (a : DTE) : DTE := fun E σ H Q => a E σ H fun x H1 => ∃ c, x = .bl c ∧ Q (.bl (!c)) H1
def dIf (t : DTT) (a b : DTE) : DTE := fun E σ H Q => t E σ H fun c H1 => if c = true then a E σ H1 Q else b E σ H1 Q
def dNoPart : DTO := fun _ _ H Q => Q none H
def dPart (a : DTE) : DTO := fun E σ H Q => a E σ H fun x H1 => ∃ i, x = .int i ∧ Q (some i) H1
def dSl (r : D → Option Int → Option Int → DH → DK → Prop) (a : DTE) (l h : DTO) : DTE := fun E σ H Q => a E σ H fun x H1 => l E σ H1 fun lo H2 => h E σ H2 fun hi H3 => r x lo hi H3 Q

section
variable {X : Cx} {W : WX} {a b e : Expr} {es : List Expr} {da db de : DTE} {dt du : DTT} {dA : DTA} {pos : Pos}
theorem d_var (i : Nat) {x : Str} (hN : X.N[i]? = some x := by rfl) (hv : Vis X.env.scope x := by first | exact Or.inl rfl | exact Or.inr (Or.inl rfl) | exact Or.inr (Or.inr rfl)) (hd : (x == ("__debug__" : Str)) = false := by decide)
    (hcd : (x == ("__classdict__" : Str)) = false := by decide) : DPE X W (.Name x pos) (dVar i) :=
  ⟨tVar i, pv i hN hv hd hcd, fun σd Hd σ H Qd Q E r wx h w => by
    obtain ⟨d, e, q⟩ := h
    obtain ⟨v, e2, rv⟩ := r.at_ i d e
    exact ⟨v, e2, w d Hd v H q rv r (Up.refl H)⟩⟩
theorem sim_c {K : PySem.W.Frag} {v : V} {d : D} (h : ∀ H, Rep K H d v) : SimE K W (tC v) (dC d) := fun σd Hd σ H Qd Q E r wx q w => w d Hd v H q (h H) r (Up.refl H)
theorem d_int {i j} : DPE X W (.Constant (.int i) j pos) (dC (.int i)) := ⟨_, pe_int, sim_c fun _ => rfl⟩
theorem d_bl {i j} : DPE X W (.Constant (.bool i) j pos) (dC (.bl i)) := ⟨_, pe_bl, sim_c fun _ => rfl⟩
theorem d_non {j} : DPE X W (.Constant .none j pos) (dC .non) := ⟨_, pe_non, sim_c fun _ => rfl⟩
theorem d_str {i j} : DPE X W (.Constant (.str i) j pos) (dC (.str i)) := ⟨_, pe_str, sim_c fun _ => rfl⟩
/-- a global name with a known value -/
theorem d_glob {x : Str} {v : V} {d : D} {u : Value} (hg : Gl X x) (hm : X.mg x = some u) (r : RelV v u) (h : ∀ H, Rep X.K H d v) (hd : (x == ("__debug__" : Str)) = false := by decide) : DPE X W (.Name x pos) (dC d) := ⟨_, pe_glob hg hm r hd, sim_c h⟩
theorem d_bltn {x : Str} {v : V} {d : D} {u : Value} (hg : Gl X x) (hm : X.mg x = none) (hv : bootBuiltins x = some u) (r : RelV v u) (h : ∀ H, Rep X.K H d v) (hn : x ≠ "__name__" := by decide) (hd : (x == ("__debug__" : Str)) = false := by decide) : DPE X W (.Name x pos) (dC d) :=
  ⟨_, pe_bltn hg hm hv r hn hd, sim_c h⟩

theorem d_op {op : Operator} {rd : DR2} (ho : DOp X (binaryOp op) rd) (ha : DPE X W a da) (hb : DPE X W b db) : DPE X W (.BinOp a op b pos) (dOp rd da db) := by
  obtain ⟨r, o1, o2⟩ := ho
  obtain ⟨ta, a1, a2⟩ := ha
  obtain ⟨tb, b1, b2⟩ := hb
  refine ⟨_, pe_op o1 a1 b1, fun σd Hd σ H Qd Q E rs wx h w => ?_⟩
  refine a2 σd Hd σ H _ _ E rs wx h fun x H1 v H1' q rx rs1 u1 => ?_
  refine b2 σd H1 σ H1' _ _ E rs1 (wx.to u1) q fun y H2 u H2' q2 ry rs2 u2 => ?_
  exact o2 x y v u H2 H2' Qd Q (rx.up u2 _ _) ry rs2.hp q2 ((w.to (u1.trans u2)).v rs2)
theorem sim_op {K : PySem.W.Frag} {r : R2} {rd : DR2} {ta tb : TE} (o2 : SimR K r rd) (a2 : SimE K W ta da) (b2 : SimE K W tb db) : SimE K W (tOp r ta tb) (dOp rd da db) := fun σd Hd σ H Qd Q E rs wx h w =>
  a2 σd Hd σ H _ _ E rs wx h fun x H1 v H1' q rx rs1 u1 => b2 σd H1 σ H1' _ _ E rs1 (wx.to u1) q fun y H2 u H2' q2 ry rs2 u2 => o2 x y v u H2 H2' Qd Q (rx.up u2 _ _) ry rs2.hp q2 ((w.to (u1.trans u2)).v rs2)
theorem d_cmp {op : CmpOp} {rd : DR2} (ho : DOp X (compareOp op) rd) (ha : DPE X W a da) (hb : DPE X W b db) (hm : behindInMarks op b = false) : DPE X W (.Compare a [op] [b] pos) (dOp rd da db) := by
  obtain ⟨r, o1, o2⟩ := ho
  obtain ⟨ta, a1, a2⟩ := ha
  obtain ⟨tb, b1, b2⟩ := hb
  exact ⟨_, pe_cmpR o1 a1 b1 hm, sim_op o2 a2 b2⟩
theorem sim_test {K : PySem.W.Frag} {t : TE} (h : SimE K W t da) : SimT K W (tTest t) (dTest da) := fun σd Hd σ H Qd Q E rs wx q k =>
  h σd Hd σ H _ _ E rs wx q fun x H1 v H1' q1 rx rs1 u1 => by
    obtain ⟨c, e, q2⟩ := q1
    subst e
    exact ⟨c, rx, k c H1 H1' q2 rs1 u1⟩
theorem dt_cmp {op : CmpOp} {rd : DR2} (ho : DOp X (compareOp op) rd) (ha : DPE X W a da) (hb : DPE X W b db) (hm : behindInMarks op b = false) : DPT X W (.Compare a [op] [b] pos) (dTest (dOp rd da db)) := by
  obtain ⟨r, o1, o2⟩ := ho
  obtain ⟨ta, a1, a2⟩ := ha
  obtain ⟨tb, b1, b2⟩ := hb
  exact ⟨_, pt_cmpR o1 a1 b1 hm, sim_test (sim_op o2 a2 b2)⟩
/-- any expression whose value is a bool -/
theorem dt_val (h : DPE X W e de) (he : ∀ whole, isTrue e X.env whole = (do let v ← whole; standAt e.pos; holding [v] (truthy v)) := by intro _; rfl) : DPT X W e (dTest de) := by
  obtain ⟨t, h1, h2⟩ := h
  exact ⟨_, pt_val h1 he, sim_test h2⟩
theorem d_un {op : UnaryOp} {rd : DR1} (ho : DUn X (unaryOp op) rd) (ha : DPE X W a da) : DPE X W (.UnaryOp op a pos) (dUn rd da) := by
  obtain ⟨r, o1, o2⟩ := ho
  obtain ⟨ta, a1, a2⟩ := ha
  exact ⟨_, pe_un o1 a1, fun σd Hd σ H Qd Q E rs wx h w => a2 σd Hd σ H _ _ E rs wx h fun x H1 v H1' q rx rs1 u1 => o2 x v H1 H1' Qd Q rx rs1.hp q ((w.to u1).v rs1)⟩
theorem dw_pt (h : DPW X W e dt) : DPT X W e dt := by
  obtain ⟨t, h1, h2⟩ := h
  exact ⟨t, h1.pt, h2⟩
theorem dw_and1 (h : DPT X W a dt) : DPW X W (.BoolOp .And [a] pos) dt := by
  obtain ⟨t, h1, h2⟩ := h
  exact ⟨t, pw_and1 h1, h2⟩
theorem dw_or1 (h : DPT X W a dt) : DPW X W (.BoolOp .Or [a] pos) dt := by
  obtain ⟨t, h1, h2⟩ := h
  exact ⟨t, pw_or1 h1, h2⟩
theorem dw_and {r : List Expr} (ha : DPT X W a dt) (hb : DPW X W (.BoolOp .And (b :: r) pos) du) : DPW X W (.BoolOp .And (a :: b :: r) pos) (dAnd dt du) := by
  obtain ⟨t, h1, h2⟩ := ha
  obtain ⟨u, g1, g2⟩ := hb
  refine ⟨_, pw_and h1 g1, fun σd Hd σ H Qd Q E rs wx q k => ?_⟩
  refine h2 σd Hd σ H _ _ E rs wx q fun c H1 H1' q1 rs1 u1 => ?_
  cases c with
  | true =>
    rw [if_pos rfl] at q1 ⊢
    exact g2 σd H1 σ H1' Qd Q E rs1 (wx.to u1) q1 fun b H2 H2' q2 rs2 u2 => k b H2 H2' q2 rs2 (u1.trans u2)
  | false =>
    rw [if_neg Bool.false_ne_true] at q1 ⊢
    exact k false H1 H1' q1 rs1 u1
theorem dw_or {r : List Expr} (ha : DPT X W a dt) (hb : DPW X W (.BoolOp .Or (b :: r) pos) du) : DPW X W (.BoolOp .Or (a :: b :: r) pos) (dOr dt du) := by
  obtain ⟨t, h1, h2⟩ := ha
  obtain ⟨u, g1, g2⟩ := hb
  refine ⟨_, pw_or h1 g1, fun σd Hd σ H Qd Q E rs wx q k => ?_⟩
  refine h2 σd Hd σ H _ _ E rs wx q fun c H1 H1' q1 rs1 u1 => ?_
  cases c with
  | true =>
    rw [if_pos rfl] at q1 ⊢
    exact k true H1 H1' q1 rs1 u1
  | false =>
    rw [if_neg Bool.false_ne_true] at q1 ⊢
    exact g2 σd H1 σ H1' Qd Q E rs1 (wx.to u1) q1 fun b H2 H2' q2 rs2 u2 => k b H2 H2' q2 rs2 (u1.trans u2)
theorem dt_not (ha : DPT X W a dt) : DPT X W (.UnaryOp .Not a pos) (dNot dt) := by
  obtain ⟨t, h1, h2⟩ := ha
  exact ⟨_, pt_not h1, fun σd Hd σ H Qd Q E rs wx q k => h2 σd Hd σ H _ _ E rs wx q fun c H1 H1' q1 rs1 u1 => k (!c) H1 H1' q1 rs1 u1⟩
theorem d_one {op} (h : DPE X W a da) : DPE X W (.BoolOp op [a] pos) da := by
  obtain ⟨t, h1, h2⟩ := h
  exact ⟨t, pe_one h1, h2⟩
theorem d_and {r : List Expr} (ha : DPE X W a da) (hb : DPE X W (.BoolOp .And (b :: r) pos) db) : DPE X W (.BoolOp .And (a :: b :: r) pos) (dAndV da db) := by
  obtain ⟨t, h1, h2⟩ := ha
  obtain ⟨u, g1, g2⟩ := hb
  refine ⟨_, pe_and h1 g1, fun σd Hd σ H Qd Q E rs wx q w => ?_⟩
  refine h2 σd Hd σ H _ _ E rs wx q fun x H1 v H1' q1 rx rs1 u1 => ?_
  obtain ⟨c, e, q2⟩ := q1
  subst e
  refine ⟨c, rx, ?_⟩
  cases c with
  | true =>
    rw [if_pos rfl] at q2 ⊢
    exact g2 σd H1 σ H1' Qd Q E rs1 (wx.to u1) q2 (w.to u1)
  | false =>
    rw [if_neg Bool.false_ne_true] at q2 ⊢
    exact w _ H1 _ H1' q2 rfl rs1 u1
theorem d_or {r : List Expr} (ha : DPE X W a da) (hb : DPE X W (.BoolOp .Or (b :: r) pos) db) : DPE X W (.BoolOp .Or (a :: b :: r) pos) (dOrV da db) := by
  obtain ⟨t, h1, h2⟩ := ha
  obtain ⟨u, g1, g2⟩ := hb
  refine ⟨_, pe_or h1 g1, fun σd Hd σ H Qd Q E rs wx q w => ?_⟩
  refine h2 σd Hd σ H _ _ E rs wx q fun x H1 v H1' q1 rx rs1 u1 => ?_
  obtain ⟨c, e, q2⟩ := q1
  subst e
  refine ⟨c, rx, ?_⟩
  cases c with
  | true =>
    rw [if_pos rfl] at q2 ⊢
    exact w _ H1 _ H1' q2 rfl rs1 u1
  | false =>
    rw [if_neg Bool.false_ne_true] at q2 ⊢
    exact g2 σd H1 σ H1' Qd Q E rs1 (wx.to u1) q2 (w.to u1)
theorem d_not (ha : DPE X W a da) : DPE X W (.UnaryOp .Not a pos) (dNotV da) := by
  obtain ⟨t, h1, h2⟩ := ha
  exact ⟨_, pe_not h1, fun σd Hd σ H Qd Q E rs wx q w => h2 σd Hd σ H _ _ E rs wx q fun x H1 v H1' q1 rx rs1 u1 => by
    obtain ⟨c, e, q2⟩ := q1
    subst e
    exact ⟨c, rx, w _ H1 _ H1' q2 rfl rs1 u1⟩⟩
theorem d_ifExp {c : Expr} (hc : DPT X W c dt) (ha : DPE X W a da) (hb : DPE X W b db) : DPE X W (.IfExp c a b pos) (dIf dt da db) := by
  obtain ⟨t, h1, h2⟩ := hc
  obtain ⟨ta, a1, a2⟩ := ha
  obtain ⟨tb, b1, b2⟩ := hb
  refine ⟨_, pe_ifExp h1 a1 b1, fun σd Hd σ H Qd Q E rs wx q w => ?_⟩
  refine h2 σd Hd σ H _ _ E rs wx q fun c H1 H1' q1 rs1 u1 => ?_
  cases c with
  | true =>
    rw [if_pos rfl] at q1 ⊢
    exact a2 σd H1 σ H1' Qd Q E rs1 (wx.to u1) q1 (w.to u1)
  | false =>
    rw [if_neg Bool.false_ne_true] at q1 ⊢
    exact b2 σd H1 σ H1' Qd Q E rs1 (wx.to u1) q1 (w.to u1)
theorem da_nil : DPA X W [] dNil := ⟨_, pa_nil, fun σd Hd σ H Qd Q E rs wx q k => k [] Hd [] H q rfl rs (Up.refl H)⟩
theorem da_cons (ha : DPE X W e de) (hr : DPA X W es dA) (hs : starEach (e :: es) X.env = (false, eval e X.env) :: starEach es X.env := by rfl) : DPA X W (e :: es) (dCons de dA) := by
  obtain ⟨t, h1, h2⟩ := ha
  obtain ⟨u, g1, g2⟩ := hr
  exact ⟨_, pa_cons h1 g1 hs, fun σd Hd σ H Qd Q E rs wx q k => h2 σd Hd σ H _ _ E rs wx q fun x H1 v H1' q1 rx rs1 u1 => g2 σd H1 σ H1' _ _ E rs1 (wx.to u1) q1 fun xs H2 vs H2' q2 rxs rs2 u2 =>
    k (x :: xs) H2 (v :: vs) H2' q2 ⟨v, vs, rfl, rx.up u2 _ _, rxs⟩ rs2 (u1.trans u2)⟩
theorem d_tup {x1} (h : DPA X W es dA) : DPE X W (.Tuple es x1 pos) (dTup dA) := by
  obtain ⟨t, h1, h2⟩ := h
  exact ⟨_, pe_tup h1, fun σd Hd σ H Qd Q E rs wx q w => h2 σd Hd σ H _ _ E rs wx q fun xs H1 vs H1' q1 rx rs1 u1 =>
    ⟨by rw [rx.len]; exact q1.1, fun p hp => w _ H1 _ _ q1.2 ⟨p, vs, rfl, SqT.of upd_same, rx.up (Up.new hp) _ _⟩ (rs1.mono (Up.new hp) (rs1.hp.hid hp)) (u1.trans (Up.new hp))⟩⟩
theorem d_lst (h : DPA X W es dA) : DPE X W (.List es pos) (dLst dA) := by
  obtain ⟨t, h1, h2⟩ := h
  exact ⟨_, pe_lst h1, fun σd Hd σ H Qd Q E rs wx q w => h2 σd Hd σ H _ _ E rs wx q fun xs H1 vs H1' q1 rx rs1 u1 =>
    ⟨by rw [rx.len]; exact q1.1, fun p hp => w _ _ _ _ (q1.2 p (rs1.hp.fresh hp)) rfl (rs1.mono (Up.new hp) (rs1.hp.new hp ⟨vs, upd_same, rx.up (Up.new hp) _ _⟩)) (u1.trans (Up.new hp))⟩⟩
theorem d_callB {x : Str} {id : String} {rd : DRA} {p : Pos} (hc : DCl X (.builtin id) rd) (hg : Gl X x) (hm : X.mg x = none) (hv : bootBuiltins x = some (.builtin id)) (ha : DPA X W (e :: es) dA) (hn : x ≠ "__name__" := by decide) (hdb : (x == ("__debug__" : Str)) = false := by decide)
    (he : starEach (e :: es) X.env = (false, eval e X.env) :: starEach es X.env := by rfl) (hpl : (backTo pos (starEach es X.env)).any (·.1) = false := by rfl) : DPE X W (.Call (.Name x p) (e :: es) [] pos) (dCB rd dA) := by
  obtain ⟨r, c1, c2⟩ := hc
  obtain ⟨t, h1, h2⟩ := ha
  exact ⟨_, pe_callB c1 hg hm hv h1 hn hdb he hpl, fun σd Hd σ H Qd Q E rs wx q w => h2 σd Hd σ H _ _ E rs wx q fun xs H1 vs H1' q1 rx rs1 u1 => c2 xs vs H1 H1' Qd Q rx rs1.hp q1 ((w.to u1).v rs1)⟩
theorem d_callTy {x : Str} {T : String} {rd : DRA} {p : Pos} (hc : DCl X (.type T) rd) (hg : Gl X x) (hm : X.mg x = none) (hv : bootBuiltins x = some (.type T)) (ha : DPA X W (e :: es) dA) (hn : x ≠ "__name__" := by decide) (hdb : (x == ("__debug__" : Str)) = false := by decide)
    (he : starEach (e :: es) X.env = (false, eval e X.env) :: starEach es X.env := by rfl) (hpl : (backTo pos (starEach es X.env)).any (·.1) = false := by rfl) : DPE X W (.Call (.Name x p) (e :: es) [] pos) (dCB rd dA) := by
  obtain ⟨r, c1, c2⟩ := hc
  obtain ⟨t, h1, h2⟩ := ha
  exact ⟨_, pe_callTy c1 hg hm hv h1 hn hdb he hpl, fun σd Hd σ H Qd Q E rs wx q w => h2 σd Hd σ H _ _ E rs wx q fun xs H1 vs H1' q1 rx rs1 u1 => c2 xs vs H1 H1' Qd Q rx rs1.hp q1 ((w.to u1).v rs1)⟩
theorem do_none : DPO X W none dNoPart := ⟨_, po_none, fun σd Hd σ H Qd Q E rs wx q k => k none Hd H q rs (Up.refl H)⟩
theorem do_some (h : DPE X W e de) : DPO X W (some e) (dPart de) := by
  obtain ⟨t, h1, h2⟩ := h
  exact ⟨_, po_some h1, fun σd Hd σ H Qd Q E rs wx q k => h2 σd Hd σ H _ _ E rs wx q fun x H1 v H1' q1 rx rs1 u1 => by
    obtain ⟨i, e, q2⟩ := q1
    subst e
    exact ⟨i, rx, k (some i) H1 H1' q2 rs1 u1⟩⟩
def DSlR (X : Cx) (rd : D → Option Int → Option Int → DH → DK → Prop) : Prop := ∃ r, SlR X r ∧ ∀ x v lo hi Hd H (Qd : DK) (Q : VK), Rep X.K H x v → RH X.K Hd H → rd x lo hi Hd Qd → WantV X.K H Qd Q → r v lo hi H Q
theorem d_slice {rd} {lo hi : Option Expr} {dl dh : DTO} {p2 : Pos} (hr : DSlR X rd) (he : DPE X W e de) (hl : DPO X W lo dl) (hu : DPO X W hi dh) : DPE X W (.Subscript e (.Slice lo hi none p2) pos) (dSl rd de dl dh) := by
  obtain ⟨r, r1, r2⟩ := hr
  obtain ⟨t, h1, h2⟩ := he
  obtain ⟨tl, l1, l2⟩ := hl
  obtain ⟨th, k1, k2⟩ := hu
  exact ⟨_, pe_slice r1 h1 l1 k1, fun σd Hd σ H Qd Q E rs wx q w => h2 σd Hd σ H _ _ E rs wx q fun x H1 v H1' q1 rx rs1 u1 => l2 σd H1 σ H1' _ _ E rs1 (wx.to u1) q1 fun o H2 H2' q2 rs2 u2 => k2 σd H2 σ H2' _ _ E rs2 (wx.to (u1.trans u2)) q2 fun o3 H3 H3' q3 rs3 u3 =>
    r2 x v o o3 H3 H3' Qd Q (rx.up (u2.trans u3) _ _) rs3.hp q3 ((w.to ((u1.trans u2).trans u3)).v rs3)⟩
def DIx (X : Cx) (rd : DR2) : Prop := ∃ r, IxR X r ∧ SimR X.K r rd
theorem d_ix {rd : DR2} (hr : DIx X rd) (ha : DPE X W a da) (hb : DPE X W b db) (hs : PlainIx b := by exact fun _ _ => rfl) : DPE X W (.Subscript a b pos) (dOp rd da db) := by
  obtain ⟨r, r1, r2⟩ := hr
  obtain ⟨ta, a1, a2⟩ := ha
  obtain ⟨tb, b1, b2⟩ := hb
  exact ⟨_, pe_ix r1 a1 b1 hs, sim_op r2 a2 b2⟩
end
end DL

/-! The data layer, part D: operators, subscripts, built-in calls by values. -/
namespace DL
open PySem PySem.Spec PyProof.Rows L2

section
variable {X : Cx} {K : PySem.W.Frag}
/-! ### ints -/
def dI0 (g : Int → Int → D) : DR2 := fun x y H Q => match x, y with
  | .int i, .int j => Q (g i j) H
  | _, _ => False
def dI (C : Int → Int → Prop) (g : Int → Int → D) : DR2 := fun x y H Q => match x, y with
  | .int i, .int j => C i j ∧ Q (g i j) H
  | _, _ => False
theorem simI0 {g : Int → Int → D} {g' : Int → Int → V} (h : ∀ i j H, Rep K H (g i j) (g' i j)) : SimR K (rI0 g') (dI0 g) := fun x y v u Hd H Qd Q rx ry rh q k => by
  unfold dI0 at q
  split at q
  · rename_i i j
    exact ⟨i, j, rx, ry, k.here q (h i j H) rh⟩
  · exact q.elim
theorem simI {C C' : Int → Int → Prop} {g : Int → Int → D} {g' : Int → Int → V} (hc : ∀ i j, C i j → C' i j) (h : ∀ i j H, Rep K H (g i j) (g' i j)) : SimR K (rI C' g') (dI C g) := fun x y v u Hd H Qd Q rx ry rh q k => by
  unfold dI at q
  split at q
  · rename_i i j
    exact ⟨i, j, rx, ry, hc i j q.1, k.here q.2 (h i j H) rh⟩
  · exact q.elim
theorem dop_sub : DOp X (binaryOp .Sub) (dI0 fun i j => .int (i - j)) := ⟨_, op_sub, simI0 fun _ _ _ => rfl⟩
def CDv (i j : Int) : Prop := CDiv i j ∨ CDivW i j
def CMl (i j : Int) : Prop := CMul i j ∨ CMulW i j
theorem SimR.or {r r' : R2} {rd : DR2} (h : ∀ x y v u Hd H (Qd : DK) (Q : VK), Rep K H x v → Rep K H y u → RH K Hd H → rd x y Hd Qd → WantV K H Qd Q → r v u H Q ∨ r' v u H Q) : SimR K (fun x y H Q => r x y H Q ∨ r' x y H Q) rd := h
theorem dop_fdiv : DOp X (binaryOp .FloorDiv) (dI CDv fun i j => .int (i / j)) := ⟨_, OpR.or op_fdiv op_fdivW, fun x y v u Hd H Qd Q rx ry rh q k => by
  unfold dI at q
  split at q
  · rename_i i j
    obtain ⟨c, q⟩ := q
    rcases c with c | c
    · exact .inl ⟨i, j, rx, ry, c, k.here q rfl rh⟩
    · exact .inr ⟨i, j, rx, ry, c, k.here q rfl rh⟩
  · exact q.elim⟩
theorem dop_mod : DOp X (binaryOp .Mod) (dI (fun _ j => 0 < j) fun i j => .int (i % j)) := ⟨_, op_mod, simI (fun _ _ h => h) fun _ _ _ => rfl⟩
theorem dop_pow : DOp X (binaryOp .Pow) (dI CPow fun i j => .int (i ^ j.toNat)) := ⟨_, op_pow, simI (fun _ _ h => h) fun _ _ _ => rfl⟩
theorem dop_gt : DOp X (compareOp .Gt) (dI0 fun i j => .bl (decide (j < i))) := ⟨_, op_gt, simI0 fun _ _ _ => rfl⟩
theorem dop_ge : DOp X (compareOp .GtE) (dI0 fun i j => .bl (decide (j ≤ i))) := ⟨_, op_ge, simI0 fun _ _ _ => rfl⟩
theorem dop_lt : DOp X (compareOp .Lt) (dI0 fun i j => .bl (decide (i < j))) := ⟨_, op_lt, simI0 fun _ _ _ => rfl⟩
theorem dop_le : DOp X (compareOp .LtE) (dI0 fun i j => .bl (decide (i ≤ j))) := ⟨_, op_le, simI0 fun _ _ _ => rfl⟩
def dNeg : DR1 := fun x H Q => match x with
  | .int i => Q (.int (-i)) H
  | _ => False
theorem dun_neg : DUn X (unaryOp .USub) dNeg := ⟨_, un_neg, fun x v Hd H Qd Q rx rh q k => by
  unfold dNeg at q
  split at q
  · exact ⟨_, rx, k.here q rfl rh⟩
  · exact q.elim⟩

/-! ### + -/
def dAdd : DR2 := fun x y H Q => match x, y with
  | .int i, .int j => Q (.int (i + j)) H
  | .str a, .str b => a.length + b.length ≤ sizeLine ∧ Q (.str (a ++ b)) H
  | .tup xs, .tup ys => xs.length + ys.length ≤ sizeLine ∧ Q (.tup (xs ++ ys)) H
  | .ref a, .ref b => ∃ xs ys, H a = some (.lst xs) ∧ H b = some (.lst ys) ∧ xs.length + ys.length ≤ sizeLine ∧ ∀ p, H p = none → Q (.ref p) (put H p (.lst (xs ++ ys)))
  | _, _ => False
theorem dop_add : DOp X (binaryOp .Add) dAdd := ⟨_, OpR.or op_add (OpR.or op_add_str (OpR.or op_catA op_cat)), fun x y v u Hd H Qd Q rx ry rh q k => by
  unfold dAdd at q
  split at q
  · exact .inl ⟨_, _, rx, ry, k.here q rfl rh⟩
  · exact .inr (.inl ⟨_, _, rx, ry, q.1, k.here q.2 rfl rh⟩)
  · rename_i xs ys
    obtain ⟨hz, q⟩ := q
    obtain ⟨a, vs, e1, s1, r1⟩ := rx
    obtain ⟨b, us, e2, s2, r2⟩ := ry
    refine .inr (.inr (.inl ⟨a, b, vs, us, e1, e2, s1, s2, by rw [r1.len, r2.len]; exact hz, fun e => ?_, fun _ e => ?_, fun _ _ p hp => ?_⟩))
    · have z : xs = [] := r1.empty_iff.mp e
      exact k.here q ⟨b, us, rfl, s2, by rw [z]; exact r2⟩ rh
    · have z : ys = [] := r2.empty_iff.mp e
      exact k.here q ⟨a, vs, rfl, s1, by rw [z, List.append_nil]; exact r1⟩ rh
    · exact k _ _ _ _ q ⟨p, vs ++ us, rfl, SqT.of upd_same, (r1.app r2).up (Up.new hp) _ _⟩ (rh.hid hp) (Up.new hp)
  · rename_i a b
    obtain ⟨xs, ys, h1, h2, hz, q⟩ := q
    obtain ⟨vs, e1, r1⟩ := rh _ _ h1
    obtain ⟨us, e2, r2⟩ := rh _ _ h2
    refine .inr (.inr (.inr ⟨a, b, vs, us, rx, ry, e1, e2, by rw [r1.len, r2.len]; exact hz, fun p hp => ?_⟩))
    exact k _ _ _ _ (q p (rh.fresh hp)) rfl (rh.new hp ⟨_, upd_same, (r1.app r2).up (Up.new hp) _ _⟩) (Up.new hp)
  · exact q.elim⟩

/-! ### * -/
theorem tup_mul1W (l : Addr) (items : Array Value) (n : Nat) (dd : Option Addr) (sl : Array (Option Value)) (u : Tok) :
    Meets (Builtin.«tuple.__mul__» ⟨[.ref l, .int 1 u], []⟩) (fun _ R s => s.heap.get? l = some { cls := .type "tuple", dict := dd, data := .seq items n, slots := sl } ∧ R (.ok (.ret (Value.ref l))) s) :=
  .of_wp fun prog w A R s h => by
    obtain ⟨hp, g, d, tk, os⟩ := s
    obtain ⟨hl, h⟩ := h
    have f1 := AutoSeq1.idx_int
    have c1 : (items.isEmpty || (1 : Int) == 1) = true := by simp
    wp_walk using wpAny_loadPart' hl
    repeat (first
      | (refine wpAny_ite_true (decide_eq_true (by rw [c1])) ?_; wp_walk using wpAny_loadPart' hl)
      | (refine wpAny_ite_false (decide_eq_false (by decide)) ?_; wp_walk using wpAny_loadPart' hl))
    all_goals exact ⟨_, rfl, h⟩

/-- t * 1 is t -/
theorem op_repT1 : OpR X (binaryOp .Mult) (fun x y H Q => ∃ l xs, x = .ref l ∧ y = .int 1 ∧ SqT X.K H l xs ∧ Q (.ref l) H) := by
  intro pins s σ H x y v u Q I rx ry h
  obtain ⟨l, xs, rfl, rfl, hT, q⟩ := h
  cases rx
  obtain ⟨t, rfl⟩ := ry
  obtain ⟨its, r, ⟨⟨cls, dd, data, sl⟩, ho, hc, n, hd⟩, hs⟩ := I.tuple hT
  simp only at hc hd
  subst hc hd
  exact wpAny_binaryOp_repeat_ref (T := "tuple") (U := "int") (by decide) ⟨_, ho, rfl⟩ (fun s' => typeIs_int s' 1 t) noFill_tuple_mul F.fills_int_mul F.slot_int_rmul repeat_tuple F.slot_int_index.lookup
    (call_meets F.slot_int_rmul (typeIs_int s 1 t) F.entry_int_rmul (F.args_int_rmul_2 _ _) (int_rmul_tuple 1 t l its.toArray n dd sl)
      ⟨ho, rfl, ⟨_, ho, rfl⟩, call_meets F.slot_tuple_mul ⟨_, ho, rfl⟩ F.entry_tuple_mul (F.args_tuple_mul_2 _ _) (tup_mul1W l its.toArray n dd sl t) ⟨ho, ⟨.ref l, H, I, rfl, q⟩⟩⟩)
def dMul : DR2 := fun x y H Q => match x, y with
  | .int i, .int j => CMl i j ∧ Q (.int (i * j)) H
  | .tup xs, .int k => 1 ≤ k ∧ k ≤ 1000 ∧ xs.length ≤ 1000 ∧ xs ≠ [] ∧ Q (.tup (List.replicate k.toNat xs).flatten) H
  | .ref a, .int k => ∃ xs, H a = some (.lst xs) ∧ -(2 ^ 63) ≤ k ∧ k < 2 ^ 63 ∧ xs.length * k.toNat ≤ sizeLine ∧ ∀ p, H p = none → Q (.ref p) (put H p (.lst (List.replicate k.toNat xs).flatten))
  | _, _ => False
theorem dop_mul : DOp X (binaryOp .Mult) dMul := ⟨_, OpR.or op_mul (OpR.or op_mulW (OpR.or op_repT1 (OpR.or op_repT op_rep))), fun x y v u Hd H Qd Q rx ry rh q k => by
  unfold dMul at q
  split at q
  · obtain ⟨c, q⟩ := q
    rcases c with c | c
    · exact .inl ⟨_, _, rx, ry, c, k.here q rfl rh⟩
    · exact .inr (.inl ⟨_, _, rx, ry, c, k.here q rfl rh⟩)
  · rename_i xs n
    obtain ⟨h1, h2, hz, hne, q⟩ := q
    obtain ⟨a, vs, e1, s1, r1⟩ := rx
    by_cases c : n = 1
    · subst c
      refine .inr (.inr (.inl ⟨a, vs, e1, ry, s1, k.here q ⟨a, vs, rfl, s1, ?_⟩ rh⟩))
      show Reps _ _ (List.replicate 1 xs).flatten vs
      rw [show List.replicate 1 xs = [xs] from rfl, List.flatten_cons, List.flatten_nil, List.append_nil]
      exact r1
    · exact .inr (.inr (.inr (.inl ⟨a, n, vs, e1, ry, s1, fun z => hne (r1.empty_iff.mp z), by omega, h2, by rw [r1.len]; exact hz, fun p hp => k _ _ _ _ q ⟨p, _, rfl, SqT.of upd_same, (r1.rep _).up (Up.new hp) _ _⟩ (rh.hid hp) (Up.new hp)⟩)))
  · rename_i a n
    obtain ⟨xs, h1, b1, b2, hz, q⟩ := q
    obtain ⟨vs, e1, r1⟩ := rh _ _ h1
    exact .inr (.inr (.inr (.inr ⟨a, n, vs, rx, ry, e1, b1, b2, by rw [r1.len]; exact hz, fun p hp => k _ _ _ _ (q p (rh.fresh hp)) rfl (rh.new hp ⟨_, upd_same, (r1.rep _).up (Up.new hp) _ _⟩) (Up.new hp)⟩)))
  · exact q.elim⟩

/-! ### == and != of data of any depth -/
mutual
/-- the data that a value is, lists read off the data heap -/
inductive Py (Hd : DH) : D → PyData → Prop
  | non : Py Hd .non .none
  | bl (b : Bool) : Py Hd (.bl b) (.bool b)
  | int (i : Int) : Py Hd (.int i) (.int i)
  | str (x : Str) : Py Hd (.str x) (.str x)
  | tup {ds : List D} {ps : List PyData} : Pys Hd ds ps → Py Hd (.tup ds) (.tuple ps)
  | fl {ds : List D} {ps : List PyData} : Pys Hd ds ps → Py Hd (.fl ds) (.list ps)
  | lst {a : Addr} {ds : List D} {ps : List PyData} : Hd a = some (.lst ds) → Pys Hd ds ps → Py Hd (.ref a) (.list ps)
inductive Pys (Hd : DH) : List D → List PyData → Prop
  | nil : Pys Hd [] []
  | cons {d : D} {ds : List D} {p : PyData} {ps : List PyData} : Py Hd d p → Pys Hd ds ps → Pys Hd (d :: ds) (p :: ps)
end
mutual
theorem Py.dp {Hd : DH} {H : Hp} (rh : RH K Hd H) : ∀ (p : PyData) (d : D) (v : V), Py Hd d p → Rep K H d v → Dp K H v p
  | .none, _, _, h, r => by cases h; cases (show _ = V.non from r); exact .non
  | .bool b, _, _, h, r => by cases h; cases (show _ = V.bl b from r); exact .bl b
  | .int i, _, _, h, r => by cases h; cases (show _ = V.int i from r); exact .int i
  | .str x, _, _, h, r => by cases h; cases (show _ = V.str x from r); exact .str x
  | .tuple ps, _, _, h, r => by
    cases h with
    | tup hs =>
      obtain ⟨a, xs, e, s, q⟩ := r
      subst e
      exact .tup s (Pys.dp rh ps _ xs hs q)
  | .list ps, _, _, h, r => by
    cases h with
    | fl hs =>
      obtain ⟨a, xs, e, s, q⟩ := r
      subst e
      exact .lst s.sq (Pys.dp rh ps _ xs hs q)
    | @lst a ds _ ha hs =>
      cases (show _ = V.ref a from r)
      obtain ⟨xs, e, q⟩ := rh a _ ha
      exact .lst (SqL.of e) (Pys.dp rh ps ds xs hs q)
  | .dict _, _, _, h, _ => by cases h
theorem Pys.dp {Hd : DH} {H : Hp} (rh : RH K Hd H) : ∀ (ps : List PyData) (ds : List D) (vs : List V), Pys Hd ds ps → Reps K H ds vs → DpAll K H vs ps
  | [], _, _, h, r => by cases h; cases (show _ = [] from r); exact .nil
  | p :: ps, _, _, h, r => by
    cases h with
    | cons h1 h2 =>
      obtain ⟨v, t, e, r1, r2⟩ := r
      subst e
      exact .cons (Py.dp rh p _ v h1 r1) (Pys.dp rh ps _ t h2 r2)
end
mutual
theorem Py.plain {Hd : DH} : ∀ (p : PyData) (d : D), Py Hd d p → p.plain = true
  | .none, _, _ => rfl
  | .bool b, _, _ => rfl
  | .int i, _, _ => rfl
  | .str x, _, _ => rfl
  | .tuple ps, _, h => by
    cases h with
    | tup hs =>
      rw [PyData.plain]
      exact Pys.plain ps _ hs
  | .list ps, _, h => by
    rw [PyData.plain]
    cases h with
    | fl hs => exact Pys.plain ps _ hs
    | lst ha hs => exact Pys.plain ps _ hs
  | .dict _, _, h => by cases h
theorem Pys.plain {Hd : DH} : ∀ (ps : List PyData) (ds : List D), Pys Hd ds ps → PyData.plainAll ps = true
  | [], _, _ => rfl
  | p :: ps, _, h => by
    cases h with
    | cons h1 h2 =>
      rw [PyData.plainAll, Py.plain p _ h1, Pys.plain ps _ h2]
      rfl
end
def rEqP (K : PySem.W.Frag) : R2 := fun x y H Q => ∃ d e, Dp K H x d ∧ Dp K H y e ∧ d.plain = true ∧ e.plain = true ∧ min d.depth e.depth ≤ 64 ∧ Q (.bl (PyData.eqv d e)) H
def rNeP (K : PySem.W.Frag) : R2 := fun x y H Q => ∃ d e, Dp K H x d ∧ Dp K H y e ∧ d.plain = true ∧ e.plain = true ∧ min d.depth e.depth ≤ 64 ∧ Q (.bl (!PyData.eqv d e)) H
theorem op_eqP (hu : X.A.units + 64 < cLine) : OpR X (compareOp .Eq) (rEqP X.K) := by
  intro pins s σ H x y v u Q I rx ry h
  obtain ⟨d, e, hd, he, sd, se, hz, q⟩ := h
  obtain ⟨as, r1⟩ := Dp.reads I d x v hd rx
  obtain ⟨bs, r2⟩ := Dp.reads I e y u he ry
  exact SeqAt.eq_plain r1 r2 sd se (by omega) ⟨.bl _, H, I, rfl, q⟩
theorem op_neP (hu : X.A.units + 64 < cLine) : OpR X (compareOp .NotEq) (rNeP X.K) := by
  intro pins s σ H x y v u Q I rx ry h
  obtain ⟨d, e, hd, he, sd, se, hz, q⟩ := h
  obtain ⟨as, r1⟩ := Dp.reads I d x v hd rx
  obtain ⟨bs, r2⟩ := Dp.reads I e y u he ry
  exact SeqAt.ne_plain r1 r2 sd se (by omega) ⟨.bl _, H, I, rfl, q⟩
def dEq : DR2 := fun x y H Q => ∃ d e, Py H x d ∧ Py H y e ∧ min d.depth e.depth ≤ 64 ∧ Q (.bl (PyData.eqv d e)) H
def dNe : DR2 := fun x y H Q => ∃ d e, Py H x d ∧ Py H y e ∧ min d.depth e.depth ≤ 64 ∧ Q (.bl (!PyData.eqv d e)) H
theorem dop_eq (hu : X.A.units + 64 < cLine) : DOp X (compareOp .Eq) dEq := ⟨_, op_eqP hu, fun x y v u Hd H Qd Q rx ry rh q k => by
  obtain ⟨d, e, hd, he, hz, q⟩ := q
  exact ⟨d, e, hd.dp rh d x v rx, he.dp rh e y u ry, hd.plain d x, he.plain e y, hz, k.here q rfl rh⟩⟩
theorem dop_ne (hu : X.A.units + 64 < cLine) : DOp X (compareOp .NotEq) dNe := ⟨_, op_neP hu, fun x y v u Hd H Qd Q rx ry rh q k => by
  obtain ⟨d, e, hd, he, hz, q⟩ := q
  exact ⟨d, e, hd.dp rh d x v rx, he.dp rh e y u ry, hd.plain d x, he.plain e y, hz, k.here q rfl rh⟩⟩

/-! ### is None -/
def isN : D → Bool
  | .non => true
  | _ => false
theorem isN_ok {H : Hp} {x : D} {v : V} (r : Rep K H x v) : decide (v = .non) = isN x := by
  cases x with
  | non => cases (show v = .non from r); rfl
  | bl b => cases (show v = .bl b from r); rfl
  | int b => cases (show v = .int b from r); rfl
  | str b => cases (show v = .str b from r); rfl
  | ref b => cases (show v = .ref b from r); rfl
  | ty b => cases (show v = .ty b from r); rfl
  | tup ds => obtain ⟨a, xs, e, _⟩ := r; subst e; rfl
  | fl ds => obtain ⟨a, xs, e, _⟩ := r; subst e; rfl
def dIsN : DR2 := fun x y H Q => match y with
  | .non => Q (.bl (isN x)) H
  | _ => False
def dNotN : DR2 := fun x y H Q => match y with
  | .non => Q (.bl (!isN x)) H
  | _ => False
theorem dop_isN : DOp X (compareOp .Is) dIsN := ⟨_, op_isN, fun x y v u Hd H Qd Q rx ry rh q k => by
  unfold dIsN at q
  split at q
  · exact ⟨ry, k.here q (by rw [isN_ok rx]; rfl) rh⟩
  · exact q.elim⟩
theorem dop_notN : DOp X (compareOp .IsNot) dNotN := ⟨_, op_notN, fun x y v u Hd H Qd Q rx ry rh q k => by
  unfold dNotN at q
  split at q
  · exact ⟨ry, k.here q (by rw [isN_ok rx]; rfl) rh⟩
  · exact q.elim⟩

/-! ### in, not in: lists and tuples of data -/
def rInP (K : PySem.W.Frag) (f : Bool → Bool) : R2 := fun x y H Q => ∃ d ds, Dp K H x d ∧ (Dp K H y (.list ds) ∨ Dp K H y (.tuple ds)) ∧ d.plain = true ∧ PyData.plainAll ds = true ∧ min (PyData.depthAll ds) d.depth ≤ 60 ∧ Q (.bl (f (ds.any fun z => PyData.eqv z d))) H
theorem op_inP (hu : X.A.units + 64 < cLine) : OpR X (compareOp .In) (rInP X.K fun b => b) := by
  intro pins s σ H x y v u Q I rx ry h
  obtain ⟨d, ds, hd, he, sd, se, hz, q⟩ := h
  obtain ⟨as, r1⟩ := Dp.reads I d x v hd rx
  rcases he with he | he
  · obtain ⟨bs, r2⟩ := Dp.reads I _ y u he ry
    exact SeqAt.in_list_data r2 r1 se sd (by omega) ⟨.bl _, H, I, rfl, q⟩
  · obtain ⟨bs, r2⟩ := Dp.reads I _ y u he ry
    exact SeqAt.in_tuple_data r2 r1 se sd (by omega) ⟨.bl _, H, I, rfl, q⟩
theorem op_notInP (hu : X.A.units + 64 < cLine) : OpR X (compareOp .NotIn) (rInP X.K fun b => !b) := by
  intro pins s σ H x y v u Q I rx ry h
  obtain ⟨d, ds, hd, he, sd, se, hz, q⟩ := h
  obtain ⟨as, r1⟩ := Dp.reads I d x v hd rx
  rcases he with he | he
  · obtain ⟨bs, r2⟩ := Dp.reads I _ y u he ry
    exact SeqAt.notIn_list_data r2 r1 se sd (by omega) ⟨.bl _, H, I, rfl, q⟩
  · obtain ⟨bs, r2⟩ := Dp.reads I _ y u he ry
    exact SeqAt.notIn_tuple_data r2 r1 se sd (by omega) ⟨.bl _, H, I, rfl, q⟩
def dIn (f : Bool → Bool) : DR2 := fun x y H Q => ∃ d ds, Py H x d ∧ (Py H y (.list ds) ∨ Py H y (.tuple ds)) ∧ min (PyData.depthAll ds) d.depth ≤ 60 ∧ Q (.bl (f (ds.any fun z => PyData.eqv z d))) H
theorem sim_in {f : Bool → Bool} : SimR K (rInP K f) (dIn f) := fun x y v u Hd H Qd Q rx ry rh q k => by
  obtain ⟨d, ds, hd, he, hz, q⟩ := q
  refine ⟨d, ds, hd.dp rh d x v rx, ?_, hd.plain d x, ?_, hz, k.here q rfl rh⟩
  · rcases he with he | he
    · exact .inl (he.dp rh _ y u ry)
    · exact .inr (he.dp rh _ y u ry)
  · rcases he with he | he
    · have := he.plain _ y
      rw [PyData.plain] at this
      exact this
    · have := he.plain _ y
      rw [PyData.plain] at this
      exact this
theorem dop_in (hu : X.A.units + 64 < cLine) : DOp X (compareOp .In) (dIn fun b => b) := ⟨_, op_inP hu, sim_in⟩
theorem dop_notIn (hu : X.A.units + 64 < cLine) : DOp X (compareOp .NotIn) (dIn fun b => !b) := ⟨_, op_notInP hu, sim_in⟩

/-! ### x[i] -/
theorem Reps.atI {H : Hp} {ds : List D} {vs : List V} {i : Int} {d : D} (h : Reps K H ds vs) (e : atI ds i = some d) : ∃ v, L2.atI vs i = some v ∧ Rep K H d v := by
  unfold L2.atI at e ⊢
  rw [h.len]
  cases c : ixN ds.length i with
  | none => rw [c] at e; cases e
  | some j =>
    rw [c] at e
    exact h.get e
def dIx : DR2 := fun x y H Q => match x, y with
  | .tup xs, .int i => ∃ d, atI xs i = some d ∧ Q d H
  | .fl xs, .int i => ∃ d, atI xs i = some d ∧ Q d H
  | .ref a, .int i => ∃ xs d, H a = some (.lst xs) ∧ atI xs i = some d ∧ Q d H
  | .str z, .int i => ∃ c, z.length ≤ sizeLine ∧ atI z.cps.toList i = some c ∧ Q (.str ⟨#[c]⟩) H
  | _, _ => False
theorem dix : DIx X dIx := ⟨_, IxR.or ix_tup (IxR.or ix_list ix_str), fun x y v u Hd H Qd Q rx ry rh q k => by
  unfold dIx at q
  split at q
  · obtain ⟨d, e, q⟩ := q
    obtain ⟨a, vs, e1, s1, r1⟩ := rx
    obtain ⟨w, e2, r2⟩ := r1.atI e
    exact .inl ⟨a, vs, _, w, e1, ry, s1, e2, k.here q r2 rh⟩
  · obtain ⟨d, e, q⟩ := q
    obtain ⟨a, vs, e1, s1, r1⟩ := rx
    obtain ⟨w, e2, r2⟩ := r1.atI e
    exact .inr (.inl ⟨a, vs, _, w, e1, ry, s1.sq, e2, k.here q r2 rh⟩)
  · obtain ⟨xs, d, h1, e, q⟩ := q
    obtain ⟨vs, e1, r1⟩ := rh _ _ h1
    obtain ⟨w, e2, r2⟩ := r1.atI e
    exact .inr (.inl ⟨_, vs, _, w, rx, ry, SqL.of e1, e2, k.here q r2 rh⟩)
  · obtain ⟨c, hz, e, q⟩ := q
    exact .inr (.inr ⟨_, _, c, rx, ry, hz, e, k.here q rfl rh⟩)
  · exact q.elim⟩

/-! ### x[lo:hi] -/
def cut {α : Type} (xs : List α) (lo hi : Option Int) : List α := (xs.drop (HT.sIx xs.length 0 lo)).take (HT.sIx xs.length xs.length hi - HT.sIx xs.length 0 lo)
theorem Reps.cut {H : Hp} {ds : List D} {vs : List V} {lo hi : Option Int} (h : Reps K H ds vs) : Reps K H (DL.cut ds lo hi) (cutV vs lo hi) := by
  unfold DL.cut cutV
  rw [h.len]
  exact (h.drop _).take _
theorem cut_all {α : Type} {xs : List α} {lo hi : Option Int} (h : HT.sIx xs.length 0 lo = 0 ∧ HT.sIx xs.length xs.length hi = xs.length) : DL.cut xs lo hi = xs := by
  unfold DL.cut
  rw [h.1, h.2]
  simp
def dCut : D → Option Int → Option Int → DH → DK → Prop := fun x lo hi H Q => match x with
  | .tup xs => Q (.tup (DL.cut xs lo hi)) H
  | .fl xs => ∀ p, H p = none → Q (.ref p) (put H p (.lst (DL.cut xs lo hi)))
  | .ref a => ∃ xs, H a = some (.lst xs) ∧ ∀ p, H p = none → Q (.ref p) (put H p (.lst (DL.cut xs lo hi)))
  | _ => False
theorem dsl : DSlR X dCut := ⟨_, SlR.or sl_tupA sl_list, fun x v lo hi Hd H Qd Q rx rh q k => by
  unfold dCut at q
  split at q
  · obtain ⟨a, vs, e1, s1, r1⟩ := rx
    refine .inl ⟨a, vs, e1, s1, fun z => ?_, fun _ p hp => ?_⟩
    · rw [r1.len] at z
      rw [cut_all z] at q
      exact k.here q ⟨a, vs, rfl, s1, r1⟩ rh
    · exact k _ _ _ _ q ⟨p, _, rfl, SqT.of upd_same, r1.cut.up (Up.new hp) _ _⟩ (rh.hid hp) (Up.new hp)
  · obtain ⟨a, vs, e1, s1, r1⟩ := rx
    exact .inr ⟨a, vs, e1, s1.sq, fun p hp => k _ _ _ _ (q p (rh.fresh hp)) rfl (rh.new hp ⟨_, upd_same, r1.cut.up (Up.new hp) _ _⟩) (Up.new hp)⟩
  · obtain ⟨xs, h1, q⟩ := q
    obtain ⟨vs, e1, r1⟩ := rh _ _ h1
    exact .inr ⟨_, vs, rx, SqL.of e1, fun p hp => k _ _ _ _ (q p (rh.fresh hp)) rfl (rh.new hp ⟨_, upd_same, r1.cut.up (Up.new hp) _ _⟩) (Up.new hp)⟩
  · exact q.elim⟩
end
end DL

/-! The data layer, part E: built-in calls by values. -/
namespace DL
open PySem PySem.Spec PyProof.Rows L2

section
variable {X : Cx} {W : WX} {K : PySem.W.Frag}
theorem callR_or {f : Value} {r r' : List V → Hp → VK → Prop} (h : CallR X f r) (h' : CallR X f r') : CallR X f (fun xs H Q => r xs H Q ∨ r' xs H Q) := by
  intro pins s σ H xs us Q I rv q
  rcases q with q | q
  · exact h pins s σ H xs us Q I rv q
  · exact h' pins s σ H xs us Q I rv q
theorem reps1 {H : Hp} {x : D} {vs : List V} (r : Reps K H [x] vs) : ∃ v, vs = [v] ∧ Rep K H x v := by
  obtain ⟨v, t, e, h, h2⟩ := r
  cases (show t = [] from h2)
  exact ⟨v, e, h⟩
theorem reps2 {H : Hp} {x y : D} {vs : List V} (r : Reps K H [x, y] vs) : ∃ v u, vs = [v, u] ∧ Rep K H x v ∧ Rep K H y u := by
  obtain ⟨v, t, e, h, h2⟩ := r
  obtain ⟨u, e2, h3⟩ := reps1 h2
  subst e2
  exact ⟨v, u, e, h, h3⟩
def dLen : DRA := fun xs H Q => match xs with
  | [.tup ds] => Q (.int ds.length) H
  | [.fl ds] => Q (.int ds.length) H
  | [.str z] => z.length ≤ sizeLine ∧ Q (.int z.length) H
  | [.ref a] => match H a with
    | some (.lst ds) => Q (.int ds.length) H
    | some (.dct kvs) => Q (.int kvs.length) H
    | _ => False
  | _ => False
theorem dcl_len : DCl X (.builtin "len") dLen := ⟨_, callR_or call_len_seq (callR_or call_len_str call_lenD), fun xs vs Hd H Qd Q rx rh q k => by
  unfold dLen at q
  split at q
  · obtain ⟨v, rfl, a, us, e1, s1, r1⟩ := reps1 rx
    exact .inl ⟨a, us, by rw [e1], .inr s1, k.here q (by rw [r1.len]; rfl) rh⟩
  · obtain ⟨v, rfl, a, us, e1, s1, r1⟩ := reps1 rx
    exact .inl ⟨a, us, by rw [e1], .inl s1.sq, k.here q (by rw [r1.len]; rfl) rh⟩
  · obtain ⟨v, rfl, e⟩ := reps1 rx
    exact .inr (.inl ⟨_, by rw [show v = _ from e], q.1, k.here q.2 rfl rh⟩)
  · obtain ⟨v, rfl, e⟩ := reps1 rx
    split at q
    · rename_i ds ha
      obtain ⟨us, e1, r1⟩ := rh _ _ ha
      exact .inl ⟨_, us, by rw [show v = _ from e], .inl (SqL.of e1), k.here q (by rw [r1.len]; rfl) rh⟩
    · rename_i kvs ha
      obtain ⟨ws, e1, r1⟩ := rh _ _ ha
      exact .inr (.inr ⟨_, ws, by rw [show v = _ from e], e1, k.here q (by rw [r1.len]; rfl) rh⟩)
    · exact q.elim
  · exact q.elim⟩
def dInt : DRA := fun xs H Q => match xs with
  | [.int i] => Q (.int i) H
  | [.bl b] => Q (.int (if b then 1 else 0)) H
  | _ => False
theorem dcl_int : DCl X (.type "int") dInt := ⟨_, call_int1, fun xs vs Hd H Qd Q rx rh q k => by
  unfold dInt at q
  split at q
  · obtain ⟨v, rfl, e⟩ := reps1 rx
    exact .inl ⟨_, by rw [show v = _ from e], k.here q rfl rh⟩
  · obtain ⟨v, rfl, e⟩ := reps1 rx
    exact .inr ⟨_, by rw [show v = _ from e], k.here q rfl rh⟩
  · exact q.elim⟩
def dMax2 : DRA := fun xs H Q => match xs with
  | [.int i, .int j] => Q (.int (if j > i then j else i)) H
  | _ => False
theorem dcl_max2 (hc : X.calm = true) : DCl X (.builtin "max") dMax2 := ⟨_, call_max2 hc, fun xs vs Hd H Qd Q rx rh q k => by
  unfold dMax2 at q
  split at q
  · obtain ⟨v, u, rfl, e, e2⟩ := reps2 rx
    exact ⟨_, _, by rw [show v = _ from e, show u = _ from e2], k.here q rfl rh⟩
  · exact q.elim⟩
def dMin2 : DRA := fun xs H Q => match xs with
  | [.int i, .int j] => Q (.int (if j < i then j else i)) H
  | _ => False
theorem dcl_min2 (hc : X.calm = true) : DCl X (.builtin "min") dMin2 := ⟨_, call_min2 hc, fun xs vs Hd H Qd Q rx rh q k => by
  unfold dMin2 at q
  split at q
  · obtain ⟨v, u, rfl, e, e2⟩ := reps2 rx
    exact ⟨_, _, by rw [show v = _ from e, show u = _ from e2], k.here q rfl rh⟩
  · exact q.elim⟩
/-- tuple(x) -/
def dTupleOf : DRA := fun xs H Q => match xs with
  | [.tup ds] => Q (.tup ds) H
  | [.fl ds] => Q (.tup ds) H
  | [.ref a] => ∃ ds, H a = some (.lst ds) ∧ Q (.tup ds) H
  | _ => False
theorem dcl_tuple : DCl X (.type "tuple") dTupleOf := ⟨_, call_tuple_of, fun xs vs Hd H Qd Q rx rh q k => by
  unfold dTupleOf at q
  split at q
  · obtain ⟨v, rfl, a, us, e1, s1, r1⟩ := reps1 rx
    exact ⟨a, us, by rw [e1], .inr ⟨s1, k.here q ⟨a, us, rfl, s1, r1⟩ rh⟩⟩
  · obtain ⟨v, rfl, a, us, e1, s1, r1⟩ := reps1 rx
    exact ⟨a, us, by rw [e1], .inl ⟨s1.sq, fun p hp => k _ _ _ _ q ⟨p, us, rfl, SqT.of upd_same, r1.up (Up.new hp) _ _⟩ (rh.hid hp) (Up.new hp)⟩⟩
  · obtain ⟨v, rfl, e⟩ := reps1 rx
    obtain ⟨ds, ha, q⟩ := q
    obtain ⟨us, e1, r1⟩ := rh _ _ ha
    exact ⟨_, us, by rw [show v = _ from e], .inl ⟨SqL.of e1, fun p hp => k _ _ _ _ q ⟨p, us, rfl, SqT.of upd_same, r1.up (Up.new hp) _ _⟩ (rh.hid hp) (Up.new hp)⟩⟩
  · exact q.elim⟩
/-- list(x) -/
def dListOf : DRA := fun xs H Q => match xs with
  | [.tup ds] => ∀ p, H p = none → Q (.ref p) (put H p (.lst ds))
  | [.fl ds] => ∀ p, H p = none → Q (.ref p) (put H p (.lst ds))
  | [.ref a] => ∃ ds, H a = some (.lst ds) ∧ ∀ p, H p = none → Q (.ref p) (put H p (.lst ds))
  | _ => False
theorem dcl_list : DCl X (.type "list") dListOf := ⟨_, call_list_of, fun xs vs Hd H Qd Q rx rh q k => by
  unfold dListOf at q
  split at q
  · obtain ⟨v, rfl, a, us, e1, s1, r1⟩ := reps1 rx
    exact ⟨a, us, by rw [e1], .inr s1, fun p hp => k _ _ _ _ (q p (rh.fresh hp)) rfl (rh.new hp ⟨_, upd_same, r1.up (Up.new hp) _ _⟩) (Up.new hp)⟩
  · obtain ⟨v, rfl, a, us, e1, s1, r1⟩ := reps1 rx
    exact ⟨a, us, by rw [e1], .inl s1.sq, fun p hp => k _ _ _ _ (q p (rh.fresh hp)) rfl (rh.new hp ⟨_, upd_same, r1.up (Up.new hp) _ _⟩) (Up.new hp)⟩
  · obtain ⟨v, rfl, e⟩ := reps1 rx
    obtain ⟨ds, ha, q⟩ := q
    obtain ⟨us, e1, r1⟩ := rh _ _ ha
    exact ⟨_, us, by rw [show v = _ from e], .inl (SqL.of e1), fun p hp => k _ _ _ _ (q p (rh.fresh hp)) rfl (rh.new hp ⟨_, upd_same, r1.up (Up.new hp) _ _⟩) (Up.new hp)⟩
  · exact q.elim⟩

/-! ### isinstance -/
/-- what an own class must say of itself -/
structure OwnTy (K : PySem.W.Frag) (C : Addr) : Prop where
  cl : Cls K C
  ha : PySem.W.findIn K (.ref C) "__class__" = some (some (.builtin "object.__class__"))
  hn : PySem.W.specialIn K (.builtin "object.__class__") "__get__" = some (some (.builtin "getset_descriptor.__get__"))
  ht : PySem.W.takesIn K (.builtin "object.__class__") = some true
  hm : PySem.W.mroIn K C (.type "object") = some true
def tyD (H : DH) : D → Option Value
  | .non => some (.type "NoneType")
  | .bl _ => some (.type "bool")
  | .int _ => some (.type "int")
  | .str _ => some (.type "str")
  | .tup _ => some (.type "tuple")
  | .fl _ => some (.type "list")
  | .ty _ => none
  | .ref a => match H a with
    | some (.lst _) => some (.type "list")
    | some (.dct _) => some (.type "dict")
    | some (.dctT _) => some (.type "dict")
    | some (.ins C _) => some (.ref C)
    | _ => none
theorem tyD_ok {Hd : DH} {H : Hp} (rh : RH K Hd H) {x : D} {v : V} {t : Value} (r : Rep K H x v) (e : tyD Hd x = some t) (ho : ∀ C, t = .ref C → OwnTy K C) : TyX K H v t := by
  unfold tyD at e
  split at e
  · cases (show v = _ from r); cases e; exact .base .non
  · cases (show v = _ from r); cases e; exact .base (.bl _)
  · cases (show v = _ from r); cases e; exact .base (.int _)
  · cases (show v = _ from r); cases e; exact .base (.str _)
  · obtain ⟨a, xs, e1, s1, _⟩ := r
    subst e1
    cases e
    rcases s1 with (s1 | ⟨o, s1⟩) | ⟨o, its, n, h1, h2, _⟩
    · exact .base (.tup s1)
    · exact .fTuple s1
    · exact .kTuple h1 h2
  · obtain ⟨a, xs, e1, s1, _⟩ := r
    subst e1
    cases e
    rcases s1 with ⟨o, s1⟩ | s1
    · exact .base (.frz s1)
    · rcases s1 (fun _ => none) with (z | ⟨_, z⟩) | ⟨o, its, n, h1, h2, _⟩
      · cases z
      · cases z
      · exact .kList h1 h2
  · cases e
  · cases (show v = _ from r)
    split at e
    · rename_i ha
      obtain ⟨us, e1, _⟩ := rh _ _ ha
      cases e
      exact .base (.lst e1)
    · rename_i ha
      obtain ⟨us, e1, _⟩ := rh _ _ ha
      cases e
      exact .base (.dK e1)
    · rename_i ha
      obtain ⟨us, e1, _⟩ := rh _ _ ha
      cases e
      exact .base (.dT e1)
    · rename_i C fs ha
      obtain ⟨dx, gs, e1, _⟩ := rh _ _ ha
      cases e
      have T := ho C rfl
      exact .base (.ins e1 T.cl T.ha T.hn T.ht T.hm)
    · cases e
inductive ClsD : D → Value → Prop
  | ty (n : String) : ClsD (.ty n) (.type n)
  | own (C : Addr) : ClsD (.ref C) (.ref C)
theorem ClsD.v {H : Hp} {c : D} {u : Value} {v : V} (h : ClsD c u) (r : Rep K H c v) : ClsV v u := by
  cases h with
  | ty n => cases (show v = _ from r); exact .ty n
  | own C => cases (show v = _ from r); exact .own C
theorem ClsD.vs {H : Hp} : ∀ {cs : List D} {us : List Value} {vs : List V}, Paired ClsD cs us → Reps K H cs vs → Paired ClsV vs us
  | _, _, _, .nil, r => by cases (show _ = [] from r); exact .nil
  | _, _, _, .cons h t, r => by
    obtain ⟨v, w, e, h1, h2⟩ := r
    subst e
    exact .cons (h.v h1) (ClsD.vs t h2)
def dIsi (K : PySem.W.Frag) : DRA := fun xs H Q => ∃ (x c : D) (t u : Value) (b : Bool), xs = [x, c] ∧ tyD H x = some t ∧ (∀ C, t = .ref C → OwnTy K C) ∧ ClsD c u ∧ PySem.W.kitOne K t u = some b ∧ Q (.bl b) H
def dIsiT (K : PySem.W.Frag) : DRA := fun xs H Q => ∃ (x : D) (cs : List D) (t : Value) (us : List Value) (b : Bool), xs = [x, .tup cs] ∧ tyD H x = some t ∧ (∀ C, t = .ref C → OwnTy K C) ∧ Paired ClsD cs us ∧ PySem.W.kitAny K t us = some b ∧ Q (.bl b) H
theorem dcl_isi : DCl X (.builtin "isinstance") (dIsi X.K) := ⟨_, call_isi, fun xs vs Hd H Qd Q rx rh q k => by
  obtain ⟨x, c, t, u, b, rfl, e, ho, hc, hk, q⟩ := q
  obtain ⟨v, w, rfl, r1, r2⟩ := reps2 rx
  exact ⟨v, w, t, u, b, rfl, hc.v r2, tyD_ok rh r1 e ho, hk, k.here q rfl rh⟩⟩
/-- isinstance(x, (c1, c2, ..)), the tuple written -/
theorem d_isiT {e1 : Expr} {d1 : DTE} {dA : DTA} {es : List Expr} {p pos pos2 : Pos} {x1} (hg : Gl X "isinstance") (hm : X.mg "isinstance" = none) (h1 : DPE X W e1 d1) (h2 : DPA X W es dA)
    (he : starEach [e1, .Tuple es x1 pos2] X.env = (false, eval e1 X.env) :: starEach [.Tuple es x1 pos2] X.env := by rfl) (hpl : (backTo pos (starEach [.Tuple es x1 pos2] X.env)).any (·.1) = false := by rfl)
    (hs2 : starEach [.Tuple es x1 pos2] X.env = (false, eval (.Tuple es x1 pos2) X.env) :: starEach [] X.env := by rfl) :
    DPE X W (.Call (.Name "isinstance" p) [e1, .Tuple es x1 pos2] [] pos) (dCB (dIsiT X.K) (dCons d1 (dCons (dTup dA) dNil))) := by
  obtain ⟨t1, a1, a2⟩ := h1
  obtain ⟨t2, b1, b2⟩ := h2
  refine ⟨_, pe_callB call_isiT hg hm boot_isinstance (pa_cons a1 (pa_cons (pe_tup b1) pa_nil hs2) he) (by decide) (by decide) he hpl, fun σd Hd σ H Qd Q E rs wx q w => ?_⟩
  refine a2 σd Hd σ H _ _ E rs wx q fun y H1 v H1' q1 rx rs1 u1 => ?_
  refine b2 σd H1 σ H1' _ _ E rs1 (wx.to u1) q1 fun cs H2 vs H2' q2 rxs rs2 u2 => ?_
  obtain ⟨hz, x, cs', t, us, b, e, et, ho, hc, hk, q3⟩ := q2
  injection e with e e'
  injection e' with e' _
  injection e' with e'
  subst e e'
  refine ⟨by rw [rxs.len]; exact hz, fun p hp => ?_⟩
  refine ⟨v, p, vs, t, us, b, rfl, upd_same, ClsD.vs hc rxs, ?_, hk, w _ H2 _ _ q3 rfl (rs2.mono (Up.new hp) (rs2.hp.hid hp)) ((u1.trans u2).trans (Up.new hp))⟩
  exact tyD_ok (rs2.hp.hid hp) (rx.up (u2.trans (Up.new hp)) _ _) et ho

/-- the built-in kinds among themselves -/
def kinds : List String := ["NoneType", "bool", "int", "str", "tuple", "list", "dict"]
def isB (t c : String) : Bool := t == c || (t == "bool" && c == "int")
theorem kit_all : (kinds.all fun t => (kinds.drop 1).all fun c => kitB t c == some (isB t c)) = true := by decide +kernel
theorem kit_b {t c : String} (ht : t ∈ kinds) (hc : c ∈ kinds.drop 1) : PySem.W.kitOne K (.type t) (.type c) = some (isB t c) := by
  have h := List.all_eq_true.mp (List.all_eq_true.mp kit_all t ht) c hc
  exact kit_ty (beq_iff_eq.mp h)
end
end DL

/-! The data layer, part F: statements, targets, loops. -/
namespace DL
open PySem PySem.Spec PyProof.Rows L2

structure DEnds where
  nx : DSt → DH → Prop
  rt : DK
  bk : DSt → DH → Prop := fun _ _ => False
  ct : DSt → DH → Prop := fun _ _ => False
  ex : Addr → Option Addr → DSt → DH → Prop := fun _ _ _ _ => False
abbrev DTS := DEnds → DSt → DH → Prop
def DEnds.at (D : DEnds) (σ : DSt) : DX := fun C dd H => D.ex C dd σ H
/-- the ends over data lead to the ends, from H on -/
structure EndsOk (K : PySem.W.Frag) (W : WX) (H : Hp) (Dd : DEnds) (D : Ends) : Prop where
  nx : ∀ σd Hd σ H', Dd.nx σd Hd → RS K σd Hd σ H' → Up H H' → D.nx σ H'
  rt : ∀ x Hd v H', Dd.rt x Hd → Rep K H' x v → RH K Hd H' → Up H H' → D.rt v H'
  bk : ∀ σd Hd σ H', Dd.bk σd Hd → RS K σd Hd σ H' → Up H H' → D.bk σ H'
  ct : ∀ σd Hd σ H', Dd.ct σd Hd → RS K σd Hd σ H' → Up H H' → D.ct σ H'
  ex : ∀ C dd σd Hd σ H', Dd.ex C dd σd Hd → RS K σd Hd σ H' → Up H H' → W (.ref C) dd σ H'
def SimS (K : PySem.W.Frag) (W : WX) (t : TS) (d : DTS) : Prop := ∀ (Dd : DEnds) (D : Ends) σd Hd σ H, RS K σd Hd σ H → EndsOk K W H Dd D → d Dd σd Hd → t D σ H
def DPS (X : Cx) (W : WX) (st : Stmt) (d : DTS) : Prop := ∃ t, PS X st t ∧ SimS X.K W t d
def DPSs (X : Cx) (W : WX) (sts : List Stmt) (d : DTS) : Prop := ∃ t, PSs X sts t ∧ SimS X.K W t d
section
variable {K : PySem.W.Frag} {W : WX} {H H' : Hp} {Dd : DEnds} {D : Ends}
theorem EndsOk.to (o : EndsOk K W H Dd D) (u : Up H H') : EndsOk K W H' Dd D :=
  ⟨fun a b c d q r v => o.nx a b c d q r (u.trans v), fun a b c d q r s v => o.rt a b c d q r s (u.trans v), fun a b c d q r v => o.bk a b c d q r (u.trans v), fun a b c d q r v => o.ct a b c d q r (u.trans v),
    fun a b c d e f q r v => o.ex a b c d e f q r (u.trans v)⟩
theorem EndsOk.wx (o : EndsOk K W H Dd D) (σd : DSt) (σ : L2.St) : WantX K W σd σ H (Dd.at σd) := fun C dd Hd' H' q rs u => o.ex C dd σd Hd' σ H' q rs u
end

/-! ### the weakest readings: one term for all contexts -/
def canE (K : PySem.W.Frag) (W : WX) (d : DTE) : TE := fun σ H Q => ∃ σd Hd Qd E, RS K σd Hd σ H ∧ WantX K W σd σ H E ∧ d E σd Hd Qd ∧ Want K σd σ H Qd Q
def canT (K : PySem.W.Frag) (W : WX) (d : DTT) : TT := fun σ H Q => ∃ (σd : DSt) (Hd : DH) (Qd : Bool → DH → Prop) (E : DX), RS K σd Hd σ H ∧ WantX K W σd σ H E ∧ d E σd Hd Qd ∧ ∀ b Hd' H', Qd b Hd' → RS K σd Hd' σ H' → Up H H' → Q b H'
def canS (K : PySem.W.Frag) (W : WX) (d : DTS) : TS := fun D σ H => ∃ σd Hd Dd, RS K σd Hd σ H ∧ EndsOk K W H Dd D ∧ d Dd σd Hd
section
variable {X : Cx} {W : WX} {e : Expr} {st : Stmt} {sts : List Stmt}
theorem DPE.can {d : DTE} (h : DPE X W e d) : PE X e (canE X.K W d) := by
  obtain ⟨t, h1, h2⟩ := h
  exact ⟨fun pins s σ H Q I ⟨σd, Hd, Qd, E, rs, wx, q, w⟩ => h1.run pins s σ H Q I (h2 σd Hd σ H Qd Q E rs wx q w)⟩
theorem DPT.can {d : DTT} (h : DPT X W e d) : PT X e (canT X.K W d) := by
  obtain ⟨t, h1, h2⟩ := h
  exact ⟨fun pins s σ H Q I ⟨σd, Hd, Qd, E, rs, wx, q, w⟩ => h1.run pins s σ H Q I (h2 σd Hd σ H Qd Q E rs wx q w)⟩
theorem DPS.can {d : DTS} (h : DPS X W st d) : PS X st (canS X.K W d) := by
  obtain ⟨t, h1, h2⟩ := h
  exact ⟨fun pins s σ H D I ⟨σd, Hd, Dd, rs, o, q⟩ => h1.run pins s σ H D I (h2 Dd D σd Hd σ H rs o q)⟩
theorem DPSs.can {d : DTS} (h : DPSs X W sts d) : PSs X sts (canS X.K W d) := by
  obtain ⟨t, h1, h2⟩ := h
  exact ⟨fun pins s σ H D I ⟨σd, Hd, Dd, rs, o, q⟩ => h1.run pins s σ H D I (h2 Dd D σd Hd σ H rs o q)⟩
end

/-! ### blocks and small statements -/
def dNext : DTS := fun D σ H => D.nx σ H
def dSeq (t u : DTS) : DTS := fun D σ H => t { D with nx := u D } σ H
def dBrk : DTS := fun D σ H => D.bk σ H
def dCnt : DTS := fun D σ H => D.ct σ H
def dDrop (a : DTE) : DTS := fun D σ H => a (D.at σ) σ H fun _ H1 => D.nx σ H1
def dRet (a : DTE) : DTS := fun D σ H => a (D.at σ) σ H D.rt
def dRetN : DTS := fun D _ H => D.rt .non H
def dIfS (c : DTT) (t u : DTS) : DTS := fun D σ H => c (D.at σ) σ H fun b H1 => if b = true then t D σ H1 else u D σ H1
def dSet (a : DTE) (i : Nat) : DTS := fun D σ H => a (D.at σ) σ H fun x H1 => D.nx (σ.set i (some x)) H1
def dNever : DTS := fun _ _ _ => False
section
variable {X : Cx} {W : WX} {st : Stmt} {rest a b : List Stmt} {t u : DTS} {e : Expr} {de : DTE} {dt : DTT} {pos : Pos}
theorem ds_nil : DPSs X W [] dNext := ⟨_, pss_nil, fun Dd D σd Hd σ H rs o q => o.nx σd Hd σ H q rs (Up.refl H)⟩
theorem ds_cons (h1 : DPS X W st t) (h2 : DPSs X W rest u) : DPSs X W (st :: rest) (dSeq t u) := by
  obtain ⟨t1, p1, s1⟩ := h1
  obtain ⟨t2, p2, s2⟩ := h2
  refine ⟨_, pss_cons p1 p2, fun Dd D σd Hd σ H rs o q => ?_⟩
  exact s1 { Dd with nx := u Dd } { D with nx := t2 D } σd Hd σ H rs ⟨fun σd' Hd' σ' H' q' rs' up => s2 Dd D σd' Hd' σ' H' rs' (o.to up) q', o.rt, o.bk, o.ct, o.ex⟩ q
theorem ds_one (h : DPS X W st t) : DPSs X W [st] t := by
  obtain ⟨t1, p1, s1⟩ := h
  exact ⟨_, pss_one p1, s1⟩
theorem ds_never : DPSs X W a dNever := ⟨_, pss_never, fun _ _ _ _ _ _ _ _ q => q.elim⟩
theorem ds_pass : DPS X W (.Pass pos) dNext := ⟨_, ps_pass, fun Dd D σd Hd σ H rs o q => o.nx σd Hd σ H q rs (Up.refl H)⟩
theorem ds_break : DPS X W (.Break pos) dBrk := ⟨_, ps_break, fun Dd D σd Hd σ H rs o q => o.bk σd Hd σ H q rs (Up.refl H)⟩
theorem ds_continue : DPS X W (.Continue pos) dCnt := ⟨_, ps_continue, fun Dd D σd Hd σ H rs o q => o.ct σd Hd σ H q rs (Up.refl H)⟩
theorem ds_expr (h : DPE X W e de) (hs : swapsWith e none pos.line X.env = pure false := by rfl) : DPS X W (.Expr e pos) (dDrop de) := by
  obtain ⟨t1, p1, s1⟩ := h
  exact ⟨_, ps_expr p1 hs, fun Dd D σd Hd σ H rs o q => s1 σd Hd σ H _ _ _ rs (o.wx σd σ) q fun x Hd' v H' q' rx rs' up => o.nx σd Hd' σ H' q' rs' up⟩
theorem ds_ret (h : DPE X W e de) : DPS X W (.Return (some e) pos) (dRet de) := by
  obtain ⟨t1, p1, s1⟩ := h
  exact ⟨_, ps_ret p1, fun Dd D σd Hd σ H rs o q => s1 σd Hd σ H _ _ _ rs (o.wx σd σ) q fun x Hd' v H' q' rx rs' up => o.rt x Hd' v H' q' rx rs'.hp up⟩
theorem ds_retN : DPS X W (.Return none pos) dRetN := ⟨_, ps_retN, fun Dd D σd Hd σ H rs o q => o.rt .non Hd .non H q rfl rs.hp (Up.refl H)⟩
theorem ds_if {c : Expr} (hc : DPT X W c dt) (ha : DPSs X W a t) (hb : DPSs X W b u) : DPS X W (.If c a b pos) (dIfS dt t u) := by
  obtain ⟨tc, c1, c2⟩ := hc
  obtain ⟨ta, a1, a2⟩ := ha
  obtain ⟨tb, b1, b2⟩ := hb
  refine ⟨_, ps_if c1 a1 b1, fun Dd D σd Hd σ H rs o q => c2 σd Hd σ H _ _ _ rs (o.wx σd σ) q fun k Hd' H' q' rs' up => ?_⟩
  cases k with
  | true =>
    rw [if_pos rfl] at q' ⊢
    exact a2 Dd D σd Hd' σ H' rs' (o.to up) q'
  | false =>
    rw [if_neg Bool.false_ne_true] at q' ⊢
    exact b2 Dd D σd Hd' σ H' rs' (o.to up) q'
theorem ds_set {i : Nat} {x : Str} {pos' : Pos} (hN : X.N.Nodup) (hi : X.N[i]? = some x) (hx : Loc X.env.scope x) (h : DPE X W e de) (hs : swapsWith e (some (.Name x pos')) pos.line X.env = pure false := by rfl) (hf : X.fn x = true ∨ X.env.scope.names.lookup x = some .local := by first | exact .inl rfl | exact .inr rfl | assumption) :
    DPS X W (.Assign [.Name x pos'] e pos) (dSet de i) := by
  obtain ⟨t1, p1, s1⟩ := h
  exact ⟨_, ps_set hN hi hx p1 hs hf, fun Dd D σd Hd σ H rs o q => s1 σd Hd σ H _ _ _ rs (o.wx σd σ) q fun x Hd' v H' q' rx rs' up => o.nx _ Hd' _ H' q' (rs'.set rx i) up⟩
end

/-! ### targets -/
abbrev DTG := D → DSt → DH → (DSt → DH → Prop) → Prop
abbrev DTGs := List D → DSt → DH → (DSt → DH → Prop) → Prop
def SimG (K : PySem.W.Frag) (t : TG) (g : DTG) : Prop := ∀ x v σd Hd σ H (Qd : DSt → DH → Prop) (Q : L2.St → Hp → Prop), Rep K H x v → RS K σd Hd σ H → g x σd Hd Qd → (∀ σd' Hd' σ' H', Qd σd' Hd' → RS K σd' Hd' σ' H' → Up H H' → Q σ' H') → t v σ H Q
def SimGs (K : PySem.W.Frag) (t : TGs) (g : DTGs) : Prop := ∀ xs vs σd Hd σ H (Qd : DSt → DH → Prop) (Q : L2.St → Hp → Prop), Reps K H xs vs → RS K σd Hd σ H → g xs σd Hd Qd → (∀ σd' Hd' σ' H', Qd σd' Hd' → RS K σd' Hd' σ' H' → Up H H' → Q σ' H') → t vs σ H Q
def DPG (X : Cx) (tg : Expr) (g : DTG) : Prop := ∃ t, PG X tg t ∧ SimG X.K t g
def DPGs (X : Cx) (ts : List Expr) (g : DTGs) : Prop := ∃ t, PGs X ts t ∧ SimGs X.K t g
def gNm (i : Nat) : DTG := fun x σ H Q => Q (σ.set i (some x)) H
def gNl : DTGs := fun xs σ H Q => match xs with
  | [] => Q σ H
  | _ => False
def gCn (g : DTG) (r : DTGs) : DTGs := fun xs σ H Q => match xs with
  | x :: t => g x σ H fun σ' H' => r t σ' H' Q
  | _ => False
def gTp (n : Nat) (r : DTGs) : DTG := fun x σ H Q => match x with
  | .tup ds => ds.length = n ∧ r ds σ H Q
  | _ => False
def canG (K : PySem.W.Frag) (g : DTG) : TG := fun v σ H Q => ∃ x σd Hd Qd, Rep K H x v ∧ RS K σd Hd σ H ∧ g x σd Hd Qd ∧ ∀ σd' Hd' σ' H', Qd σd' Hd' → RS K σd' Hd' σ' H' → Up H H' → Q σ' H'
abbrev WF : WX := fun _ _ _ _ => False
theorem wxF {K : PySem.W.Frag} {σd : DSt} {σ : L2.St} {H : Hp} : WantX K WF σd σ H (fun _ _ _ => False) := fun _ _ _ _ q _ _ => q.elim
/-- o[i] = v -/
def dSetIx : D → D → D → DH → (DH → Prop) → Prop := fun o i v H Q => match o, i with
  | .ref a, .int k => ∃ xs j, H a = some (.lst xs) ∧ ixN xs.length k = some j ∧ Q (put H a (.lst (xs.set j v)))
  | _, _ => False
def gIx (a b : DTE) : DTG := fun v σ H Q => a (fun _ _ _ => False) σ H fun o H1 => b (fun _ _ _ => False) σ H1 fun i H2 => dSetIx o i v H2 fun H3 => Q σ H3
def dAsg (a : DTE) (g : DTG) : DTS := fun D σ H => a (D.at σ) σ H fun x H1 => g x σ H1 D.nx
section
variable {X : Cx} {W : WX} {pos : Pos} {e o i tg : Expr} {es : List Expr} {de da db : DTE} {g : DTG} {gs : DTGs}
theorem DPG.can (h : DPG X tg g) : PG X tg (canG X.K g) := by
  obtain ⟨t, h1, h2⟩ := h
  exact ⟨fun pins s σ H v u Q I r ⟨x, σd, Hd, Qd, rx, rs, q, k⟩ => h1.run pins s σ H v u Q I r (h2 x v σd Hd σ H Qd Q rx rs q k)⟩
theorem dg_name {i : Nat} {x : Str} (hN : X.N.Nodup) (hi : X.N[i]? = some x) (hx : Loc X.env.scope x) (hf : X.fn x = true ∨ X.env.scope.names.lookup x = some .local := by first | exact .inl rfl | exact .inr rfl | assumption) : DPG X (.Name x pos) (gNm i) :=
  ⟨_, pg_name hN hi hx hf, fun x v σd Hd σ H Qd Q rx rs q k => k _ Hd _ H q (rs.set rx i) (Up.refl H)⟩
theorem dgs_nil : DPGs X [] gNl := ⟨_, pgs_nil, fun xs vs σd Hd σ H Qd Q rx rs q k => by
  unfold gNl at q
  split at q
  · exact ⟨rx, k _ Hd _ H q rs (Up.refl H)⟩
  · exact q.elim⟩
theorem dgs_cons (h1 : DPG X e g) (h2 : DPGs X es gs) (hs : (assignEach (e :: es) X.env).map (·.2) = assign e X.env :: (assignEach es X.env).map (·.2) := by rfl) : DPGs X (e :: es) (gCn g gs) := by
  obtain ⟨t1, a1, a2⟩ := h1
  obtain ⟨t2, b1, b2⟩ := h2
  refine ⟨_, pgs_cons a1 b1 hs, fun xs vs σd Hd σ H Qd Q rx rs q k => ?_⟩
  unfold gCn at q
  split at q
  · rename_i x t
    obtain ⟨v, r, ev, r1, r2⟩ := rx
    refine ⟨v, r, ev, a2 x v σd Hd σ H _ _ r1 rs q fun σd' Hd' σ' H' q' rs' up => ?_⟩
    exact b2 t r σd' Hd' σ' H' Qd Q (r2.up up _ _) rs' q' fun σd2 Hd2 σ2 H2 q2 rs2 up2 => k σd2 Hd2 σ2 H2 q2 rs2 (up.trans up2)
  · exact q.elim
theorem dg_tup {k} {n : Nat} (hc : X.calm = true) (h : DPGs X es gs) (hn : (assignEach es X.env).length = n := by rfl) (hst : (assignEach es X.env).findIdx? (·.1) = none := by rfl) : DPG X (.Tuple es k pos) (gTp n gs) := by
  obtain ⟨t, h1, h2⟩ := h
  refine ⟨_, pg_tup hc h1 hn hst, fun x v σd Hd σ H Qd Q rx rs q k => ?_⟩
  unfold gTp at q
  split at q
  · obtain ⟨a, xs, e1, s1, r1⟩ := rx
    exact ⟨a, xs, e1, s1, by rw [r1.len]; exact q.1, h2 _ xs σd Hd σ H Qd Q r1 rs q.2 k⟩
  · exact q.elim
theorem dg_ix (ho : DPE X WF o da) (hi : DPE X WF i db)
    (ha : ∀ v, assign (.Subscript o i pos) X.env v = (do
      let ov ← holding [v] (eval o X.env)
      let iv ← holding [v, ov] (eval i X.env)
      standAt pos
      holding [v, ov, iv] (setItem ov iv v)
      release [v, ov, iv] []) := by intro _; rfl) : DPG X (.Subscript o i pos) (gIx da db) := by
  obtain ⟨t1, a1, a2⟩ := ho
  obtain ⟨t2, b1, b2⟩ := hi
  refine ⟨_, pg_sub a1 b1 set_list ha, fun x v σd Hd σ H Qd Q rx rs q k => ?_⟩
  refine a2 σd Hd σ H _ _ _ rs wxF q fun y H1 w H1' q1 ry rs1 u1 => b2 σd H1 σ H1' _ _ _ rs1 wxF q1 fun z H2 u H2' q2 rz rs2 u2 => ?_
  unfold dSetIx at q2
  split at q2
  · rename_i a n
    obtain ⟨xs, j, h1, h2, q2⟩ := q2
    obtain ⟨vs, e1, r1⟩ := rs2.hp _ _ h1
    have up : Up H2' (upd H2' a (.lst (vs.set j v))) := Up.put e1 trivial
    have rh := (rs2.hp.write (u := .lst (vs.set j v)) (x := .lst (xs.set j x)) h1 ⟨_, upd_same, Reps.set (rx.up ((u1.trans u2).trans up) _ _) j (r1.up up _ _)⟩).1
    exact ⟨a, vs, n, j, ry, rz, e1, by rw [r1.len]; exact h2, k σd _ σ _ q2 (rs2.mono up rh) ((u1.trans u2).trans up)⟩
  · exact q2.elim
theorem ds_asg (he : DPE X W e de) (hg : DPG X tg g) (hs : swapsWithSole [tg] e pos.line X.env = pure false := by rfl) (hw : swappedStores [tg] e X.env = pure none := by rfl)
    (h1 : (assignEach [tg] X.env).map (·.2) = [assign tg X.env] := by rfl) : DPS X W (.Assign [tg] e pos) (dAsg de g) := by
  obtain ⟨t1, p1, s1⟩ := he
  obtain ⟨t2, p2, s2⟩ := hg
  exact ⟨_, ps_asg p1 p2 hs hw h1, fun Dd D σd Hd σ H rs o q => s1 σd Hd σ H _ _ _ rs (o.wx σd σ) q fun x Hd' v H' q' rx rs' up => s2 x v σd Hd' σ H' _ _ rx rs' q' fun σd2 Hd2 σ2 H2 q2 rs2 up2 => o.nx σd2 Hd2 σ2 H2 q2 rs2 (up.trans up2)⟩
/-- x, y = a, b with plain local names -/
def dPar (i j : Nat) (a : DTA) : DTS := fun D σ H => a (D.at σ) σ H fun xs H1 => match xs with
  | [x, y] => D.nx ((σ.set i (some x)).set j (some y)) H1
  | _ => False
theorem ds_par {i j : Nat} {x y : Str} {a b : Expr} {dA : DTA} {px py pt : Pos} {kt k2 pt2} (hc : X.calm = true) (hN : X.N.Nodup) (hi : X.N[i]? = some x) (hj : X.N[j]? = some y) (hij : i ≠ j)
    (hx : X.env.scope.names.lookup x = some .local) (hy : X.env.scope.names.lookup y = some .local) (ha : DPA X W [a, b] dA)
    (hw : swappedStores [.Tuple [.Name x px, .Name y py] kt pt] (.Tuple [a, b] k2 pt2) X.env = pure (some [x, y]))
    (hs : swapsWithSole [.Tuple [.Name x px, .Name y py] kt pt] (.Tuple [a, b] k2 pt2) pos.line X.env = pure false := by rfl) : DPS X W (.Assign [.Tuple [.Name x px, .Name y py] kt pt] (.Tuple [a, b] k2 pt2) pos) (dPar i j dA) := by
  obtain ⟨t, p1, s1⟩ := ha
  refine ⟨_, ps_par hc hN hi hj hij hx hy p1 hw hs, fun Dd D σd Hd σ H rs o q => s1 σd Hd σ H _ _ _ rs (o.wx σd σ) q fun xs Hd' vs H' q' rx rs' up => ?_⟩
  split at q'
  · obtain ⟨v, u, ev, r1, r2⟩ := reps2 rx
    exact ⟨v, u, ev, o.nx _ Hd' _ H' q' ((rs'.set r1 i).set r2 j) up⟩
  · exact q'.elim
end

/-! ### what a for walks -/
structure DIt where
  stop : Nat → DH → Prop
  at_ : Nat → DH → D → Prop
structure SimIt (K : PySem.W.Frag) (H0 : Hp) (J : It) (d : DIt) : Prop where
  stop : ∀ i Hd H, Up H0 H → RH K Hd H → d.stop i Hd → J.stop i H
  at_ : ∀ i Hd H x, Up H0 H → RH K Hd H → d.at_ i Hd x → J.go i H ∧ ∀ v H', J.yld i H v H' → Rep K H' x v ∧ RH K Hd H' ∧ Up H H'
abbrev DTI := DX → DSt → DH → (DIt → DH → Prop) → Prop
def SimI (K : PySem.W.Frag) (W : WX) (wi : TI) (d : DTI) : Prop := ∀ σd Hd σ H (Rd : DIt → DH → Prop) (R : It → Hp → Prop) (E : DX), RS K σd Hd σ H → WantX K W σd σ H E → d E σd Hd Rd → (∀ Jd Hd' J H', Rd Jd Hd' → SimIt K H' J Jd → RS K σd Hd' σ H' → Up H H' → R J H') → wi σ H R
def DPI (X : Cx) (W : WX) (tg iter : Expr) (d : DTI) : Prop := ∃ wi, PI X tg iter wi ∧ SimI X.K W wi d
def jSeq (ds : List D) : DIt := ⟨fun i _ => ds.length ≤ i, fun i _ x => ds[i]? = some x⟩
def jRng (lo : Int) (n : Nat) : DIt := ⟨fun i _ => n ≤ i, fun i _ x => i < n ∧ x = .int (lo + (i : Int))⟩
/-- the list at a, as it stands at each turn -/
def jLst (a : Addr) : DIt := ⟨fun i H => ∃ ds, H a = some (.lst ds) ∧ ds.length ≤ i, fun i H x => ∃ ds, H a = some (.lst ds) ∧ ds[i]? = some x⟩
/-- over a tuple -/
def wTup (a : DTE) : DTI := fun E σ H R => a E σ H fun x H1 => match x with
  | .tup ds => R (jSeq ds) H1
  | _ => False
/-- over a list -/
def wLst (a : DTE) : DTI := fun E σ H R => a E σ H fun x H1 => match x with
  | .fl ds => R (jSeq ds) H1
  | .ref p => (∃ ds, H1 p = some (.lst ds)) ∧ R (jLst p) H1
  | _ => False
def wRng1 (a : DTA) : DTI := fun E σ H R => a E σ H fun xs H1 => match xs with
  | [.int j] => -(2 ^ 62) ≤ j ∧ j < 2 ^ 62 ∧ R (jRng 0 j.toNat) H1
  | _ => False
def wRng2 (a : DTA) : DTI := fun E σ H R => a E σ H fun xs H1 => match xs with
  | [.int i, .int j] => (-(2 ^ 62) ≤ i ∧ i < 2 ^ 62 ∧ -(2 ^ 62) ≤ j ∧ j < 2 ^ 62) ∧ R (jRng i (j - i).toNat) H1
  | _ => False
section
variable {X : Cx} {W : WX} {tg l a b : Expr} {da : DTE} {dA : DTA} {p pos : Pos}
theorem sim_tup {K : PySem.W.Frag} {H0 : Hp} {q : Addr} {xs : List V} {ds : List D} (s : SqT K H0 q xs) (r : Reps K H0 ds xs) : SimIt K H0 (Itt K q) (jSeq ds) := ⟨fun i Hd H u rh h => ⟨xs, u.sqT s, by rw [r.len]; exact h⟩, fun i Hd H x u rh h => by
  obtain ⟨v, e, rv⟩ := r.get h
  refine ⟨⟨xs, v, u.sqT s, e⟩, fun w H' y => ?_⟩
  obtain ⟨e1, y⟩ := y
  subst e1
  have e2 := y xs (u.sqT s)
  rw [e] at e2
  cases e2
  exact ⟨rv.up u _ _, rh, Up.refl _⟩⟩
theorem sim_fl {K : PySem.W.Frag} {H0 : Hp} {q : Addr} {xs : List V} {ds : List D} (s : Fl K H0 q xs) (r : Reps K H0 ds xs) : SimIt K H0 (Itl K q) (jSeq ds) := ⟨fun i Hd H u rh h => ⟨xs, (u.fl s).sq, by rw [r.len]; exact h⟩, fun i Hd H x u rh h => by
  obtain ⟨v, e, rv⟩ := r.get h
  refine ⟨⟨xs, v, (u.fl s).sq, e⟩, fun w H' y => ?_⟩
  obtain ⟨e1, y⟩ := y
  subst e1
  have e2 := y xs (u.fl s).sq
  rw [e] at e2
  cases e2
  exact ⟨rv.up u _ _, rh, Up.refl _⟩⟩
theorem sim_lst {K : PySem.W.Frag} {H0 : Hp} {q : Addr} : SimIt K H0 (Itl K q) (jLst q) := ⟨fun i Hd H u rh h => by
  obtain ⟨ds, h1, h2⟩ := h
  obtain ⟨xs, e, r⟩ := rh _ _ h1
  exact ⟨xs, SqL.of e, by rw [r.len]; exact h2⟩, fun i Hd H x u rh h => by
  obtain ⟨ds, h1, h2⟩ := h
  obtain ⟨xs, e, r⟩ := rh _ _ h1
  obtain ⟨v, e1, rv⟩ := r.get h2
  refine ⟨⟨xs, v, SqL.of e, e1⟩, fun w H' y => ?_⟩
  obtain ⟨e2, y⟩ := y
  subst e2
  have e3 := y xs (SqL.of e)
  rw [e1] at e3
  cases e3
  exact ⟨rv, rh, Up.refl _⟩⟩
theorem sim_rng {K : PySem.W.Frag} {H0 : Hp} {lo : Int} {n : Nat} : SimIt K H0 (Itr lo n) (jRng lo n) := ⟨fun i Hd H u rh h => h, fun i Hd H x u rh h => by
  obtain ⟨h1, h2⟩ := h
  refine ⟨h1, fun w H' y => ?_⟩
  obtain ⟨e1, e2⟩ := y
  subst e1 e2 h2
  exact ⟨rfl, rh, Up.refl _⟩⟩
theorem di_tup (h : DPE X W l da) : DPI X W tg l (wTup da) := by
  obtain ⟨t, h1, h2⟩ := h
  refine ⟨_, pi_tup h1, fun σd Hd σ H Rd R E rs wx q k => h2 σd Hd σ H _ _ E rs wx q fun x Hd' v H' q' rx rs' up => ?_⟩
  split at q'
  · obtain ⟨b, xs, e1, s1, r1⟩ := rx
    exact ⟨b, e1, ⟨xs, s1⟩, k _ Hd' _ H' q' (sim_tup s1 r1) rs' up⟩
  · exact q'.elim
theorem di_lst (h : DPE X W l da) : DPI X W tg l (wLst da) := by
  obtain ⟨t, h1, h2⟩ := h
  refine ⟨_, pi_list h1, fun σd Hd σ H Rd R E rs wx q k => h2 σd Hd σ H _ _ E rs wx q fun x Hd' v H' q' rx rs' up => ?_⟩
  split at q'
  · obtain ⟨b, xs, e1, s1, r1⟩ := rx
    exact ⟨b, e1, ⟨xs, s1.sq⟩, k _ Hd' _ H' q' (sim_fl s1 r1) rs' up⟩
  · obtain ⟨⟨ds, hd⟩, q'⟩ := q'
    obtain ⟨xs, e, r⟩ := rs'.hp _ _ hd
    exact ⟨_, rx, ⟨xs, SqL.of e⟩, k _ Hd' _ H' q' sim_lst rs' up⟩
  · exact q'.elim
theorem di_rng1 (hg : Gl X "range") (hm : X.mg "range" = none) (ha : DPA X W [a] dA) (hs : starEach [a] X.env = [(false, eval a X.env)] := by rfl) : DPI X W tg (.Call (.Name "range" p) [a] [] pos) (wRng1 dA) := by
  obtain ⟨t, h1, h2⟩ := ha
  refine ⟨_, pi_range1 hg hm h1 hs, fun σd Hd σ H Rd R E rs wx q k => h2 σd Hd σ H _ _ E rs wx q fun xs Hd' vs H' q' rx rs' up => ?_⟩
  split at q'
  · obtain ⟨v, ev, r1⟩ := reps1 rx
    exact ⟨_, by rw [ev, show v = _ from r1], q'.1, q'.2.1, k _ Hd' _ H' q'.2.2 sim_rng rs' up⟩
  · exact q'.elim
theorem di_rng2 (hg : Gl X "range") (hm : X.mg "range" = none) (ha : DPA X W [a, b] dA) (hs : starEach [a, b] X.env = [(false, eval a X.env), (false, eval b X.env)] := by rfl) (hs2 : starEach [b] X.env = [(false, eval b X.env)] := by rfl) :
    DPI X W tg (.Call (.Name "range" p) [a, b] [] pos) (wRng2 dA) := by
  obtain ⟨t, h1, h2⟩ := ha
  refine ⟨_, pi_range2 hg hm h1 hs hs2, fun σd Hd σ H Rd R E rs wx q k => h2 σd Hd σ H _ _ E rs wx q fun xs Hd' vs H' q' rx rs' up => ?_⟩
  split at q'
  · obtain ⟨v, u, ev, r1, r2⟩ := reps2 rx
    exact ⟨_, _, by rw [ev, show v = _ from r1, show u = _ from r2], q'.1, k _ Hd' _ H' q'.2 sim_rng rs' up⟩
  · exact q'.elim
end

/-! ### loops -/
def dFor (wi : DTI) (g : DTG) (tb : DTS) : DTS := fun D σ H => wi (D.at σ) σ H fun J H1 => ∃ W : Nat → Nat → DSt → DH → Prop, (∃ m, W 0 m σ H1) ∧ ∀ i m σ H, W i m σ H →
  (J.stop i H ∧ D.nx σ H) ∨ (∃ x, J.at_ i H x ∧ ∃ N : DSt → DH → Prop, (∀ σ' H', N σ' H' → ∃ m', m' < m ∧ W (i + 1) m' σ' H') ∧ g x σ H fun σ2 H2 => tb { D with nx := N, ct := N, bk := D.nx } σ2 H2)
def dWhile (c : DTT) (tb : DTS) : DTS := fun D σ H => ∃ W : Nat → DSt → DH → Prop, (∃ m, W m σ H) ∧ ∀ m σ H, W m σ H →
  c (D.at σ) σ H fun b H1 => if b = true then ∃ N : DSt → DH → Prop, (∀ σ' H', N σ' H' → ∃ m', m' < m ∧ W m' σ' H') ∧ tb { D with nx := N, ct := N, bk := D.nx } σ H1 else D.nx σ H1
section
variable {X : Cx} {W : WX} {pos : Pos} {c tg iter : Expr} {body : List Stmt} {dt : DTT} {wi : DTI} {g : DTG} {tb : DTS}
theorem ds_for (hp : PassesOwn (model X.prog X.w) X.A X.env X.xe) (hc : X.calm = true) (hi : DPI X W tg iter wi) (hg : DPG X tg g) (hb : DPSs X W body tb) (hs : ∀ x, foldedSetIterable iter X.env x = pure x := by intro _; rfl) : DPS X W (.For tg iter body [] pos) (dFor wi g tb) := by
  obtain ⟨ti, i1, i2⟩ := hi
  obtain ⟨tG, g1, g2⟩ := hg
  obtain ⟨tB, b1, b2⟩ := hb
  refine ⟨_, ps_for hp hc i1 g1 b1 hs, fun Dd D σd Hd σ H rs o q => i2 σd Hd σ H _ _ _ rs (o.wx σd σ) q fun Jd Hd1 J H1 q1 sj rs1 u1 => ?_⟩
  obtain ⟨Wd, ⟨m0, w0⟩, turn⟩ := q1
  refine ⟨fun i m σ' H' => ∃ σd' Hd', RS X.K σd' Hd' σ' H' ∧ Up H1 H' ∧ Wd i m σd' Hd', ⟨m0, σd, Hd1, rs1, Up.refl _, w0⟩, ?_⟩
  rintro i m σ2 H2 ⟨σd2, Hd2, rs2, u2, w2⟩
  rcases turn i m σd2 Hd2 w2 with ⟨st, qn⟩ | ⟨x, at_, N, hN, step⟩
  · exact .inl ⟨sj.stop i Hd2 H2 u2 rs2.hp st, o.nx σd2 Hd2 σ2 H2 qn rs2 (u1.trans u2)⟩
  · obtain ⟨go, yl⟩ := sj.at_ i Hd2 H2 x u2 rs2.hp at_
    refine .inr ⟨go, fun σ' H' => ∃ σd' Hd', RS X.K σd' Hd' σ' H' ∧ Up H1 H' ∧ N σd' Hd', ?_, fun v H3 y => ?_⟩
    · rintro σ' H' ⟨σd', Hd', rs', u', n'⟩
      obtain ⟨m', hm, w'⟩ := hN σd' Hd' n'
      exact ⟨m', hm, σd', Hd', rs', u', w'⟩
    · obtain ⟨rx, rh, u3⟩ := yl v H3 y
      refine g2 x v σd2 Hd2 σ2 H3 _ _ rx (rs2.mono u3 rh) step fun σd4 Hd4 σ4 H4 q4 rs4 u4 => ?_
      have U := (u2.trans u3).trans u4
      exact b2 { Dd with nx := N, ct := N, bk := Dd.nx } { D with nx := fun σ' H' => ∃ σd' Hd', RS X.K σd' Hd' σ' H' ∧ Up H1 H' ∧ N σd' Hd', ct := fun σ' H' => ∃ σd' Hd', RS X.K σd' Hd' σ' H' ∧ Up H1 H' ∧ N σd' Hd', bk := D.nx } σd4 Hd4 σ4 H4 rs4 ⟨fun a b c d q r v => ⟨a, b, r, U.trans v, q⟩, (o.to (u1.trans U)).rt, (o.to (u1.trans U)).nx, fun a b c d q r v => ⟨a, b, r, U.trans v, q⟩, (o.to (u1.trans U)).ex⟩ q4
theorem ds_while (hp : PassesOwn (model X.prog X.w) X.A X.env X.xe) (hc : DPT X W c dt) (hb : DPSs X W body tb) : DPS X W (.While c body [] pos) (dWhile dt tb) := by
  obtain ⟨tc, c1, c2⟩ := hc
  obtain ⟨tB, b1, b2⟩ := hb
  refine ⟨_, ps_while hp c1 b1, fun Dd D σd Hd σ H rs o q => ?_⟩
  obtain ⟨Wd, ⟨m0, w0⟩, turn⟩ := q
  refine ⟨fun m σ' H' => ∃ σd' Hd', RS X.K σd' Hd' σ' H' ∧ Up H H' ∧ Wd m σd' Hd', ⟨m0, σd, Hd, rs, Up.refl _, w0⟩, ?_⟩
  rintro m σ2 H2 ⟨σd2, Hd2, rs2, u2, w2⟩
  refine c2 σd2 Hd2 σ2 H2 _ _ _ rs2 ((o.to u2).wx σd2 σ2) (turn m σd2 Hd2 w2) fun k Hd3 H3 q3 rs3 u3 => ?_
  cases k with
  | true =>
    rw [if_pos rfl] at q3 ⊢
    obtain ⟨N, hN, q3⟩ := q3
    refine ⟨fun σ' H' => ∃ σd' Hd', RS X.K σd' Hd' σ' H' ∧ Up H H' ∧ N σd' Hd', ?_, ?_⟩
    · rintro σ' H' ⟨σd', Hd', rs', u', n'⟩
      obtain ⟨m', hm, w'⟩ := hN σd' Hd' n'
      exact ⟨m', hm, σd', Hd', rs', u', w'⟩
    · have U := u2.trans u3
      exact b2 { Dd with nx := N, ct := N, bk := Dd.nx } { D with nx := fun σ' H' => ∃ σd' Hd', RS X.K σd' Hd' σ' H' ∧ Up H H' ∧ N σd' Hd', ct := fun σ' H' => ∃ σd' Hd', RS X.K σd' Hd' σ' H' ∧ Up H H' ∧ N σd' Hd', bk := D.nx } σd2 Hd3 σ2 H3 rs3 ⟨fun a b c d q r v => ⟨a, b, r, U.trans v, q⟩, (o.to U).rt, (o.to U).nx, fun a b c d q r v => ⟨a, b, r, U.trans v, q⟩, (o.to U).ex⟩ q3
  | false =>
    rw [if_neg Bool.false_ne_true] at q3 ⊢
    exact o.nx σd2 Hd3 σ2 H3 q3 rs3 (u2.trans u3)
end
end DL

/-! The data layer, part G: defs and their promises, calls, methods, instances. -/
namespace DL
open PySem PySem.Spec PyProof.Rows L2

/-- a promise over data: arguments, data heap, what is wanted of the value, of an exception -/
abbrev DSp := List D → DH → DK → DX → Prop
def spOf (K : PySem.W.Frag) (d : DSp) : Sp := fun vs H Q E => ∃ ds Hd Qd Ed, Reps K H ds vs ∧ RH K Hd H ∧ d ds Hd Qd Ed ∧ WantV K H Qd Q ∧ ∀ C dd Hd' H', Ed C dd Hd' → RH K Hd' H' → Up H H' → E (.ref C) dd H'
/-- the ends of a def's body: what was made beside may be forgotten -/
def endsOf (Q : DK) (E : DX) : DEnds := { nx := fun _ H => ∃ H0, Sub H0 H ∧ Q .non H0, rt := fun x H => ∃ H0, Sub H0 H ∧ Q x H0, ex := fun C dd _ H => ∃ H0, Sub H0 H ∧ E C dd H0 }
abbrev WE0 (E : XK) : WX := fun cls d _ H => E cls d H
abbrev DFn (P : Program) (w : World) (K : PySem.W.Frag) (mg : Str → Option Value) (base : Heap) (k : Nat) (f : Addr) (fd : FuncData) (ps : List Str) (d : DSp) : Prop := FnOk P w K mg base (L2N.CX P w) k f fd ps (spOf K d)
section
variable {P : Program} {w : World} {K : PySem.W.Frag} {mg : Str → Option Value} {base : Heap}
theorem endsOk {H : Hp} {Qd : DK} {Ed : DX} {Q : VK} {E : XK} (q : WantV K H Qd Q) (e : ∀ C dd Hd' H', Ed C dd Hd' → RH K Hd' H' → Up H H' → E (.ref C) dd H') : EndsOk K (WE0 E) H (endsOf Qd Ed) { nx := fun _ H' => Q .non H', rt := Q } where
  nx := fun σd Hd σ H' ⟨H0, s, h⟩ rs u => q .non H0 .non H' h rfl (rs.hp.less s) u
  rt := fun x Hd v H' ⟨H0, s, h⟩ rx rh u => q x H0 v H' h rx (rh.less s) u
  bk := fun _ _ _ _ z _ _ => z.elim
  ct := fun _ _ _ _ z _ _ => z.elim
  ex := fun C dd σd Hd σ H' ⟨H0, s, h⟩ rs u => e C dd H0 H' h (rs.hp.less s) u
/-- a def of the text as it stands behind the top -/
structure DFu (K : PySem.W.Frag) (x qual : Str) (st : Stmt) (f : Addr) (fd : FuncData) : Prop where
  ex : ∃ (oc : Value) (od : Option Addr) (dV kV doc pm : Value) (an : Option Addr) (cdv ct : Value) (osl : Array (Option Value)),
    fd = PySem.W.fnOf x qual (defArgs st) (defBody st) (defScope st) dV kV doc pm an cdv ct ∧ K.lookup f = some ⟨oc, od, .func fd, osl⟩ ∧ PySem.W.codeIn K cdv qual = true
theorem dfu_mk {x qual : Str} {st : Stmt} {f : Addr} {oc : Value} {od an : Option Addr} {osl : Array (Option Value)} {dV kV doc pm cdv ct : Value} (l : K.lookup f = some ⟨oc, od, .func (PySem.W.fnOf x qual (defArgs st) (defBody st) (defScope st) dV kV doc pm an cdv ct), osl⟩)
    (c : PySem.W.codeIn K cdv qual = true) : DFu K x qual st f (PySem.W.fnOf x qual (defArgs st) (defBody st) (defScope st) dV kV doc pm an cdv ct) := ⟨⟨oc, od, dV, kV, doc, pm, an, cdv, ct, osl, rfl, l, c⟩⟩
/-- THE RULE for a def: its body's term, its reading for all that the promise lets in -/
theorem dfun {x qual : Str} {st : Stmt} {f : Addr} {fd : FuncData} {N ps : List Str} {k : Nat} {d : DSp} (F : DFu K x qual st f fd) (S : FnScope N ps (defScope st)) (len : ∀ ds Hd Q E, d ds Hd Q E → ds.length = ps.length)
    (body : ∀ (cdv : Value) (A : Around) (outer : List Env) (s : Shared) (H : Hp) (E : XK), Room k (A.deeper (envOfC qual (defScope st) s.heap.objs.size f cdv)) →
      ∃ T, DPSs (cxOf (L2N.CX P w) P w K mg base N qual (defScope st) f cdv A outer s H E) (WE0 E) (defBody st) T ∧ ∀ ds Hd Q Ed, d ds Hd Q Ed → T (endsOf Q Ed) (startD N ds) Hd) : DFn P w K mg base (k + 1) f fd ps d := by
  obtain ⟨oc, od, dV, kV, doc, pm, an, cdv, ct, osl, rfl, lk, hcd⟩ := F.ex
  refine fn_of lk hcd S (fun vs H Q E h => ?_) fun A outer s H vs Q E hr h => ?_
  · obtain ⟨ds, Hd, Qd, Ed, r, _, h, _⟩ := h
    rw [r.len]
    exact len ds Hd Qd Ed h
  · obtain ⟨ds, Hd, Qd, Ed, r, rh, hd, hq, he⟩ := h
    obtain ⟨T, ⟨t, p1, p2⟩, hT⟩ := body cdv A outer s H E hr
    exact ⟨t, p1, p2 (endsOf Qd Ed) _ (startD N ds) Hd (L2.start N vs) H (RS.start r rh) (endsOk hq he) (hT ds Hd Qd Ed hd)⟩
/-- .. called where an exception is handled -/
abbrev DFnH (P : Program) (w : World) (K : PySem.W.Frag) (mg : Str → Option Value) (base : Heap) (k : Nat) (f : Addr) (fd : FuncData) (ps : List Str) (d : DSp) : Prop := L2H.FnH P w K mg base (L2N.CX P w) k f fd ps (spOf K d)
theorem dfunH {x qual : Str} {st : Stmt} {f : Addr} {fd : FuncData} {N ps : List Str} {k : Nat} {d : DSp} (F : DFu K x qual st f fd) (S : FnScope N ps (defScope st)) (len : ∀ ds Hd Q E, d ds Hd Q E → ds.length = ps.length)
    (body : ∀ (cdv : Value) (A : Around) (outer : List Env) (s : Shared) (H : Hp) (E : XK) (p : Addr × Obj), L2H.Hot1 A p → L2H.RoomH k (A.deeper (envOfC qual (defScope st) s.heap.objs.size f cdv)) →
      ∃ T, DPSs (L2H.cxH (L2N.CX P w) P w K mg base N qual (defScope st) f cdv A outer s H E p) (WE0 E) (defBody st) T ∧ ∀ ds Hd Q Ed, d ds Hd Q Ed → T (endsOf Q Ed) (startD N ds) Hd) : DFnH P w K mg base (k + 1) f fd ps d := by
  obtain ⟨oc, od, dV, kV, doc, pm, an, cdv, ct, osl, rfl, lk, hcd⟩ := F.ex
  refine L2H.fn_ofH lk hcd S (fun vs H Q E h => ?_) fun A outer s H vs Q E p hot hr h => ?_
  · obtain ⟨ds, Hd, Qd, Ed, r, _, h, _⟩ := h
    rw [r.len]
    exact len ds Hd Qd Ed h
  · obtain ⟨ds, Hd, Qd, Ed, r, rh, hd, hq, he⟩ := h
    obtain ⟨T, ⟨t, p1, p2⟩, hT⟩ := body cdv A outer s H E p hot hr
    exact ⟨t, p1, p2 (endsOf Qd Ed) _ (startD N ds) Hd (L2.start N vs) H (RS.start r rh) (endsOk hq he) (hT ds Hd Qd Ed hd)⟩
theorem takesE {N : List Str} {qual : Str} {sc : Scope} {f : Addr} {cdv : Value} {A : Around} {outer : List Env} {s : Shared} {H : Hp} {E : XK} : L2N.Takes (cxOf (L2N.CX P w) P w K mg base N qual sc f cdv A outer s H E) (WE0 E) := L2N.takes_of rfl rfl rfl rfl
theorem passesE {N : List Str} {qual : Str} {sc : Scope} {f : Addr} {cdv : Value} {A : Around} {outer : List Env} {s : Shared} {H : Hp} {E : XK} : PassesOwn (model P w) (cxOf (L2N.CX P w) P w K mg base N qual sc f cdv A outer s H E).A (cxOf (L2N.CX P w) P w K mg base N qual sc f cdv A outer s H E).env (cxOf (L2N.CX P w) P w K mg base N qual sc f cdv A outer s H E).xe :=
  passes_of (X := cxOf (L2N.CX P w) P w K mg base N qual sc f cdv A outer s H E) rfl
end

/-! ### calls -/
def dCall (sp : DSp) (dds : List D) (a : DTA) : DTE := fun E σ H Q => a E σ H fun xs H1 => sp (xs ++ dds) H1 Q E
def dMeth (C : Addr) (m : Str) (sp : DSp) (dds : List D) (o : DTE) (a : DTA) : DTE := fun E σ H Q => o E σ H fun x H1 => match x with
  | .ref p => ∃ fs, H1 p = some (.ins C fs) ∧ fs.lookup m = none ∧ a E σ H1 fun xs H2 => sp (.ref p :: (xs ++ dds)) H2 Q E
  | _ => False
def dMake (C : Addr) (sp : DSp) (dds : List D) (a : DTA) : DTE := fun E σ H Q => a E σ H fun xs H1 => ∀ p, H1 p = none → sp (.ref p :: (xs ++ dds)) (put H1 p (.ins C [])) (fun v H2 => v = .non ∧ Q (.ref p) H2) E
def dFld (K : PySem.W.Frag) (o : DTE) (f : Str) : DTE := fun E σ H Q => o E σ H fun x H1 => match x with
  | .ref p => ∃ C fs d, H1 p = some (.ins C fs) ∧ Cls K C ∧ NoAttr K C f ∧ fs.lookup f = some d ∧ Q d H1
  | _ => False
def dSetFld (K : PySem.W.Frag) (o v : DTE) (f : Str) : DTS := fun D σ H => v (D.at σ) σ H fun y H1 => o (D.at σ) σ H1 fun x H2 => match x with
  | .ref p => ∃ C fs, H2 p = some (.ins C fs) ∧ Cls K C ∧ NoAttr K C f ∧ fs.length < 1000 ∧ D.nx σ (put H2 p (.ins C (putA f y fs)))
  | _ => False
section
variable {X : Cx} {W : WX} {k : Nat} {f C : Addr} {fd : FuncData} {ps : List Str} {sp : DSp} {dvs : List V} {dds : List D} {ds : List Value} {x m : Str} {p pos apos : Pos} {e o : Expr} {es : List Expr} {de da : DTE} {dA : DTA}
/-- from the data's wish of an exception to the frame's -/
theorem wishX {σd : DSt} {σ : L2.St} {H : Hp} {E : DX} {Hd : DH} (wx : WantX X.K W σd σ H E) (rs : RS X.K σd Hd σ H) : ∀ C dd Hd' H', E C dd Hd' → RH X.K Hd' H' → Up H H' → WE W σ (.ref C) dd H' :=
  fun C dd Hd' H' q rh u => wx C dd Hd' H' q (rs.mono u rh) u
theorem d_call (F : DFn X.prog X.w X.K X.mg X.base k f fd ps sp) (hr : Room k X.A) (tk : L2N.Takes X W) (hm : X.mg x = some (.ref f)) (hk : PySem.W.keepIn X.K (.ref f) = true) (hb : Binds X.K fd ps ds) (hd : Vals dvs ds) (hdd : ∀ H, Reps X.K H dds dvs) (ha : DPA X W (e :: es) dA) (hg : Gl X x := by rfl)
    (hdb : (x == ("__debug__" : Str)) = false := by decide) (he : starEach (e :: es) X.env = (false, eval e X.env) :: starEach es X.env := by rfl) (hpl : (backTo pos (starEach es X.env)).any (·.1) = false := by rfl) : DPE X W (.Call (.Name x p) (e :: es) [] pos) (dCall sp dds dA) := by
  obtain ⟨t, h1, h2⟩ := ha
  refine ⟨_, pe_callSD F hr hg hm hk hb hd (fun σ => L2N.passAt tk σ) h1 hdb he hpl, fun σd Hd σ H Qd Q E rs wx q w => h2 σd Hd σ H _ _ E rs wx q fun xs H1 vs H1' q1 rx rs1 u1 => ?_⟩
  exact ⟨xs ++ dds, H1, Qd, E, rx.app (hdd _), rs1.hp, q1, (w.to u1).v rs1, wishX (wx.to u1) rs1⟩
theorem d_call0 (F : DFn X.prog X.w X.K X.mg X.base k f fd ps sp) (hr : Room k X.A) (tk : L2N.Takes X W) (hm : X.mg x = some (.ref f)) (hk : PySem.W.keepIn X.K (.ref f) = true) (hb : Binds X.K fd ps ds) (hd : Vals dvs ds) (hdd : ∀ H, Reps X.K H dds dvs) (hg : Gl X x := by rfl)
    (hdb : (x == ("__debug__" : Str)) = false := by decide) : DPE X W (.Call (.Name x p) [] [] pos) (dCall sp dds dNil) := by
  refine ⟨fun σ H Q => spOf X.K sp ([] ++ dvs) H Q (WE W σ), ⟨fun pins s σ H Q I h => ?_⟩, fun σd Hd σ H Qd Q E rs wx q w => ?_⟩
  · exact wpAny_Call_Name_kw (ld_glob I hg hm (PySem.W.callWith_K0 I.kIn hk (run_fnSD (us := []) (vs := []) F hr hb hd (L2N.passAt tk σ) I .nil h)) hdb)
  · exact ⟨[] ++ dds, Hd, Qd, E, hdd _, rs.hp, q, w.v rs, wishX wx rs⟩
theorem run_makeAt {pins : List (Addr × Obj)} {σ : L2.St} {H : Hp} {s : Shared} {Q : VK} {us : List Value} {vs : List V} {sp : Sp} {E : XK} (M : Mk X.K C f) (F : FnOk X.prog X.w X.K X.mg X.base (L2N.CX X.prog X.w) k f fd ps sp) (hr : Room (k + 1) X.A) (hb : Binds X.K fd ps ds) (hd : Vals dvs ds)
    (hx : PassesAt (L2N.CX X.prog X.w) X σ E) (I : Inv X pins σ H s) (r : Vals vs us)
    (h : ∀ x dx, H x = none → H dx = none → dx ≠ x → sp (.ref x :: (vs ++ dvs)) (upd (upd H dx (.own x)) x (.ins C dx [])) (fun v H2 => v = .non ∧ Q (.ref x) H2) E) :
    wpAny (model X.prog X.w) X.A (call (.ref C) us) (EP X pins σ Q) X.xe s := by
  have n0 : H s.heap.objs.size = none := I.hok.fresh (Nat.le_refl _)
  have n1 : H (s.heap.objs.size + 1) = none := I.hok.fresh (Nat.le_succ _)
  have hq := h (s.heap.objs.size + 1) s.heap.objs.size n1 n0 (Nat.ne_of_lt (Nat.lt_succ_self _))
  have I2 := Inv.made (C := C) I
  have rr : Vals (V.ref (s.heap.objs.size + 1) :: (vs ++ dvs)) (Value.ref (s.heap.objs.size + 1) :: (us ++ ds)) := .cons rfl (r.append hd)
  have hl : (Value.ref (s.heap.objs.size + 1) :: us ++ ds).length = ps.length := (F.len _ _ _ _ hq).symm.trans rr.length |>.symm
  have run := F.run _ X.stack _ _ ⟨Value.ref (s.heap.objs.size + 1) :: us, []⟩ (Value.ref (s.heap.objs.size + 1) :: (us ++ ds)) _ _ E (hr.make C us []) (I2.env0.make C us []) (hb _ (Value.ref (s.heap.objs.size + 1) :: us) I2.kIn hl) rr hq
  refine wpAny_call (make_map (f := f) I.kIn M.makes M.init (beq_iff_eq.mp M.fn) (codeAny_mono run fun res s' hr' => ?_))
  match res, hr' with
  | .error e, hr' => exact hx pins _ _ e s' I2 hr'
  | .ok (.ret u), hr' =>
    obtain ⟨v, H', I3, rv, ev, q3⟩ := I2.after hr'
    subst ev
    exact ⟨rv, ⟨V.ref (s.heap.objs.size + 1), H', I3, rfl, q3⟩⟩
  | .ok .next, hr' => exact False.elim hr'
  | .ok .brk, hr' => exact False.elim hr'
  | .ok .cont, hr' => exact False.elim hr'
theorem d_make (M : Mk X.K C f) (F : DFn X.prog X.w X.K X.mg X.base k f fd ps sp) (hr : Room (k + 1) X.A) (tk : L2N.Takes X W) (hm : X.mg x = some (.ref C)) (hb : Binds X.K fd ps ds) (hd : Vals dvs ds) (hdd : ∀ H, Reps X.K H dds dvs) (ha : DPA X W (e :: es) dA) (hg : Gl X x := by rfl)
    (hdb : (x == ("__debug__" : Str)) = false := by decide) (he : starEach (e :: es) X.env = (false, eval e X.env) :: starEach es X.env := by rfl) (hpl : (backTo pos (starEach es X.env)).any (·.1) = false := by rfl) : DPE X W (.Call (.Name x p) (e :: es) [] pos) (dMake C sp dds dA) := by
  obtain ⟨t, h1, h2⟩ := ha
  refine ⟨fun σ H Q => t σ H fun vs H1 => ∀ x dx, H1 x = none → H1 dx = none → dx ≠ x → spOf X.K sp (.ref x :: (vs ++ dvs)) (upd (upd H1 dx (.own x)) x (.ins C dx [])) (fun v H2 => v = .non ∧ Q (.ref x) H2) (WE W σ), ⟨fun pins s σ H Q I h => ?_⟩, fun σd Hd σ H Qd Q E rs wx q w => ?_⟩
  · refine wpAny_Call_Name_kw (ld_glob I hg hm ?_ hdb)
    refine PySem.W.callWith_K (h₀ := X.base) I.ok.mod.kin M.kp (thn (h1.run pos pins s σ H _ I h) fun us s1 ⟨vs, H1, I1, r, q⟩ => ⟨I1.kIn, ?_⟩) he hpl
    exact run_makeAt M F hr hb hd (L2N.passAt tk σ) I1 r q
  · refine h2 σd Hd σ H _ _ E rs wx q fun xs H1 vs H1' q1 rx rs1 u1 a dx na ndx ne => ?_
    have rh1 : RH X.K H1 (upd H1' dx (.own a)) := rs1.hp.hid ndx
    have na' : upd H1' dx (.own a) a = none := by
      rw [upd_ne (Ne.symm ne)]
      exact na
    have rh2 : RH X.K (put H1 a (.ins C [])) (upd (upd H1' dx (.own a)) a (.ins C dx [])) := rh1.new na' ⟨dx, [], upd_same, rfl⟩
    have u2 : Up H1' (upd (upd H1' dx (.own a)) a (.ins C dx [])) := (Up.new ndx).trans (Up.new na')
    have rs2 := rs1.mono u2 rh2
    refine ⟨.ref a :: (xs ++ dds), _, _, E, ⟨.ref a, _, rfl, rfl, (rx.up u2 _ _).app (hdd _)⟩, rh2, q1 a (rs1.hp.fresh na), ?_, wishX (wx.to (u1.trans u2)) rs2⟩
    rintro z Hd' v H' ⟨e1, q2⟩ rz rh up
    subst e1
    exact ⟨rz, w _ Hd' _ H' q2 rfl (rs2.mono up rh) ((u1.trans u2).trans up)⟩
theorem d_meth {pl : Sem Bool} (ho : DPE X W o da) (c : Cls X.K C) (hm : Meth X.K C m f) (F : DFn X.prog X.w X.K X.mg X.base k f fd ps sp) (hr : Room k X.A) (tk : L2N.Takes X W) (hb : Binds X.K fd ps ds) (hd : Vals dvs ds) (hdd : ∀ H, Reps X.K H dds dvs) (ha : DPA X W (e :: es) dA)
    (hst : starEach (e :: es) X.env = (false, eval e X.env) :: starEach es X.env := by rfl) (hpl : (backTo pos (starEach es X.env)).any (·.1) = false := by rfl)
    (ht : eval (.Call (.Attribute o m apos) (e :: es) [] pos) X.env = (do
      let ov ← eval o X.env
      standAt apos.atName
      let (f, first) ← holding [ov] (getMethod ov m pl)
      callWith pos f first (backTo pos (starEach (e :: es) X.env)) (backToKw pos (keywordEach [] X.env))) := by rfl) : DPE X W (.Call (.Attribute o m apos) (e :: es) [] pos) (dMeth C m sp dds da dA) := by
  obtain ⟨t1, a1, a2⟩ := ho
  obtain ⟨t, h1, h2⟩ := ha
  refine ⟨fun σ H Q => t1 σ H fun x H1 => ∃ a dx fs, x = .ref a ∧ H1 a = some (.ins C dx fs) ∧ fs.lookup m = none ∧ t σ H1 fun vs H2 => spOf X.K sp (x :: (vs ++ dvs)) H2 Q (WE W σ), ⟨fun pins s σ H Q I h => ?_⟩, fun σd Hd σ H Qd Q E rs wx q w => ?_⟩
  · refine PySem.W.methodCall_KW (pl := pl) (thn (a1.run pins s σ H _ I h) fun u s1 ⟨x, H1, I1, rx, a, dx, fs, ex, ea, l, q⟩ => ?_) ht
    subst ex
    obtain rfl : u = Value.ref a := rx
    refine getmeth_ok I1 ea c hm l ?_
    refine PySem.W.callWith_K (first := [.ref a]) (h₀ := X.base) I.ok.mod.kin hm.kp (thn (h1.run pos pins s1 σ H1 _ I1 q) fun us s2 ⟨vs, H2, I2, r, q2⟩ => ⟨I2.kIn, ?_⟩) hst hpl
    exact run_fnSD (us := .ref a :: us) (vs := .ref a :: vs) F hr hb hd (L2N.passAt tk σ) I2 (.cons rfl r) q2
  · refine a2 σd Hd σ H _ _ E rs wx q fun y H1 v H1' q1 ry rs1 u1 => ?_
    split at q1
    · rename_i a
      obtain ⟨fs, hf, hl, q1⟩ := q1
      obtain ⟨dx, gs, e1, rf⟩ := rs1.hp _ _ hf
      refine ⟨a, dx, gs, ry, e1, rf.lookup_none hl, h2 σd H1 σ H1' _ _ E rs1 (wx.to u1) q1 fun xs H2 vs H2' q2 rx rs2 u2 => ?_⟩
      exact ⟨.ref a :: (xs ++ dds), H2, Qd, E, ⟨v, _, rfl, ry, rx.app (hdd _)⟩, rs2.hp, q2, (w.to (u1.trans u2)).v rs2, wishX (wx.to (u1.trans u2)) rs2⟩
    · exact q1.elim
theorem d_meth0 {pl : Sem Bool} (ho : DPE X W o da) (c : Cls X.K C) (hm : Meth X.K C m f) (F : DFn X.prog X.w X.K X.mg X.base k f fd ps sp) (hr : Room k X.A) (tk : L2N.Takes X W) (hb : Binds X.K fd ps ds) (hd : Vals dvs ds) (hdd : ∀ H, Reps X.K H dds dvs)
    (ht : eval (.Call (.Attribute o m apos) [] [] pos) X.env = (do
      let ov ← eval o X.env
      standAt apos.atName
      let (f, first) ← holding [ov] (getMethod ov m pl)
      callWith pos f first (backTo pos (starEach [] X.env)) (backToKw pos (keywordEach [] X.env))) := by rfl) : DPE X W (.Call (.Attribute o m apos) [] [] pos) (dMeth C m sp dds da dNil) := by
  obtain ⟨t1, a1, a2⟩ := ho
  refine ⟨fun σ H Q => t1 σ H fun x H1 => ∃ a dx fs, x = .ref a ∧ H1 a = some (.ins C dx fs) ∧ fs.lookup m = none ∧ spOf X.K sp (x :: ([] ++ dvs)) H1 Q (WE W σ), ⟨fun pins s σ H Q I h => ?_⟩, fun σd Hd σ H Qd Q E rs wx q w => ?_⟩
  · refine PySem.W.methodCall_KW (pl := pl) (thn (a1.run pins s σ H _ I h) fun u s1 ⟨x, H1, I1, rx, a, dx, fs, ex, ea, l, q⟩ => ?_) ht
    subst ex
    obtain rfl : u = Value.ref a := rx
    refine getmeth_ok I1 ea c hm l ?_
    exact PySem.W.callWith_K0 (first := [.ref a]) I1.kIn hm.kp (run_fnSD (us := [.ref a]) (vs := [.ref a]) F hr hb hd (L2N.passAt tk σ) I1 (.cons rfl .nil) q)
  · refine a2 σd Hd σ H _ _ E rs wx q fun y H1 v H1' q1 ry rs1 u1 => ?_
    split at q1
    · rename_i a
      obtain ⟨fs, hf, hl, q1⟩ := q1
      obtain ⟨dx, gs, e1, rf⟩ := rs1.hp _ _ hf
      exact ⟨a, dx, gs, ry, e1, rf.lookup_none hl, .ref a :: ([] ++ dds), H1, Qd, E, ⟨v, _, rfl, ry, hdd _⟩, rs1.hp, q1, (w.to u1).v rs1, wishX (wx.to u1) rs1⟩
    · exact q1.elim
theorem d_fld {f : Str} (he : DPE X W e da) (hb : attributeBase e f X.env (eval e X.env) = eval e X.env := by rfl) : DPE X W (.Attribute e f pos) (dFld X.K da f) := by
  obtain ⟨t, h1, h2⟩ := he
  refine ⟨_, pe_fld h1 hb, fun σd Hd σ H Qd Q E rs wx q w => h2 σd Hd σ H _ _ E rs wx q fun y H1 v H1' q1 ry rs1 u1 => ?_⟩
  split at q1
  · obtain ⟨C, fs, d, hf, c, n, hl, q1⟩ := q1
    obtain ⟨dx, gs, e1, rf⟩ := rs1.hp _ _ hf
    obtain ⟨u, hu, ru⟩ := rf.lookup hl
    exact ⟨_, C, dx, gs, u, ry, e1, c, n, hu, w d H1 u H1' q1 ru rs1 u1⟩
  · exact q1.elim
theorem ds_fld {f : Str} {v : Expr} {dv : DTE} {pos' : Pos} (ho : DPE X W o da) (hv : DPE X W v dv) (hs : swapsWith v (some (.Attribute o f pos')) pos.line X.env = pure false := by rfl) : DPS X W (.Assign [.Attribute o f pos'] v pos) (dSetFld X.K da dv f) := by
  obtain ⟨t1, a1, a2⟩ := ho
  obtain ⟨t2, b1, b2⟩ := hv
  refine ⟨_, ps_fld a1 b1 hs, fun Dd D σd Hd σ H rs oo q => b2 σd Hd σ H _ _ _ rs (oo.wx σd σ) q fun y H1 v H1' q1 ry rs1 u1 => a2 σd H1 σ H1' _ _ _ rs1 ((oo.to u1).wx σd σ) q1 fun z H2 u H2' q2 rz rs2 u2 => ?_⟩
  split at q2
  · rename_i a
    obtain ⟨C, fs, hf, c, n, hl, q2⟩ := q2
    obtain ⟨dx, gs, e1, rf⟩ := rs2.hp _ _ hf
    have up : Up H2' (upd H2' a (.ins C dx (putF f v gs))) := Up.put e1 trivial
    have rh := (rs2.hp.write (u := .ins C dx (putF f v gs)) (x := .ins C (putA f y fs)) hf ⟨dx, _, upd_same, RepK.putA (ry.up (u2.trans up) _ _) (rf.up up)⟩).1
    exact ⟨a, C, dx, gs, rz, e1, c, n, by rw [rf.len]; exact hl, oo.nx σd _ σ _ q2 (rs2.mono up rh) ((u1.trans u2).trans up)⟩
  · exact q2.elim
end
end DL

/-! The data layer, part H: dicts, methods of lists, comprehensions. -/
namespace DL
open PySem PySem.Spec PyProof.Rows L2

/-! ### dicts -/
def keyD : D → Option Key
  | .int i => some (.inl i)
  | .str x => some (.inr x)
  | _ => none
theorem keyD_ok {K : PySem.W.Frag} {H : Hp} {x : D} {v : V} {k : Key} (r : Rep K H x v) (e : keyD x = some k) : v = kV k := by
  unfold keyD at e
  split at e
  · cases e; exact r
  · cases e; exact r
  · cases e
def dDGet (a b : DTE) : DTE := fun E σ H Q => a E σ H fun x H1 => b E σ H1 fun y H2 => match x with
  | .ref p => ∃ kvs k d, H2 p = some (.dct kvs) ∧ keyD y = some k ∧ getP kvs k = some d ∧ Q d H2
  | _ => False
def dDIn (f : Bool → Bool) (b a : DTE) : DTE := fun E σ H Q => b E σ H fun y H1 => a E σ H1 fun x H2 => match x with
  | .ref p => ∃ kvs k, H2 p = some (.dct kvs) ∧ keyD y = some k ∧ Q (.bl (f (getP kvs k).isSome)) H2
  | _ => False
def dDNew : DTE := fun _ _ H Q => ∀ p, H p = none → Q (.ref p) (put H p (.dct []))
def dDPut (a b v : DTE) : DTS := fun D σ H => v (D.at σ) σ H fun z H1 => a (D.at σ) σ H1 fun x H2 => b (D.at σ) σ H2 fun y H3 => match x with
  | .ref p => ∃ kvs k, H3 p = some (.dct kvs) ∧ keyD y = some k ∧ kvs.length < sizeLine ∧ D.nx σ (put H3 p (.dct (putP kvs k z)))
  | _ => False
theorem getP_rep {K : PySem.W.Frag} {H : Hp} {kvs : List (Key × D)} {ws : List (Key × V)} {k : Key} (r : RepK K H kvs ws) : (valV ws k).isSome = (getP kvs k).isSome := by
  obtain ⟨h1, h2⟩ := r.get (k := k)
  cases c : getP kvs k with
  | none => rw [h2 c]; rfl
  | some d =>
    obtain ⟨v, e, _⟩ := h1 d c
    rw [e]
    rfl
section
variable {X : Cx} {W : WX} {o i v : Expr} {da db dv : DTE} {pos pos' : Pos}
theorem d_dget (hu : X.A.units + 1 < cLine) (ho : DPE X W o da) (hi : DPE X W i db) (hs : NoSl i := by exact fun _ _ => rfl) : DPE X W (.Subscript o i pos) (dDGet da db) := by
  obtain ⟨t1, a1, a2⟩ := ho
  obtain ⟨t2, b1, b2⟩ := hi
  refine ⟨_, pe_dget hu a1 b1 hs, fun σd Hd σ H Qd Q E rs wx q w => a2 σd Hd σ H _ _ E rs wx q fun y H1 v H1' q1 ry rs1 u1 => b2 σd H1 σ H1' _ _ E rs1 (wx.to u1) q1 fun z H2 u H2' q2 rz rs2 u2 => ?_⟩
  split at q2
  · obtain ⟨kvs, k, d, h1, h2, h3, q2⟩ := q2
    obtain ⟨ws, e1, rk⟩ := rs2.hp _ _ h1
    obtain ⟨x, e2, rx⟩ := rk.get.1 d h3
    refine ⟨_, x, ry, .inl ⟨ws, k, .inl e1, keyD_ok rz h2, e2.symm⟩, w d H2 x H2' q2 rx rs2 (u1.trans u2)⟩
  · exact q2.elim
theorem d_din (hu : X.A.units + 1 < cLine) (hi : DPE X W i db) (ho : DPE X W o da) (h1 : behindInMarks .In o = false := by rfl) : DPE X W (.Compare i [.In] [o] pos) (dDIn (fun b => b) db da) := by
  obtain ⟨t1, a1, a2⟩ := ho
  obtain ⟨t2, b1, b2⟩ := hi
  refine ⟨_, pe_cmp (pc_din hu b1 a1) h1, fun σd Hd σ H Qd Q E rs wx q w => b2 σd Hd σ H _ _ E rs wx q fun y H1 v H1' q1 ry rs1 u1 => a2 σd H1 σ H1' _ _ E rs1 (wx.to u1) q1 fun z H2 u H2' q2 rz rs2 u2 => ?_⟩
  split at q2
  · obtain ⟨kvs, k, h1, h2, q2⟩ := q2
    obtain ⟨ws, e1, rk⟩ := rs2.hp _ _ h1
    refine ⟨_, valV ws k, rz, .inl ⟨ws, k, .inl e1, keyD_ok (ry.up u2 _ _) h2, rfl⟩, w _ H2 _ H2' q2 ?_ rs2 (u1.trans u2)⟩
    rw [getP_rep rk]
    rfl
  · exact q2.elim
theorem d_dnotIn (hu : X.A.units + 1 < cLine) (hi : DPE X W i db) (ho : DPE X W o da) (h1 : behindInMarks .NotIn o = false := by rfl) : DPE X W (.Compare i [.NotIn] [o] pos) (dDIn (fun b => !b) db da) := by
  obtain ⟨t1, a1, a2⟩ := ho
  obtain ⟨t2, b1, b2⟩ := hi
  refine ⟨_, pe_cmp (pc_dnotin hu b1 a1) h1, fun σd Hd σ H Qd Q E rs wx q w => b2 σd Hd σ H _ _ E rs wx q fun y H1 v H1' q1 ry rs1 u1 => a2 σd H1 σ H1' _ _ E rs1 (wx.to u1) q1 fun z H2 u H2' q2 rz rs2 u2 => ?_⟩
  split at q2
  · obtain ⟨kvs, k, h1, h2, q2⟩ := q2
    obtain ⟨ws, e1, rk⟩ := rs2.hp _ _ h1
    refine ⟨_, valV ws k, rz, .inl ⟨ws, k, .inl e1, keyD_ok (ry.up u2 _ _) h2, rfl⟩, w _ H2 _ H2' q2 ?_ rs2 (u1.trans u2)⟩
    rw [getP_rep rk]
    rfl
  · exact q2.elim
theorem d_dnew : DPE X W (.Dict [] [] pos) dDNew := ⟨_, pe_dnewK, fun σd Hd σ H Qd Q E rs wx q w p hp => w _ _ _ _ (q p (rs.hp.fresh hp)) rfl (rs.mono (Up.new hp) (rs.hp.new hp ⟨[], upd_same, rfl⟩)) (Up.new hp)⟩
theorem ds_dput (hu : X.A.units + 1 < cLine) (ho : DPE X W o da) (hi : DPE X W i db) (hv : DPE X W v dv) (hs : swapsWith v (some (.Subscript o i pos')) pos.line X.env = pure false := by rfl) : DPS X W (.Assign [.Subscript o i pos'] v pos) (dDPut da db dv) := by
  obtain ⟨t1, a1, a2⟩ := ho
  obtain ⟨t2, b1, b2⟩ := hi
  obtain ⟨t3, c1, c2⟩ := hv
  refine ⟨_, ps_dput hu a1 b1 c1 hs, fun Dd D σd Hd σ H rs oo q => c2 σd Hd σ H _ _ _ rs (oo.wx σd σ) q fun x H1 vx H1' q1 rx rs1 u1 => a2 σd H1 σ H1' _ _ _ rs1 ((oo.to u1).wx σd σ) q1 fun y H2 vy H2' q2 ry rs2 u2 => b2 σd H2 σ H2' _ _ _ rs2 ((oo.to (u1.trans u2)).wx σd σ) q2 fun z H3 vz H3' q3 rz rs3 u3 => ?_⟩
  split at q3
  · rename_i a
    obtain ⟨kvs, k, h1, h2, hl, q3⟩ := q3
    obtain ⟨ws, e1, rk⟩ := rs3.hp _ _ h1
    have up : Up H3' (upd H3' a (.dK (putK ws k vx))) := Up.put e1 trivial
    have rh := (rs3.hp.write (u := .dK (putK ws k vx)) (x := .dct (putP kvs k x)) h1 ⟨_, upd_same, RepK.put (rx.up ((u2.trans u3).trans up) _ _) (rk.up up)⟩).1
    exact ⟨a, _, ry, .inl ⟨ws, k, e1, keyD_ok rz h2, by rw [rk.len]; exact hl, rfl⟩, oo.nx σd _ σ _ q3 (rs3.mono up rh) (((u1.trans u2).trans u3).trans up)⟩
  · exact q3.elim
end

/-! ### methods of built-in types -/
def SimM (K : PySem.W.Frag) (r : V → List V → Hp → VK → Prop) (rd : D → List D → DH → DK → Prop) : Prop := ∀ x xs v vs Hd H (Qd : DK) (Q : VK), Rep K H x v → Reps K H xs vs → RH K Hd H → rd x xs Hd Qd → WantV K H Qd Q → r v vs H Q
def DMt (X : Cx) (id : String) (rd : D → List D → DH → DK → Prop) : Prop := ∃ r, MtR X id r ∧ SimM X.K r rd
def tyM (T : String) (x : D) (H : DH) : Prop := match x with
  | .str _ => T = "str"
  | .fl _ => T = "list"
  | .ref p => (T = "list" ∧ ∃ ds, H p = some (.lst ds)) ∨ (T = "dict" ∧ ∃ kvs, H p = some (.dct kvs))
  | _ => False
theorem tyM_ok {K : PySem.W.Frag} {Hd : DH} {H : Hp} {T : String} {x : D} {v : V} (rh : RH K Hd H) (r : Rep K H x v) (h : tyM T x Hd) : tyV K T v H := by
  unfold tyM at h
  split at h
  · cases (show v = _ from r)
    exact h
  · obtain ⟨a, xs, e, s, _⟩ := r
    subst e
    exact .inl ⟨h, xs, s.sq⟩
  · cases (show v = _ from r)
    rcases h with ⟨e, ds, h⟩ | ⟨e, kvs, h⟩
    · obtain ⟨xs, e1, _⟩ := rh _ _ h
      exact .inl ⟨e, xs, SqL.of e1⟩
    · obtain ⟨ws, e1, _⟩ := rh _ _ h
      exact .inr (.inr (.inl ⟨e, .inl ⟨ws, e1⟩⟩))
  · exact h.elim
def dBM (T : String) (r : D → List D → DH → DK → Prop) (o : DTE) (a : DTA) : DTE := fun E σ H Q => o E σ H fun x H1 => tyM T x H1 ∧ a E σ H1 fun xs H2 => r x xs H2 Q
section
variable {X : Cx} {W : WX} {o e : Expr} {es : List Expr} {da : DTE} {dA : DTA} {name : Str} {apos cpos : Pos} {T id : String} {rd : D → List D → DH → DK → Prop}
theorem d_bm (pa : PlainAttrs T) (slot : Slot T name id) (hty : typeOf (.builtin id) = pure (.type "method_descriptor")) (hm : DMt X id rd) (ho : DPE X W o da) (ha : DPA X W (e :: es) dA)
    (hbase : attributeBase o name X.env (eval o X.env) = eval o X.env := by rfl)
    (hfew : ((backTo cpos (starEach (e :: es) X.env)).all (fun x => !x.1) && (backToKw cpos (keywordEach [] X.env)).all (fun x => x.1.isSome)
      && decide ((e :: es).length + ([] : List Keyword).length + (if ([] : List Keyword).isEmpty then 0 else 1) < 30)) = true := by rfl)
    (hline : (apos.endLine == cpos.line) = true := by rfl) (hs : starEach (e :: es) X.env = (false, eval e X.env) :: starEach es X.env := by rfl) (hplain : (backTo cpos (starEach es X.env)).any (·.1) = false := by rfl) :
    DPE X W (.Call (.Attribute o name apos) (e :: es) [] cpos) (dBM T rd da dA) := by
  obtain ⟨r, m1, m2⟩ := hm
  obtain ⟨t1, a1, a2⟩ := ho
  obtain ⟨t2, b1, b2⟩ := ha
  exact ⟨_, pe_bm pa slot hty m1 a1 b1 hbase hfew hline hs hplain, fun σd Hd σ H Qd Q E rs wx q w => a2 σd Hd σ H _ _ E rs wx q fun x H1 v H1' q1 rx rs1 u1 =>
    ⟨tyM_ok rs1.hp rx q1.1, b2 σd H1 σ H1' _ _ E rs1 (wx.to u1) q1.2 fun xs H2 vs H2' q2 rxs rs2 u2 => m2 x xs v vs H2 H2' Qd Q (rx.up u2 _ _) rxs rs2.hp q2 ((w.to (u1.trans u2)).v rs2)⟩⟩
theorem d_bm0 (pa : PlainAttrs T) (slot : Slot T name id) (hty : typeOf (.builtin id) = pure (.type "method_descriptor")) (hm : DMt X id rd) (ho : DPE X W o da)
    (hbase : attributeBase o name X.env (eval o X.env) = eval o X.env := by rfl) (hline : (apos.endLine == cpos.line) = true := by rfl) : DPE X W (.Call (.Attribute o name apos) [] [] cpos) (dBM T rd da dNil) := by
  obtain ⟨r, m1, m2⟩ := hm
  obtain ⟨t1, a1, a2⟩ := ho
  exact ⟨_, pe_bm0 pa slot hty m1 a1 hbase hline, fun σd Hd σ H Qd Q E rs wx q w => a2 σd Hd σ H _ _ E rs wx q fun x H1 v H1' q1 rx rs1 u1 =>
    ⟨tyM_ok rs1.hp rx q1.1, m2 x [] v [] H1 H1' Qd Q rx rfl rs1.hp q1.2 ((w.to u1).v rs1)⟩⟩
end
def dApp : D → List D → DH → DK → Prop := fun x xs H Q => match x, xs with
  | .ref p, [y] => ∃ ds, H p = some (.lst ds) ∧ ds.length < sizeLine ∧ Q .non (put H p (.lst (ds ++ [y])))
  | _, _ => False
theorem dmt_append {X : Cx} : DMt X "list.append" dApp := ⟨_, mt_append, fun x xs v vs Hd H Qd Q rx rxs rh q k => by
  unfold dApp at q
  split at q
  · rename_i a y
    obtain ⟨ds, h, hz, q⟩ := q
    obtain ⟨u, ev, ry⟩ := reps1 rxs
    obtain ⟨ws, e1, rw'⟩ := rh _ _ h
    have up : Up H (upd H a (.lst (ws ++ [u]))) := Up.put e1 trivial
    have rh2 := (rh.write (u := .lst (ws ++ [u])) (x := .lst (ds ++ [y])) h ⟨_, upd_same, (rw'.up up _ _).app (Reps.one (ry.up up _ _))⟩).1
    exact ⟨a, ws, u, rx, ev, e1, by rw [rw'.len]; exact hz, k _ _ _ _ q rfl rh2 up⟩
  · exact q.elim⟩
theorem Reps.dropLast {K : PySem.W.Frag} {H : Hp} {ds : List D} {vs : List V} (h : Reps K H ds vs) : Reps K H ds.dropLast vs.dropLast := by
  rw [List.dropLast_eq_take, List.dropLast_eq_take, h.len]
  exact h.take _
def dPop : D → List D → DH → DK → Prop := fun x xs H Q => match x, xs with
  | .ref p, [] => ∃ ds y, H p = some (.lst ds) ∧ ds[ds.length - 1]? = some y ∧ Q y (put H p (.lst ds.dropLast))
  | _, _ => False
theorem dmt_pop {X : Cx} : DMt X "list.pop" dPop := ⟨_, mt_pop, fun x xs v vs Hd H Qd Q rx rxs rh q k => by
  unfold dPop at q
  split at q
  · rename_i a
    obtain ⟨ds, y, h, hy, q⟩ := q
    obtain ⟨ws, e1, rw'⟩ := rh _ _ h
    obtain ⟨u, e2, ru⟩ := rw'.get hy
    have up : Up H (upd H a (.lst ws.dropLast)) := Up.put e1 trivial
    have rh2 := (rh.write (u := .lst ws.dropLast) (x := .lst ds.dropLast) h ⟨_, upd_same, (rw'.up up _ _).dropLast⟩).1
    exact ⟨a, ws, u, rx, rxs, e1, by rw [rw'.len]; exact e2, k _ _ _ _ q (ru.up up _ _) rh2 up⟩
  · exact q.elim⟩

/-! ### comprehensions -/
def wipeD (σ : DSt) : List Nat → DSt
  | [] => σ
  | v :: vs => (wipeD σ vs).set v none
theorem RS.wipe {K : PySem.W.Frag} {σd : DSt} {Hd : DH} {σ : L2.St} {H : Hp} (r : RS K σd Hd σ H) : ∀ vs : List Nat, RS K (wipeD σd vs) Hd (L2.wipe σ vs) H
  | [] => r
  | v :: vs => (RS.wipe r vs).unset v
/-- a target that stores into the block's own names alone -/
def SimGo (K : PySem.W.Frag) (vs : List Nat) (t : TG) (g : DTG) : Prop := ∀ x v σd Hd σ H (Qd : DSt → DH → Prop) (Q : L2.St → Hp → Prop), Rep K H x v → RS K σd Hd σ H → g x σd Hd Qd → (∀ σd' Hd' σ' H', Qd σd' Hd' → RS K σd' Hd' σ' H' → Up H H' → L2.wipe σ' vs = L2.wipe σ vs → Q σ' H') → t v σ H Q
def SimGos (K : PySem.W.Frag) (vs : List Nat) (t : TGs) (g : DTGs) : Prop := ∀ xs ws σd Hd σ H (Qd : DSt → DH → Prop) (Q : L2.St → Hp → Prop), Reps K H xs ws → RS K σd Hd σ H → g xs σd Hd Qd → (∀ σd' Hd' σ' H', Qd σd' Hd' → RS K σd' Hd' σ' H' → Up H H' → L2.wipe σ' vs = L2.wipe σ vs → Q σ' H') → t ws σ H Q
theorem wipe_get {σ : L2.St} : ∀ {vs : List Nat} (j : Nat), (L2.wipe σ vs)[j]? = if j ∈ vs then (if j < σ.length then some none else none) else σ[j]?
  | [], j => by simp [L2.wipe]
  | v :: vs, j => by
    unfold L2.wipe
    by_cases h : v = j
    · subst h
      rw [if_pos List.mem_cons_self]
      by_cases hl : v < σ.length
      · rw [if_pos hl, List.getElem?_set_self (by rw [wipe_length]; exact hl)]
      · rw [if_neg hl, List.getElem?_eq_none (by rw [List.length_set, wipe_length]; omega)]
    · rw [List.getElem?_set_ne h, wipe_get j]
      by_cases hm : j ∈ vs
      · rw [if_pos hm, if_pos (List.mem_cons_of_mem _ hm)]
      · rw [if_neg hm, if_neg (by simp only [List.mem_cons, not_or]; exact ⟨fun e => h e.symm, hm⟩)]
theorem wipe_set {σ : L2.St} {vs : List Nat} {i : Nat} {v : Option V} (h : i ∈ vs) : L2.wipe (σ.set i v) vs = L2.wipe σ vs := by
  apply List.ext_getElem?
  intro j
  rw [wipe_get, wipe_get, List.length_set]
  by_cases hm : j ∈ vs
  · rw [if_pos hm, if_pos hm]
  · rw [if_neg hm, if_neg hm, List.getElem?_set_ne (fun e => hm (by rw [← e]; exact h))]
theorem wipe_wipe {σ : L2.St} {vs : List Nat} : L2.wipe (L2.wipe σ vs) vs = L2.wipe σ vs := by
  apply List.ext_getElem?
  intro j
  rw [wipe_get, wipe_get, wipe_length]
  by_cases hm : j ∈ vs
  · rw [if_pos hm, if_pos hm]
  · rw [if_neg hm, if_neg hm]
def DPGo (X : Cx) (vs : List Nat) (tg : Expr) (g : DTG) : Prop := ∃ t, PG X tg t ∧ SimGo X.K vs t g
def DPGos (X : Cx) (vs : List Nat) (ts : List Expr) (g : DTGs) : Prop := ∃ t, PGs X ts t ∧ SimGos X.K vs t g
def canGo (K : PySem.W.Frag) (vs : List Nat) (g : DTG) : TG := fun v σ H Q => ∃ x σd Hd Qd, Rep K H x v ∧ RS K σd Hd σ H ∧ g x σd Hd Qd ∧ ∀ σd' Hd' σ' H', Qd σd' Hd' → RS K σd' Hd' σ' H' → Up H H' → L2.wipe σ' vs = L2.wipe σ vs → Q σ' H'
section
variable {X : Cx} {vs : List Nat} {pos : Pos} {e tg : Expr} {es : List Expr} {g : DTG} {gs : DTGs}
theorem DPGo.can (h : DPGo X vs tg g) : PG X tg (canGo X.K vs g) := by
  obtain ⟨t, h1, h2⟩ := h
  exact ⟨fun pins s σ H v u Q I r ⟨x, σd, Hd, Qd, rx, rs, q, k⟩ => h1.run pins s σ H v u Q I r (h2 x v σd Hd σ H Qd Q rx rs q k)⟩
theorem dgo_name {i : Nat} {x : Str} (hN : X.N.Nodup) (hi : X.N[i]? = some x) (hx : Loc X.env.scope x) (hv : i ∈ vs := by decide) (hf : X.fn x = true ∨ X.env.scope.names.lookup x = some .local := by first | exact .inl rfl | exact .inr rfl | assumption) : DPGo X vs (.Name x pos) (gNm i) :=
  ⟨_, pg_name hN hi hx hf, fun x v σd Hd σ H Qd Q rx rs q k => k _ Hd _ H q (rs.set rx i) (Up.refl H) (wipe_set hv)⟩
theorem dgos_nil : DPGos X vs [] gNl := ⟨_, pgs_nil, fun xs ws σd Hd σ H Qd Q rx rs q k => by
  unfold gNl at q
  split at q
  · exact ⟨rx, k _ Hd _ H q rs (Up.refl H) rfl⟩
  · exact q.elim⟩
theorem dgos_cons (h1 : DPGo X vs e g) (h2 : DPGos X vs es gs) (hs : (assignEach (e :: es) X.env).map (·.2) = assign e X.env :: (assignEach es X.env).map (·.2) := by rfl) : DPGos X vs (e :: es) (gCn g gs) := by
  obtain ⟨t1, a1, a2⟩ := h1
  obtain ⟨t2, b1, b2⟩ := h2
  refine ⟨_, pgs_cons a1 b1 hs, fun xs ws σd Hd σ H Qd Q rx rs q k => ?_⟩
  unfold gCn at q
  split at q
  · rename_i x t
    obtain ⟨v, r, ev, r1, r2⟩ := rx
    refine ⟨v, r, ev, a2 x v σd Hd σ H _ _ r1 rs q fun σd' Hd' σ' H' q' rs' up e1 => ?_⟩
    exact b2 t r σd' Hd' σ' H' Qd Q (r2.up up _ _) rs' q' fun σd2 Hd2 σ2 H2 q2 rs2 up2 e2 => k σd2 Hd2 σ2 H2 q2 rs2 (up.trans up2) (e2.trans e1)
  · exact q.elim
theorem dgo_tup {k} {n : Nat} (hc : X.calm = true) (h : DPGos X vs es gs) (hn : (assignEach es X.env).length = n := by rfl) (hst : (assignEach es X.env).findIdx? (·.1) = none := by rfl) : DPGo X vs (.Tuple es k pos) (gTp n gs) := by
  obtain ⟨t, h1, h2⟩ := h
  refine ⟨_, pg_tup hc h1 hn hst, fun x v σd Hd σ H Qd Q rx rs q k => ?_⟩
  unfold gTp at q
  split at q
  · obtain ⟨a, xs, e1, s1, r1⟩ := rx
    exact ⟨a, xs, e1, s1, by rw [r1.len]; exact q.1, h2 _ xs σd Hd σ H Qd Q r1 rs q.2 k⟩
  · exact q.elim
end
/-- the tests of a comprehension's clause -/
def DPTs (X : Cx) (W : WX) (ifs : List Expr) (d : DTT) : Prop := ∃ t, PTs X ifs t ∧ SimT X.K W t d
def dYes : DTT := fun _ _ H Q => Q true H
theorem DPTs.can {X : Cx} {W : WX} {ifs : List Expr} {d : DTT} (h : DPTs X W ifs d) : PTs X ifs (canT X.K W d) := by
  obtain ⟨t, h1, h2⟩ := h
  exact ⟨fun pins s σ H Q I ⟨σd, Hd, Qd, E, rs, wx, q, w⟩ => h1.run pins s σ H Q I (h2 σd Hd σ H Qd Q E rs wx q w)⟩
theorem dts_nil {X : Cx} {W : WX} : DPTs X W [] dYes := ⟨_, pts_nil, fun σd Hd σ H Qd Q E rs wx q k => k true Hd H q rs (Up.refl H)⟩
theorem dts_one {X : Cx} {W : WX} {c : Expr} {d : DTT} (h : DPT X W c d) : DPTs X W [c] d := by
  obtain ⟨t, h1, h2⟩ := h
  exact ⟨_, pts_one h1, h2⟩
abbrev EF : DX := fun _ _ _ => False
def dLc (wi : DTI) (g : DTG) (tt : DTT) (te : DTE) (vs : List Nat) : DTE := fun E σ H Q => wi E σ H fun J H1 => ∀ p, H1 p = none → ∃ W : Nat → Nat → DH → Prop, (∃ m, W 0 m (put H1 p (.lst []))) ∧ ∀ i m H, W i m H →
  (J.stop i H ∧ Q (.ref p) H) ∨ (∃ x, J.at_ i H x ∧ ∃ Nx : DH → Prop, (∀ H', Nx H' → ∃ m', m' < m ∧ W (i + 1) m' H') ∧ g x (wipeD σ vs) H fun σ2 H2 => tt EF σ2 H2 fun b H3 =>
    if b = true then te EF σ2 H3 fun y H4 => ∃ acc, H4 p = some (.lst acc) ∧ acc.length < sizeLine ∧ Nx (put H4 p (.lst (acc ++ [y]))) else Nx H3)
section
variable {X : Cx} {W : WX}
theorem sim_lc {K : PySem.W.Frag} {wi : TI} {dI : DTI} {g : DTG} {tt : DTT} {te : DTE} {vs : List Nat} (i2 : SimI K W wi dI) : SimE K W (tLc wi (canGo K vs g) (canT K WF tt) (canE K WF te) vs) (dLc dI g tt te vs) := fun σd Hd σ H Qd Q E rs wx q w => by
  refine i2 σd Hd σ H _ _ E rs wx q fun Jd Hd1 J H1 q1 sj rs1 u1 D hD => ?_
  obtain ⟨Wd, ⟨m0, w0⟩, turn⟩ := q1 D (rs1.hp.fresh hD)
  have uD := Up.new (o := .lst []) hD
  refine ⟨fun i m H' => ∃ Hd', RS K σd Hd' σ H' ∧ Up H1 H' ∧ Wd i m Hd', ⟨m0, _, rs1.mono uD (rs1.hp.new (x := .lst []) hD ⟨[], upd_same, rfl⟩), uD, w0⟩, ?_⟩
  rintro i m H2 ⟨Hd2, rs2, u2, w2⟩
  rcases turn i m Hd2 w2 with ⟨st, qn⟩ | ⟨x, at_, Nd, hN, step⟩
  · exact .inl ⟨sj.stop i Hd2 H2 u2 rs2.hp st, w _ Hd2 _ H2 qn rfl rs2 (u1.trans u2)⟩
  · obtain ⟨go, yl⟩ := sj.at_ i Hd2 H2 x u2 rs2.hp at_
    refine .inr ⟨go, fun H' => ∃ Hd', RS K σd Hd' σ H' ∧ Up H1 H' ∧ Nd Hd', ?_, fun v H3 y => ?_⟩
    · rintro H' ⟨Hd', rs', u', n'⟩
      obtain ⟨m', hm, w'⟩ := hN Hd' n'
      exact ⟨m', hm, Hd', rs', u', w'⟩
    · obtain ⟨rx, rh, u3⟩ := yl v H3 y
      have rsw := (rs2.mono u3 rh).wipe vs
      refine ⟨x, wipeD σd vs, Hd2, _, rx, rsw, step, fun σd4 Hd4 σ4 H4 q4 rs4 u4 e4 => ⟨e4.trans wipe_wipe, ?_⟩⟩
      refine ⟨σd4, Hd4, _, EF, rs4, wxF, q4, fun b Hd5 H5 q5 rs5 u5 => ?_⟩
      cases b with
      | true =>
        rw [if_pos rfl] at q5 ⊢
        refine ⟨σd4, Hd5, _, EF, rs5, wxF, q5, fun z Hd6 vz H6 q6 rz rs6 u6 => ?_⟩
        obtain ⟨acc, ha, hz, n6⟩ := q6
        obtain ⟨ws, e1, rw'⟩ := rs6.hp _ _ ha
        have up : Up H6 (upd H6 D (.lst (ws ++ [vz]))) := Up.put e1 trivial
        have rh2 := (rs6.hp.write (u := .lst (ws ++ [vz])) (x := .lst (acc ++ [z])) ha ⟨_, upd_same, (rw'.up up _ _).app (Reps.one (rz.up up _ _))⟩).1
        have U := ((((u2.trans u3).trans u4).trans u5).trans u6).trans up
        exact ⟨ws, e1, by rw [rw'.len]; exact hz, _, rs1.mono U rh2, U, n6⟩
      | false =>
        rw [if_neg Bool.false_ne_true] at q5 ⊢
        have U := ((u2.trans u3).trans u4).trans u5
        exact ⟨Hd5, rs1.mono U rs5.hp, U, q5⟩
variable {elt tg iter : Expr} {ifs : List Expr} {scope : Scope} {own : List (Str × Nat)} {pos : Pos} {wi : DTI} {g : DTG} {tt : DTT} {te : DTE}
theorem d_lc (hc : X.calm = true) (hN : X.N.Nodup) (hi : DPI X W tg iter wi) (ok : BlkOk X.N X.env.scope scope own)
    (hg : ∀ (s : Shared) (H : Hp) (C : Addr) (cl : List (Str × Addr)) (fp : List Addr), DPGo (X.blk s H scope (compEnvC scope cl C X.env) fp) (own.map (·.2)) tg g)
    (ht : ∀ (s : Shared) (H : Hp) (C : Addr) (cl : List (Str × Addr)) (fp : List Addr), DPTs (X.blk s H scope (compEnvC scope cl C X.env) fp) WF ifs tt)
    (he : ∀ (s : Shared) (H : Hp) (C : Addr) (cl : List (Str × Addr)) (fp : List Addr), DPE (X.blk s H scope (compEnvC scope cl C X.env) fp) WF elt te) (hs : ∀ x, foldedSetIterable iter X.env x = pure x := by intro _; rfl) :
    DPE X W (.ListComp elt [⟨tg, iter, ifs, 0⟩] scope pos) (dLc wi g tt te (own.map (·.2))) := by
  obtain ⟨ti, i1, i2⟩ := hi
  exact ⟨_, pe_lc hc hN i1 ok (fun s H C cl fp => (hg s H C cl fp).can) (fun s H C cl fp => (ht s H C cl fp).can) (fun s H C cl fp => (he s H C cl fp).can) hs, sim_lc i2⟩
/-- name = [..] on one line, the name a local -/
theorem ds_setLc {i : Nat} {y : Str} {py spos : Pos} (hc : X.calm = true) (hN : X.N.Nodup) (hy : X.N[i]? = some y) (hyl : X.env.scope.names.lookup y = some .local)
    (hsw : swapsWith (.ListComp elt [⟨tg, iter, ifs, 0⟩] scope pos) (some (.Name y py)) spos.line X.env = pure true) (hi : DPI X W tg iter wi) (ok : BlkOk X.N X.env.scope scope own)
    (hg : ∀ (s : Shared) (H : Hp) (C : Addr) (cl : List (Str × Addr)) (fp : List Addr), DPGo (X.blk s H scope (compEnvC scope cl C X.env) fp) (own.map (·.2)) tg g)
    (ht : ∀ (s : Shared) (H : Hp) (C : Addr) (cl : List (Str × Addr)) (fp : List Addr), DPTs (X.blk s H scope (compEnvC scope cl C X.env) fp) WF ifs tt)
    (he : ∀ (s : Shared) (H : Hp) (C : Addr) (cl : List (Str × Addr)) (fp : List Addr), DPE (X.blk s H scope (compEnvC scope cl C X.env) fp) WF elt te) (hs : ∀ x, foldedSetIterable iter X.env x = pure x := by intro _; rfl) :
    DPS X W (.Assign [.Name y py] (.ListComp elt [⟨tg, iter, ifs, 0⟩] scope pos) spos) (dSet (dLc wi g tt te (own.map (·.2))) i) := by
  obtain ⟨ti, i1, i2⟩ := hi
  exact ⟨_, ps_setLc hc hN hy hyl hsw i1 ok (fun s H C cl fp => (hg s H C cl fp).can) (fun s H C cl fp => (ht s H C cl fp).can) (fun s H C cl fp => (he s H C cl fp).can) hs,
    fun Dd D σd Hd σ H rs o q => sim_lc i2 σd Hd σ H _ _ _ rs (o.wx σd σ) q fun x Hd' v H' q' rx rs' up => o.nx _ Hd' _ H' q' (rs'.set rx i) up⟩
end
end DL

/-! The data layer, part I: own errors whose __init__ starts with super().__init__(..). -/
namespace DL
open PySem PySem.Spec PyProof.Rows L2

/-- the context of such an __init__, at its entry -/
def cxI (CX : CXT) (P : Program) (w : World) (K : PySem.W.Frag) (mg : Str → Option Value) (base : Heap) (N : List Str) (qual : Str) (scope : Scope) (f : Addr) (cd : Value) (cc : Addr) (A : Around) (outer : List Env) (s : Shared) (H : Hp) (E : XK) : Cx :=
  { prog := P, w := w, K := K, mg := mg, base := base, A := A.deeper (PySem.W.ksEnv qual scope s.heap.objs.size f cd cc), N := N, s_0 := s, H_0 := H, env := PySem.W.ksEnv qual scope s.heap.objs.size f cd cc, outer := outer,
    stack := PySem.W.ksEnv qual scope s.heap.objs.size f cd cc :: outer, ex := [], calm := true, fn := fun _ => false, pn := [],
    xe := fun e s' => wpAny (model P w) (A.deeper (PySem.W.ksEnv qual scope s.heap.objs.size f cd cc)) (leaving (PySem.W.ksEnv qual scope s.heap.objs.size f cd cc) e) (fun _ s'' => CX outer H s E e s'') (fun e' s'' => CX outer H s E e' s'') s' }
structure IScope (N ps : List Str) (sc : Scope) : Prop where
  kind : sc.kind = .function
  co : sc.isCoroutine = false
  gen : sc.isGenerator = false
  nd : N.Nodup
  pre : N.take ps.length = ps
  par : ∀ x ∈ ps, sc.names.lookup x = some .local
  ncell : ∀ x ∈ sc.names, x.2 ≠ .cell
  free : ∀ x, sc.names.lookup x = some .free → x = "__class__"
  cls : sc.names.lookup ("__class__" : Str) = some .free
  sup : sc.names.lookup ("super" : Str) = some .globalImplicit
theorem zip_rev {x : Str} {v : Value} : ∀ {P : List Str} {vs : List Value} {i : Nat}, P.Nodup → P[i]? = some x → vs[i]? = some v → (P.zip vs).reverse.lookup x = some v := by
  intro P vs i nd h1 h2
  have key : ∀ {P : List Str} {vs : List Value} {i : Nat} (l : List (Str × Value)), P.Nodup → P[i]? = some x → vs[i]? = some v → ((P.zip vs).reverse ++ l).lookup x = some v := by
    intro P
    induction P with
    | nil => intro vs i l _ h _; simp at h
    | cons p P ih =>
      intro vs i l nd h1 h2
      cases vs with
      | nil => simp at h2
      | cons w vs =>
        cases i with
        | succ i =>
          show ((List.zip (p :: P) (w :: vs)).reverse ++ l).lookup x = some v
          rw [List.zip_cons_cons, List.reverse_cons, List.append_assoc]
          exact ih _ (List.nodup_cons.mp nd).2 (by simpa using h1) (by simpa using h2)
        | zero =>
          have e1 : p = x := by simpa using h1
          have e2 : w = v := by simpa using h2
          subst e1 e2
          rw [List.zip_cons_cons, List.reverse_cons, List.append_assoc]
          have nin : ∀ q ∈ (P.zip vs).reverse, (p == q.1) = false := fun q hq => by
            have hm := (List.of_mem_zip (List.mem_reverse.mp hq)).1
            have ne : p ≠ q.1 := fun e => (List.nodup_cons.mp nd).1 (by rw [e]; exact hm)
            simpa using ne
          have skip : ∀ m : List (Str × Value), (∀ q ∈ m, (p == q.1) = false) → (m ++ ([(p, w)] ++ l)).lookup p = some w := by
            intro m
            induction m with
            | nil => intro _; simp [List.lookup]
            | cons q m ih2 =>
              intro hm
              obtain ⟨a, b⟩ := q
              rw [List.cons_append, List.lookup_cons, hm (a, b) (List.mem_cons_self ..)]
              exact ih2 fun q hq => hm q (List.mem_cons_of_mem _ hq)
          exact skip _ nin
  have := key (P := P) (vs := vs) (i := i) [] nd h1 h2
  rwa [List.append_nil] at this
theorem inv_startI {CX : CXT} {P : Program} {w : World} {K : PySem.W.Frag} {mg : Str → Option Value} {base : Heap} {N ps : List Str} {qual : Str} {scope : Scope} {f cc C : Addr} {cd : Value} {A : Around} {outer : List Env} {s : Shared} {H : Hp} {E : XK} {us : List Value} {vs : List V} {h1 : Heap} {tk : Nat}
    {cl : Value} {cld : Option Addr} {csl : Array (Option Value)} (S : IScope N ps scope) (hd : A.handled = none) (e0 : Env0 P w K mg base A outer s H) (hl : vs.length = ps.length) (r : Vals vs us) (hcell : K.lookup cc = some ⟨cl, cld, .cell (some (.ref C)), csl⟩)
    (hns : h1.Ns s.heap.objs.size (fun x => (ps.zip us).reverse.lookup x)) (hk : ∀ b o, s.heap.get? b = some o → h1.get? b = some o) :
    Inv (cxI CX P w K mg base N qual scope f cd cc A outer s H E) [] (L2.start N vs) H { s with heap := h1, toks := tk } := by
  have hpl : ps.length ≤ N.length := by have := congrArg List.length S.pre; rw [List.length_take] at this; omega
  have noA : ∀ b : Addr, b ∉ (cxI CX P w K mg base N qual scope f cd cc A outer s H E).ex := fun b z => absurd (show b ∈ ([] : List Addr) from z) (by simp)
  have bcc : base.get? cc = some ⟨cl, cld, .cell (some (.ref C)), csl⟩ := e0.mod.kin _ _ hcell
  obtain ⟨scc, ncc⟩ := e0.bs _ _ bcc
  have only : ∀ {x : Str} {c : Addr}, List.lookup x [(("__class__" : Str), cc)] = some c → x = "__class__" ∧ c = cc := fun {x c} h => by
    rw [List.lookup_cons] at h
    cases q : (x == ("__class__" : Str)) with
    | true =>
      rw [q] at h
      cases h
      exact ⟨by simpa using q, rfl⟩
    | false =>
      rw [q] at h
      cases h
  refine ⟨⟨e0.mod, S.kind, rfl, rfl, Nat.le_refl _, fun y z c h1 h2 => ?_, fun y hy => ?_, fun y c z _ => ?_, fun _ => hd, Around.frames_deeper e0.frames, .inr ⟨rfl, rfl⟩, fun b z => absurd z (noA b), e0.bs, e0.bsz, fun b _ _ => noA b, fun b z => absurd z (noA b), e0.funs, e0.frf⟩,
    rfl, e0.bare, Un.kept hk, ⟨_, hns, fun i y v h1 h2 h3 => ?_⟩, fun y c h => ?_, e0.hok.fresh (Nat.le_refl _), fun y c h => ?_, fun p hp => absurd (show p ∈ ([] : List (Addr × Obj)) from hp) (by simp), e0.hok.kept hk, ?_⟩
  · exact (only h1).1.trans (only h2).1.symm
  · have hy : scope.names.lookup y = some .cell ∨ scope.names.lookup y = some .free := hy
    rcases hy with hy | hy
    · exact absurd rfl (S.ncell _ (PySem.mem_of_lookup hy))
    · rw [S.free y hy]
      exact ⟨cc, by show List.lookup _ [_] = _; simp [List.lookup]⟩
  · exact absurd z Bool.false_ne_true
  · have hi : i < vs.length := by
      unfold L2.start at h2
      by_cases hi : i < vs.length
      · exact hi
      · rw [List.getElem?_append_right (by simpa using hi)] at h2
        rw [List.getElem?_replicate] at h2
        split at h2 <;> cases h2
    have ha : vs[i]? = some v := by
      unfold L2.start at h2
      rw [List.getElem?_append_left (by simpa using hi), List.getElem?_map] at h2
      cases e : vs[i]? with
      | none => rw [e] at h2; cases h2
      | some a => rw [e] at h2; cases h2; rfl
    obtain ⟨u, hu, rv⟩ := r.get ha
    have hp : ps[i]? = some y := by
      rw [← S.pre, List.getElem?_take_of_lt (by omega)]; exact h1
    have ndP : ps.Nodup := by rw [← S.pre]; exact S.nd.sublist (List.take_sublist _ _)
    exact ⟨u, rv, .inl ⟨S.par y (List.mem_of_getElem? hp), zip_rev ndP hp hu⟩⟩
  · obtain ⟨_, e⟩ := only h
    exact ⟨_, _, by rw [e]; exact hk _ _ scc, rfl⟩
  · obtain ⟨_, e⟩ := only h
    rw [e]
    exact ncc
  · unfold L2.start
    show _ = N.length
    rw [List.length_append, List.length_map, List.length_replicate]
    omega

/-- what the written part says of the error class at C: __init__ at fI, its cell of __class__ at cc, its code at cda -/
structure ErT (P : Program) (K : PySem.W.Frag) (mg : Str → Option Value) (C fI cc cda : Addr) : Prop where
  o : OexC K C
  iC : PySem.W.findIn K (.ref C) "__init__" = some (some (.ref fI))
  tI : PySem.W.typeIn K (.ref fI) = some (.type "function")
  al : ∃ cd bm, PySem.W.clsIn K C = some cd ∧ cd.mro = .ref C :: bm ∧ PySem.W.alongIn K "__init__" bm = some (some (.builtin "ValueError.__init__"))
  vE : PySem.W.subIn K (.ref C) (.type "ValueError") = some true
  mC : PySem.W.mroIn K C (.ref C) = some true
  sup : mg "super" = none
  opq : PySem.W.nsIn K cStatics "thirdparty.any" = some none
  cell : ∃ cl cld csl, K.lookup cc = some ⟨cl, cld, .cell (some (.ref C)), csl⟩
  code : ∃ ccl cdd vs ccs file tf, K.lookup cda = some ⟨ccl, cdd, .fields vs, ccs⟩ ∧ vs[2]? = some (.str file tf) ∧ ((P.main.file : Str) == file) = true
  top : (P.main.scope.names.lookup ("super" : Str)).isSome = false
theorem boot_super : bootBuiltins "super" = some (.type "super") := by first | rfl | kernel_rfl | decide +kernel
section
variable {CX : CXT} {P : Program} {w : World} {K : PySem.W.Frag} {mg : Str → Option Value} {base : Heap} {N ps : List Str} {name qual : Str} {scope : Scope} {f cc cda C a : Addr} {A : Around} {outer : List Env} {s0 s : Shared} {H0 H : Hp} {E : XK} {σ : L2.St}
  {params : Arguments} {body : List Stmt} {dV kV doc pm ct oc : Value} {an od : Option Addr} {osl : Array (Option Value)} {ar : Arg} {t : Str} {k : Nat} {p0 p1 p2 p3 p4 p5 : Pos}
/-- super().__init__('..') -/
theorem super_st {X : Cx} (hX : X = cxI CX P w K mg base N qual scope f (.ref cda) cc A outer s0 H0 E) (S : IScope N ps scope) (T : ErT P K mg C f cc cda)
    (lk : K.lookup f = some ⟨oc, od, .func (PySem.W.ksFn name qual params body scope dV kV doc pm an (.ref cda) ct cc), osl⟩) (hp : (params.posonlyargs ++ params.args).head? = some ar) (har : ar.arg = "self") (hN : N[0]? = some ("self" : Str)) (hself : scope.names.lookup ("self" : Str) = some .local)
    {pl : Sem Bool} (he : eval (.Call (.Attribute (.Call (.Name "super" p0) [] [] p1) "__init__" p2) [.Constant (.str t) k p3] [] p4) X.env = (do
      let ov ← attributeBase (.Call (.Name "super" p0) [] [] p1) "__init__" X.env (eval (.Call (.Name "super" p0) [] [] p1) X.env)
      standAt p2.atName
      let (f, first) ← holding [ov] (getMethod ov "__init__" pl)
      callWith p4 f first (backTo p4 (starEach [.Constant (.str t) k p3] X.env)) []))
    (hi : interactive X.env = false) (hs : swapsWith (.Call (.Attribute (.Call (.Name "super" p0) [] [] p1) "__init__" p2) [.Constant (.str t) k p3] [] p4) none p5.line X.env = pure false) (hst : starEach [.Constant (.str t) k p3] X.env = [(false, eval (.Constant (.str t) k p3) X.env)])
    (I : Inv X [] σ H s) (ha : H a = some (exo a C none)) (hσ : σ[0]? = some (some (.ref a))) :
    _root_.PySem.wpAt (model P w) X.A (.func body X.env) (exec (.Expr (.Call (.Attribute (.Call (.Name "super" p0) [] [] p1) "__init__" p2) [.Constant (.str t) k p3] [] p4) p5) X.env) (fun fl s' => fl = .next ∧ Inv X [] σ H s') X.xe s := by
  subst hX
  obtain ⟨nm, q, N', bs, bm, sn, sub, ab, col, dd, k0, k1, k2, k3, k5, hC, hbm⟩ := T.o.cls
  obtain ⟨cl, cld, csl, hcell⟩ := T.cell
  obtain ⟨ccl, cdd, vs, ccs, file, tf, hcode, hvs, hfile⟩ := T.code
  obtain ⟨cd, bm', hcls, hmro, hal⟩ := T.al
  obtain ⟨mb, b1, b2⟩ := I.mod.blt
  obtain ⟨m, hns, hlk⟩ := id I.loc
  obtain ⟨t1, hxo⟩ := exo_at I.hok ha
  have X0 : K.In s.heap := I.kIn
  have G0 : s.heap.Ns mainGlobals mg := I.mod.glob.keeps I.bk
  have B0 : s.heap.Ns builtinsNs mb := b1.keeps I.bk
  have e1 : scope.names.lookup ar.arg = some .local := by rw [har]; exact hself
  obtain ⟨u, ru, q1⟩ := hlk 0 "self" (.ref a) hN hσ (.inl hself)
  obtain rfl : u = Value.ref a := ru
  have hv : m ar.arg = some (.ref a) := by
    rw [har]
    rcases q1 with ⟨_, q1⟩ | ⟨q1, _⟩
    · exact q1
    · have q1 : scope.names.lookup ("self" : Str) = some .cell ∨ scope.names.lookup ("self" : Str) = some .free := q1
      rw [hself] at q1
      rcases q1 with q1 | q1 <;> cases q1
  obtain ⟨oD, hD1, hD2⟩ : ∃ oD, s.heap.get? C = some oD ∧ ∃ cd, oD.data = .cls cd := ⟨_, X0 _ _ hC, _, rfl⟩
  obtain ⟨cdD, hD2⟩ := hD2
  refine PySem.ks_wpAt_Expr_any (PySem.ks_wpAt_MethodCall ?_ he) hi hs
  refine PySem.ks_wpAt_super_base (env := PySem.W.ksEnv qual scope s0.heap.objs.size f (.ref cda) cc) S.sup S.cls (by decide) rfl (X0 _ _ lk) rfl hp rfl (X0 _ _ hcode) rfl hvs hfile T.top ?_
  refine PySem.W.ks_loadName_global S.kind S.sup (Calls.loadGlobal_builtin (env := PySem.W.ksEnv qual scope s0.heap.objs.size f (.ref cda) cc) G0 T.sup B0 ((b2 _ (by decide +kernel)).trans boot_super) ⟨rfl, ?_⟩)
  refine wpAny_loadName_free S.kind S.cls rfl ⟨_, X0 _ _ hcell, rfl⟩ ?_
  refine wpAny_loadName_local S.kind e1 hns hv ?_
  refine PySem.ks_wpAny_isType_cls hD1 hD2 ⟨rfl, ?_⟩
  have hmC := PySem.W.looks_mroIn (M := model P w) X0 T.mC
  obtain ⟨hp0, g, d, tk, os⟩ := s
  refine PySem.ks_wpAny_call_super hD1 hD2 hxo rfl (fun c z => by cases z) hmC (fun h' hso k' => ?_)
  have I1 : Inv (cxI CX P w K mg base N qual scope f (.ref cda) cc A outer s0 H0 E) [] σ H ⟨h', g, d, tk, os⟩ := I.kept (t' := tk) k'
  have X1 : K.In h' := I1.kIn
  have xC : a ≠ C := fun z => by
    have z1 := X0 _ _ hC
    rw [← z, hxo] at z1
    cases z1
  have hal' : PySem.W.alongIn K "__init__" ((cd.mro.dropWhile (· != .ref C)).drop 1) = some (some (.builtin "ValueError.__init__")) := by
    rw [hmro]
    simp only [List.dropWhile_cons, bne_self_eq_false, Bool.false_eq_true, if_false, List.drop_succ_cons, List.drop_zero]
    exact hal
  have hmro' : PySem.W.Looks (model P w) h' (mroOf (.ref C)) cd.mro := (PySem.W.looks_clsIn X1 hcls).andThen .now
  have hI : PySem.W.Looks (model P w) h' (isInstance (.ref a) (.type "ValueError")) true := (PySem.W.InstAt.type (od := none) ⟨k' _ _ hxo, rfl, rfl, trivial⟩).andThen (PySem.W.looks_subIn X1 T.vE)
  refine PySem.W.kxs_getMethod PySem.W.kxs_ValueError hso (PySem.W.looks_opaque X1 T.opq) hmro' rfl X1 hal' hI xC (by decide) ?_
  have I2 : Inv (cxI CX P w K mg base N qual scope f (.ref cda) cc A outer s0 H0 E) [] σ H ⟨h'.push (PySem.W.kxs_mw "ValueError.__init__" a), g, d, tk + 1, os⟩ := I1.kept (t' := tk + 1) fun b o e => Heap.get?_push_of_some _ e
  have I3 := I2.pins_of (pins' := [(h'.objs.size, PySem.W.kxs_mw "ValueError.__init__" a)]) fun p hp => by
    have e : p = (h'.objs.size, PySem.W.kxs_mw "ValueError.__init__" a) := by simpa using hp
    subst e
    obtain ⟨f0, f2, f3, _⟩ := I1.fpOk (Nat.le_refl _) (I1.hok.fresh (Nat.le_refl _))
    exact ⟨Heap.get?_push_size _ rfl, f0, f2, f3, fun v z => by cases z⟩
  have pa := pa_cons (X := cxI CX P w K mg base N qual scope f (.ref cda) cc A outer s0 H0 E) (pe_str (x := t) (pos := p3)) pa_nil hst
  refine PySem.W.kxs_callWith (i := "ValueError.__init__") (x := a) (by rw [show starEach [.Constant (.str t) k p3] (cxI CX P w K mg base N qual scope f (.ref cda) cc A outer s0 H0 E).env = _ from hst]; rfl) ?_
  rw [show starEach [.Constant (.str t) k p3] (cxI CX P w K mg base N qual scope f (.ref cda) cc A outer s0 H0 E).env = _ from hst]
  have run := pa.run p4 _ _ σ H (fun vs H1 => H1 = H ∧ vs.length = 1) I3 ⟨rfl, rfl⟩
  rw [show starEach [.Constant (.str t) k p3] (cxI CX P w K mg base N qual scope f (.ref cda) cc A outer s0 H0 E).env = _ from hst] at run
  refine Calls.evalArgs_plain (wpAny_mono run (fun us s3 ⟨ws, H3, I4, r4, e4, l4⟩ => ?_) fun _ _ z => z)
  rw [e4] at I4
  obtain ⟨hmw, _⟩ := I4.pin (h'.objs.size, PySem.W.kxs_mw "ValueError.__init__" a) (List.mem_append_right _ (List.mem_singleton.mpr rfl))
  refine ⟨hmw, ?_⟩
  obtain ⟨t2, hxo4⟩ := exo_at I4.hok ha
  have hl : us.length ≤ sizeLine := by
    rw [← Paired.length r4, l4, sizeLine_eq]
    decide
  have X4 : K.In s3.heap := I4.kIn
  show wpAny _ _ (call (.ref h'.objs.size) us) _ _ _
  obtain ⟨h4, g4, d4, tk4, os4⟩ := s3
  refine wpAny_call (codeAny_of_tree ?_)
  show wpAny _ _ (callAny (.ref h'.objs.size) ⟨us, []⟩) _ _ _
  simp only [callAny]
  refine wpAny_bind (wpAny_load hmw ?_)
  simp only [PySem.W.kxs_mw, show (Value.type "method-wrapper" == Value.type "method" || Value.type "method-wrapper" == Value.type "builtin_function_or_method" || Value.type "method-wrapper" == Value.type "method-wrapper") = true by decide, if_true]
  refine PySem.W.KFB.if_so (by decide) ?_
  refine wpAny_bind (PySem.W.check_bound_init F.excBase_ValueError.toExcCallFacts (X4 _ _ hC) hxo4 rfl ?_)
  refine wpAny_bind (wpAny_pure (wpAny_pure ?_))
  refine ⟨plainId_quiet F.excBase_ValueError.init.plain _, codeAny_builtin F.excBase_ValueError.initEntry ?_⟩
  refine PySem.W.exc_init_tree (cls := .ref C) (t0 := t2) (dv := none) (c2 := .none) (c3 := .none) (b4 := .bool false) hxo4 hl fun h5 k5 e5 _ => ?_
  have J := I4.write (t' := tk4) (x := a) (e := a) (o := exo a C none) (by rw [ha]; exact True.intro) (.inl rfl) k5 ⟨_, e5⟩ (exo_ok e5)
  have eu : upd H a (exo a C none) = H := by
    funext b
    by_cases hb : b = a
    · rw [hb, upd_same, ha]
    · rw [upd_ne hb]
  rw [eu] at J
  have J0 := J.pins_of (pins' := []) fun p hp => absurd hp (by simp)
  first
    | exact ⟨trivial, J0⟩
    | exact ⟨rfl, J0⟩
/-- THE RULE for such an __init__: the rest of the body's reading at the entry -/
theorem init_of {rest : List Stmt} {sp : Sp} {kk : Nat} (S : IScope N ps scope) (T : ErT P K mg C f cc cda) (hbody : body = .Expr (.Call (.Attribute (.Call (.Name "super" p0) [] [] p1) "__init__" p2) [.Constant (.str t) k p3] [] p4) p5 :: rest)
    (lk : K.lookup f = some ⟨oc, od, .func (PySem.W.ksFn name qual params body scope dV kV doc pm an (.ref cda) ct cc), osl⟩) (hcd : PySem.W.codeIn K (.ref cda) qual = true) (hp : (params.posonlyargs ++ params.args).head? = some ar) (har : ar.arg = "self") (hN : N[0]? = some ("self" : Str)) (hself : scope.names.lookup ("self" : Str) = some .local)
    {pl : Addr → Sem Bool} (he : ∀ L : Addr, eval (.Call (.Attribute (.Call (.Name "super" p0) [] [] p1) "__init__" p2) [.Constant (.str t) k p3] [] p4) (PySem.W.ksEnv qual scope L f (.ref cda) cc) = (do
      let ov ← attributeBase (.Call (.Name "super" p0) [] [] p1) "__init__" (PySem.W.ksEnv qual scope L f (.ref cda) cc) (eval (.Call (.Name "super" p0) [] [] p1) (PySem.W.ksEnv qual scope L f (.ref cda) cc))
      standAt p2.atName
      let (fn, first) ← holding [ov] (getMethod ov "__init__" (pl L))
      callWith p4 fn first (backTo p4 (starEach [.Constant (.str t) k p3] (PySem.W.ksEnv qual scope L f (.ref cda) cc))) []))
    (hi : ∀ L : Addr, interactive (PySem.W.ksEnv qual scope L f (.ref cda) cc) = false)
    (hs : ∀ L : Addr, swapsWith (.Call (.Attribute (.Call (.Name "super" p0) [] [] p1) "__init__" p2) [.Constant (.str t) k p3] [] p4) none p5.line (PySem.W.ksEnv qual scope L f (.ref cda) cc) = pure false)
    (hst : ∀ L : Addr, starEach [.Constant (.str t) k p3] (PySem.W.ksEnv qual scope L f (.ref cda) cc) = [(false, eval (.Constant (.str t) k p3) (PySem.W.ksEnv qual scope L f (.ref cda) cc))])
    (len : ∀ vs H Q E, sp vs H Q E → vs.length = ps.length) (first : ∀ vs H Q E, sp vs H Q E → ∃ a, vs[0]? = some (.ref a) ∧ H a = some (exo a C none))
    (hrest : ∀ (A : Around) (outer : List Env) (s : Shared) (H : Hp) (vs : List V) (Q : VK) (E : XK), Room kk (A.deeper (PySem.W.ksEnv qual scope s.heap.objs.size f (.ref cda) cc)) → sp vs H Q E →
      ∃ t, PSs (cxI CX P w K mg base N qual scope f (.ref cda) cc A outer s H E) rest t ∧ t { nx := fun _ H' => Q .non H', rt := Q } (L2.start N vs) H) :
    FnOk P w K mg base CX (kk + 1) f (PySem.W.ksFn name qual params body scope dV kV doc pm an (.ref cda) ct cc) ps sp := by
  refine ⟨len, fun A outer s H args us vs Q E hr e0 hb r hsp => ?_⟩
  have hl := len _ _ _ _ hsp
  have KX : K.In s.heap := e0.mod.kin.keeps fun b o e => (e0.bs b o e).1
  have lim : s.heap.NoLimit := e0.mod.nolimit.keeps fun b o e => (e0.bs b o e).1
  obtain ⟨cl, cld, csl, hcell⟩ := T.cell
  obtain ⟨a, ha0, ha⟩ := first _ _ _ _ hsp
  have hl2 : us.length = ps.length := by rw [← r.length]; exact hl
  refine PySem.ks_codeAny_call_defAt (binds := ps.zip us) hr.depth (KX _ _ lk) rfl lim (PySem.W.codeRec_of KX hcd) rfl hb S.ncell (fun ⟨n, v⟩ hy => S.par n (List.of_mem_zip hy).1) (fun h1 hns hk => ?_) S.co S.gen S.kind
  obtain ⟨tr, ht, hq⟩ := hrest A outer s H vs Q E (hr.deeper _) hsp
  have I : Inv (cxI CX P w K mg base N qual scope f (.ref cda) cc A outer s H E) [] (L2.start N vs) H { s with heap := h1, toks := s.toks + (ps.zip us).length } := inv_startI S hr.hd e0 hl r hcell hns hk
  have hσ : (L2.start N vs)[0]? = some (some (.ref a)) := by
    unfold L2.start
    cases vs with
    | nil => simp at ha0
    | cons v vs =>
      have e : v = .ref a := by simpa using ha0
      simp [e]
  have fst := super_st (body := body) (X := cxI CX P w K mg base N qual scope f (.ref cda) cc A outer s H E) rfl S T lk hp har hN hself (he s.heap.objs.size) (hi s.heap.objs.size) (hs s.heap.objs.size) (hst s.heap.objs.size) I ha hσ
  have fin : ∀ {σ' : L2.St} {H' : Hp} {v : V} {u : Value} {s' : Shared}, Inv (cxI CX P w K mg base N qual scope f (.ref cda) cc A outer s H E) [] σ' H' s' → RelV v u → Q v H' → CE outer P w H s Q u s' :=
    fun {σ' H' v u s'} J rv q => ⟨v, H', J.os, J.bare, J.base, J.hok, rv, q⟩
  have whole : _root_.PySem.wpAt (model P w) (cxI CX P w K mg base N qual scope f (.ref cda) cc A outer s H E).A (Code.func body (cxI CX P w K mg base N qual scope f (.ref cda) cc A outer s H E).env) (execs (.Expr (.Call (.Attribute (.Call (.Name "super" p0) [] [] p1) "__init__" p2) [.Constant (.str t) k p3] [] p4) p5 :: rest) (cxI CX P w K mg base N qual scope f (.ref cda) cc A outer s H E).env)
      (fun fl s' => CR CX outer P w H s Q E (.ok (.ret (match fl with | .ret v => v | _ => .none))) s') (cxI CX P w K mg base N qual scope f (.ref cda) cc A outer s H E).xe { s with heap := h1, toks := s.toks + (ps.zip us).length } := by
    refine PySem.ks_wpAt_execs_cons (PySem.ks_wpAt_mono fst (fun fl s' ⟨e, J⟩ => ?_) fun _ _ z => z)
    subst e
    refine PySem.wpAt_of_wpAny (wpAny_mono (ht.run [] s' _ H _ J hq) (fun fl s'' hs => ?_) fun _ _ z => z)
    cases fl with
    | ret u =>
      obtain ⟨v, σ', H', J, rv, q⟩ := hs
      exact fin J rv q
    | next =>
      obtain ⟨σ', H', J, q⟩ := hs
      exact fin (v := V.non) (u := Value.none) J rfl q
    | brk =>
      obtain ⟨_, _, _, q⟩ := hs
      exact False.elim q
    | cont =>
      obtain ⟨_, _, _, q⟩ := hs
      exact False.elim q
  subst hbody
  exact whole
end
end DL

/-! The data layer, part J: own errors made, raised, caught, looked at; calls where an error is handled; own __len__. -/
namespace PySem.W
open PySem PySem.Spec PySem.Calls PyProof.Rows
/-- isinstance of a caught error, with or without a dict -/
theorem dl_findObj {K : Frag} {C : Addr} {name : Str} {a g : Value} {od : Option Obj} (hc : (clsIn K C).isSome = true) (ha : findIn K (.ref C) name = some (some a)) (hg : specialIn K a "__get__" = some (some g)) (ht : takesIn K a = some true) : findObj K C od name = some (.bind g a) := by
  obtain ⟨cd, hc⟩ := Option.isSome_iff_exists.mp hc
  unfold findObj
  rw [hc, Option.bind_some, ha, Option.bind_some]
  simp [hg, ht]
theorem dl_classE {prog : Program} {w : World} {A : Around} {E : Value → Shared → Prop} {s : Shared} {K : Frag} {x D : Addr} {ox : Obj} {od : Option Obj} {Q : Option Value → Shared → Prop} (C : L2.ExcC K D) (X : K.In s.heap) (I : InstAt s.heap x ox D od) (h : Q (some (.ref D)) { s with toks := s.toks + 1 }) :
    wpAny (model prog w) A (getAttr? (.ref x) "__class__") Q E s := by
  have hf : findObj K D od "__class__" = some (.bind (.builtin "getset_descriptor.__get__") (.builtin "object.__class__")) := dl_findObj (by obtain ⟨cd, hc, _⟩ := any_some C.hd; rw [hc]; rfl) C.ha C.hn C.ht
  obtain ⟨hp, g, d, t, os⟩ := s
  have L0 := I.type (M := model prog w)
  have L1 := looks_findIn (M := model prog w) X C.hg
  have L2 := looks_findIn (M := model prog w) X C.hk
  have L3 := looks_find (M := model prog w) X I hf
  have sub : Looks (model prog w) hp (isInstance (.ref x) (.type "BaseException")) true := L0.andThen (looks_subIn X C.hs)
  have hx0 : (false && onTheHeap (Value.builtin "BaseException.__getattribute__")) = false := rfl
  have hx2 : (Value.builtin "BaseException.__getattribute__" == Value.builtin "object.__getattribute__") = false := by decide +kernel
  have hx1 : (onTheHeap (Value.ref D) && Value.builtin "BaseException.__getattribute__" == Value.builtin "object.__getattribute__") = false := by rw [hx2]; rfl
  unfold getAttr? getAttrBy? getAttrBy
  refine wpAny_bind (wpAny_mkText (wpAny_bind (wpAny_attempt (wpAny_holding (wpAny_bind (L0.at (wpAny_bind (L1.at ?_))))))))
  show wpAny _ _ (if (onTheHeap (Value.ref D) && Value.builtin "BaseException.__getattribute__" == Value.builtin "object.__getattribute__") = true then _ else _) _ _ _
  rw [hx1, if_neg Bool.false_ne_true]
  unfold getAttrByItsOwn hookBefore
  refine wpAny_bind ?_
  rw [if_pos (show onTheHeap (Value.ref D) = true from rfl)]
  refine L2.at ?_
  refine wpAny_bind (wpAny_attempt (wpAny_holding ?_))
  unfold callGetattribute
  rw [hx0, if_neg Bool.false_ne_true]
  unfold boundAndCalled
  rw [PySem.F.excAttr_ValueError.ga.bind (.ref x)]
  refine wpAny_bind (wpAny_pure ?_)
  show wpAny _ _ (call (.builtin "BaseException.__getattribute__") [.ref x, .str "__class__" t]) _ _ _
  refine wpAny_call (codeAny_call_builtin PySem.F.excAttr_ValueError.ga.plain PySem.F.entry_bexc_ga ?_)
  refine @check_slot (model prog w) _ _ ⟨hp, g, d, t + 1, os⟩ "BaseException.__getattribute__" "BaseException" "__getattribute__" (.ref x) [.str "__class__" t] [] _ (by decide +kernel) (by decide +kernel) sub (PySem.F.args_bexc_ga (.ref x) (.str "__class__" t)) ?_
  unfold Builtin.«object.__getattribute__»
  refine wpAny_bind (wpAny_of_eq (a := ((Value.ref x : Value), [Value.str "__class__" t])) (by first | rfl | (simp only [slotArgs]; rfl)) ?_)
  refine wpAny_bind (wpAny_pure (wpAny_bind (L0.at (wpAny_bind (L3.at ?_)))))
  show wpAny _ _ (holding [Value.builtin "object.__class__"] (call (.builtin "getset_descriptor.__get__") [.builtin "object.__class__", .ref x, .ref D]) >>= ret) _ _ _
  refine wpAny_bind (wpAny_holding (wpAny_call (class_get (s := ⟨hp, g, d, t + 1, os⟩) (ox := ox) (od := od) X I C.hm ?_)))
  refine wpAny_pure ?_
  show wpAny _ _ (handedOut (.ref D)) _ _ _
  rw [handedOut_of (v := .ref D) rfl]
  first
    | exact wpAny_pure (wpAny_pure h)
    | exact wpAny_pure h
    | exact wpAny_pure (wpAny_bind (wpAny_pure (wpAny_pure h)))
theorem dl_kitx {K : Frag} {x D : Addr} {ox : Obj} (C : L2.ExcC K D) : KitX K (.ref x) (.ref D) (fun h => ∃ od, InstAt h x ox D od) where
  ty := fun _ _ _ ⟨_, I⟩ => I.type
  it := fun _ _ X _ => by
    obtain ⟨cdD, hcD, _⟩ := any_some C.hd
    unfold clsIn at hcD
    split at hcD
    · rename_i c' d' cd' sl' ho
      intro A' Q' E' s' k q
      unfold isType loadHead
      exact wpAny_bind (wpAny_loadPart (k _ _ (X _ _ ho)) (wpAny_pure q))
    · cases hcD
  ne := fun h tp dd its n sl X htp => by
    obtain ⟨cdD, hcD, _⟩ := any_some C.hd
    refine Bool.eq_false_iff.mpr fun q => ?_
    have e : D = tp := Value.ref.inj (beq_iff_eq.mp q)
    subst e
    unfold clsIn at hcD
    split at hcD
    · rename_i c' d' cd' sl' ho
      have z := (X _ _ ho).symm.trans htp
      cases z
    · cases hcD
  ca := fun X ⟨_, I⟩ k => dl_classE C X I k
end PySem.W
namespace DL
open PySem PySem.Spec PyProof.Rows L2

/-! ### an error is made -/
def spI1 (C : Addr) (f1 : Str) : Sp := fun vs H Q _ => ∃ a y, vs = [.ref a, y] ∧ H a = some (exo a C none) ∧ ∀ dx, H dx = none → dx ≠ a → Q .non (upd (upd H dx (exd dx [(f1, y)])) a (exo a C (some dx)))
def spI2 (C : Addr) (f1 f2 : Str) : Sp := fun vs H Q _ => ∃ a y z, vs = [.ref a, y, z] ∧ H a = some (exo a C none) ∧ ∀ dx, H dx = none → dx ≠ a → Q .non (upd (upd (upd H dx (exd dx [(f1, y)])) a (exo a C (some dx))) dx (exd dx [(f2, z), (f1, y)]))
/-- the promise's ends, in one form: the dict fs behind -/
def IEnd (C : Addr) (sp : Sp) (n : Nat) (fs : List V → List (Str × V)) : Prop := ∀ (a : Addr) (vs : List V) (H : Hp) (Q : VK) (E : XK), H a = none → vs.length = n →
  (∀ dx H2, H dx = none → dx ≠ a → H2 a = some (exo a C (some dx)) → H2 dx = some (exd dx (fs vs)) → (∀ b, b ≠ a → b ≠ dx → H2 b = H b) → Q .non H2) → sp (.ref a :: vs) (upd H a (exo a C none)) Q E
theorem len1 {α : Type} {xs : List α} (h : xs.length = 1) : ∃ x, xs = [x] := match xs, h with | [x], _ => ⟨x, rfl⟩
theorem len2 {α : Type} {xs : List α} (h : xs.length = 2) : ∃ x y, xs = [x, y] := match xs, h with | [x, y], _ => ⟨x, y, rfl⟩
theorem iend1 {C : Addr} {f1 : Str} : IEnd C (spI1 C f1) 1 (fun vs => ([f1].zip vs).reverse) := fun a vs H Q E ha hl h => by
  obtain ⟨y, rfl⟩ := len1 hl
  refine ⟨a, y, rfl, upd_same, fun dx n ne => h dx _ ?_ ne upd_same ?_ fun b h1 h2 => ?_⟩
  · rw [upd_ne ne] at n; exact n
  · rw [upd_ne ne, upd_same]; rfl
  · rw [upd_ne h1, upd_ne h2, upd_ne h1]
theorem iend2 {C : Addr} {f1 f2 : Str} : IEnd C (spI2 C f1 f2) 2 (fun vs => ([f1, f2].zip vs).reverse) := fun a vs H Q E ha hl h => by
  obtain ⟨y, z, rfl⟩ := len2 hl
  refine ⟨a, y, z, rfl, upd_same, fun dx n ne => h dx _ ?_ ne ?_ ?_ fun b h1 h2 => ?_⟩
  · rw [upd_ne ne] at n; exact n
  · rw [upd_ne (Ne.symm ne), upd_same]
  · rw [upd_same]; rfl
  · rw [upd_ne h2, upd_ne h1, upd_ne h2, upd_ne h1]
section
variable {P : Program} {w : World} {K : PySem.W.Frag} {mg : Str → Option Value} {base : Heap} {qual : Str} {scope : Scope} {C f cc cda : Addr} {f1 f2 : Str}
theorem ends1 {X : Cx} {a : Addr} {H : Hp} {y : V} {Q : VK} {nx : L2.St → Hp → Prop} {σ : L2.St} {rt : VK} (T : OexC X.K C) (h1 : PySem.W.findIn X.K (.ref C) f1 = some none) (h0 : σ[0]? = some (some (.ref a))) (hy : σ[1]? = some (some y)) (ha : H a = some (exo a C none))
    (q : ∀ dx, H dx = none → dx ≠ a → nx σ (upd (upd H dx (exd dx [(f1, y)])) a (exo a C (some dx)))) : tOst X.K f1 (tVar 0) (tVar 1) { nx := nx, rt := rt } σ H :=
  ⟨y, hy, .ref a, h0, a, C, rfl, T, h1, .inl ⟨ha, q⟩⟩
end

/-- what C(e, ..) reads as -/
def dMk (C : Addr) (fs : List Str) (a : DTA) : DX → DSt → DH → DX → Prop := fun E σ H Qx => a E σ H fun xs H1 => xs.length = fs.length ∧ ∀ d, H1 d = none → Qx C (some d) (put H1 d (.xd (fs.zip xs).reverse))
def SimMk (K : PySem.W.Frag) (W : WX) (t : L2.St → Hp → XK → Prop) (d : DX → DSt → DH → DX → Prop) : Prop := ∀ σd Hd σ H (Qx E : DX) (Q : XK), RS K σd Hd σ H → WantX K W σd σ H E → d E σd Hd Qx → (∀ C dd Hd' H', Qx C dd Hd' → RS K σd Hd' σ H' → Up H H' → Q (.ref C) dd H') → t σ H Q
def DPMk (X : Cx) (W : WX) (e : Expr) (d : DX → DSt → DH → DX → Prop) : Prop := ∃ t, L2N.PMk X e t ∧ SimMk X.K W t d
theorem repK_zip {K : PySem.W.Frag} {H : Hp} : ∀ {fs : List Str} {xs : List D} {vs : List V}, Reps K H xs vs → RepK K H (fs.zip xs) (fs.zip vs)
  | [], _, _, _ => by rw [List.zip_nil_left, List.zip_nil_left]; rfl
  | f :: fs, [], _, r => by
    cases (show _ = [] from r)
    rw [List.zip_nil_right, List.zip_nil_right]; rfl
  | f :: fs, x :: xs, _, r => by
    obtain ⟨v, t, e, h1, h2⟩ := r
    subst e
    exact ⟨v, _, rfl, h1, repK_zip h2⟩
theorem repK_rev {κ : Type} {K : PySem.W.Frag} {H : Hp} : ∀ {ds : List (κ × D)} {vs : List (κ × V)}, RepK K H ds vs → RepK K H ds.reverse vs.reverse
  | [], _, h => by rw [show _ = [] from h]; rfl
  | (k, d) :: ds, _, h => by
    obtain ⟨v, r, e, h1, h2⟩ := h
    subst e
    rw [List.reverse_cons, List.reverse_cons]
    have go : ∀ {ds : List (κ × D)} {vs : List (κ × V)}, RepK K H ds vs → RepK K H (ds ++ [(k, d)]) (vs ++ [(k, v)]) := by
      intro ds
      induction ds with
      | nil => intro vs h; rw [show vs = [] from h]; exact ⟨v, [], rfl, h1, rfl⟩
      | cons p ds ih =>
        intro vs h
        obtain ⟨k2, d2⟩ := p
        obtain ⟨v2, r2, e2, g1, g2⟩ := h
        subst e2
        exact ⟨v2, r2 ++ [(k, v)], rfl, g1, ih g2⟩
    exact go (repK_rev h2)
section
variable {X : Cx} {W : WX} {k : Nat} {C fI cc cda : Addr} {fd : FuncData} {ps : List Str} {sp : Sp} {fs : List Str} {x : Str} {p pos : Pos} {e : Expr} {es : List Expr} {ta : TA} {dA : DTA}
/-- C(e, ..), C's own __init__ keeping sp -/
theorem pmk_er (T : OexC X.K C) (iC : PySem.W.findIn X.K (.ref C) "__init__" = some (some (.ref fI))) (tI : PySem.W.typeIn X.K (.ref fI) = some (.type "function"))
    (F1 : FnOk X.prog X.w X.K X.mg X.base (L2N.CX X.prog X.w) k fI fd ps sp) (hr : Room (k + 1) X.A) (hb : Binds X.K fd ps []) (hg : Gl X x) (hm : X.mg x = some (.ref C)) (ha : PA X (e :: es) ta)
    (hdb : (x == ("__debug__" : Str)) = false := by decide) (he : starEach (e :: es) X.env = (false, eval e X.env) :: starEach es X.env := by rfl) (hpl : (backTo pos (starEach es X.env)).any (·.1) = false := by rfl) :
    L2N.PMk X (.Call (.Name x p) (e :: es) [] pos) (tMkO C sp [] ta) := by
  intro pins s σ H Q I h
  obtain ⟨nm, q, N, bs, bm, sn, sub, ab, col, dd, k0, k1, k2, k3, k5, hC, hbm⟩ := T.cls
  refine wpAny_Call_Name_kw (ld_glob I hg hm ?_ hdb)
  refine PySem.W.callWith_K (h₀ := X.base) I.ok.mod.kin T.kC (thn (ha.run pos pins s σ H _ I h) fun us s1 ⟨vs, H1, I1, r1, hz, q1⟩ => ⟨I1.kIn, ?_⟩) he hpl
  show wpAny _ _ (call (.ref C) us) _ _ _
  obtain ⟨hp, g, dr, tk, os⟩ := s1
  have hsz : hp.objs.size ≤ hp.objs.size + 1 := Nat.le_succ _
  have hn : H1 (hp.objs.size + 1) = none := I1.hok.fresh hsz
  have hq := q1 (hp.objs.size + 1) hn
  have kk : ∀ b o, hp.get? b = some o → ((hp.push (PySem.W.kdv_tup us)).push (PySem.HandSPX.excO C hp.objs.size)).get? b = some o := fun b o e => Heap.get?_push_of_some _ (Heap.get?_push_of_some _ e)
  have hget : ((hp.push (PySem.W.kdv_tup us)).push (PySem.HandSPX.excO C hp.objs.size)).get? (hp.objs.size + 1) = some (PySem.HandSPX.excO C hp.objs.size) := by heap_get
  have I2 : Inv X pins σ (upd H1 (hp.objs.size + 1) (exo (hp.objs.size + 1) C none)) ⟨(hp.push (PySem.W.kdv_tup us)).push (PySem.HandSPX.excO C hp.objs.size), g, dr, tk, os⟩ :=
    I1.laid (t' := tk) (a := hp.objs.size + 1) (o := exo (hp.objs.size + 1) C none) (h' := (hp.push (PySem.W.kdv_tup us)).push (PySem.HandSPX.excO C hp.objs.size)) kk hsz (exo_ok hget)
  have r2 : Vals (V.ref (hp.objs.size + 1) :: (vs ++ [])) (Value.ref (hp.objs.size + 1) :: (us ++ [])) := .cons rfl (r1.append .nil)
  have hl : (Value.ref (hp.objs.size + 1) :: us ++ []).length = ps.length := by
    have e := r2.length
    rw [F1.len _ _ _ _ hq] at e
    exact e.symm
  have hus : us.length ≤ sizeLine := by
    rw [← Paired.length r1, sizeLine_eq]
    omega
  refine wpAny_call (PySem.HandSPX.call_own F.excBase_ValueError (fun Y => PySem.HandSPX.refsVE_contains Y bm hbm) (I1.kIn _ _ hC) (PySem.W.looks_findIn I1.kIn iC) (fun self => PySem.W.bind_fn I1.kIn self tI) hus
    (codeAny_mono (F1.run _ X.stack _ _ ⟨Value.ref (hp.objs.size + 1) :: us, []⟩ (Value.ref (hp.objs.size + 1) :: (us ++ [])) _ _ (fun _ _ _ => False) (hr.make C us []) (I2.env0.make C us []) (by have bnd := hb _ (Value.ref (hp.objs.size + 1) :: us) I2.kIn hl; rw [List.append_nil] at bnd ⊢; exact bnd) r2 hq) fun r s' hq' => ?_))
  cases r with
  | error er =>
    obtain ⟨_, _, _, _, _, _, _, _, _, _, _, _, z⟩ := hq'
    exact z.elim
  | ok fl =>
    cases fl with
    | ret u =>
      obtain ⟨v, H2, os2, bare2, un2, hok2, rv, ev, d, gs, ea, ed, hd1, q2⟩ := hq'
      subst ev
      obtain ⟨h2, g2, d2, t2, os'⟩ := s'
      refine ⟨rv, ?_⟩
      obtain ⟨t0, G, J, kG, ge, hoe, na⟩ := mk_end0 (d2 := d2) (t2 := t2) I1 hsz kk un2 hok2 os2 bare2 ea ed hd1
      exact ⟨_, _, _, ⟨G, g2, d2, t2, os'⟩, _, .ref C, some d, rfl, J, kG, ge, hoe, ⟨rfl, rfl, fun vs z => by cases z; rfl⟩, rfl, rfl, na, rfl, bare2, raises_own T.exC T.tyC, q2⟩
    | next => exact False.elim hq'
    | brk => exact False.elim hq'
    | cont => exact False.elim hq'
theorem d_mk (T : OexC X.K C) (iC : PySem.W.findIn X.K (.ref C) "__init__" = some (some (.ref fI))) (tI : PySem.W.typeIn X.K (.ref fI) = some (.type "function")) (ie : IEnd C sp fs.length (fun vs => (fs.zip vs).reverse)) (hfs : fs.length ≤ 1000)
    (F1 : FnOk X.prog X.w X.K X.mg X.base (L2N.CX X.prog X.w) k fI fd ps sp) (hr : Room (k + 1) X.A) (hb : Binds X.K fd ps []) (hm : X.mg x = some (.ref C)) (ha : DPA X W (e :: es) dA) (hg : Gl X x := by rfl)
    (hdb : (x == ("__debug__" : Str)) = false := by decide) (he : starEach (e :: es) X.env = (false, eval e X.env) :: starEach es X.env := by rfl) (hpl : (backTo pos (starEach es X.env)).any (·.1) = false := by rfl) :
    DPMk X W (.Call (.Name x p) (e :: es) [] pos) (dMk C fs dA) := by
  obtain ⟨t, h1, h2⟩ := ha
  refine ⟨_, pmk_er T iC tI F1 hr hb hg hm h1 hdb he hpl, fun σd Hd σ H Qx E Q rs wx q w => h2 σd Hd σ H _ _ E rs wx q fun xs H1 vs H1' q1 rx rs1 u1 => ?_⟩
  obtain ⟨hl, q1⟩ := q1
  refine ⟨by rw [rx.len, hl]; exact hfs, fun a na => ?_⟩
  rw [List.append_nil]
  refine ie a vs H1' _ _ na (by rw [rx.len]; exact hl) fun dx H2 nd ne ea ed oth => ⟨rfl, dx, _, ea, ed, nd, ?_⟩
  have eq : upd (del H2 a) dx (.xd (fs.zip vs).reverse) = upd H1' dx (.xd (fs.zip vs).reverse) := by
    funext b
    by_cases h1 : b = dx
    · rw [h1, upd_same, upd_same]
    · rw [upd_ne h1, upd_ne h1]
      by_cases h2 : b = a
      · rw [h2, del_same, na]
      · rw [del_ne h2, oth b h2 h1]
  rw [eq]
  refine w C (some dx) _ _ (q1 dx (rs1.hp.fresh nd)) (rs1.mono (Up.new nd) (rs1.hp.new nd ⟨_, upd_same, ?_⟩)) (u1.trans (Up.new nd))
  exact (repK_rev (repK_zip rx)).up (Up.new nd)
def dRaise (d : DX → DSt → DH → DX → Prop) : DTS := fun D σ H => d (D.at σ) σ H fun C dd H' => D.ex C dd σ H'
theorem ds_raise {d : DX → DSt → DH → DX → Prop} (hc : X.calm = true) (tk : L2N.Takes X W) (h : DPMk X W e d) : DPS X W (.Raise (some e) none pos) (dRaise d) := by
  obtain ⟨t, h1, h2⟩ := h
  exact ⟨_, L2N.ps_raise hc tk h1, fun Dd D σd Hd σ H rs o q => h2 σd Hd σ H _ _ _ rs (o.wx σd σ) q fun C dd Hd' H' q' rs' up => o.ex C dd σd Hd' σ H' q' rs' up⟩
end

/-! ### try: .. except C as n: .. -/
def dTry (isC : Addr → Option Bool) (i : Nat) (tb : DTS) (ts : Addr → Value → Option Addr → DTS) : DTS := fun D σ H => tb { D with ex := fun C dd σ' H' => ∃ b, isC C = some b ∧
    (b = true → ∀ a, H' a = none → ts a (.ref C) dd { nx := fun σ'' H'' => D.nx (σ''.set i none) H'', rt := D.rt, bk := fun σ'' H'' => D.bk (σ''.set i none) H'', ct := fun σ'' H'' => D.ct (σ''.set i none) H'' } (σ'.set i (some (.ref a))) H') ∧
    (b = false → D.ex C dd σ' H') } σ H
section
variable {X : Cx} {W : WX} {x n : Str} {c : Value} {i : Nat} {body suite : List Stmt} {b₀ : Stmt} {np pos pos' : Pos} {tb : DTS} {ts : Addr → Value → Option Addr → DTS}
theorem ds_try (hs : X.stack = X.env :: X.outer) (hf : X.env.frame = some X.env.locals) (hN : X.N.Nodup) (hi : X.N[i]? = some n) (hln : X.env.kindOf n = some .local) (hc : Names X x c) (tk : L2N.Takes X W)
    (hb : ∀ (W' : WX) (pn : List (Addr × Obj)) (xe : Value → Shared → Prop), L2N.Takes (X.tr pn xe) W' → PassesOwn (model X.prog X.w) X.A X.env xe → DPSs (X.tr pn xe) W' body tb)
    (hsu : ∀ (a : Addr) (oe : Obj) (cls : Value) (d : Option Addr) (pn : List (Addr × Obj)), L2N.Zn cls d oe → (∃ vs, oe.data = .fields vs) → DPSs (X.suite a ((a, oe) :: pn)) WF (b₀ :: suite) (ts a cls d)) :
    DPS X W (.Try body [.ExceptHandler (some (.Name x np)) (some n) (b₀ :: suite) pos'] [] [] pos) (dTry (fun C => PySem.W.exmOne X.K (.ref C) c) i tb ts) := by
  refine ⟨_, L2N.ps_try_as (tb := fun W' => canS X.K W' tb) (ts := fun a cls d => canS X.K WF (ts a cls d)) (Wout := W) hs hf hN hi hln hc tk (fun W' pn xe tk' ps => (hb W' pn xe tk' ps).can) (fun a oe cls d pn z f => (hsu a oe cls d pn z f).can), fun Dd D σd Hd σ H rs o q => ?_⟩
  refine ⟨σd, Hd, { Dd with ex := fun C dd σ' H' => ∃ b, PySem.W.exmOne X.K (.ref C) c = some b ∧
    (b = true → ∀ a, H' a = none → ts a (.ref C) dd { nx := fun σ'' H'' => Dd.nx (σ''.set i none) H'', rt := Dd.rt, bk := fun σ'' H'' => Dd.bk (σ''.set i none) H'', ct := fun σ'' H'' => Dd.ct (σ''.set i none) H'' } (σ'.set i (some (.ref a))) H') ∧
    (b = false → Dd.ex C dd σ' H') }, rs, ⟨o.nx, o.rt, o.bk, o.ct, ?_⟩, q⟩
  rintro C dd σd' Hd' σ' H' ⟨b, hb1, hyes, hno⟩ rs' up
  refine ⟨b, hb1, fun e a na => ?_, fun e => o.ex C dd σd' Hd' σ' H' (hno e) rs' up⟩
  refine ⟨σd'.set i (some (.ref a)), Hd', _, rs'.set (d := .ref a) (v := .ref a) rfl i, ?_, hyes e a (rs'.hp.fresh na)⟩
  exact ⟨fun s1 h1 s2 h2 q r u => o.nx _ h1 _ h2 q (r.unset i) (up.trans u), fun x h1 v h2 q rx rh u => o.rt x h1 v h2 q rx rh (up.trans u), fun s1 h1 s2 h2 q r u => o.bk _ h1 _ h2 q (r.unset i) (up.trans u), fun s1 h1 s2 h2 q r u => o.ct _ h1 _ h2 q (r.unset i) (up.trans u), fun _ _ _ _ _ _ z _ _ => z.elim⟩
end

/-! ### the caught error looked at -/
def dXf (a C : Addr) (d : Option Addr) (cls : Value) (f : Str) (e : DTE) : DTE := fun E σ H Q => e E σ H fun x H1 => x = .ref a ∧ cls = .ref C ∧ ∃ dd fs v, d = some dd ∧ H1 dd = some (.xd fs) ∧ fs.lookup f = some v ∧ Q v H1
section
variable {X : Cx} {W : WX} {a C : Addr} {oe : Obj} {cls : Value} {d : Option Addr} {pn : List (Addr × Obj)} {e : Expr} {de : DTE} {pos : Pos} {n : Str}
theorem d_xf (T : XfC X.K C) (hno : PySem.W.findIn X.K (.ref C) n = some none) (hz : L2N.Zn cls d oe) (hf : ∃ vs, oe.data = .fields vs) (he : DPE (X.suite a ((a, oe) :: pn)) W e de)
    (hb : attributeBase e n X.env (eval e X.env) = eval e X.env := by rfl) : DPE (X.suite a ((a, oe) :: pn)) W (.Attribute e n pos) (dXf a C d cls n de) := by
  obtain ⟨t, h1, h2⟩ := he
  refine ⟨_, pe_xf T hno hz.zc hf h1 hb, fun σd Hd σ H Qd Q E rs wx q w => h2 σd Hd σ H _ _ E rs wx q fun x H1 v H1' q1 rx rs1 u1 => ?_⟩
  obtain ⟨ex, ec, dd, fs, y, ed, hh, hl, q2⟩ := q1
  subst ex
  obtain ⟨gs, e1, rk⟩ := rs1.hp _ _ hh
  obtain ⟨u, hu, ru⟩ := rk.lookup hl
  exact ⟨rx, ec, dd, gs, u, ed, e1, hu, w y H1 u H1' q2 ru rs1 u1⟩
/-- isinstance(e, c), e the caught error -/
def dIsE (K : PySem.W.Frag) (C a : Addr) (d : Option Addr) (cls : Value) : DRA := fun xs H Q => ∃ (c : D) (u : Value) (b : Bool), xs = [.ref a, c] ∧ cls = .ref C ∧ (∀ dd, d = some dd → ∃ fs, H dd = some (.xd fs)) ∧ ClsD c u ∧ PySem.W.kitOne K (.ref C) u = some b ∧ Q (.bl b) H
theorem dcl_isE (T : ExcC X.K C) (hz : L2N.Zn cls d oe) (hf : ∃ vs, oe.data = .fields vs) : DCl (X.suite a ((a, oe) :: pn)) (.builtin "isinstance") (dIsE X.K C a d cls) := by
  refine ⟨fun xs H Q => ∃ (c : V) (u : Value) (b : Bool), xs = [.ref a, c] ∧ cls = .ref C ∧ (∀ dd, d = some dd → ∃ fs, H dd = some (.xd fs)) ∧ ClsV c u ∧ PySem.W.kitOne X.K (.ref C) u = some b ∧ Q (.bl b) H, fun pins s σ H xs us Q I r h => ?_, fun xs vs Hd H Qd Q rx rh q k => ?_⟩
  · obtain ⟨c, u, b, rfl, ec, hd, hcv, e, q⟩ := h
    subst ec
    cases r with
    | @cons _ u0 _ _ r0 rr =>
      cases rr with
      | @cons _ u1 _ _ r1 rr =>
        cases rr
        obtain rfl : u0 = Value.ref a := r0
        have eu : u1 = u := by
          cases hcv with
          | ty n => exact r1
          | own C => exact r1
        subst eu
        obtain ⟨hget, _⟩ := I.pin (a, oe) (List.mem_append_left _ List.mem_cons_self)
        obtain ⟨vs, hv⟩ := hf
        have J : ∃ od, PySem.W.InstAt s.heap a oe C od := by
          obtain ⟨oc, odx, oda, osl⟩ := oe
          obtain ⟨h1, h2, _⟩ := hz
          dsimp only at h1 h2 hv
          subst h1 h2 hv
          cases odx with
          | none => exact ⟨none, hget, rfl, rfl, trivial⟩
          | some dd =>
            obtain ⟨fs, hx⟩ := hd dd rfl
            have ho : ObjOk X.prog X.w H s.heap dd (.xd fs) := I.hok dd _ hx
            obtain ⟨mA, hns, _⟩ := ho
            obtain ⟨od, hod, _⟩ := lookIn_ns hns
            exact ⟨some od, hget, rfl, rfl, hod⟩
        exact PySem.W.kia_one (PySem.W.dl_kitx T) I.kIn J e (fun z => nomatch z) fun tk => ⟨.bl b, H, I.kept (t' := tk) fun _ _ z => z, rfl, q⟩
  · obtain ⟨c, u, b, rfl, ec, hd, hc, e, q⟩ := q
    obtain ⟨v, w, rfl, r1, r2⟩ := reps2 rx
    refine ⟨w, u, b, by rw [show v = _ from r1], ec, fun dd ed => ?_, hc.v r2, e, k.here q rfl rh⟩
    obtain ⟨fs, hx⟩ := hd dd ed
    obtain ⟨gs, e1, _⟩ := rh _ _ hx
    exact ⟨gs, e1⟩
end

/-! ### calls where an error is handled -/
section
variable {X : Cx} {W : WX} {k : Nat} {f : Addr} {fd : FuncData} {ps : List Str} {sp : DSp} {x : Str} {p pos : Pos} {e : Expr} {es : List Expr} {dA : DTA}
theorem takesF {X : Cx} : L2N.Takes X WF := fun _ _ ⟨_, _, _, _, _, _, _, _, _, _, _, _, _, _, _, _, w⟩ => w.elim
theorem hot_suite {a : Addr} {oe : Obj} {cls : Value} {d : Option Addr} {pn : List (Addr × Obj)} (hz : L2N.Zn cls d oe) (hf : ∃ vs, oe.data = .fields vs) : L2H.HotC (X.suite a ((a, oe) :: pn)) := by
  obtain ⟨vs, hv⟩ := hf
  exact ⟨(a, oe), ⟨rfl, vs, hv, hz.2.2 vs hv⟩, List.mem_cons_self⟩
theorem d_callH (F : DFnH X.prog X.w X.K X.mg X.base k f fd ps sp) (hr : L2H.RoomH k X.A) (hc : L2H.HotC X) (tk : L2N.Takes X W) (hm : X.mg x = some (.ref f)) (hk : PySem.W.keepIn X.K (.ref f) = true) (hb : Binds X.K fd ps []) (ha : DPA X W (e :: es) dA) (hg : Gl X x := by rfl)
    (hdb : (x == ("__debug__" : Str)) = false := by decide) (he : starEach (e :: es) X.env = (false, eval e X.env) :: starEach es X.env := by rfl) (hpl : (backTo pos (starEach es X.env)).any (·.1) = false := by rfl) : DPE X W (.Call (.Name x p) (e :: es) [] pos) (dCall sp [] dA) := by
  obtain ⟨t, h1, h2⟩ := ha
  refine ⟨_, L2H.pe_callH F hr hc hg hm hk hb (fun σ => L2N.passAt tk σ) h1 hdb he hpl, fun σd Hd σ H Qd Q E rs wx q w => h2 σd Hd σ H _ _ E rs wx q fun xs H1 vs H1' q1 rx rs1 u1 => ?_⟩
  exact ⟨xs ++ [], H1, Qd, E, by rw [List.append_nil]; exact rx, rs1.hp, q1, (w.to u1).v rs1, wishX (wx.to u1) rs1⟩
end

/-! ### len(o), o's class has a __len__ -/
theorem Env0.in1 {P : Program} {w : World} {K : PySem.W.Frag} {mg : Str → Option Value} {base : Heap} {A : Around} {outer : List Env} {s : Shared} {H : Hp} (e : Env0 P w K mg base A outer s H) : Env0 P w K mg base A.in1 outer s H := ⟨by first | exact e.frames | (simpa [Around.in1] using e.frames), e.mod, e.bs, e.bsz, e.funs, e.frf, e.hok, e.bare⟩
def dLenO (C : Addr) (sp : DSp) : DRA := fun xs H Q => match xs with
  | [.ref a] => ∃ fs, H a = some (.ins C fs) ∧ fs.lookup ("__len__" : Str) = none ∧ sp [.ref a] H (fun v H2 => ∃ n : Int, v = .int n ∧ (0 ≤ n ∧ n < 2 ^ 63) ∧ Q (.int n) H2) (fun _ _ _ => False)
  | _ => False
theorem dcl_lenO {X : Cx} {k : Nat} {f C : Addr} {fd : FuncData} {ps : List Str} {sp : DSp} (c : Cls X.K C) (hm : Meth X.K C "__len__" f) (F : DFn X.prog X.w X.K X.mg X.base k f fd ps sp) (hr : Room (k + 1) X.A) (hb : Binds X.K fd ps []) : DCl X (.builtin "len") (dLenO C sp) := by
  refine ⟨fun xs H Q => ∃ a dx fs, xs = [.ref a] ∧ H a = some (.ins C dx fs) ∧ spOf X.K sp [.ref a] H (fun v H2 => ∃ n : Int, v = .int n ∧ (0 ≤ n ∧ n < 2 ^ 63) ∧ Q (.int n) H2) (fun _ _ _ => False), fun pins s σ H xs us Q I r h => ?_, fun xs vs Hd H Qd Q rx rh q k => ?_⟩
  · obtain ⟨a, dx, fs, rfl, ea, h⟩ := h
    cases r with
    | @cons _ u0 _ _ r0 rr =>
      cases rr
      obtain rfl : u0 = Value.ref a := r0
      obtain ⟨mA, O, _⟩ := ins_get I.hok ea
      obtain ⟨od, hod, _⟩ := lookIn_ns O.ns
      obtain ⟨m, fr⟩ := I.fr
      refine PySem.W.len_K (od := some od) fr I.ok.mod.kin ⟨O.obj, rfl, rfl, hod⟩ hm.at_ hm.fn ?_
      have hl : ([Value.ref a] : List Value).length = ps.length := by
        have := F.len _ _ _ _ h
        exact this
      have bnd := hb s [Value.ref a] I.kIn (by rw [List.append_nil]; exact hl)
      refine wpAny_call (codeAny_mono (F.run X.A.in1 X.stack s H ⟨[Value.ref a], []⟩ [Value.ref a] [V.ref a] _ _ hr.in1 (Env0.in1 I.env0) (by rw [List.append_nil] at bnd; exact bnd) (.cons rfl .nil) h) fun r s' hq => ?_)
      cases r with
      | error e =>
        obtain ⟨_, _, _, _, _, _, _, _, _, _, _, _, z⟩ := hq
        exact z.elim
      | ok fl =>
        cases fl with
        | ret u =>
          obtain ⟨v, H', I', rv, n, ev, hn, q⟩ := I.after hq
          subst ev
          obtain ⟨t, rfl⟩ := rv
          exact ⟨hn, .int n, H', I'.tok _, ⟨_, rfl⟩, q⟩
        | next => exact False.elim hq
        | brk => exact False.elim hq
        | cont => exact False.elim hq
  · unfold dLenO at q
    split at q
    · rename_i a
      obtain ⟨fs, hf, hl, q⟩ := q
      obtain ⟨v, rfl, e⟩ := reps1 rx
      obtain ⟨dx, gs, e1, rf⟩ := rh _ _ hf
      refine ⟨a, dx, gs, by rw [show v = _ from e], e1, [.ref a], Hd, _, (fun _ _ _ => False), ⟨_, _, rfl, rfl, rfl⟩, rh, q, ?_, fun _ _ _ _ z _ _ => z.elim⟩
      rintro z Hd' u H' ⟨n, ez, hn, qn⟩ rz rh' up
      subst ez
      exact ⟨n, rz, hn, k _ Hd' _ H' qn rfl rh' up⟩
    · exact q.elim
end DL

/-! The data layer, part K: what a for walks, tuple or list; the readings' own rules. -/
namespace DL
open PySem PySem.Spec PyProof.Rows L2

/-! ### over a tuple or a list -/
theorem pi_seq {X : Cx} {tg l : Expr} {tl : TE} (hl : PE X l tl) : PI X tg l (fun σ H R => tl σ H fun x H1 => ∃ a, x = .ref a ∧ (((∃ xs, SqL X.K H1 a xs) ∧ R (Itl X.K a) H1) ∨ ((∃ xs, SqT X.K H1 a xs) ∧ R (Itt X.K a) H1))) := by
  refine ⟨fun pins s σ H R I h => ?_⟩
  refine thn (hl.run pins s σ H _ I h) fun v s1 ⟨x, H1, I1, r1, q1⟩ => ?_
  obtain ⟨a, e, q⟩ := q1
  subst e
  cases r1
  rcases q with ⟨⟨xs, hq⟩, q⟩ | ⟨⟨xs, hq⟩, q⟩
  · obtain ⟨its, rv, p, hz⟩ := I1.list hq
    refine wpAny_pyIter_list p.isList ?_
    refine ⟨s1.heap.objs.size, [s1.heap.objs.size], _, _, H1, rfl, I1.kept (t' := s1.toks) fun b o e => Heap.get?_push_of_some _ e, turn_list a _, ⟨_, Heap.get?_push_size _ rfl, rfl, rfl⟩, fun b hb => ?_, q⟩
    have e : b = s1.heap.objs.size := by simpa using hb
    subst e
    exact I1.fpOk (Nat.le_refl _) (I1.hok.fresh (Nat.le_refl _))
  · obtain ⟨its, rv, p, hz⟩ := I1.tuple hq
    refine wpAny_pyIter_tuple (show s1.heap.IsTuple a its.toArray from p) ?_
    refine ⟨s1.heap.objs.size, [s1.heap.objs.size], _, _, H1, rfl, I1.kept (t' := s1.toks) fun b o e => Heap.get?_push_of_some _ e, turn_tuple a _, ⟨_, Heap.get?_push_size _ rfl, rfl, rfl⟩, fun b hb => ?_, q⟩
    have e : b = s1.heap.objs.size := by simpa using hb
    subst e
    exact I1.fpOk (Nat.le_refl _) (I1.hok.fresh (Nat.le_refl _))
def wSeq (a : DTE) : DTI := fun E σ H R => a E σ H fun x H1 => match x with
  | .tup ds => R (jSeq ds) H1
  | .fl ds => R (jSeq ds) H1
  | .ref p => (∃ ds, H1 p = some (.lst ds)) ∧ R (jLst p) H1
  | _ => False
theorem di_seq {X : Cx} {W : WX} {tg l : Expr} {da : DTE} (h : DPE X W l da) : DPI X W tg l (wSeq da) := by
  obtain ⟨t, h1, h2⟩ := h
  refine ⟨_, pi_seq h1, fun σd Hd σ H Rd R E rs wx q k => h2 σd Hd σ H _ _ E rs wx q fun x Hd' v H' q' rx rs' up => ?_⟩
  split at q'
  · obtain ⟨b, xs, e1, s1, r1⟩ := rx
    exact ⟨b, e1, .inr ⟨⟨xs, s1⟩, k _ Hd' _ H' q' (sim_tup s1 r1) rs' up⟩⟩
  · obtain ⟨b, xs, e1, s1, r1⟩ := rx
    exact ⟨b, e1, .inl ⟨⟨xs, s1.sq⟩, k _ Hd' _ H' q' (sim_fl s1 r1) rs' up⟩⟩
  · obtain ⟨⟨ds, hd⟩, q'⟩ := q'
    obtain ⟨xs, e, r⟩ := rs'.hp _ _ hd
    exact ⟨_, rx, .inl ⟨⟨xs, SqL.of e⟩, k _ Hd' _ H' q' sim_lst rs' up⟩⟩
  · exact q'.elim

/-! ### data without bools, objects: == is = -/
mutual
def pyD : D → PyData
  | .non => .none
  | .bl b => .bool b
  | .int i => .int i
  | .str x => .str x
  | .ref _ => .none
  | .ty _ => .none
  | .tup ds => .tuple (pyDs ds)
  | .fl ds => .list (pyDs ds)
def pyDs : List D → List PyData
  | [] => []
  | d :: ds => pyD d :: pyDs ds
end
mutual
inductive NB : Nat → D → Prop
  | non (n : Nat) : NB n .non
  | int (n : Nat) (i : Int) : NB n (.int i)
  | str (n : Nat) (x : Str) : NB n (.str x)
  | tup {n : Nat} {ds : List D} : NBs n ds → NB (n + 1) (.tup ds)
inductive NBs : Nat → List D → Prop
  | nil (n : Nat) : NBs n []
  | cons {n : Nat} {d : D} {ds : List D} : NB n d → NBs n ds → NBs n (d :: ds)
end
mutual
theorem NB.py {H : DH} {n : Nat} : ∀ {d : D}, NB n d → Py H d (pyD d)
  | _, .non _ => by unfold pyD; exact .non
  | _, .int _ i => by unfold pyD; exact .int i
  | _, .str _ x => by unfold pyD; exact .str x
  | _, .tup h => by unfold pyD; exact .tup (NBs.py h)
theorem NBs.py {H : DH} {n : Nat} : ∀ {ds : List D}, NBs n ds → Pys H ds (pyDs ds)
  | _, .nil _ => by unfold pyDs; exact .nil
  | _, .cons h t => by unfold pyDs; exact .cons (NB.py h) (NBs.py t)
end
mutual
theorem NB.depth {n : Nat} : ∀ {d : D}, NB n d → (pyD d).depth ≤ n
  | _, .non _ => by unfold pyD; exact Nat.zero_le _
  | _, .int _ i => by unfold pyD; exact Nat.zero_le _
  | _, .str _ x => by unfold pyD; exact Nat.zero_le _
  | _, .tup h => by
    unfold pyD
    have := NBs.depth h
    show PyData.depthAll _ + 1 ≤ _
    omega
theorem NBs.depth {n : Nat} : ∀ {ds : List D}, NBs n ds → PyData.depthAll (pyDs ds) ≤ n
  | _, .nil _ => by unfold pyDs; exact Nat.zero_le _
  | _, .cons h t => by
    unfold pyDs
    have a := NB.depth h
    have b := NBs.depth t
    show max _ _ ≤ _
    omega
end
mutual
theorem NB.eq {n m : Nat} : ∀ {d e : D}, NB n d → NB m e → (PyData.eqv (pyD d) (pyD e) = true ↔ d = e)
  | _, _, .non _, .non _ => by simp [pyD, PyData.eqv]
  | _, _, .non _, .int _ _ => by simp [pyD, PyData.eqv]
  | _, _, .non _, .str _ _ => by simp [pyD, PyData.eqv]
  | _, _, .non _, .tup _ => by simp [pyD, PyData.eqv]
  | _, _, .int _ _, .non _ => by simp [pyD, PyData.eqv]
  | _, _, .int _ _, .int _ _ => by simp [pyD, PyData.eqv]
  | _, _, .int _ _, .str _ _ => by simp [pyD, PyData.eqv]
  | _, _, .int _ _, .tup _ => by simp [pyD, PyData.eqv]
  | _, _, .str _ _, .non _ => by simp [pyD, PyData.eqv]
  | _, _, .str _ _, .int _ _ => by simp [pyD, PyData.eqv]
  | _, _, .str _ _, .str _ _ => by simp [pyD, PyData.eqv]
  | _, _, .str _ _, .tup _ => by simp [pyD, PyData.eqv]
  | _, _, .tup _, .non _ => by simp [pyD, PyData.eqv]
  | _, _, .tup _, .int _ _ => by simp [pyD, PyData.eqv]
  | _, _, .tup _, .str _ _ => by simp [pyD, PyData.eqv]
  | _, _, .tup h, .tup g => by
    have := NBs.eq h g
    simp only [pyD, PyData.eqv, this, D.tup.injEq]
theorem NBs.eq {n m : Nat} : ∀ {ds es : List D}, NBs n ds → NBs m es → (PyData.eqvAll (pyDs ds) (pyDs es) = true ↔ ds = es)
  | _, _, .nil _, .nil _ => by simp [pyDs, PyData.eqvAll]
  | _, _, .nil _, .cons _ _ => by simp [pyDs, PyData.eqvAll]
  | _, _, .cons _ _, .nil _ => by simp [pyDs, PyData.eqvAll]
  | _, _, .cons h t, .cons g u => by
    have a := NB.eq h g
    have b := NBs.eq t u
    simp only [pyDs, PyData.eqvAll, Bool.and_eq_true, a, b, List.cons.injEq]
end
theorem nbs_ints (n : Nat) : ∀ ns : List Int, NBs n (ns.map D.int)
  | [] => .nil n
  | i :: ns => .cons (.int n i) (nbs_ints n ns)
theorem nb_ints (ns : List Int) : NB 1 (.tup (ns.map D.int)) := .tup (nbs_ints 0 ns)
theorem ints_inj : ∀ {ns ms : List Int}, ns.map D.int = ms.map D.int ↔ ns = ms
  | [], [] => by simp
  | [], _ :: _ => by simp
  | _ :: _, [] => by simp
  | n :: ns, m :: ms => by
    have := ints_inj (ns := ns) (ms := ms)
    simp only [List.map_cons, List.cons.injEq, D.int.injEq, this]

def Hold (p : Prop) : Prop := p
/-! ### steps through a reading -/
section
variable {E : DX} {σ : DSt} {H : DH} {Z : DEnds}
theorem x_var {i : Nat} {d : DL.D} {Q : DK} (h : σ[i]? = some (some d)) (q : Q d H) : dVar i E σ H Q := ⟨d, h, q⟩
theorem x_c {d : DL.D} {Q : DK} (q : Q d H) : dC d E σ H Q := q
theorem x_op {r : DR2} {a b : DTE} {Q : DK} (q : a E σ H fun x H1 => b E σ H1 fun y H2 => r x y H2 Q) : dOp r a b E σ H Q := q
theorem x_un {r : DR1} {a : DTE} {Q : DK} (q : a E σ H fun x H1 => r x H1 Q) : dUn r a E σ H Q := q
theorem x_nil {Q : List DL.D → DH → Prop} (q : Q [] H) : dNil E σ H Q := q
theorem x_cons {a : DTE} {r : DTA} {Q : List DL.D → DH → Prop} (q : a E σ H fun x H1 => r E σ H1 fun xs H2 => Q (x :: xs) H2) : dCons a r E σ H Q := q
theorem x_tup {a : DTA} {Q : DK} (q : a E σ H fun xs H1 => xs.length ≤ sizeLine ∧ Q (.tup xs) H1) : dTup a E σ H Q := q
theorem x_sz {n : Nat} {A : Prop} (h : n ≤ sizeLine) (q : A) : n ≤ sizeLine ∧ A := ⟨h, q⟩
theorem x_szlt {n : Nat} {A : Prop} (h : n < sizeLine) (q : A) : n < sizeLine ∧ A := ⟨h, q⟩
theorem x_lst {a : DTA} {Q : DK} (q : a E σ H fun xs H1 => xs.length ≤ sizeLine ∧ ∀ p, H1 p = none → Q (.ref p) (put H1 p (.lst xs))) : dLst a E σ H Q := q
theorem x_cb {r : DRA} {a : DTA} {Q : DK} (q : a E σ H fun xs H1 => r xs H1 Q) : dCB r a E σ H Q := q
theorem x_test {a : DTE} {Q : Bool → DH → Prop} (q : a E σ H fun x H1 => ∃ c, x = .bl c ∧ Q c H1) : dTest a E σ H Q := q
theorem x_bl {b : Bool} {Q : Bool → Prop} (q : Q b) : ∃ c, D.bl b = .bl c ∧ Q c := ⟨b, rfl, q⟩
theorem x_and {t u : DTT} {Q : Bool → DH → Prop} (q : t E σ H fun c H1 => if c = true then u E σ H1 Q else Q false H1) : dAnd t u E σ H Q := q
theorem x_or {t u : DTT} {Q : Bool → DH → Prop} (q : t E σ H fun c H1 => if c = true then Q true H1 else u E σ H1 Q) : dOr t u E σ H Q := q
theorem x_not {t : DTT} {Q : Bool → DH → Prop} (q : t E σ H fun c H1 => Q (!c) H1) : dNot t E σ H Q := q
theorem x_andV {a b : DTE} {Q : DK} (q : a E σ H fun x H1 => ∃ c, x = .bl c ∧ if c = true then b E σ H1 Q else Q (.bl false) H1) : dAndV a b E σ H Q := q
theorem x_orV {a b : DTE} {Q : DK} (q : a E σ H fun x H1 => ∃ c, x = .bl c ∧ if c = true then Q (.bl true) H1 else b E σ H1 Q) : dOrV a b E σ H Q := q
theorem x_notV {a : DTE} {Q : DK} (q : a E σ H fun x H1 => ∃ c, x = .bl c ∧ Q (.bl (!c)) H1) : dNotV a E σ H Q := q
theorem x_ifx {t : DTT} {a b : DTE} {Q : DK} (q : t E σ H fun c H1 => if c = true then a E σ H1 Q else b E σ H1 Q) : dIf t a b E σ H Q := q
theorem x_noPart {Q : Option Int → DH → Prop} (q : Q none H) : dNoPart E σ H Q := q
theorem x_part {a : DTE} {Q : Option Int → DH → Prop} (q : a E σ H fun x H1 => ∃ i, x = .int i ∧ Q (some i) H1) : dPart a E σ H Q := q
theorem x_ii {i : Int} {Q : Int → Prop} (q : Q i) : ∃ j, D.int i = .int j ∧ Q j := ⟨i, rfl, q⟩
theorem x_sl {r : DL.D → Option Int → Option Int → DH → DK → Prop} {a : DTE} {l h : DTO} {Q : DK} (q : a E σ H fun x H1 => l E σ H1 fun lo H2 => h E σ H2 fun hi H3 => r x lo hi H3 Q) : dSl r a l h E σ H Q := q
/-! operators by values -/
theorem x_i0 {g : Int → Int → DL.D} {i j : Int} {Q : DK} (q : Q (g i j) H) : dI0 g (.int i) (.int j) H Q := q
theorem x_i {C : Int → Int → Prop} {g : Int → Int → DL.D} {i j : Int} {Q : DK} (c : C i j) (q : Q (g i j) H) : dI C g (.int i) (.int j) H Q := ⟨c, q⟩
theorem x_neg {i : Int} {Q : DK} (q : Q (.int (-i)) H) : dNeg (.int i) H Q := q
theorem x_addI {i j : Int} {Q : DK} (q : Q (.int (i + j)) H) : dAdd (.int i) (.int j) H Q := q
theorem x_addS {a b : Str} {Q : DK} (z : a.length + b.length ≤ sizeLine) (q : Q (.str (a ++ b)) H) : dAdd (.str a) (.str b) H Q := ⟨z, q⟩
theorem x_addT {a b : List DL.D} {Q : DK} (z : a.length + b.length ≤ sizeLine) (q : Q (.tup (a ++ b)) H) : dAdd (.tup a) (.tup b) H Q := ⟨z, q⟩
theorem x_addL {a b : Addr} {xs ys : List DL.D} {Q : DK} (h1 : H a = some (.lst xs)) (h2 : H b = some (.lst ys)) (z : xs.length + ys.length ≤ sizeLine) (q : ∀ p, H p = none → Q (.ref p) (put H p (.lst (xs ++ ys)))) : dAdd (.ref a) (.ref b) H Q := ⟨xs, ys, h1, h2, z, q⟩
theorem x_mulI {i j : Int} {Q : DK} (c : CMl i j) (q : Q (.int (i * j)) H) : dMul (.int i) (.int j) H Q := ⟨c, q⟩
theorem x_mulT {xs : List DL.D} {k : Int} {Q : DK} (h1 : 1 ≤ k) (h2 : k ≤ 1000) (h3 : xs.length ≤ 1000) (h4 : xs ≠ []) (q : Q (.tup (List.replicate k.toNat xs).flatten) H) : dMul (.tup xs) (.int k) H Q := ⟨h1, h2, h3, h4, q⟩
theorem x_mulL {a : Addr} {xs : List DL.D} {k : Int} {Q : DK} (h : H a = some (.lst xs)) (h1 : -(2 ^ 63) ≤ k ∧ k < 2 ^ 63) (h2 : xs.length * k.toNat ≤ sizeLine) (q : ∀ p, H p = none → Q (.ref p) (put H p (.lst (List.replicate k.toNat xs).flatten))) : dMul (.ref a) (.int k) H Q := ⟨xs, h, h1.1, h1.2, h2, q⟩
theorem x_isN {x : DL.D} {Q : DK} (q : Q (.bl (isN x)) H) : dIsN x .non H Q := q
theorem x_notN {x : DL.D} {Q : DK} (q : Q (.bl (!isN x)) H) : dNotN x .non H Q := q
theorem x_eq {x y : DL.D} {p q : PyData} {Q : DK} (h1 : Py H x p) (h2 : Py H y q) (h3 : min p.depth q.depth ≤ 64) (k : Q (.bl (PyData.eqv p q)) H) : dEq x y H Q := ⟨p, q, h1, h2, h3, k⟩
theorem x_ne {x y : DL.D} {p q : PyData} {Q : DK} (h1 : Py H x p) (h2 : Py H y q) (h3 : min p.depth q.depth ≤ 64) (k : Q (.bl (!PyData.eqv p q)) H) : dNe x y H Q := ⟨p, q, h1, h2, h3, k⟩
theorem x_eqD {x y : DL.D} {n m : Nat} {Q : DK} (h1 : NB n x) (h2 : NB m y) (hn : n ≤ 64) (k : ∀ b, (b = true ↔ x = y) → Q (.bl b) H) : dEq x y H Q :=
  ⟨pyD x, pyD y, h1.py, h2.py, by have := h1.depth; omega, k _ (NB.eq h1 h2)⟩
theorem x_neD {x y : DL.D} {n m : Nat} {Q : DK} (h1 : NB n x) (h2 : NB m y) (hn : n ≤ 64) (k : ∀ b, (b = true ↔ x = y) → Q (.bl (!b)) H) : dNe x y H Q :=
  ⟨pyD x, pyD y, h1.py, h2.py, by have := h1.depth; omega, k _ (NB.eq h1 h2)⟩
theorem x_eqI {i j : Int} {Q : DK} (k : Q (.bl (decide (i = j))) H) : dEq (.int i) (.int j) H Q :=
  ⟨.int i, .int j, .int i, .int j, (by show min 0 0 ≤ 64; decide), by
    have e : PyData.eqv (.int i) (.int j) = decide (i = j) := by first | rfl | (unfold PyData.eqv; first | rfl | (by_cases h : i = j <;> simp [h]))
    rw [e]
    exact k⟩
theorem x_neI {i j : Int} {Q : DK} (k : Q (.bl (!decide (i = j))) H) : dNe (.int i) (.int j) H Q :=
  ⟨.int i, .int j, .int i, .int j, (by show min 0 0 ≤ 64; decide), by
    have e : PyData.eqv (.int i) (.int j) = decide (i = j) := by first | rfl | (unfold PyData.eqv; first | rfl | (by_cases h : i = j <;> simp [h]))
    rw [e]
    exact k⟩
theorem x_ixT {xs : List DL.D} {i : Int} {d : DL.D} {Q : DK} (h : atI xs i = some d) (q : Q d H) : dIx (.tup xs) (.int i) H Q := ⟨d, h, q⟩
theorem x_ixF {xs : List DL.D} {i : Int} {d : DL.D} {Q : DK} (h : atI xs i = some d) (q : Q d H) : dIx (.fl xs) (.int i) H Q := ⟨d, h, q⟩
theorem x_ixL {a : Addr} {xs : List DL.D} {i : Int} {d : DL.D} {Q : DK} (h0 : H a = some (.lst xs)) (h : atI xs i = some d) (q : Q d H) : dIx (.ref a) (.int i) H Q := ⟨xs, d, h0, h, q⟩
theorem x_cutT {xs : List DL.D} {lo hi : Option Int} {Q : DK} (q : Q (.tup (DL.cut xs lo hi)) H) : dCut (.tup xs) lo hi H Q := q
theorem x_cutF {xs : List DL.D} {lo hi : Option Int} {Q : DK} (q : ∀ p, H p = none → Q (.ref p) (put H p (.lst (DL.cut xs lo hi)))) : dCut (.fl xs) lo hi H Q := q
theorem x_cutL {a : Addr} {xs : List DL.D} {lo hi : Option Int} {Q : DK} (h : H a = some (.lst xs)) (q : ∀ p, H p = none → Q (.ref p) (put H p (.lst (DL.cut xs lo hi)))) : dCut (.ref a) lo hi H Q := ⟨xs, h, q⟩
/-! built-ins -/
theorem x_lenT {ds : List DL.D} {Q : DK} (q : Q (.int ds.length) H) : dLen [.tup ds] H Q := q
theorem x_lenF {ds : List DL.D} {Q : DK} (q : Q (.int ds.length) H) : dLen [.fl ds] H Q := q
theorem x_lenS {z : Str} {Q : DK} (h : z.length ≤ sizeLine) (q : Q (.int z.length) H) : dLen [.str z] H Q := ⟨h, q⟩
theorem x_lenL {a : Addr} {ds : List DL.D} {Q : DK} (h : H a = some (.lst ds)) (q : Q (.int ds.length) H) : dLen [.ref a] H Q := by
  show match H a with | some (.lst ds) => Q (.int ds.length) H | some (.dct kvs) => Q (.int kvs.length) H | _ => False
  rw [h]
  exact q
theorem x_intI {i : Int} {Q : DK} (q : Q (.int i) H) : dInt [.int i] H Q := q
theorem x_max2 {i j : Int} {Q : DK} (q : Q (.int (if j > i then j else i)) H) : dMax2 [.int i, .int j] H Q := q
theorem x_min2 {i j : Int} {Q : DK} (q : Q (.int (if j < i then j else i)) H) : dMin2 [.int i, .int j] H Q := q
theorem x_tupT {ds : List DL.D} {Q : DK} (q : Q (.tup ds) H) : dTupleOf [.tup ds] H Q := q
theorem x_tupF {ds : List DL.D} {Q : DK} (q : Q (.tup ds) H) : dTupleOf [.fl ds] H Q := q
theorem x_tupL {a : Addr} {ds : List DL.D} {Q : DK} (h : H a = some (.lst ds)) (q : Q (.tup ds) H) : dTupleOf [.ref a] H Q := ⟨ds, h, q⟩
theorem x_lstT {ds : List DL.D} {Q : DK} (q : ∀ p, H p = none → Q (.ref p) (put H p (.lst ds))) : dListOf [.tup ds] H Q := q
theorem x_lstF {ds : List DL.D} {Q : DK} (q : ∀ p, H p = none → Q (.ref p) (put H p (.lst ds))) : dListOf [.fl ds] H Q := q
theorem x_lstL {a : Addr} {ds : List DL.D} {Q : DK} (h : H a = some (.lst ds)) (q : ∀ p, H p = none → Q (.ref p) (put H p (.lst ds))) : dListOf [.ref a] H Q := ⟨ds, h, q⟩
/-- isinstance of data of a built-in kind -/
def kindD : DL.D → Option String
  | .non => some "NoneType"
  | .bl _ => some "bool"
  | .int _ => some "int"
  | .str _ => some "str"
  | .tup _ => some "tuple"
  | .fl _ => some "list"
  | _ => none
theorem kindD_ty {d : DL.D} {t : String} (h : kindD d = some t) (H : DH) : tyD H d = some (.type t) := by
  cases d <;> (simp only [kindD] at h <;> cases h <;> rfl)
theorem kindD_in {d : DL.D} {t : String} (h : kindD d = some t) : t ∈ kinds := by
  cases d <;> (simp only [kindD] at h <;> cases h <;> decide)
variable {K : PySem.W.Frag}
theorem tyD_lst {a : Addr} {xs : List DL.D} (h : H a = some (.lst xs)) : tyD H (.ref a) = some (.type "list") := by simp only [tyD, h]
theorem tyD_ins {a C : Addr} {fs : List (Str × DL.D)} (h : H a = some (.ins C fs)) : tyD H (.ref a) = some (.ref C) := by simp only [tyD, h]
theorem x_isi {x : DL.D} {t c : String} {Q : DK} (h : kindD x = some t) (hc : c ∈ kinds.drop 1) (q : Q (.bl (isB t c)) H) : dIsi K [x, .ty c] H Q :=
  ⟨x, .ty c, .type t, .type c, isB t c, rfl, kindD_ty h H, (fun _ z => nomatch z), .ty c, kit_b (kindD_in h) hc, q⟩
theorem x_isiL {a : Addr} {xs : List DL.D} {c : String} {Q : DK} (h : H a = some (.lst xs)) (hc : c ∈ kinds.drop 1) (q : Q (.bl (isB "list" c)) H) : dIsi K [.ref a, .ty c] H Q :=
  ⟨.ref a, .ty c, .type "list", .type c, isB "list" c, rfl, tyD_lst h, (fun _ z => nomatch z), .ty c, kit_b (by decide) hc, q⟩
/-- .. of an instance -/
theorem x_isiO {a C C2 : Addr} {fs : List (Str × DL.D)} {b : Bool} {Q : DK} (h : H a = some (.ins C fs)) (o : OwnTy K C) (k : PySem.W.kitOne K (.ref C) (.ref C2) = some b) (q : Q (.bl b) H) : dIsi K [.ref a, .ref C2] H Q :=
  ⟨.ref a, .ref C2, .ref C, .ref C2, b, rfl, tyD_ins h, (fun _ z => by cases z; exact o), .own C2, k, q⟩
theorem x_isiOT {a C : Addr} {fs : List (Str × DL.D)} {c : String} {b : Bool} {Q : DK} (h : H a = some (.ins C fs)) (o : OwnTy K C) (k : PySem.W.kitOne K (.ref C) (.type c) = some b) (q : Q (.bl b) H) : dIsi K [.ref a, .ty c] H Q :=
  ⟨.ref a, .ty c, .ref C, .type c, b, rfl, tyD_ins h, (fun _ z => by cases z; exact o), .ty c, k, q⟩
theorem x_isiT {x : DL.D} {t : String} {cs : List String} {Q : DK} (h : kindD x = some t) (hc : ∀ c ∈ cs, c ∈ kinds.drop 1) (q : Q (.bl (cs.any fun c => isB t c)) H) : dIsiT K [x, .tup (cs.map D.ty)] H Q := by
  refine ⟨x, cs.map D.ty, .type t, cs.map Value.type, cs.any fun c => isB t c, rfl, kindD_ty h H, (fun _ z => nomatch z), ?_, ?_, q⟩
  · clear q hc
    induction cs with
    | nil => exact .nil
    | cons c cs ih => exact .cons (.ty c) ih
  · clear q
    induction cs with
    | nil => rfl
    | cons c cs ih =>
      have e := kit_b (K := K) (kindD_in h) (hc c (List.mem_cons_self ..))
      have ih := ih fun c hc' => hc c (List.mem_cons_of_mem _ hc')
      show (match PySem.W.kitOne K (.type t) (.type c) with | some true => some true | some false => PySem.W.kitAny K (.type t) (cs.map Value.type) | none => none) = _
      rw [e, List.any_cons]
      cases isB t c with
      | true => rfl
      | false => exact ih
theorem x_isiTL {a : Addr} {xs : List DL.D} {cs : List String} {Q : DK} (h : H a = some (.lst xs)) (hc : ∀ c ∈ cs, c ∈ kinds.drop 1) (q : Q (.bl (cs.any fun c => isB "list" c)) H) : dIsiT K [.ref a, .tup (cs.map D.ty)] H Q := by
  refine ⟨.ref a, cs.map D.ty, .type "list", cs.map Value.type, cs.any fun c => isB "list" c, rfl, tyD_lst h, (fun _ z => nomatch z), ?_, ?_, q⟩
  · clear q hc
    induction cs with
    | nil => exact .nil
    | cons c cs ih => exact .cons (.ty c) ih
  · clear q
    induction cs with
    | nil => rfl
    | cons c cs ih =>
      have e := kit_b (K := K) (t := "list") (by decide) (hc c (List.mem_cons_self ..))
      have ih := ih fun c hc' => hc c (List.mem_cons_of_mem _ hc')
      show (match PySem.W.kitOne K (.type "list") (.type c) with | some true => some true | some false => PySem.W.kitAny K (.type "list") (cs.map Value.type) | none => none) = _
      rw [e, List.any_cons]
      cases isB "list" c with
      | true => rfl
      | false => exact ih
/-! calls, fields -/
theorem x_call {sp : DSp} {dds : List DL.D} {a : DTA} {Q : DK} (q : a E σ H fun xs H1 => sp (xs ++ dds) H1 Q E) : dCall sp dds a E σ H Q := q
theorem x_make {C : Addr} {sp : DSp} {dds : List DL.D} {a : DTA} {Q : DK} (q : a E σ H fun xs H1 => ∀ p, H1 p = none → sp (.ref p :: (xs ++ dds)) (put H1 p (.ins C [])) (fun v H2 => v = .non ∧ Q (.ref p) H2) E) : dMake C sp dds a E σ H Q := q
def fldAt (K : PySem.W.Frag) (f : Str) (x : DL.D) (H : DH) (Q : DK) : Prop := match x with
  | .ref p => ∃ C fs d, H p = some (.ins C fs) ∧ Cls K C ∧ NoAttr K C f ∧ fs.lookup f = some d ∧ Q d H
  | _ => False
theorem x_fld {o : DTE} {f : Str} {Q : DK} (q : o E σ H fun x H1 => fldAt K f x H1 Q) : dFld K o f E σ H Q := q
theorem x_fldAt {p : Addr} {C : Addr} {fs : List (Str × DL.D)} {f : Str} {d : DL.D} {Q : DK} (h : H p = some (.ins C fs)) (c : Cls K C) (n : NoAttr K C f) (l : fs.lookup f = some d) (q : Q d H) : fldAt K f (.ref p) H Q := ⟨C, fs, d, h, c, n, l, q⟩
def methAt (C : Addr) (m : Str) (sp : DSp) (dds : List DL.D) (a : DTA) (E : DX) (σ : DSt) (x : DL.D) (H : DH) (Q : DK) : Prop := match x with
  | .ref p => ∃ fs, H p = some (.ins C fs) ∧ fs.lookup m = none ∧ a E σ H fun xs H2 => sp (.ref p :: (xs ++ dds)) H2 Q E
  | _ => False
theorem x_meth {C : Addr} {m : Str} {sp : DSp} {dds : List DL.D} {o : DTE} {a : DTA} {Q : DK} (q : o E σ H fun x H1 => methAt C m sp dds a E σ x H1 Q) : dMeth C m sp dds o a E σ H Q := q
theorem x_methAt {C p : Addr} {m : Str} {sp : DSp} {dds : List DL.D} {a : DTA} {fs : List (Str × DL.D)} {Q : DK} (h : H p = some (.ins C fs)) (l : fs.lookup m = none) (q : a E σ H fun xs H2 => sp (.ref p :: (xs ++ dds)) H2 Q E) : methAt C m sp dds a E σ (.ref p) H Q := ⟨fs, h, l, q⟩
theorem x_lenO {C : Addr} {sp : DSp} {a : Addr} {fs : List (Str × DL.D)} {Q : DK} (h : H a = some (.ins C fs)) (l : fs.lookup ("__len__" : Str) = none) (q : sp [.ref a] H (fun v H2 => ∃ n : Int, v = .int n ∧ (0 ≤ n ∧ n < 2 ^ 63) ∧ Q (.int n) H2) (fun _ _ _ => False)) : dLenO C sp [.ref a] H Q := ⟨fs, h, l, q⟩
theorem x_lenOend {n : Int} {Q : DK} (h0 : 0 ≤ n) (h1 : n < 2 ^ 63) (q : Q (.int n) H) : ∃ m : Int, DL.D.int n = .int m ∧ (0 ≤ m ∧ m < 2 ^ 63) ∧ Q (.int m) H := ⟨n, rfl, ⟨h0, h1⟩, q⟩
theorem x_eqn {n m : Nat} {A : Prop} (h : n = m) (q : A) : n = m ∧ A := ⟨h, q⟩
theorem x_app {p : Addr} {y : DL.D} {ds : List DL.D} {Q : DK} (h : H p = some (.lst ds)) (z : ds.length < sizeLine) (q : Q .non (put H p (.lst (ds ++ [y])))) : dApp (.ref p) [y] H Q := ⟨ds, h, z, q⟩
theorem x_pop {p : Addr} {y : DL.D} {ds : List DL.D} {Q : DK} (h : H p = some (.lst ds)) (z : ds[ds.length - 1]? = some y) (q : Q y (put H p (.lst ds.dropLast))) : dPop (.ref p) [] H Q := ⟨ds, y, h, z, q⟩
theorem x_bm {T : String} {r : DL.D → List DL.D → DH → DK → Prop} {o : DTE} {a : DTA} {Q : DK} (q : o E σ H fun x H1 => tyM T x H1 ∧ a E σ H1 fun xs H2 => r x xs H2 Q) : dBM T r o a E σ H Q := q
theorem tyM_lst {p : Addr} {ds : List DL.D} (h : H p = some (.lst ds)) : tyM "list" (.ref p) H := .inl ⟨rfl, ds, h⟩
theorem tyM_dct {p : Addr} {ds : List (Key × DL.D)} (h : H p = some (.dct ds)) : tyM "dict" (.ref p) H := .inr ⟨rfl, ds, h⟩
theorem x_tym {T : String} {x : DL.D} {A : Prop} (h : tyM T x H) (q : A) : tyM T x H ∧ A := ⟨h, q⟩
/-! dicts -/
def dgetAt (x y : DL.D) (H : DH) (Q : DK) : Prop := match x with
  | .ref p => ∃ kvs k d, H p = some (.dct kvs) ∧ keyD y = some k ∧ getP kvs k = some d ∧ Q d H
  | _ => False
theorem x_dget {a b : DTE} {Q : DK} (q : a E σ H fun x H1 => b E σ H1 fun y H2 => dgetAt x y H2 Q) : dDGet a b E σ H Q := q
theorem x_dgetAt {p : Addr} {y d : DL.D} {kvs : List (Key × DL.D)} {k : Key} {Q : DK} (h : H p = some (.dct kvs)) (hk : keyD y = some k) (g : getP kvs k = some d) (q : Q d H) : dgetAt (.ref p) y H Q := ⟨kvs, k, d, h, hk, g, q⟩
def dinAt (f : Bool → Bool) (x y : DL.D) (H : DH) (Q : DK) : Prop := match x with
  | .ref p => ∃ kvs k, H p = some (.dct kvs) ∧ keyD y = some k ∧ Q (.bl (f (getP kvs k).isSome)) H
  | _ => False
theorem x_din {f : Bool → Bool} {b a : DTE} {Q : DK} (q : b E σ H fun y H1 => a E σ H1 fun x H2 => dinAt f x y H2 Q) : dDIn f b a E σ H Q := q
theorem x_dinAt {f : Bool → Bool} {p : Addr} {y : DL.D} {kvs : List (Key × DL.D)} {k : Key} {Q : DK} (h : H p = some (.dct kvs)) (hk : keyD y = some k) (q : Q (.bl (f (getP kvs k).isSome)) H) : dinAt f (.ref p) y H Q := ⟨kvs, k, h, hk, q⟩
theorem x_dnew {Q : DK} (q : ∀ p, H p = none → Q (.ref p) (put H p (.dct []))) : dDNew E σ H Q := q

/-! statements -/
theorem x_set {a : DTE} {i : Nat} {u : DTS} (q : a (Z.at σ) σ H fun x H1 => u Z (σ.set i (some x)) H1) : dSeq (dSet a i) u Z σ H := q
theorem x_set1 {a : DTE} {i : Nat} (q : a (Z.at σ) σ H fun x H1 => Z.nx (σ.set i (some x)) H1) : dSet a i Z σ H := q
theorem x_drop {a : DTE} {u : DTS} (q : a (Z.at σ) σ H fun _ H1 => u Z σ H1) : dSeq (dDrop a) u Z σ H := q
theorem x_drop1 {a : DTE} (q : a (Z.at σ) σ H fun _ H1 => Z.nx σ H1) : dDrop a Z σ H := q
theorem x_asg {a : DTE} {g : DTG} {u : DTS} (q : a (Z.at σ) σ H fun x H1 => g x σ H1 (u Z)) : dSeq (dAsg a g) u Z σ H := q
theorem x_asg1 {a : DTE} {g : DTG} (q : a (Z.at σ) σ H fun x H1 => g x σ H1 Z.nx) : dAsg a g Z σ H := q
theorem x_if {c : DTT} {t u v : DTS} (q : c (Z.at σ) σ H fun b H1 => if b = true then dSeq t v Z σ H1 else dSeq u v Z σ H1) : dSeq (dIfS c t u) v Z σ H := q
theorem x_if1 {c : DTT} {t u : DTS} (q : c (Z.at σ) σ H fun b H1 => if b = true then t Z σ H1 else u Z σ H1) : dIfS c t u Z σ H := q
/-- the same, where the branches join: Hold stops the walk -/
theorem x_ifJ {c : DTT} {t u v : DTS} (q : c (Z.at σ) σ H fun b H1 => if b = true then t { Z with nx := fun σ' H' => Hold (v Z σ' H') } σ H1 else u { Z with nx := fun σ' H' => Hold (v Z σ' H') } σ H1) : dSeq (dIfS c t u) v Z σ H := q
theorem x_next {v : DTS} (q : v Z σ H) : dSeq dNext v Z σ H := q
theorem x_next1 (q : Z.nx σ H) : dNext Z σ H := q
theorem x_seq {t u v : DTS} (q : dSeq t (dSeq u v) Z σ H) : dSeq (dSeq t u) v Z σ H := q
theorem x_ret {a : DTE} {v : DTS} (q : a (Z.at σ) σ H Z.rt) : dSeq (dRet a) v Z σ H := q
theorem x_ret1 {a : DTE} (q : a (Z.at σ) σ H Z.rt) : dRet a Z σ H := q
theorem x_retN {v : DTS} (q : Z.rt .non H) : dSeq dRetN v Z σ H := q
theorem x_retN1 (q : Z.rt .non H) : dRetN Z σ H := q
theorem x_brk {v : DTS} (q : Z.bk σ H) : dSeq dBrk v Z σ H := q
theorem x_brk1 (q : Z.bk σ H) : dBrk Z σ H := q
theorem x_cnt {v : DTS} (q : Z.ct σ H) : dSeq dCnt v Z σ H := q
theorem x_cnt1 (q : Z.ct σ H) : dCnt Z σ H := q
def sfldAt (K : PySem.W.Frag) (f : Str) (y x : DL.D) (H : DH) (Q : DH → Prop) : Prop := match x with
  | .ref p => ∃ C fs, H p = some (.ins C fs) ∧ Cls K C ∧ NoAttr K C f ∧ fs.length < 1000 ∧ Q (put H p (.ins C (putA f y fs)))
  | _ => False
theorem x_sfldAt {p C : Addr} {fs : List (Str × DL.D)} {f : Str} {y : DL.D} {Q : DH → Prop} (h : H p = some (.ins C fs)) (c : Cls K C) (n : NoAttr K C f) (l : fs.length < 1000) (q : Q (put H p (.ins C (putA f y fs)))) : sfldAt K f y (.ref p) H Q := ⟨C, fs, h, c, n, l, q⟩
theorem x_sfld {o v : DTE} {f : Str} {u : DTS} (q : v (Z.at σ) σ H fun y H1 => o (Z.at σ) σ H1 fun x H2 => sfldAt K f y x H2 fun H3 => u Z σ H3) : dSeq (dSetFld K o v f) u Z σ H := q
theorem x_sfld1 {o v : DTE} {f : Str} (q : v (Z.at σ) σ H fun y H1 => o (Z.at σ) σ H1 fun x H2 => sfldAt K f y x H2 fun H3 => Z.nx σ H3) : dSetFld K o v f Z σ H := q
theorem x_raise {d : DX → DSt → DH → DX → Prop} {v : DTS} (q : d (Z.at σ) σ H fun C dd H' => Z.ex C dd σ H') : dSeq (dRaise d) v Z σ H := q
theorem x_raise1 {d : DX → DSt → DH → DX → Prop} (q : d (Z.at σ) σ H fun C dd H' => Z.ex C dd σ H') : dRaise d Z σ H := q
theorem x_mk {C : Addr} {fs : List Str} {a : DTA} {Qx : DX} (q : a E σ H fun xs H1 => xs.length = fs.length ∧ ∀ d, H1 d = none → Qx C (some d) (put H1 d (.xd (fs.zip xs).reverse))) : dMk C fs a E σ H Qx := q
def dputAt (z x y : DL.D) (H : DH) (Q : DH → Prop) : Prop := match x with
  | .ref p => ∃ kvs k, H p = some (.dct kvs) ∧ keyD y = some k ∧ kvs.length < sizeLine ∧ Q (put H p (.dct (putP kvs k z)))
  | _ => False
theorem x_dputAt {z y : DL.D} {p : Addr} {kvs : List (Key × DL.D)} {k : Key} {Q : DH → Prop} (h : H p = some (.dct kvs)) (hk : keyD y = some k) (l : kvs.length < sizeLine) (q : Q (put H p (.dct (putP kvs k z)))) : dputAt z (.ref p) y H Q := ⟨kvs, k, h, hk, l, q⟩
theorem x_dput {a b v : DTE} {u : DTS} (q : v (Z.at σ) σ H fun z H1 => a (Z.at σ) σ H1 fun x H2 => b (Z.at σ) σ H2 fun y H3 => dputAt z x y H3 fun H4 => u Z σ H4) : dSeq (dDPut a b v) u Z σ H := q
theorem x_dput1 {a b v : DTE} (q : v (Z.at σ) σ H fun z H1 => a (Z.at σ) σ H1 fun x H2 => b (Z.at σ) σ H2 fun y H3 => dputAt z x y H3 fun H4 => Z.nx σ H4) : dDPut a b v Z σ H := q
theorem x_gIx {a b : DTE} {v : DL.D} {Q : DSt → DH → Prop} (q : a (fun _ _ _ => False) σ H fun o H1 => b (fun _ _ _ => False) σ H1 fun i H2 => dSetIx o i v H2 fun H3 => Q σ H3) : gIx a b v σ H Q := q
theorem x_setIx {a : Addr} {k : Int} {v : DL.D} {xs : List DL.D} {j : Nat} {Q : DH → Prop} (h : H a = some (.lst xs)) (hj : ixN xs.length k = some j) (q : Q (put H a (.lst (xs.set j v)))) : dSetIx (.ref a) (.int k) v H Q := ⟨xs, j, h, hj, q⟩
theorem x_gNm {i : Nat} {x : DL.D} {Q : DSt → DH → Prop} (q : Q (σ.set i (some x)) H) : gNm i x σ H Q := q
theorem x_ite {c : Bool} {A B : Prop} (h1 : c = true → A) (h2 : c = false → B) : if c = true then A else B := by
  cases c with
  | true => rw [if_pos rfl]; exact h1 rfl
  | false => rw [if_neg Bool.false_ne_true]; exact h2 rfl
theorem x_iteT {c : Bool} {A B : Prop} (h : c = true) (a : A) : if c = true then A else B := by rw [if_pos h]; exact a
theorem x_iteF {c : Bool} {A B : Prop} (h : c = false) (b : B) : if c = true then A else B := by rw [h, if_neg Bool.false_ne_true]; exact b
theorem x_endR {Q : DK} {Ed : DX} {x : DL.D} {H0 : DH} (s : Sub H0 H) (q : Q x H0) : (endsOf Q Ed).rt x H := ⟨H0, s, q⟩
theorem x_endN {Q : DK} {Ed : DX} {H0 : DH} (s : Sub H0 H) (q : Q .non H0) : (endsOf Q Ed).nx σ H := ⟨H0, s, q⟩
theorem x_endX {Q : DK} {Ed : DX} {C : Addr} {dd : Option Addr} {H0 : DH} (s : Sub H0 H) (q : Ed C dd H0) : (endsOf Q Ed).ex C dd σ H := ⟨H0, s, q⟩

end
def ForGo (J : DIt) (g : DTG) (tb : DTS) (Z : DEnds) (nx : DSt → DH → Prop) (σ : DSt) (H1 : DH) : Prop := ∃ W : Nat → Nat → DSt → DH → Prop, (∃ m, W 0 m σ H1) ∧ ∀ i m σ H, W i m σ H →
  (J.stop i H ∧ nx σ H) ∨ (∃ x, J.at_ i H x ∧ ∃ N : DSt → DH → Prop, (∀ σ' H', N σ' H' → ∃ m', m' < m ∧ W (i + 1) m' σ' H') ∧ g x σ H fun σ2 H2 => tb { Z with nx := N, ct := N, bk := nx } σ2 H2)
section
variable {E : DX} {σ : DSt} {H H1 : DH} {Z : DEnds} {wi : DTI} {g : DTG} {tb v : DTS} {nx : DSt → DH → Prop}
theorem x_for (q : wi (Z.at σ) σ H fun J H1 => ForGo J g tb Z (v Z) σ H1) : dSeq (dFor wi g tb) v Z σ H := q
theorem x_for1 (q : wi (Z.at σ) σ H fun J H1 => ForGo J g tb Z Z.nx σ H1) : dFor wi g tb Z σ H := q
theorem forSeq {ds : List DL.D} (W : Nat → DSt → DH → Prop) (h0 : W 0 σ H1)
    (step : ∀ i x σ H, ds[i]? = some x → W i σ H → g x σ H fun σ2 H2 => tb { Z with nx := W (i + 1), ct := W (i + 1), bk := nx } σ2 H2) (hd : ∀ σ H, W ds.length σ H → nx σ H) : ForGo (jSeq ds) g tb Z nx σ H1 := by
  refine ⟨fun i m σ H => m = ds.length - i ∧ i ≤ ds.length ∧ W i σ H, ⟨_, rfl, Nat.zero_le _, h0⟩, ?_⟩
  rintro i m σ H ⟨rfl, hi, p⟩
  by_cases hlt : i < ds.length
  · exact .inr ⟨ds[i], by simp [jSeq, hlt], W (i + 1), fun σ' H' p' => ⟨ds.length - (i + 1), by omega, rfl, hlt, p'⟩, step i _ σ H (by simp [hlt]) p⟩
  · have e : i = ds.length := by omega
    subst e
    exact .inl ⟨Nat.le_refl _, hd σ H p⟩
/-- over a list that may be told anew at each turn -/
theorem forLst {a : Addr} {ds : List DL.D} (W : Nat → DSt → DH → Prop) (h0 : W 0 σ H1) (st : ∀ i σ H, W i σ H → H a = some (.lst ds))
    (step : ∀ i x σ H, ds[i]? = some x → W i σ H → g x σ H fun σ2 H2 => tb { Z with nx := W (i + 1), ct := W (i + 1), bk := nx } σ2 H2) (hd : ∀ σ H, W ds.length σ H → nx σ H) : ForGo (jLst a) g tb Z nx σ H1 := by
  refine ⟨fun i m σ H => m = ds.length - i ∧ i ≤ ds.length ∧ W i σ H, ⟨_, rfl, Nat.zero_le _, h0⟩, ?_⟩
  rintro i m σ H ⟨rfl, hi, p⟩
  by_cases hlt : i < ds.length
  · exact .inr ⟨ds[i], ⟨ds, st i σ H p, by simp [hlt]⟩, W (i + 1), fun σ' H' p' => ⟨ds.length - (i + 1), by omega, rfl, hlt, p'⟩, step i _ σ H (by simp [hlt]) p⟩
  · have e : i = ds.length := by omega
    subst e
    exact .inl ⟨⟨ds, st _ σ H p, Nat.le_refl _⟩, hd σ H p⟩
theorem forRng {lo : Int} {n : Nat} (W : Nat → DSt → DH → Prop) (h0 : W 0 σ H1)
    (step : ∀ i σ H, i < n → W i σ H → g (.int (lo + (i : Int))) σ H fun σ2 H2 => tb { Z with nx := W (i + 1), ct := W (i + 1), bk := nx } σ2 H2) (hd : ∀ σ H, W n σ H → nx σ H) : ForGo (jRng lo n) g tb Z nx σ H1 := by
  refine ⟨fun i m σ H => m = n - i ∧ i ≤ n ∧ W i σ H, ⟨_, rfl, Nat.zero_le _, h0⟩, ?_⟩
  rintro i m σ H ⟨rfl, hi, p⟩
  by_cases hlt : i < n
  · exact .inr ⟨_, ⟨hlt, rfl⟩, W (i + 1), fun σ' H' p' => ⟨n - (i + 1), by omega, rfl, hlt, p'⟩, step i σ H hlt p⟩
  · have e : i = n := by omega
    subst e
    exact .inl ⟨Nat.le_refl _, hd σ H p⟩
def seqAt (x : DL.D) (H : DH) (R : DIt → DH → Prop) : Prop := match x with
  | .tup ds => R (jSeq ds) H
  | .fl ds => R (jSeq ds) H
  | .ref p => (∃ ds, H p = some (.lst ds)) ∧ R (jLst p) H
  | _ => False
theorem x_seqT {a : DTE} {R : DIt → DH → Prop} (q : a E σ H fun x H1 => seqAt x H1 R) : wSeq a E σ H R := q
theorem x_seqTup {ds : List DL.D} {R : DIt → DH → Prop} (q : R (jSeq ds) H) : seqAt (.tup ds) H R := q
theorem x_seqFl {ds : List DL.D} {R : DIt → DH → Prop} (q : R (jSeq ds) H) : seqAt (.fl ds) H R := q
theorem x_seqLst {p : Addr} {ds : List DL.D} {R : DIt → DH → Prop} (h : H p = some (.lst ds)) (q : R (jLst p) H) : seqAt (.ref p) H R := ⟨⟨ds, h⟩, q⟩
def rng1At (xs : List DL.D) (H : DH) (R : DIt → DH → Prop) : Prop := match xs with
  | [.int j] => -(2 ^ 62) ≤ j ∧ j < 2 ^ 62 ∧ R (jRng 0 j.toNat) H
  | _ => False
def rng2At (xs : List DL.D) (H : DH) (R : DIt → DH → Prop) : Prop := match xs with
  | [.int i, .int j] => (-(2 ^ 62) ≤ i ∧ i < 2 ^ 62 ∧ -(2 ^ 62) ≤ j ∧ j < 2 ^ 62) ∧ R (jRng i (j - i).toNat) H
  | _ => False
theorem x_rng1 {a : DTA} {R : DIt → DH → Prop} (q : a E σ H fun xs H1 => rng1At xs H1 R) : wRng1 a E σ H R := q
theorem x_rng2 {a : DTA} {R : DIt → DH → Prop} (q : a E σ H fun xs H1 => rng2At xs H1 R) : wRng2 a E σ H R := q
theorem x_rng1At {n : Nat} {j : Int} {R : DIt → DH → Prop} (e : j = (n : Int)) (l : n ≤ 100000000) (q : R (jRng 0 n) H) : rng1At [.int j] H R := by
  subst e
  exact ⟨by omega, by omega, q⟩
theorem x_rng2At {i j : Int} {R : DIt → DH → Prop} (l1 : -100000000 ≤ i ∧ i ≤ 100000000) (l2 : -100000000 ≤ j ∧ j ≤ 100000000) (q : R (jRng i (j - i).toNat) H) : rng2At [.int i, .int j] H R := ⟨⟨by omega, by omega, by omega, by omega⟩, q⟩
end
def WhGo (c : DTT) (tb : DTS) (Z : DEnds) (nx : DSt → DH → Prop) (σ : DSt) (H : DH) : Prop := ∃ W : Nat → DSt → DH → Prop, (∃ m, W m σ H) ∧ ∀ m σ H, W m σ H →
  c (Z.at σ) σ H fun b H1 => if b = true then ∃ N : DSt → DH → Prop, (∀ σ' H', N σ' H' → ∃ m', m' < m ∧ W m' σ' H') ∧ tb { Z with nx := N, ct := N, bk := nx } σ H1 else nx σ H1
theorem x_while {c : DTT} {tb v : DTS} {Z : DEnds} {σ : DSt} {H : DH} (q : WhGo c tb Z (v Z) σ H) : dSeq (dWhile c tb) v Z σ H := q
theorem x_while1 {c : DTT} {tb : DTS} {Z : DEnds} {σ : DSt} {H : DH} (q : WhGo c tb Z Z.nx σ H) : dWhile c tb Z σ H := q
/-! errors caught -/
section
variable {E : DX} {σ : DSt} {H : DH} {Z : DEnds}
theorem x_try {isC : Addr → Option Bool} {i : Nat} {tb v : DTS} {ts : Addr → Value → Option Addr → DTS} (q : tb { Z with nx := v Z, ex := fun C dd σ' H' => ∃ b, isC C = some b ∧
    (b = true → ∀ a, H' a = none → ts a (.ref C) dd { nx := fun σ'' H'' => v Z (σ''.set i none) H'', rt := Z.rt, bk := fun σ'' H'' => Z.bk (σ''.set i none) H'', ct := fun σ'' H'' => Z.ct (σ''.set i none) H'' } (σ'.set i (some (.ref a))) H') ∧
    (b = false → Z.ex C dd σ' H') } σ H) : dSeq (dTry isC i tb ts) v Z σ H := q
theorem x_try1 {isC : Addr → Option Bool} {i : Nat} {tb : DTS} {ts : Addr → Value → Option Addr → DTS} (q : tb { Z with ex := fun C dd σ' H' => ∃ b, isC C = some b ∧
    (b = true → ∀ a, H' a = none → ts a (.ref C) dd { nx := fun σ'' H'' => Z.nx (σ''.set i none) H'', rt := Z.rt, bk := fun σ'' H'' => Z.bk (σ''.set i none) H'', ct := fun σ'' H'' => Z.ct (σ''.set i none) H'' } (σ'.set i (some (.ref a))) H') ∧
    (b = false → Z.ex C dd σ' H') } σ H) : dTry isC i tb ts Z σ H := q
theorem x_isE {K : PySem.W.Frag} {C a dd : Addr} {c : DL.D} {u : Value} {b : Bool} {fs : List (Str × DL.D)} {Q : DK} (h : H dd = some (.xd fs)) (hc : ClsD c u) (k : PySem.W.kitOne K (.ref C) u = some b) (q : Q (.bl b) H) : dIsE K C a (some dd) (.ref C) [.ref a, c] H Q :=
  ⟨c, u, b, rfl, rfl, fun d e => by cases e; exact ⟨fs, h⟩, hc, k, q⟩
theorem x_xf {a C : Addr} {d : Option Addr} {cls : Value} {f : Str} {e : DTE} {Q : DK} (q : e E σ H fun x H1 => x = .ref a ∧ cls = .ref C ∧ ∃ dd fs v, d = some dd ∧ H1 dd = some (.xd fs) ∧ fs.lookup f = some v ∧ Q v H1) : dXf a C d cls f e E σ H Q := q
theorem x_xfAt {a C dd : Addr} {f : Str} {fs : List (Str × DL.D)} {v : DL.D} {Q : DK} (h : H dd = some (.xd fs)) (l : fs.lookup f = some v) (q : Q v H) : D.ref a = .ref a ∧ Value.ref C = .ref C ∧ ∃ d fs v, some dd = some d ∧ H d = some (.xd fs) ∧ fs.lookup f = some v ∧ Q v H := ⟨rfl, rfl, dd, fs, v, rfl, h, l, q⟩
end
/-! comprehensions -/
def LcGo (J : DIt) (g : DTG) (tt : DTT) (te : DTE) (vs : List Nat) (p : Addr) (σ : DSt) (H1 : DH) (Qd : DH → Prop) : Prop := ∃ W : Nat → Nat → DH → Prop, (∃ m, W 0 m H1) ∧ ∀ i m H, W i m H →
  (J.stop i H ∧ Qd H) ∨ (∃ x, J.at_ i H x ∧ ∃ Nx : DH → Prop, (∀ H', Nx H' → ∃ m', m' < m ∧ W (i + 1) m' H') ∧ g x (wipeD σ vs) H fun σ2 H2 => tt EF σ2 H2 fun b H3 =>
    if b = true then te EF σ2 H3 fun y H4 => ∃ acc, H4 p = some (.lst acc) ∧ acc.length < sizeLine ∧ Nx (put H4 p (.lst (acc ++ [y]))) else Nx H3)
section
variable {E : DX} {σ : DSt} {H H1 : DH} {wi : DTI} {g : DTG} {tt : DTT} {te : DTE} {vs : List Nat} {p : Addr}
theorem x_lc {Q : DK} (q : wi E σ H fun J H1 => ∀ p, H1 p = none → LcGo J g tt te vs p σ (put H1 p (.lst [])) (Q (.ref p))) : dLc wi g tt te vs E σ H Q := q
theorem x_yes {Q : Bool → DH → Prop} (q : Q true H) : dYes E σ H Q := q
theorem x_acc {acc : List DL.D} {y : DL.D} {N : DH → Prop} (h : H p = some (.lst acc)) (l : acc.length < sizeLine) (q : N (put H p (.lst (acc ++ [y])))) : ∃ acc, H p = some (.lst acc) ∧ acc.length < sizeLine ∧ N (put H p (.lst (acc ++ [y]))) := ⟨acc, h, l, q⟩
theorem lcSeq {ds : List DL.D} {Qd : DH → Prop} (W : Nat → DH → Prop) (h0 : W 0 H1)
    (step : ∀ i x H, ds[i]? = some x → W i H → g x (wipeD σ vs) H fun σ2 H2 => tt EF σ2 H2 fun b H3 => if b = true then te EF σ2 H3 fun y H4 => ∃ acc, H4 p = some (.lst acc) ∧ acc.length < sizeLine ∧ W (i + 1) (put H4 p (.lst (acc ++ [y]))) else W (i + 1) H3)
    (hd : ∀ H, W ds.length H → Qd H) : LcGo (jSeq ds) g tt te vs p σ H1 Qd := by
  refine ⟨fun i m H => m = ds.length - i ∧ i ≤ ds.length ∧ W i H, ⟨_, rfl, Nat.zero_le _, h0⟩, ?_⟩
  rintro i m H ⟨rfl, hi, w⟩
  by_cases hlt : i < ds.length
  · exact .inr ⟨ds[i], by simp [jSeq, hlt], W (i + 1), fun H' w' => ⟨ds.length - (i + 1), by omega, rfl, hlt, w'⟩, step i _ H (by simp [hlt]) w⟩
  · have e : i = ds.length := by omega
    subst e
    exact .inl ⟨Nat.le_refl _, hd H w⟩
theorem lcLst {a : Addr} {ds : List DL.D} {Qd : DH → Prop} (W : Nat → DH → Prop) (h0 : W 0 H1) (st : ∀ i H, W i H → H a = some (.lst ds))
    (step : ∀ i x H, ds[i]? = some x → W i H → g x (wipeD σ vs) H fun σ2 H2 => tt EF σ2 H2 fun b H3 => if b = true then te EF σ2 H3 fun y H4 => ∃ acc, H4 p = some (.lst acc) ∧ acc.length < sizeLine ∧ W (i + 1) (put H4 p (.lst (acc ++ [y]))) else W (i + 1) H3)
    (hd : ∀ H, W ds.length H → Qd H) : LcGo (jLst a) g tt te vs p σ H1 Qd := by
  refine ⟨fun i m H => m = ds.length - i ∧ i ≤ ds.length ∧ W i H, ⟨_, rfl, Nat.zero_le _, h0⟩, ?_⟩
  rintro i m H ⟨rfl, hi, w⟩
  by_cases hlt : i < ds.length
  · exact .inr ⟨ds[i], ⟨ds, st i H w, by simp [hlt]⟩, W (i + 1), fun H' w' => ⟨ds.length - (i + 1), by omega, rfl, hlt, w'⟩, step i _ H (by simp [hlt]) w⟩
  · have e : i = ds.length := by omega
    subst e
    exact .inl ⟨⟨ds, st _ H w, Nat.le_refl _⟩, hd H w⟩
theorem lcRng {lo : Int} {n : Nat} {Qd : DH → Prop} (W : Nat → DH → Prop) (h0 : W 0 H1)
    (step : ∀ i H, i < n → W i H → g (.int (lo + (i : Int))) (wipeD σ vs) H fun σ2 H2 => tt EF σ2 H2 fun b H3 => if b = true then te EF σ2 H3 fun y H4 => ∃ acc, H4 p = some (.lst acc) ∧ acc.length < sizeLine ∧ W (i + 1) (put H4 p (.lst (acc ++ [y]))) else W (i + 1) H3)
    (hd : ∀ H, W n H → Qd H) : LcGo (jRng lo n) g tt te vs p σ H1 Qd := by
  refine ⟨fun i m H => m = n - i ∧ i ≤ n ∧ W i H, ⟨_, rfl, Nat.zero_le _, h0⟩, ?_⟩
  rintro i m H ⟨rfl, hi, w⟩
  by_cases hlt : i < n
  · exact .inr ⟨_, ⟨hlt, rfl⟩, W (i + 1), fun H' w' => ⟨n - (i + 1), by omega, rfl, hlt, w'⟩, step i H hlt w⟩
  · have e : i = n := by omega
    subst e
    exact .inl ⟨Nat.le_refl _, hd H w⟩
end
end DL

/-! The data layer, part L: what gen.py's lines lean on. -/
namespace DL
open PySem PySem.Spec PyProof.Rows L2

theorem pla_list : PlainAttrs "list" := PySem.F.plainAttrs_list
theorem sl_list_append : Slot "list" "append" "list.append" := PySem.F.slot_list_append
theorem ty_list_append : typeOf (.builtin "list.append") = pure (.type "method_descriptor") := PySem.F.type_list_append
theorem sl_list_pop : Slot "list" "pop" "list.pop" := PySem.F.slot_list_pop
theorem ty_list_pop : typeOf (.builtin "list.pop") = pure (.type "method_descriptor") := PySem.F.type_list_pop

theorem hu64_of {A : Around} {k : Nat} (hr : Room k A) : A.units + 64 < cLine := hr.units
theorem hu64H_of {A : Around} {k : Nat} (hr : L2H.RoomH k A) : A.units + 64 < cLine := by have := hr.un; omega
theorem huH_of {A : Around} {k : Nat} (hr : L2H.RoomH k A) : A.units + 1 < cLine := by have := hr.un; omega

theorem roomH_mark {k : Nat} {A : Around} {v : Option Value} (r : L2H.RoomH k A) : L2H.RoomH k (A.mark v) := ⟨r.dp, r.un⟩
def scD (N ps : List Str) (sc : Scope) : Bool :=
  decide (sc.kind = .function) && (!sc.isCoroutine && (!sc.isGenerator && (decide N.Nodup && (decide (N.take ps.length = ps) && (ps.all (fun x => decide (sc.names.lookup x = some .local) || decide (sc.names.lookup x = some .cell)) && (sc.names.all (fun y => !decide (y.2 = .free))))))))
theorem dscope_by {N ps : List Str} {sc : Scope} (h : scD N ps sc = true) : FnScope N ps sc := by
  unfold scD at h
  simp only [Bool.and_eq_true, Bool.not_eq_true', decide_eq_true_eq, List.all_eq_true, Bool.or_eq_true, decide_eq_false_iff_not] at h
  obtain ⟨h1, h2, h3, h4, h5, h6, h7⟩ := h
  exact ⟨h1, h2, h3, h4, h5, h6, h7⟩
/-- a built-in type by its name -/
theorem d_ty {X : Cx} {W : WX} {x : Str} {n : String} {pos : Pos} (hg : Gl X x) (hm : X.mg x = none) (hv : bootBuiltins x = some (.type n)) (hn : x ≠ "__name__" := by decide) (hd : (x == ("__debug__" : Str)) = false := by decide) : DPE X W (.Name x pos) (dC (.ty n)) :=
  d_bltn (v := .ty n) hg hm hv rfl (fun _ => rfl) hn hd
/-- an own class by its name -/
theorem d_cls {X : Cx} {W : WX} {x : Str} {a : Addr} {pos : Pos} (hg : Gl X x) (hm : X.mg x = some (.ref a)) (hd : (x == ("__debug__" : Str)) = false := by decide) : DPE X W (.Name x pos) (dC (.ref a)) :=
  d_glob (v := .ref a) hg hm rfl (fun _ => rfl) hd
def scI (N ps : List Str) (sc : Scope) : Bool :=
  decide (sc.kind = .function) && (!sc.isCoroutine && (!sc.isGenerator && (decide N.Nodup && (decide (N.take ps.length = ps) && (ps.all (fun x => decide (sc.names.lookup x = some .local)) && (sc.names.all (fun y => !decide (y.2 = .cell)) &&
    (sc.names.all (fun y => !decide (y.2 = .free) || decide (y.1 = "__class__")) && (decide (sc.names.lookup ("__class__" : Str) = some .free) && decide (sc.names.lookup ("super" : Str) = some .globalImplicit)))))))))
theorem iScope_by {N ps : List Str} {sc : Scope} (h : scI N ps sc = true) : IScope N ps sc := by
  unfold scI at h
  simp only [Bool.and_eq_true, Bool.not_eq_true', decide_eq_true_eq, List.all_eq_true, Bool.or_eq_true, decide_eq_false_iff_not] at h
  obtain ⟨h1, h2, h3, h4, h5, h6, h7, h8, h9, h10⟩ := h
  refine ⟨h1, h2, h3, h4, h5, h6, h7, fun x e => ?_, h9, h10⟩
  rcases h8 _ (PySem.mem_of_lookup e) with z | z
  · exact absurd rfl z
  · exact z
/-- an error's __init__ as it stands behind the top -/
structure ErL (K : PySem.W.Frag) (st : Stmt) (qual : Str) (f cc cda : Addr) (fd : FuncData) : Prop where
  ex : ∃ (oc kV doc pm ct : Value) (od an : Option Addr) (osl : Array (Option Value)), fd = PySem.W.ksFn "__init__" qual (defArgs st) (defBody st) (defScope st) .none kV doc pm an (.ref cda) ct cc ∧ K.lookup f = some ⟨oc, od, .func fd, osl⟩ ∧ PySem.W.codeIn K (.ref cda) qual = true
section
variable {P : Program} {w : World} {K : PySem.W.Frag} {mg : Str → Option Value} {base : Heap} {st : Stmt} {qual : Str} {f cc cda C : Addr} {fd : FuncData} {f1 f2 : Str} {ar : Arg} {t : Str} {k : Nat} {p0 p1 p2 p3 p4 p5 : Pos} {rest : List Stmt}
theorem init1 (T : ErT P K mg C f cc cda) (L : ErL K st qual f cc cda fd) (n1 : PySem.W.findIn K (.ref C) f1 = some none) (S : IScope ["self", f1] ["self", f1] (defScope st))
    (hbody : defBody st = .Expr (.Call (.Attribute (.Call (.Name "super" p0) [] [] p1) "__init__" p2) [.Constant (.str t) k p3] [] p4) p5 :: rest) (hp : ((defArgs st).posonlyargs ++ (defArgs st).args).head? = some ar) (har : ar.arg = "self") (hN : (["self", f1] : List Str)[0]? = some ("self" : Str)) (hself : (defScope st).names.lookup ("self" : Str) = some .local)
    {pl : Addr → Sem Bool} (he : ∀ L : Addr, eval (.Call (.Attribute (.Call (.Name "super" p0) [] [] p1) "__init__" p2) [.Constant (.str t) k p3] [] p4) (PySem.W.ksEnv qual (defScope st) L f (.ref cda) cc) = (do
      let ov ← attributeBase (.Call (.Name "super" p0) [] [] p1) "__init__" (PySem.W.ksEnv qual (defScope st) L f (.ref cda) cc) (eval (.Call (.Name "super" p0) [] [] p1) (PySem.W.ksEnv qual (defScope st) L f (.ref cda) cc))
      standAt p2.atName
      let (fn, first) ← holding [ov] (getMethod ov "__init__" (pl L))
      callWith p4 fn first (backTo p4 (starEach [.Constant (.str t) k p3] (PySem.W.ksEnv qual (defScope st) L f (.ref cda) cc))) []))
    (hi : ∀ L : Addr, interactive (PySem.W.ksEnv qual (defScope st) L f (.ref cda) cc) = false)
    (hs : ∀ L : Addr, swapsWith (.Call (.Attribute (.Call (.Name "super" p0) [] [] p1) "__init__" p2) [.Constant (.str t) k p3] [] p4) none p5.line (PySem.W.ksEnv qual (defScope st) L f (.ref cda) cc) = pure false)
    (hst : ∀ L : Addr, starEach [.Constant (.str t) k p3] (PySem.W.ksEnv qual (defScope st) L f (.ref cda) cc) = [(false, eval (.Constant (.str t) k p3) (PySem.W.ksEnv qual (defScope st) L f (.ref cda) cc))])
    (hrest : ∀ (A : Around) (outer : List Env) (s : Shared) (H : Hp) (E : XK), PSs (cxI (L2N.CX P w) P w K mg base ["self", f1] qual (defScope st) f (.ref cda) cc A outer s H E) rest (tOst K f1 (tVar 0) (tVar 1))) :
    FnOk P w K mg base (L2N.CX P w) 1 f fd ["self", f1] (spI1 C f1) := by
  obtain ⟨oc, kV, doc, pm, ct, od, an, osl, rfl, lk, hcd⟩ := L.ex
  refine init_of S T hbody lk hcd hp har hN hself he hi hs hst (fun vs H Q E h => ?_) (fun vs H Q E h => ?_) (fun A outer s H vs Q E _ h => ?_)
  · obtain ⟨a, y, rfl, _⟩ := h
    rfl
  · obtain ⟨a, y, rfl, ha, _⟩ := h
    exact ⟨a, rfl, ha⟩
  · obtain ⟨a, y, rfl, ha, q⟩ := h
    exact ⟨_, hrest A outer s H E, ⟨y, rfl, .ref a, rfl, a, C, rfl, T.o, n1, .inl ⟨ha, fun dx n ne => q dx n ne⟩⟩⟩
theorem init2 (T : ErT P K mg C f cc cda) (L : ErL K st qual f cc cda fd) (n1 : PySem.W.findIn K (.ref C) f1 = some none) (n2 : PySem.W.findIn K (.ref C) f2 = some none) (S : IScope ["self", f1, f2] ["self", f1, f2] (defScope st))
    (hbody : defBody st = .Expr (.Call (.Attribute (.Call (.Name "super" p0) [] [] p1) "__init__" p2) [.Constant (.str t) k p3] [] p4) p5 :: rest) (hp : ((defArgs st).posonlyargs ++ (defArgs st).args).head? = some ar) (har : ar.arg = "self") (hN : (["self", f1, f2] : List Str)[0]? = some ("self" : Str)) (hself : (defScope st).names.lookup ("self" : Str) = some .local)
    {pl : Addr → Sem Bool} (he : ∀ L : Addr, eval (.Call (.Attribute (.Call (.Name "super" p0) [] [] p1) "__init__" p2) [.Constant (.str t) k p3] [] p4) (PySem.W.ksEnv qual (defScope st) L f (.ref cda) cc) = (do
      let ov ← attributeBase (.Call (.Name "super" p0) [] [] p1) "__init__" (PySem.W.ksEnv qual (defScope st) L f (.ref cda) cc) (eval (.Call (.Name "super" p0) [] [] p1) (PySem.W.ksEnv qual (defScope st) L f (.ref cda) cc))
      standAt p2.atName
      let (fn, first) ← holding [ov] (getMethod ov "__init__" (pl L))
      callWith p4 fn first (backTo p4 (starEach [.Constant (.str t) k p3] (PySem.W.ksEnv qual (defScope st) L f (.ref cda) cc))) []))
    (hi : ∀ L : Addr, interactive (PySem.W.ksEnv qual (defScope st) L f (.ref cda) cc) = false)
    (hs : ∀ L : Addr, swapsWith (.Call (.Attribute (.Call (.Name "super" p0) [] [] p1) "__init__" p2) [.Constant (.str t) k p3] [] p4) none p5.line (PySem.W.ksEnv qual (defScope st) L f (.ref cda) cc) = pure false)
    (hst : ∀ L : Addr, starEach [.Constant (.str t) k p3] (PySem.W.ksEnv qual (defScope st) L f (.ref cda) cc) = [(false, eval (.Constant (.str t) k p3) (PySem.W.ksEnv qual (defScope st) L f (.ref cda) cc))])
    (hrest : ∀ (A : Around) (outer : List Env) (s : Shared) (H : Hp) (E : XK), PSs (cxI (L2N.CX P w) P w K mg base ["self", f1, f2] qual (defScope st) f (.ref cda) cc A outer s H E) rest (tSeq (tOst K f1 (tVar 0) (tVar 1)) (tOst K f2 (tVar 0) (tVar 2)))) :
    FnOk P w K mg base (L2N.CX P w) 1 f fd ["self", f1, f2] (spI2 C f1 f2) := by
  obtain ⟨oc, kV, doc, pm, ct, od, an, osl, rfl, lk, hcd⟩ := L.ex
  refine init_of S T hbody lk hcd hp har hN hself he hi hs hst (fun vs H Q E h => ?_) (fun vs H Q E h => ?_) (fun A outer s H vs Q E _ h => ?_)
  · obtain ⟨a, y, z, rfl, _⟩ := h
    rfl
  · obtain ⟨a, y, z, rfl, ha, _⟩ := h
    exact ⟨a, rfl, ha⟩
  · obtain ⟨a, y, z, rfl, ha, q⟩ := h
    refine ⟨_, hrest A outer s H E, ⟨y, rfl, .ref a, rfl, a, C, rfl, T.o, n1, .inl ⟨ha, fun dx n ne => ?_⟩⟩⟩
    exact ⟨z, rfl, .ref a, rfl, a, C, rfl, T.o, n2, .inr ⟨dx, _, upd_same, by rw [upd_ne ne, upd_same], by show 1 ≤ 900; omega, q dx n ne⟩⟩
end
theorem al_of {K : PySem.W.Frag} {C B N N2 : Addr} {nm q nm2 q2 : Str} {bs bs2 bm : List Value} {sn sn2 : List Str} {sub sub2 : List Value} {ab ab2 : Bool} {col col2 : Option Bool} {dd dd2 : Option Addr} {k0 k1 k2 k3 k5 j0 j1 j2 j3 j5 : Option Value} {v : Value}
    (h : K.lookup C = some (excClassObj nm q C N bs (.ref B :: bm) true sn sub ab col dd k0 k1 k2 k3 k5 "ValueError.__new__")) (g : K.lookup B = some (excClassObj nm2 q2 B N2 bs2 bm true sn2 sub2 ab2 col2 dd2 j0 j1 j2 j3 j5 "ValueError.__new__")) (f : PySem.W.findIn K (.ref B) "__init__" = some (some v)) :
    ∃ cd bm, PySem.W.clsIn K C = some cd ∧ cd.mro = .ref C :: bm ∧ PySem.W.alongIn K "__init__" bm = some (some v) := by
  refine ⟨_, .ref B :: bm, by unfold PySem.W.clsIn; rw [h], rfl, ?_⟩
  have e : PySem.W.findIn K (.ref B) "__init__" = PySem.W.alongIn K "__init__" (.ref B :: bm) := by
    unfold PySem.W.findIn
    simp only [g]
  rw [← e]
  exact f
/-- what an except clause asks of an own error -/
theorem exm_of {K : PySem.W.Frag} {C B : Addr} {b : Bool} (h1 : PySem.W.subIn K (.ref B) (.type "BaseException") = some true) (hd : PySem.W.hasDictIn K B = true) (ht : PySem.W.typeIn K (.ref B) = some (.type "type")) (h4 : PySem.W.subIn K (.ref C) (.ref B) = some b) : PySem.W.exmOne K (.ref C) (.ref B) = some b := PySem.W.exm_ref h1 hd ht h4
theorem kit_self {K : PySem.W.Frag} {v : Value} : PySem.W.kitOne K v v = some true := by
  unfold PySem.W.kitOne
  rw [if_pos (beq_self_eq_true v)]
theorem kit_type {K : PySem.W.Frag} {C : Addr} {T : String} {b : Bool} (hm : PySem.W.kitMeta T = true) (h : PySem.W.subIn K (.ref C) (.type T) = some b) : PySem.W.kitOne K (.ref C) (.type T) = some b := by
  unfold PySem.W.kitOne PySem.W.kitCls
  rw [if_neg (by simp)]
  show (if PySem.W.kitMeta T = true then PySem.W.subIn K (.ref C) (.type T) else none) = some b
  rw [if_pos hm]
  exact h
theorem kit_own {K : PySem.W.Frag} {C B : Addr} {b : Bool} (ne : C ≠ B) (hc : PySem.W.isClsIn K B = true) (ht : PySem.W.typeIn K (.ref B) = some (.type "type")) (h : PySem.W.subIn K (.ref C) (.ref B) = some b) : PySem.W.kitOne K (.ref C) (.ref B) = some b := by
  have hc' : (PySem.W.clsIn K B).isSome = true := hc
  unfold PySem.W.kitOne PySem.W.kitCls
  rw [if_neg (by simp [ne])]
  show (if ((PySem.W.clsIn K B).isSome && PySem.W.typeIn K (.ref B) == some (.type "type")) = true then PySem.W.subIn K (.ref C) (.ref B) else none) = some b
  rw [hc', ht, if_pos (by rfl)]
  exact h
end DL

/-! The data layer, part M: the law's own promise, the end. -/
namespace DL
open PySem PySem.Spec PyProof.Rows L2
/-- the law's promise: a script of ints of at most 63, the answer True -/
def spLaw : DSp := fun ds _ Q _ => ∃ ns : List Int, ds = [.fl (ns.map D.int)] ∧ ns.length ≤ 63 ∧ ∀ H', Q (.bl true) H'
theorem fl_only {K : PySem.W.Frag} {H : Hp} {a : Addr} {xs : List V} (o : Only H) (s : SqL K H a xs) : Fl K H a xs := by
  rcases s with (s | s) | s
  · rcases o a with n | ⟨o', ys, e⟩
    · rw [n] at s; cases s
    · rw [e] at s; cases s
  · exact .inl s
  · exact .inr fun H' => .inr s
theorem spLaw_in {K : PySem.W.Frag} (H : Hp) (a : Addr) (ns : List Int) (hl : ns.length ≤ 63) (o : Only H) (s : SqL K H a (ns.map V.int)) : spOf K spLaw [.ref a] H (fun v _ => v = .bl true) fun _ _ _ => False :=
  ⟨[.fl (ns.map D.int)], (fun _ => none), (fun d _ => d = .bl true), (fun _ _ _ => False), ⟨_, _, rfl, ⟨a, _, rfl, fl_only o s, Reps.of_ints ns⟩, rfl⟩, (fun _ _ e => nomatch e), ⟨ns, rfl, hl, fun _ => rfl⟩, (fun z Hd' w H' e rz _ _ => by subst e; exact rz), (fun _ _ _ _ z _ _ => z.elim)⟩
theorem hcx {P : Program} {w : World} (H : Hp) (s : Shared) (e : Value) (s' : Shared) (h : L2N.CX P w [] H s (fun _ _ _ => False) e s') : False := by
  obtain ⟨_, _, _, _, _, _, _, _, _, _, _, _, z⟩ := h
  exact z
theorem walk_d {l : PySem.W.OpenLaw} {k : Nat} {q : Program} {loose : List Str} {XP : (Str → Option Value) → Heap → Prop} {YP : World → Heap → Prop} {d : DefRec} {K : Params → PySem.W.Frag} (hn : l.most = some 63) (hdf : d.params.defaults = []) (hr : Room k callerA)
    (hY : ∀ (w : World) (h : Heap), YP w h → (K w.params).In h)
    (F : ∀ (w : World) (mg : Str → Option Value) (fa : Addr) (h : Heap), (K w.params).In h → h.Ns mainGlobals mg → mg d.name = some (.ref fa) →
      ∃ fd : FuncData, (∀ (s : Shared) (u : Value), BindsTo s fd ⟨[u], []⟩ [("script", u)]) ∧ ∀ base : Heap, (K w.params).In base → base.Ns mainGlobals mg → DFn l.prog w (K w.params) mg base k fa fd ["script"] spLaw) :
    PySem.W.WalkO q loose XP YP l.row.toRowW d [] (fun f vs => PySem.call f vs) :=
  L2.walk_of (n := 63) (k := k) (x := "script") (CX := fun w => L2N.CX l.prog w) (sp := fun w => spOf (K w.params) spLaw) hn (by decide) hdf hr hY F (fun w H a ns hl o s => spLaw_in H a ns hl o s) fun w H s e s' h => hcx H s e s' h
end DL

/-! The data layer, part N: chained compares, truth, all, any, min, max, insert, xs[::-1]. -/
namespace DL
open PySem PySem.Spec PyProof.Rows L2

/-! ### a < b < c -/
def dChn (r r' : DR2) (a b c : DTE) : DTE := fun E σ H Q => a E σ H fun x H1 => b E σ H1 fun y H2 => r x y H2 fun z H3 => ∃ k, z = .bl k ∧ (if k = true then c E σ H3 fun w H4 => r' y w H4 Q else Q (.bl false) H3)
section
variable {X : Cx} {W : WX} {a b c e : Expr} {da db dc de : DTE} {pos : Pos}
theorem sim_chain {K : PySem.W.Frag} {r r' : R2} {rd rd' : DR2} {ta tb tc : TE} (o : SimR K r rd) (o' : SimR K r' rd') (a2 : SimE K W ta da) (b2 : SimE K W tb db) (c2 : SimE K W tc dc) : SimE K W (tChain r r' ta tb tc) (dChn rd rd' da db dc) := fun σd Hd σ H Qd Q E rs wx h w =>
  a2 σd Hd σ H _ _ E rs wx h fun x H1 v H1' q rx rs1 u1 => b2 σd H1 σ H1' _ _ E rs1 (wx.to u1) q fun y H2 u H2' q2 ry rs2 u2 =>
    o x y v u H2 H2' _ _ (rx.up u2 _ _) ry rs2.hp q2 fun z H3 t H3' q3 rz rh3 u3 => by
      obtain ⟨k, e, q3⟩ := q3
      subst e
      have rs3 := rs2.mono u3 rh3
      refine ⟨k, rz, ?_⟩
      cases k with
      | true =>
        rw [if_pos rfl] at q3 ⊢
        exact c2 σd H3 σ H3' _ _ E rs3 (wx.to ((u1.trans u2).trans u3)) q3 fun g H4 m H4' q4 rg rs4 u4 => o' y g u m H4 H4' Qd Q (ry.up (u3.trans u4) _ _) rg rs4.hp q4 ((w.to (((u1.trans u2).trans u3).trans u4)).v rs4)
      | false =>
        rw [if_neg Bool.false_ne_true] at q3 ⊢
        exact w _ H3 _ H3' q3 rfl rs3 ((u1.trans u2).trans u3)
theorem d_chain {op op' : CmpOp} {rd rd' : DR2} (ho : DOp X (compareOp op) rd) (ho' : DOp X (compareOp op') rd') (ha : DPE X W a da) (hb : DPE X W b db) (hc : DPE X W c dc) (hm : lastMarks [op, op'] [b, c] = false := by with_unfolding_all rfl) : DPE X W (.Compare a [op, op'] [b, c] pos) (dChn rd rd' da db dc) := by
  obtain ⟨r, o1, o2⟩ := ho
  obtain ⟨r', p1, p2⟩ := ho'
  obtain ⟨ta, a1, a2⟩ := ha
  obtain ⟨tb, b1, b2⟩ := hb
  obtain ⟨tc, c1, c2⟩ := hc
  exact ⟨_, pe_chain o1 p1 a1 b1 c1 hm, sim_chain o2 p2 a2 b2 c2⟩
theorem dt_chain {op op' : CmpOp} {rd rd' : DR2} (ho : DOp X (compareOp op) rd) (ho' : DOp X (compareOp op') rd') (ha : DPE X W a da) (hb : DPE X W b db) (hc : DPE X W c dc) (hm : lastMarks [op, op'] [b, c] = false := by with_unfolding_all rfl) : DPT X W (.Compare a [op, op'] [b, c] pos) (dTest (dChn rd rd' da db dc)) := by
  obtain ⟨r, o1, o2⟩ := ho
  obtain ⟨r', p1, p2⟩ := ho'
  obtain ⟨ta, a1, a2⟩ := ha
  obtain ⟨tb, b1, b2⟩ := hb
  obtain ⟨tc, c1, c2⟩ := hc
  exact ⟨_, pt_chain o1 p1 a1 b1 c1 hm, sim_test (sim_chain o2 p2 a2 b2 c2)⟩

/-! ### truth -/
def truAt (x : D) (H : DH) (Q : Bool → DH → Prop) : Prop := match x with
  | .non => Q false H
  | .bl b => Q b H
  | .int i => Q (i != 0) H
  | .str y => y.length ≤ sizeLine ∧ Q ((y.length : Int) != 0) H
  | .tup ds => Q (!ds.isEmpty) H
  | .fl ds => Q (!ds.isEmpty) H
  | .ref p => ∃ ds, H p = some (.lst ds) ∧ Q (!ds.isEmpty) H
  | .ty _ => False
def dTru (a : DTE) : DTT := fun E σ H Q => a E σ H fun x H1 => truAt x H1 Q
theorem reps_isEmpty {K : PySem.W.Frag} {H : Hp} {ds : List D} {vs : List V} (r : Reps K H ds vs) : ds.isEmpty = vs.isEmpty := by
  cases ds with
  | nil => cases (show vs = [] from r); rfl
  | cons d t =>
    obtain ⟨v, u, e, _⟩ := r
    subst e
    rfl
theorem tru_rep {K : PySem.W.Frag} {Hd : DH} {H : Hp} {x : D} {v : V} {Q : Bool → DH → Prop} (rh : RH K Hd H) (r : Rep K H x v) (q : truAt x Hd Q) : ∃ k, TruV K v H k ∧ Q k Hd := by
  unfold truAt at q
  split at q
  · cases (show v = _ from r); exact ⟨_, rfl, q⟩
  · cases (show v = _ from r); exact ⟨_, rfl, q⟩
  · cases (show v = _ from r); exact ⟨_, rfl, q⟩
  · cases (show v = _ from r); exact ⟨_, ⟨q.1, rfl⟩, q.2⟩
  · obtain ⟨a, xs, e, s, r1⟩ := r
    subst e
    exact ⟨_, .inr (.inl ⟨xs, s, rfl⟩), by rw [← reps_isEmpty r1]; exact q⟩
  · obtain ⟨a, xs, e, s, r1⟩ := r
    subst e
    exact ⟨_, .inl ⟨xs, s.sq, rfl⟩, by rw [← reps_isEmpty r1]; exact q⟩
  · cases (show v = _ from r)
    obtain ⟨ds, h, q⟩ := q
    obtain ⟨xs, e, r1⟩ := rh _ _ h
    exact ⟨_, .inl ⟨xs, SqL.of e, rfl⟩, by rw [← reps_isEmpty r1]; exact q⟩
  · exact q.elim
theorem dt_tru (h : DPE X W e de) (he : ∀ whole, isTrue e X.env whole = (do let v ← whole; standAt e.pos; holding [v] (truthy v)) := by intro _; rfl) : DPT X W e (dTru de) := by
  obtain ⟨t, h1, h2⟩ := h
  exact ⟨_, pt_truth h1 he, fun σd Hd σ H Qd Q E rs wx q k => h2 σd Hd σ H _ _ E rs wx q fun x H1 v H1' q1 rx rs1 u1 => by
    obtain ⟨b, e1, q2⟩ := tru_rep rs1.hp rx q1
    exact ⟨b, e1, k b H1 H1' q2 rs1 u1⟩⟩

/-! ### all, any, max, min, sum of a list -/
theorem Reps.bls {K : PySem.W.Frag} {H : Hp} {bs : List Bool} {vs : List V} (h : Reps K H (bs.map D.bl) vs) : vs = bs.map V.bl := Reps.to_map (f := D.bl) (g := V.bl) (fun _ _ q => q) bs vs h
def dAny1 (f : List Bool → Bool) : DRA := fun xs H Q => ∃ (p : Addr) (bs : List Bool), xs = [.ref p] ∧ H p = some (.lst (bs.map D.bl)) ∧ Q (.bl (f bs)) H
theorem sim_any {K : PySem.W.Frag} {f : List Bool → Bool} : SimC K (fun vs H Q => ∃ (a : Addr) (bs : List Bool), vs = [V.ref a] ∧ SqL K H a (bs.map V.bl) ∧ Q (.bl (f bs)) H) (dAny1 f) := fun xs vs Hd H Qd Q rx rh q k => by
  obtain ⟨p, bs, rfl, h, q⟩ := q
  obtain ⟨v, rfl, e⟩ := reps1 rx
  obtain ⟨us, e1, r1⟩ := rh _ _ h
  exact ⟨p, bs, by rw [show v = V.ref p from e], by rw [← r1.bls]; exact SqL.of e1, k.here q rfl rh⟩
theorem dcl_any1 (hc : X.calm = true) : DCl X (.builtin "any") (dAny1 fun bs => bs.any id) := ⟨_, cr_any hc, sim_any⟩
theorem dcl_all1 (hc : X.calm = true) : DCl X (.builtin "all") (dAny1 fun bs => bs.all id) := ⟨_, cr_all hc, sim_any⟩
def dMax1 : DRA := fun xs H Q => ∃ (p : Addr) (ns : List Int), xs = [.ref p] ∧ H p = some (.lst (ns.map D.int)) ∧ 0 < ns.length ∧ ∀ m, m ∈ ns → (∀ y, y ∈ ns → y ≤ m) → Q (.int m) H
def dMin1 : DRA := fun xs H Q => ∃ (p : Addr) (ns : List Int), xs = [.ref p] ∧ H p = some (.lst (ns.map D.int)) ∧ 0 < ns.length ∧ ∀ m, m ∈ ns → (∀ y, y ∈ ns → m ≤ y) → Q (.int m) H
theorem dcl_max1 (hc : X.calm = true) : DCl X (.builtin "max") dMax1 := ⟨_, cr_max hc, fun xs vs Hd H Qd Q rx rh q k => by
  obtain ⟨p, ns, rfl, h, hl, q⟩ := q
  obtain ⟨v, rfl, e⟩ := reps1 rx
  obtain ⟨us, e1, r1⟩ := rh _ _ h
  exact ⟨p, ns, by rw [show v = V.ref p from e], by rw [← r1.ints]; exact SqL.of e1, hl, fun m h1 h2 => k.here (q m h1 h2) rfl rh⟩⟩
theorem dcl_min1 (hc : X.calm = true) : DCl X (.builtin "min") dMin1 := ⟨_, cr_min hc, fun xs vs Hd H Qd Q rx rh q k => by
  obtain ⟨p, ns, rfl, h, hl, q⟩ := q
  obtain ⟨v, rfl, e⟩ := reps1 rx
  obtain ⟨us, e1, r1⟩ := rh _ _ h
  exact ⟨p, ns, by rw [show v = V.ref p from e], by rw [← r1.ints]; exact SqL.of e1, hl, fun m h1 h2 => k.here (q m h1 h2) rfl rh⟩⟩
def dSum1 : DRA := fun xs H Q => ∃ (p : Addr) (ns : List Int), xs = [.ref p] ∧ H p = some (.lst (ns.map D.int)) ∧ Q (.int ns.sum) H
theorem dcl_sum1 (hc : X.calm = true) : DCl X (.builtin "sum") dSum1 := ⟨_, cr_sum hc, fun xs vs Hd H Qd Q rx rh q k => by
  obtain ⟨p, ns, rfl, h, q⟩ := q
  obtain ⟨v, rfl, e⟩ := reps1 rx
  obtain ⟨us, e1, r1⟩ := rh _ _ h
  exact ⟨p, ns, by rw [show v = V.ref p from e], by rw [← r1.ints]; exact SqL.of e1, k.here q rfl rh⟩⟩

/-! ### insert, [::-1] -/
theorem sl_list_insert : Slot "list" "insert" "list.insert" := PySem.F.slot_list_insert
theorem ty_list_insert : typeOf (.builtin "list.insert") = pure (.type "method_descriptor") := PySem.F.type_list_insert
def dIns : D → List D → DH → DK → Prop := fun x xs H Q => ∃ p i y ds, x = .ref p ∧ xs = [.int i, y] ∧ H p = some (.lst ds) ∧ ds.length < sizeLine ∧ 0 ≤ i ∧ i < 2 ^ 63 ∧ Q .non (put H p (.lst (ds.take i.toNat ++ [y] ++ ds.drop i.toNat)))
theorem dmt_insert : DMt X "list.insert" dIns := ⟨_, mt_insert, fun x xs v vs Hd H Qd Q rx rxs rh q k => by
  obtain ⟨a, i, y, ds, rfl, rfl, h, hz, h0, h1, q⟩ := q
  obtain ⟨u1, u, ev, r1, ry⟩ := reps2 rxs
  obtain ⟨ws, e1, rw'⟩ := rh _ _ h
  have up : Up H (upd H a (.lst (ws.take i.toNat ++ [u] ++ ws.drop i.toNat))) := Up.put e1 trivial
  have rh2 := (rh.write (u := .lst (ws.take i.toNat ++ [u] ++ ws.drop i.toNat)) (x := .lst (ds.take i.toNat ++ [y] ++ ds.drop i.toNat)) h ⟨_, upd_same, (((rw'.up up _ _).take _).app (Reps.one (ry.up up _ _))).app ((rw'.up up _ _).drop _)⟩).1
  exact ⟨a, ws, i, u, rx, by rw [ev, show u1 = V.int i from r1], e1, by rw [rw'.len]; exact hz, h0, h1, k _ _ _ _ q rfl rh2 up⟩⟩
def dRevL (a : DTE) : DTE := fun E σ H Q => a E σ H fun x H1 => ∃ p ds, x = .ref p ∧ H1 p = some (.lst ds) ∧ ∀ p', H1 p' = none → Q (.ref p') (put H1 p' (.lst ds.reverse))
theorem d_revL {k : Nat} {p1 p2 p3 : Pos} (h : DPE X W e de) : DPE X W (.Subscript e (.Slice none none (some (.UnaryOp .USub (.Constant (.int 1) k p1) p2)) p3) pos) (dRevL de) := by
  obtain ⟨t, h1, h2⟩ := h
  exact ⟨_, pe_revL h1, fun σd Hd σ H Qd Q E rs wx q w => h2 σd Hd σ H _ _ E rs wx q fun x H1 v H1' q1 rx rs1 u1 => by
    obtain ⟨p, ds, rfl, hp, q1⟩ := q1
    obtain ⟨us, e1, r1⟩ := rs1.hp _ _ hp
    exact ⟨p, us, rx, SqL.of e1, fun p' hp' => w _ _ _ _ (q1 p' (rs1.hp.fresh hp')) rfl (rs1.mono (Up.new hp') (rs1.hp.new hp' ⟨_, upd_same, (r1.up (Up.new hp') _ _).rev⟩)) (u1.trans (Up.new hp'))⟩⟩
/-- a global that is an int -/
theorem d_globI {x : Str} {i : Int} (hg : Gl X x) (hm : ∃ t, X.mg x = some (.int i t)) (hd : (x == ("__debug__" : Str)) = false := by decide) : DPE X W (.Name x pos) (dC (.int i)) := by
  obtain ⟨t, hm⟩ := hm
  exact d_glob (v := .int i) hg hm ⟨t, rfl⟩ (fun _ => rfl) hd
end
end DL

/-! The data layer, part O: enumerate of a tuple and of a list. -/
namespace DL
open PySem PySem.Spec PyProof.Rows L2
open AutoSeq1 (wpAny_loadPart')

theorem meets_enumerate_newT (l : Addr) (items : Array Value) (n : Nat) (dct : Option Addr) (sl : Array (Option Value)) :
    Meets (Builtin.«enumerate.__new__» ⟨[.type "enumerate", .ref l], []⟩) (fun _ R s => s.heap.get? l = some { cls := .type "tuple", dict := dct, data := .seq items n, slots := sl } ∧
      R (.ok (.ret (.ref (s.heap.push { cls := .type "tuple_iterator", data := .fields #[.ref l, .int 0 0] }).objs.size)))
        { s with heap := (s.heap.push { cls := .type "tuple_iterator", data := .fields #[.ref l, .int 0 0] }).push { cls := .type "enumerate", data := .fields #[.none, .bool false, .ref s.heap.objs.size, rawInt 0, .none, .none] } }) :=
  .of_wp fun prog w A R s h => by
    obtain ⟨hp, g, d, tk, os⟩ := s; obtain ⟨hl, h⟩ := h
    have hsub := sub_enumerate
    have hL : Heap.IsTuple (Shared.heap ⟨hp, g, d, tk, os⟩) l items := ⟨_, hl, rfl, n, rfl⟩
    wp_walk using wpAny_loadPart' hl
    refine wpAny_stack_any fun st => wpAny_pure ?_
    split
    · rename_i c _ _ _ _ _
      cases (c == Value.type "enumerate")
      · wp_walk using wpAny_loadPart' hl, wpAny_pyIter_tuple hL
        exact ⟨_, rfl, h⟩
      · wp_walk using wpAny_loadPart' hl, wpAny_pyIter_tuple hL
        exact ⟨_, rfl, h⟩
    · wp_walk using wpAny_loadPart' hl, wpAny_pyIter_tuple hL
      exact ⟨_, rfl, h⟩
theorem call_enumerate_tuple {prog : Program} {w : World} {A : Around} {E : Value → Shared → Prop} {s : Shared} {l : Addr} {items : Array Value} {Q : Value → Shared → Prop} (hL : s.heap.IsTuple l items)
    (h : ∀ h', IsEnum h' (s.heap.objs.size + 1) s.heap.objs.size 0 .none → h'.IsTupleIter s.heap.objs.size l 0 → h'.objs.size = s.heap.objs.size + 2 →
      (∀ b o, s.heap.get? b = some o → h'.get? b = some o) → Q (.ref (s.heap.objs.size + 1)) { s with heap := h' }) :
    wpAny (model prog w) A (call (.type "enumerate") [.ref l]) Q E s := by
  obtain ⟨⟨c, dct, dt, sl⟩, hl, hc, n, hd⟩ := hL
  replace hc : c = .type "tuple" := hc
  replace hd : dt = .seq items n := hd
  subst hc hd
  refine callType_new F.called_enumerate (by decide) (F.typeCall_enumerate_1 _) (F.newCall_enumerate_1 _) (fun obj => F.args_object_init_2 obj _) F.entry_enumerate_new
    (meets_enumerate_newT l items n dct sl) ⟨hl, ?_⟩
  have hz : (s.heap.push { cls := .type "tuple_iterator", data := .fields #[.ref l, .int 0 0] }).objs.size = s.heap.objs.size + 1 := Heap.size_push ..
  show _ ∧ _
  rw [hz]
  have he : IsEnum ((s.heap.push { cls := .type "tuple_iterator", data := .fields #[.ref l, .int 0 0] }).push
      { cls := .type "enumerate", data := .fields #[.none, .bool false, .ref s.heap.objs.size, rawInt 0, .none, .none] }) (s.heap.objs.size + 1) s.heap.objs.size 0 .none := by
    have := Heap.get?_push_size (s.heap.push { cls := .type "tuple_iterator", data := .fields #[.ref l, .int 0 0] })
      (o := { cls := .type "enumerate", data := .fields #[.none, .bool false, .ref s.heap.objs.size, rawInt 0, .none, .none] }) rfl
    rw [hz] at this; exact this
  refine ⟨⟨_, he, rfl⟩, h _ he ⟨_, Heap.get?_push_of_some _ (Heap.get?_push_size _ rfl), rfl, rfl⟩ (by rw [Heap.size_push, hz]) fun b o x => Heap.get?_push_of_some _ (Heap.get?_push_of_some _ x)⟩
/-- the tuple at a, each item in a new pair -/
def IteT (K : PySem.W.Frag) (a : Addr) : It :=
  ⟨fun i H => ∃ (xs : List V) (x : V), SqT K H a xs ∧ xs[i]? = some x, fun i H v H' => ∃ T x, v = .ref T ∧ H T = none ∧ H' = upd H T (.tup [.int (i : Nat), x]) ∧ ∀ xs, SqT K H a xs → xs[i]? = some x, fun i H => ∃ xs : List V, SqT K H a xs ∧ xs.length ≤ i⟩
theorem tup_ne {h : Heap} {e it a : Addr} {c : Int} {old : Value} {its : Array Value} (he : IsEnum h e it c old) (p : h.IsTuple a its) : e ≠ a := fun z => by
  obtain ⟨o, ho, hc, _⟩ := p
  rw [← z, show h.get? e = _ from he] at ho
  have e := Option.some.inj ho
  rw [← e] at hc
  injection hc with hc
  exact absurd hc (by decide)
theorem tupit_ne {h : Heap} {it a : Addr} {i : Nat} {its : Array Value} (q : h.IsTupleIter it a i) (p : h.IsTuple a its) : a ≠ it := fun z => by
  obtain ⟨o, ho, hc, _⟩ := p
  obtain ⟨o', ho', hc', _⟩ := q
  rw [← z, ho] at ho'
  rw [← Option.some.inj ho', hc] at hc'
  injection hc' with hc'
  exact absurd hc' (by decide)
theorem enum_end {prog : Program} {w : World} {A : Around} {E : Value → Shared → Prop} {s : Shared} {e it t : Addr} {i : Nat} {c : Int} {items : Array Value} {old : Value} {Q : Option Value → Shared → Prop} (hh : A.in1.handled = none) (he : IsEnum s.heap e it c old) (hit : s.heap.IsTupleIter it t i) (ht : s.heap.IsTuple t items) (hx : items[i]? = none)
    (hQ : ∀ h', Heap.ExtBut it s.heap h' → Q none { s with heap := h' }) : wpAny (model prog w) A (pyNext (.ref e)) Q E s := by
  have hT : s.TypeIs (.ref e) "enumerate" := ⟨_, he, rfl⟩
  unfold pyNext
  refine wpAny_bind (wpAny_attempt (wpAny_callSpecial?_slot (name := Str.ofString "__next__") hT F.slot_enumerate_next
    (wpAny_call_entry F.slot_enumerate_next hT F.entry_enumerate_next ?_ (F.args_enumerate_next_1 _))))
  show wpAny _ _ (field (.ref e) 2 >>= _) _ _ _
  refine wpAny_bind (wpAny_field he rfl (x := .ref it) rfl ?_)
  refine wpAny_bind (wpAny_nextOf_tuple_end hh hit ht hx fun h' x he' hx' => ?_)
  obtain ⟨o, ho, hc⟩ := hx'
  refine wpAny_bind (wpAny_isInstance (T := "StopIteration") (b := true) ⟨o, ho, hc⟩ isSubtype_stop ?_)
  exact wpAny_pure (hQ _ he')
theorem turn_enumT {P : Program} {w : World} {K : PySem.W.Frag} {elts : List Expr} {kk : Nat} {tpos : Pos} (a e it : Addr) :
    Turn P w K (.Tuple elts kk tpos) (IteT K a) [e, it] e (fun i h => (∃ old, IsEnum h e it ((i : Nat) : Int) old) ∧ h.IsTupleIter it a i ∧ e ≠ it) where
  mem := by simp
  obj := fun i h st b hb => by
    obtain ⟨⟨old, he⟩, ⟨o, ho, hc, hd⟩, _⟩ := st
    have e' : b = e ∨ b = it := by simpa using hb
    rcases e' with z | z
    · rw [z]; exact ⟨_, he, fun v q => nomatch q⟩
    · rw [z]; exact ⟨o, ho, fun v q => by rw [hd] at q; cases q⟩
  keep := fun i h h' st k => let ⟨⟨old, he⟩, hi, hne⟩ := st; ⟨⟨old, k e (by simp) _ he⟩, hi.at fun o q => k it (by simp) o q, hne⟩
  item := by
    intro X hP hw hK hc i pins s σ H E I hf st hg
    subst hP hw hK
    obtain ⟨⟨old, he⟩, hit, hne⟩ := st
    obtain ⟨xs, x, hq, hx⟩ := hg
    obtain ⟨its, rv, p, hz⟩ := I.tuple hq
    have p : s.heap.IsTuple a its.toArray := p
    obtain ⟨u, hu, ru⟩ := rv.get hx
    have hel : e < s.heap.objs.size := Heap.lt_size he
    have hil : it < s.heap.objs.size := by obtain ⟨_, q, _⟩ := hit; exact Heap.lt_size q
    have hil2 : i < its.toArray.size := by
      have := (List.getElem?_eq_some_iff.mp hu).1
      simpa using this
    refine wpAny_pyNext_enum_itemD (Draws.tuple (A := X.A.in1) (show X.A.in1.handled = none from I.ok.hd hc) it a (tupit_ne hit p) its.toArray) he ⟨hit, p⟩ hil2 hne (by simp [hne, tup_ne he p]) fun y h' tk hy ho hit' hT hsz hk => ?_
    have hy' : its.toArray[i]? = some y := hy
    have hyu : y = u := by
      rw [List.getElem?_toArray, hu] at hy'
      exact (Option.some.inj hy').symm
    subst hyu
    refine ⟨_, rfl, wpAny_letOwnedTupleGo_enum (s := { s with heap := h', toks := tk + 1 }) ho fun h'' he' sb => ?_⟩
    have hT2 : h''.get? s.heap.objs.size = some { cls := .type "tuple", data := .seq #[.int i tk, y] } := (sb.2 _ (Nat.ne_of_gt hel)).trans hT
    have new : ObjOk X.prog X.w (upd H s.heap.objs.size (.tup [.int (i : Nat), x])) h'' s.heap.objs.size (.tup [.int (i : Nat), x]) :=
      ⟨by show 2 ≤ sizeLine; decide, [.int i tk, y], .cons ⟨_, rfl⟩ (.cons ru .nil), ⟨_, hT2, rfl, _, rfl⟩⟩
    have I1 : Inv X pins σ (upd H s.heap.objs.size (.tup [.int (i : Nat), x])) { s with heap := h'', toks := tk + 1 } :=
      I.turnedNew (ch := [e, it]) (fun b ob hb q => (sb.2 b (fun z => hb (by simp [z]))).trans (hk b ob (fun z => hb (by simp [z])) (fun z => hb (by simp [z])) q)) hf (Nat.le_refl _) new
    refine ⟨.ref s.heap.objs.size, _, I1, rfl, ⟨_, x, rfl, I.hok.fresh (Nat.le_refl _), rfl, fun ys hy => by rw [I.tuple_inj hy hq]; exact hx⟩, ⟨⟨y, ?_⟩, hit'.1.at fun o q => (sb.2 it (Ne.symm hne)).trans q, hne⟩, fun b hb => ?_⟩
    · have e1 : ((i + 1 : Nat) : Int) = (i : Int) + 1 := by omega
      rw [e1]; exact he'
    · have hb' : b < s.heap.objs.size := by
        have e' : b = e ∨ b = it := by simpa using hb
        rcases e' with z | z
        · rw [z]; exact hel
        · rw [z]; exact hil
      rw [upd_ne (Nat.ne_of_lt hb')]
      exact (hf b hb).1
  done := by
    intro X hP hw hK hc i pins s σ H E I hf st hg
    subst hP hw hK
    obtain ⟨⟨old, he⟩, hit, hne⟩ := st
    obtain ⟨xs, hq, hx⟩ := hg
    obtain ⟨its, rv, p, hz⟩ := I.tuple hq
    have p : s.heap.IsTuple a its.toArray := p
    obtain ⟨f0, f1, f2, f3, f4, f5⟩ := hf it (by simp)
    have hl := rv.length
    exact enum_end (show X.A.in1.handled = none from I.ok.hd hc) he hit p (by simp; omega) fun h' eb => ⟨rfl, I.turned (t' := s.toks) (fun b o hb q => eb b o hb q) f0 f1 f3 f4 f5⟩
  self := fun A i s Q E st h => let ⟨⟨_, he⟩, _⟩ := st; wpAny_pyIter_enum he h
def iEnumT (K : PySem.W.Frag) (ta : TA) : TI := fun σ H R => ta σ H fun vs H1 => ∃ a xs, vs = [.ref a] ∧ ((SqL K H1 a xs ∧ R (Ite K a) H1) ∨ (SqT K H1 a xs ∧ R (IteT K a) H1))
theorem pi_enumT {X : Cx} {e : Expr} {ta : TA} {p pos tpos : Pos} {elts : List Expr} {kk : Nat} (hg : Gl X "enumerate") (hm : X.mg "enumerate" = none) (ha : PA X [e] ta) (hs : starEach [e] X.env = [(false, eval e X.env)] := by rfl) :
    PI X (.Tuple elts kk tpos) (.Call (.Name "enumerate" p) [e] [] pos) (iEnumT X.K ta) := by
  refine ⟨fun pins s σ H R I h => ?_⟩
  refine Call_ (ld_blt I hg hm boot_enumerate (PyProof.Rows.callWith_type1 (thn (ha.run pos pins s σ H _ I h) fun us s1 ⟨vs, H1, I1, r1, q1⟩ => ?_) hs rfl))
  obtain ⟨a, xs, ex, hq⟩ := q1
  subst ex
  cases r1 with
  | cons r rr =>
    cases rr
    cases r
    have fp : ∀ b ∈ [s1.heap.objs.size + 1, s1.heap.objs.size], FpOk X pins H1 b := fun b hb => by
      have e' : b = s1.heap.objs.size + 1 ∨ b = s1.heap.objs.size := by simpa using hb
      have hle : s1.heap.objs.size ≤ b := by
        rcases e' with z | z
        · rw [z]; exact Nat.le_add_right _ _
        · rw [z]; exact Nat.le_refl _
      exact I1.fpOk hle (I1.hok.fresh hle)
    rcases hq with ⟨hq, q⟩ | ⟨hq, q⟩
    · obtain ⟨its, rv, p', hz⟩ := I1.list hq
      refine call_enumerate_list p'.isList fun h' he hit hsz hk => wpAny_pyIter_enum he ?_
      have I2 : Inv X pins σ H1 { s1 with heap := h' } := I1.kept (t' := s1.toks) hk
      exact ⟨s1.heap.objs.size + 1, [s1.heap.objs.size + 1, s1.heap.objs.size], _, _, H1, rfl, I2, turn_enum a (s1.heap.objs.size + 1) s1.heap.objs.size, ⟨⟨.none, he⟩, hit, Nat.succ_ne_self _⟩, fp, q⟩
    · obtain ⟨its, rv, p', hz⟩ := I1.tuple hq
      refine call_enumerate_tuple (show s1.heap.IsTuple a its.toArray from p') fun h' he hit hsz hk => wpAny_pyIter_enum he ?_
      have I2 : Inv X pins σ H1 { s1 with heap := h' } := I1.kept (t' := s1.toks) hk
      exact ⟨s1.heap.objs.size + 1, [s1.heap.objs.size + 1, s1.heap.objs.size], _, _, H1, rfl, I2, turn_enumT a (s1.heap.objs.size + 1) s1.heap.objs.size, ⟨⟨.none, he⟩, hit, Nat.succ_ne_self _⟩, fp, q⟩
/-! ### by values -/
def jEnum (ds : List D) : DIt := ⟨fun i _ => ds.length ≤ i, fun i _ x => ∃ d, ds[i]? = some d ∧ x = .tup [.int (i : Int), d]⟩
def jEnumL (a : Addr) : DIt := ⟨fun i H => ∃ ds, H a = some (.lst ds) ∧ ds.length ≤ i, fun i H x => ∃ ds d, H a = some (.lst ds) ∧ ds[i]? = some d ∧ x = .tup [.int (i : Int), d]⟩
def enumAt (xs : List D) (H : DH) (R : DIt → DH → Prop) : Prop := match xs with
  | [.tup ds] => R (jEnum ds) H
  | [.fl ds] => R (jEnum ds) H
  | [.ref p] => (∃ ds, H p = some (.lst ds)) ∧ R (jEnumL p) H
  | _ => False
def wEnum (a : DTA) : DTI := fun E σ H R => a E σ H fun xs H1 => enumAt xs H1 R
theorem rep_pair {K : PySem.W.Frag} {H : Hp} {T : Addr} {i : Nat} {x : V} {d : D} (hT : H T = none) (r : Rep K H d x) : Rep K (upd H T (.tup [.int (i : Nat), x])) (.tup [.int (i : Int), d]) (.ref T) :=
  ⟨T, _, rfl, SqT.of upd_same, ⟨_, _, rfl, rfl, _, _, rfl, r.up (Up.new hT) _ _, rfl⟩⟩
theorem sim_enumT {K : PySem.W.Frag} {H0 : Hp} {q : Addr} {xs : List V} {ds : List D} (s : SqT K H0 q xs) (r : Reps K H0 ds xs) : SimIt K H0 (IteT K q) (jEnum ds) := ⟨fun i Hd H u rh h => ⟨xs, u.sqT s, by rw [r.len]; exact h⟩, fun i Hd H x u rh h => by
  obtain ⟨d, hd, rfl⟩ := h
  obtain ⟨v, e, rv⟩ := r.get hd
  refine ⟨⟨xs, v, u.sqT s, e⟩, fun w H' y => ?_⟩
  obtain ⟨T, z, e0, hT, e1, y⟩ := y
  subst e0 e1
  have e2 := y xs (u.sqT s)
  rw [e] at e2
  cases e2
  exact ⟨rep_pair hT (rv.up u _ _), rh.hid hT, Up.new hT⟩⟩
theorem sim_enumF {K : PySem.W.Frag} {H0 : Hp} {q : Addr} {xs : List V} {ds : List D} (s : Fl K H0 q xs) (r : Reps K H0 ds xs) : SimIt K H0 (Ite K q) (jEnum ds) := ⟨fun i Hd H u rh h => ⟨xs, (u.fl s).sq, by rw [r.len]; exact h⟩, fun i Hd H x u rh h => by
  obtain ⟨d, hd, rfl⟩ := h
  obtain ⟨v, e, rv⟩ := r.get hd
  refine ⟨⟨xs, v, (u.fl s).sq, e⟩, fun w H' y => ?_⟩
  obtain ⟨T, z, e0, hT, e1, y⟩ := y
  subst e0 e1
  have e2 := y xs (u.fl s).sq
  rw [e] at e2
  cases e2
  exact ⟨rep_pair hT (rv.up u _ _), rh.hid hT, Up.new hT⟩⟩
theorem sim_enumL {K : PySem.W.Frag} {H0 : Hp} {q : Addr} : SimIt K H0 (Ite K q) (jEnumL q) := ⟨fun i Hd H u rh h => by
  obtain ⟨ds, h1, h2⟩ := h
  obtain ⟨xs, e, r⟩ := rh _ _ h1
  exact ⟨xs, SqL.of e, by rw [r.len]; exact h2⟩, fun i Hd H x u rh h => by
  obtain ⟨ds, d, h1, h2, rfl⟩ := h
  obtain ⟨xs, e, r⟩ := rh _ _ h1
  obtain ⟨v, e1, rv⟩ := r.get h2
  refine ⟨⟨xs, v, SqL.of e, e1⟩, fun w H' y => ?_⟩
  obtain ⟨T, z, e0, hT, e2, y⟩ := y
  subst e0 e2
  have e3 := y xs (SqL.of e)
  rw [e1] at e3
  cases e3
  exact ⟨rep_pair hT rv, rh.hid hT, Up.new hT⟩⟩
theorem di_enum {X : Cx} {W : WX} {e : Expr} {dA : DTA} {p pos tpos : Pos} {elts : List Expr} {kk : Nat} (hg : Gl X "enumerate") (hm : X.mg "enumerate" = none) (ha : DPA X W [e] dA) (hs : starEach [e] X.env = [(false, eval e X.env)] := by rfl) : DPI X W (.Tuple elts kk tpos) (.Call (.Name "enumerate" p) [e] [] pos) (wEnum dA) := by
  obtain ⟨t, h1, h2⟩ := ha
  refine ⟨_, pi_enumT hg hm h1 hs, fun σd Hd σ H Rd R E rs wx q k => h2 σd Hd σ H _ _ E rs wx q fun xs Hd' vs H' q' rx rs' up => ?_⟩
  unfold enumAt at q'
  split at q'
  · obtain ⟨v, ev, a, us, e1, s1, r1⟩ := reps1 rx
    exact ⟨a, us, by rw [ev, e1], .inr ⟨s1, k _ Hd' _ H' q' (sim_enumT s1 r1) rs' up⟩⟩
  · obtain ⟨v, ev, a, us, e1, s1, r1⟩ := reps1 rx
    exact ⟨a, us, by rw [ev, e1], .inl ⟨s1.sq, k _ Hd' _ H' q' (sim_enumF s1 r1) rs' up⟩⟩
  · rename_i p
    obtain ⟨⟨ds, hd⟩, q'⟩ := q'
    obtain ⟨v, ev, e1⟩ := reps1 rx
    obtain ⟨us, e2, r⟩ := rs'.hp _ _ hd
    exact ⟨p, us, by rw [ev, show v = V.ref p from e1], .inl ⟨SqL.of e2, k _ Hd' _ H' q' sim_enumL rs' up⟩⟩
  · exact q'.elim
end DL

/-! The data layer, part P: try with several clauses, each with or without a name. -/
namespace L2N
open PySem PySem.Spec PyProof.Rows L2
/-- what the clauses wish of an exception of the body, one after the other -/
def wM (K : PySem.W.Frag) (Wout : WX) (D : Ends) : List (Value × Option Nat × (Addr → Value → Option Addr → TS)) → WX
  | [] => Wout
  | (c, none, ts) :: r => fun cls d σ H => ∃ b, PySem.W.exmOne K cls c = some b ∧ (b = true → ∀ a, H a = none → ts a cls d D σ H) ∧ (b = false → wM K Wout D r cls d σ H)
  | (c, some i, ts) :: r => fun cls d σ H => ∃ b, PySem.W.exmOne K cls c = some b ∧ (b = true → ∀ a, H a = none → ts a cls d { nx := fun σ' H' => D.nx (σ'.set i none) H', rt := D.rt, bk := fun σ' H' => D.bk (σ'.set i none) H', ct := fun σ' H' => D.ct (σ'.set i none) H' } (σ.set i (some (.ref a))) H) ∧ (b = false → wM K Wout D r cls d σ H)
inductive HdsM (X : Cx) : List ExceptHandler → List (Value × Option Nat × (Addr → Value → Option Addr → TS)) → Prop
  | nil : HdsM X [] []
  | cons {x : Str} {c : Value} {ts : Addr → Value → Option Addr → TS} {b₀ : Stmt} {suite : List Stmt} {np pos' : Pos} {hds : List ExceptHandler} {l : List (Value × Option Nat × (Addr → Value → Option Addr → TS))} (hc : Names X x c)
      (hsu : ∀ (a : Addr) (oe : Obj) (cls : Value) (d : Option Addr) (pn : List (Addr × Obj)), Zn cls d oe → (∃ vs, oe.data = .fields vs) → PSs (X.suite a ((a, oe) :: pn)) (b₀ :: suite) (ts a cls d)) (r : HdsM X hds l) :
      HdsM X (.ExceptHandler (some (.Name x np)) none (b₀ :: suite) pos' :: hds) ((c, none, ts) :: l)
  | named {x n : Str} {i : Nat} {c : Value} {ts : Addr → Value → Option Addr → TS} {b₀ : Stmt} {suite : List Stmt} {np pos' : Pos} {hds : List ExceptHandler} {l : List (Value × Option Nat × (Addr → Value → Option Addr → TS))} (hi : X.N[i]? = some n) (hln : X.env.kindOf n = some .local) (hc : Names X x c)
      (hsu : ∀ (a : Addr) (oe : Obj) (cls : Value) (d : Option Addr) (pn : List (Addr × Obj)), Zn cls d oe → (∃ vs, oe.data = .fields vs) → PSs (X.suite a ((a, oe) :: pn)) (b₀ :: suite) (ts a cls d)) (r : HdsM X hds l) :
      HdsM X (.ExceptHandler (some (.Name x np)) (some n) (b₀ :: suite) pos' :: hds) ((c, some i, ts) :: l)
section
variable {X : Cx} {body : List Stmt} {h₀ : ExceptHandler} {hds : List ExceptHandler} {l : List (Value × Option Nat × (Addr → Value → Option Addr → TS))} {pos : Pos} {tb : WX → TS} {Wout : WX}
theorem ps_try_M (hs : X.stack = X.env :: X.outer) (hf : X.env.frame = some X.env.locals) (hN : X.N.Nodup) (tk : Takes X Wout)
    (hb : ∀ (W : WX) (pn : List (Addr × Obj)) (xe : Value → Shared → Prop), Takes (X.tr pn xe) W → PassesOwn (model X.prog X.w) X.A X.env xe → PSs (X.tr pn xe) body (tb W))
    (hh : HdsM X (h₀ :: hds) l) : PS X (.Try body (h₀ :: hds) [] [] pos) (fun D σ H => tb (wM X.K Wout D l) D σ H) := by
  refine ⟨fun pins s σ H D I h => ?_⟩
  have ok := I.ok
  have hfr : X.A.frames = some (X.env :: X.outer) := by rw [ok.frames, hs]
  refine wpAny_Try_except ?_
  refine wpAny_mono ((hb (wM X.K Wout D l) (X.pn ++ pins) (fun e s₁ => wpAny (model X.prog X.w) X.A (noteFrame e X.env) (fun _ s₂ => wpAny (model X.prog X.w) X.A (setFlight e none) (fun _ s₃ =>
    wpAny (model X.prog X.w) X.A (handleBy e X.env (h₀ :: hds)) (SP X pins D) X.xe s₃) X.xe s₂) X.xe s₁) (fun u s' xx => ?_) PassesOwn.looking).run [] s σ H D (I.toTry _) h) (fun f s1 hsp => ?_) (fun e s1 he => he)
  · -- the catch
    obtain ⟨a, B, sI, pins', σ', H', cls, d, rfl, J', nb, up, sky, na, os, ag, w⟩ := xx
    have J : Inv X pins σ' H' sI := J'.ofTry ok
    have sky' : Sky B (X.env :: X.outer) a (Zn cls d) X.env.locals s'.heap := by rw [← hs]; exact sky
    show wpAny (model X.prog X.w) X.A (noteFrame (.ref a) X.env) _ _ _
    refine Sky.land Zn.steady hfr hf sky' fun h3 fl3 up3 => ?_
    have J3 : Inv X pins σ' H' { s' with heap := h3 } := J.landed nb fl3.1 (up.trans up3) os ag
    obtain ⟨oe3, vs3, he3, hz3, hd3⟩ := fl3.there
    have notFr : ∀ {h : Heap} {o : Obj} {vs : Array Value}, h.FunFrames B (X.env :: X.outer) → h.get? a = some o → o.data = .fields vs → a ∉ frs (X.env :: X.outer) := fun {h o vs} ff e dd hm => by
      obtain ⟨_, o', e', hnf⟩ := ff.mem hm
      rw [e] at e'; cases e'
      exact hnf _ dd
    have nfr := notFr fl3.2.2.1 he3 hd3
    have nL : a ≠ X.env.locals := fun z => nfr (List.mem_filterMap.mpr ⟨X.env, List.mem_cons_self, by rw [hf, z]⟩)
    have nF : a ∉ X.fs := fun hm => by
      obtain ⟨e, he, q⟩ := List.mem_filterMap.mp hm
      exact nfr (List.mem_filterMap.mpr ⟨e, List.mem_cons_of_mem _ he, q⟩)
    have S3 := J3.suite he3 hd3 na nL nF
    have LT : PySem.W.Looks (model X.prog X.w) h3 (typeOf (.ref a)) cls := fun A Q E s k q => wpAny_typeOf_ref (k _ _ he3) (by rw [hz3.1]; exact q)
    have test : ∀ {x : Str} {np : Pos} {c : Value}, Names X x c → ∀ {Q : Value → Shared → Prop} {E : Value → Shared → Prop}, Q c { s' with heap := h3 } → wpAny (model X.prog X.w) (X.A.mark (some (.ref a))) (eval (.Name x np) X.env) Q E { s' with heap := h3 } := fun {x np c} hc {Q E} q => by
      obtain ⟨hg, hdbg, hm | ⟨hm, hv, hnn⟩⟩ := hc
      · exact ld_glob (X := X.suite a ((a, oe3) :: (X.pn ++ pins))) S3 hg hm q hdbg
      · exact ld_blt (X := X.suite a ((a, oe3) :: (X.pn ++ pins))) S3 hg hm hv q hnn hdbg
    have go : ∀ {hds' : List ExceptHandler} {l' : List (Value × Option Nat × (Addr → Value → Option Addr → TS))}, HdsM X hds' l' → wM X.K Wout D l' cls d σ' H' →
        wpAny (model X.prog X.w) X.A (handleBy (.ref a) X.env hds') (SP X pins D) X.xe { s' with heap := h3 } := by
      intro hds' l' hk
      induction hk with
      | nil =>
        intro w
        refine wpAny_handleBy_nil ?_
        obtain ⟨k1, k2, k3, oe, vs, T, oT, ts', he, hz, hd, h1, hr⟩ := id fl3
        unfold PySem.passOn
        refine wpAny_bind (wpAny_field he hd h1 ?_)
        rw [if_neg (show ¬ ((Value.ref T == Value.none) = true) from by simp)]
        have fin : wpAny (model X.prog X.w) X.A (setFlight (.ref a) X.env.frame) (fun _ s4 => wpAny (model X.prog X.w) X.A (throw (.ref a) : Sem Flow) (SP X pins D) X.xe s4) X.xe { s' with heap := h3 } := by
          rw [hf]
          refine HandSPX.setFlight_upZ fl3 fun h4 hh4 up4 => wpAny_throw (tk _ _ ?_)
          exact ⟨a, B, sI, pins, σ', H', cls, d, rfl, J, nb, (up.trans up3).trans up4, .inr (.inr (by rw [hs]; exact hh4)), na, os, ag, w⟩
        first
          | exact wpAny_bind (wpAny_pure (wpAny_bind fin))
          | exact wpAny_bind fin
      | @cons x c ts b₀ suite np pos' hds2 l2 hc hsu r ih =>
        intro w
        obtain ⟨b, hb1, hyes, hno⟩ := w
        refine wpAny_handleBy_cons (codeAny_handlers_test ?_) (by intro q; cases q)
        have LM := PySem.W.exm_one (M := model X.prog X.w) (J3.kIn) LT hb1
        refine test hc (LM.here ?_)
        cases b with
        | true =>
          refine codeAny_handlers_suite ?_
          refine HandSPX.lands_againZ fl3 fun h4 fl4 up4 => ?_
          have J4 : Inv X pins σ' H' { s' with heap := h4 } := J.landed nb fl4.1 ((up.trans up3).trans up4) os ag
          obtain ⟨oe4, vs4, he4, hz4, hd4⟩ := fl4.there
          have S4 := J4.suite he4 hd4 na nL nF
          refine wpAny_mono ((hsu a oe4 cls d (X.pn ++ pins) hz4 ⟨_, hd4⟩).run [] _ _ H' _ S4 (hyes rfl a na)) (fun f s6 hsp => ?_) (fun _ _ z => False.elim z)
          cases f with
          | next =>
            obtain ⟨σ6, H6, S6, q6⟩ := hsp
            exact ⟨_, _, S6.unsuite ok, q6⟩
          | brk =>
            obtain ⟨σ6, H6, S6, q6⟩ := hsp
            exact ⟨_, _, S6.unsuite ok, q6⟩
          | cont =>
            obtain ⟨σ6, H6, S6, q6⟩ := hsp
            exact ⟨_, _, S6.unsuite ok, q6⟩
          | ret u =>
            obtain ⟨v6, σ6, H6, S6, r6, q6⟩ := hsp
            exact ⟨_, _, _, S6.unsuite ok, r6, q6⟩
        | false =>
          show wpAny _ X.A (handleBy (.ref a) X.env hds2) _ _ _
          exact ih (hno rfl)
      | @named x n i c ts b₀ suite np pos' hds2 l2 hi hln hc hsu r ih =>
        intro w
        obtain ⟨b, hb1, hyes, hno⟩ := w
        refine wpAny_handleBy_cons (codeAny_handlers_test ?_) (by intro q; cases q)
        have LM := PySem.W.exm_one (M := model X.prog X.w) (J3.kIn) LT hb1
        refine test hc (LM.here ?_)
        cases b with
        | true =>
          refine codeAny_handlers_suite_as ?_
          refine HandSPX.lands_againZ fl3 fun h4 fl4 up4 => ?_
          have J4 : Inv X pins σ' H' { s' with heap := h4 } := J.landed nb fl4.1 ((up.trans up3).trans up4) os ag
          obtain ⟨oe4, vs4, he4, hz4, hd4⟩ := fl4.there
          have S4 := J4.suite he4 hd4 na nL nF
          refine store_ok (X := X.suite a ((a, oe4) :: (X.pn ++ pins))) (v := .ref a) S4 hN hi (.inl hln) rfl (fun s5 S5 => ?_) (.inr hln)
          refine wpAny_mono ((hsu a oe4 cls d (X.pn ++ pins) hz4 ⟨_, hd4⟩).run [] s5 _ H' _ S5 (hyes rfl a na)) (fun f s6 hsp => ?_) (fun _ _ z => False.elim z)
          have end_ : ∀ {σ6 : L2.St} {H6 : Hp} {Q : Shared → Prop}, Inv (X.suite a ((a, oe4) :: (X.pn ++ pins))) [] σ6 H6 s6 → (∀ s7, Inv X pins (σ6.set i none) H6 s7 → Q s7) →
              wpAny (model X.prog X.w) X.A (do bindName X.env n .none; unbindBehindTheSuite X.env n pos') (fun _ s7 => Q s7) X.xe s6 := fun {σ6 H6 Q} S6 hq => gone_ok (S6.unsuite ok) hN hi hln hq
          cases f with
          | next =>
            obtain ⟨σ6, H6, S6, q6⟩ := hsp
            exact end_ S6 fun s7 J7 => ⟨_, _, J7, q6⟩
          | brk =>
            obtain ⟨σ6, H6, S6, q6⟩ := hsp
            exact end_ S6 fun s7 J7 => ⟨_, _, J7, q6⟩
          | cont =>
            obtain ⟨σ6, H6, S6, q6⟩ := hsp
            exact end_ S6 fun s7 J7 => ⟨_, _, J7, q6⟩
          | ret u =>
            obtain ⟨v6, σ6, H6, S6, r6, q6⟩ := hsp
            exact end_ S6 fun s7 J7 => ⟨_, _, _, J7, r6, q6⟩
        | false =>
          show wpAny _ X.A (handleBy (.ref a) X.env hds2) _ _ _
          exact ih (hno rfl)
    exact go hh w
  · cases f with
    | next =>
      obtain ⟨σ', H', J', q⟩ := hsp
      exact wpAny_execs_nil ⟨σ', H', J'.ofTry ok, q⟩
    | brk =>
      obtain ⟨σ', H', J', q⟩ := hsp
      exact ⟨σ', H', J'.ofTry ok, q⟩
    | cont =>
      obtain ⟨σ', H', J', q⟩ := hsp
      exact ⟨σ', H', J'.ofTry ok, q⟩
    | ret u =>
      obtain ⟨v, σ', H', J', r, q⟩ := hsp
      exact ⟨v, σ', H', J'.ofTry ok, r, q⟩
end
end L2N
namespace DL
open PySem PySem.Spec PyProof.Rows L2
abbrev Hds := List (Value × Option Nat × (Addr → Value → Option Addr → DTS))
/-- what the clauses wish of an error of the body -/
def hM (K : PySem.W.Frag) (D : DEnds) : Hds → Addr → Option Addr → DSt → DH → Prop
  | [] => D.ex
  | (c, none, ts) :: r => fun C dd σ H => ∃ b, PySem.W.exmOne K (.ref C) c = some b ∧ (b = true → ∀ a, H a = none → ts a (.ref C) dd { nx := D.nx, rt := D.rt, bk := D.bk, ct := D.ct } σ H) ∧ (b = false → hM K D r C dd σ H)
  | (c, some i, ts) :: r => fun C dd σ H => ∃ b, PySem.W.exmOne K (.ref C) c = some b ∧
    (b = true → ∀ a, H a = none → ts a (.ref C) dd { nx := fun σ'' H'' => D.nx (σ''.set i none) H'', rt := D.rt, bk := fun σ'' H'' => D.bk (σ''.set i none) H'', ct := fun σ'' H'' => D.ct (σ''.set i none) H'' } (σ.set i (some (.ref a))) H) ∧ (b = false → hM K D r C dd σ H)
def dTryM (K : PySem.W.Frag) (l : Hds) (tb : DTS) : DTS := fun D σ H => tb { D with ex := hM K D l } σ H
inductive DHdsM (X : Cx) : List ExceptHandler → Hds → Prop
  | nil : DHdsM X [] []
  | cons {x : Str} {c : Value} {ts : Addr → Value → Option Addr → DTS} {b₀ : Stmt} {suite : List Stmt} {np pos' : Pos} {hds : List ExceptHandler} {l : Hds} (hc : Names X x c)
      (hsu : ∀ (a : Addr) (oe : Obj) (cls : Value) (d : Option Addr) (pn : List (Addr × Obj)), L2N.Zn cls d oe → (∃ vs, oe.data = .fields vs) → DPSs (X.suite a ((a, oe) :: pn)) WF (b₀ :: suite) (ts a cls d)) (r : DHdsM X hds l) :
      DHdsM X (.ExceptHandler (some (.Name x np)) none (b₀ :: suite) pos' :: hds) ((c, none, ts) :: l)
  | named {x n : Str} {i : Nat} {c : Value} {ts : Addr → Value → Option Addr → DTS} {b₀ : Stmt} {suite : List Stmt} {np pos' : Pos} {hds : List ExceptHandler} {l : Hds} (hi : X.N[i]? = some n) (hln : X.env.kindOf n = some .local) (hc : Names X x c)
      (hsu : ∀ (a : Addr) (oe : Obj) (cls : Value) (d : Option Addr) (pn : List (Addr × Obj)), L2N.Zn cls d oe → (∃ vs, oe.data = .fields vs) → DPSs (X.suite a ((a, oe) :: pn)) WF (b₀ :: suite) (ts a cls d)) (r : DHdsM X hds l) :
      DHdsM X (.ExceptHandler (some (.Name x np)) (some n) (b₀ :: suite) pos' :: hds) ((c, some i, ts) :: l)
def canH (K : PySem.W.Frag) (l : Hds) : List (Value × Option Nat × (Addr → Value → Option Addr → TS)) := l.map fun h => (h.1, h.2.1, fun a cls d => canS K WF (h.2.2 a cls d))
theorem DHdsM.can {X : Cx} : ∀ {hds : List ExceptHandler} {l : Hds}, DHdsM X hds l → L2N.HdsM X hds (canH X.K l) := by
  intro hds l h
  induction h with
  | nil => exact .nil
  | cons hc hsu r ih => exact .cons hc (fun a oe cls d pn z f => (hsu a oe cls d pn z f).can) ih
  | named hi hln hc hsu r ih => exact .named hi hln hc (fun a oe cls d pn z f => (hsu a oe cls d pn z f).can) ih
section
variable {X : Cx} {W : WX} {body : List Stmt} {h₀ : ExceptHandler} {hds : List ExceptHandler} {l : Hds} {pos : Pos} {tb : DTS}
theorem ds_tryM (hs : X.stack = X.env :: X.outer) (hf : X.env.frame = some X.env.locals) (hN : X.N.Nodup) (tk : L2N.Takes X W)
    (hb : ∀ (W' : WX) (pn : List (Addr × Obj)) (xe : Value → Shared → Prop), L2N.Takes (X.tr pn xe) W' → PassesOwn (model X.prog X.w) X.A X.env xe → DPSs (X.tr pn xe) W' body tb) (hh : DHdsM X (h₀ :: hds) l) :
    DPS X W (.Try body (h₀ :: hds) [] [] pos) (dTryM X.K l tb) := by
  refine ⟨_, L2N.ps_try_M (tb := fun W' => canS X.K W' tb) (Wout := W) hs hf hN tk (fun W' pn xe tk' ps => (hb W' pn xe tk' ps).can) hh.can, fun Dd D σd Hd σ H rs o q => ?_⟩
  refine ⟨σd, Hd, { Dd with ex := hM X.K Dd l }, rs, ⟨o.nx, o.rt, o.bk, o.ct, ?_⟩, q⟩
  clear hh q
  induction l with
  | nil =>
    intro C dd σd' Hd' σ' H' z rs' up
    exact o.ex C dd σd' Hd' σ' H' z rs' up
  | cons h t ih =>
    obtain ⟨c, oi, ts⟩ := h
    intro C dd σd' Hd' σ' H' z rs' up
    cases oi with
    | none =>
      obtain ⟨b, hb1, hyes, hno⟩ := z
      refine ⟨b, hb1, fun e a na => ?_, fun e => ih C dd σd' Hd' σ' H' (hno e) rs' up⟩
      refine ⟨σd', Hd', _, rs', ?_, hyes e a (rs'.hp.fresh na)⟩
      exact ⟨fun s1 h1 s2 h2 q r u => o.nx _ h1 _ h2 q r (up.trans u), fun x h1 v h2 q rx rh u => o.rt x h1 v h2 q rx rh (up.trans u), fun s1 h1 s2 h2 q r u => o.bk _ h1 _ h2 q r (up.trans u), fun s1 h1 s2 h2 q r u => o.ct _ h1 _ h2 q r (up.trans u), fun _ _ _ _ _ _ z _ _ => z.elim⟩
    | some i =>
      obtain ⟨b, hb1, hyes, hno⟩ := z
      refine ⟨b, hb1, fun e a na => ?_, fun e => ih C dd σd' Hd' σ' H' (hno e) rs' up⟩
      refine ⟨σd'.set i (some (.ref a)), Hd', _, rs'.set (d := .ref a) (v := .ref a) rfl i, ?_, hyes e a (rs'.hp.fresh na)⟩
      exact ⟨fun s1 h1 s2 h2 q r u => o.nx _ h1 _ h2 q (r.unset i) (up.trans u), fun x h1 v h2 q rx rh u => o.rt x h1 v h2 q rx rh (up.trans u), fun s1 h1 s2 h2 q r u => o.bk _ h1 _ h2 q (r.unset i) (up.trans u), fun s1 h1 s2 h2 q r u => o.ct _ h1 _ h2 q (r.unset i) (up.trans u), fun _ _ _ _ _ _ z _ _ => z.elim⟩
end
end DL

/-! The data layer, part Q: the rules of parts N, O and P. -/
namespace DL
open PySem PySem.Spec PyProof.Rows L2
section
variable {K : PySem.W.Frag} {E : DX} {σ : DSt} {H H1 : DH} {Z : DEnds}
theorem x_chn {r r' : DR2} {a b c : DTE} {Q : DK} (q : a E σ H fun x H1 => b E σ H1 fun y H2 => r x y H2 fun z H3 => ∃ k, z = .bl k ∧ (if k = true then c E σ H3 fun w H4 => r' y w H4 Q else Q (.bl false) H3)) : dChn r r' a b c E σ H Q := q
theorem x_tru {a : DTE} {Q : Bool → DH → Prop} (q : a E σ H fun x H1 => truAt x H1 Q) : dTru a E σ H Q := q
theorem x_truB {b : Bool} {Q : Bool → DH → Prop} (q : Q b H) : truAt (.bl b) H Q := q
theorem x_truI {i : Int} {Q : Bool → DH → Prop} (q : Q (i != 0) H) : truAt (.int i) H Q := q
theorem x_truT {ds : List DL.D} {Q : Bool → DH → Prop} (q : Q (!ds.isEmpty) H) : truAt (.tup ds) H Q := q
theorem x_truL {p : Addr} {ds : List DL.D} {Q : Bool → DH → Prop} (h : H p = some (.lst ds)) (q : Q (!ds.isEmpty) H) : truAt (.ref p) H Q := ⟨ds, h, q⟩
theorem x_any1 {f : List Bool → Bool} {p : Addr} {bs : List Bool} {Q : DK} (h : H p = some (.lst (bs.map D.bl))) (q : Q (.bl (f bs)) H) : dAny1 f [.ref p] H Q := ⟨p, bs, rfl, h, q⟩
theorem x_max1 {p : Addr} {ns : List Int} {Q : DK} (h : H p = some (.lst (ns.map D.int))) (l : 0 < ns.length) (q : ∀ m, m ∈ ns → (∀ y, y ∈ ns → y ≤ m) → Q (.int m) H) : dMax1 [.ref p] H Q := ⟨p, ns, rfl, h, l, q⟩
theorem x_min1 {p : Addr} {ns : List Int} {Q : DK} (h : H p = some (.lst (ns.map D.int))) (l : 0 < ns.length) (q : ∀ m, m ∈ ns → (∀ y, y ∈ ns → m ≤ y) → Q (.int m) H) : dMin1 [.ref p] H Q := ⟨p, ns, rfl, h, l, q⟩
theorem x_sum1 {p : Addr} {ns : List Int} {Q : DK} (h : H p = some (.lst (ns.map D.int))) (q : Q (.int ns.sum) H) : dSum1 [.ref p] H Q := ⟨p, ns, rfl, h, q⟩
theorem x_ins {p : Addr} {i : Int} {y : DL.D} {ds : List DL.D} {Q : DK} (h : H p = some (.lst ds)) (z : ds.length < sizeLine) (h0 : 0 ≤ i) (h1 : i < 2 ^ 63) (q : Q .non (put H p (.lst (ds.take i.toNat ++ [y] ++ ds.drop i.toNat)))) : dIns (.ref p) [.int i, y] H Q := ⟨p, i, y, ds, rfl, rfl, h, z, h0, h1, q⟩
def revAt (x : DL.D) (H : DH) (Q : DK) : Prop := ∃ p ds, x = .ref p ∧ H p = some (.lst ds) ∧ ∀ p', H p' = none → Q (.ref p') (put H p' (.lst ds.reverse))
theorem x_revL {a : DTE} {Q : DK} (q : a E σ H fun x H1 => revAt x H1 Q) : dRevL a E σ H Q := q
theorem x_revAt {p : Addr} {ds : List DL.D} {Q : DK} (h : H p = some (.lst ds)) (q : ∀ p', H p' = none → Q (.ref p') (put H p' (.lst ds.reverse))) : revAt (.ref p) H Q := ⟨p, ds, rfl, h, q⟩
theorem x_enum {a : DTA} {R : DIt → DH → Prop} (q : a E σ H fun xs H1 => enumAt xs H1 R) : wEnum a E σ H R := q
theorem x_enumT {ds : List DL.D} {R : DIt → DH → Prop} (q : R (jEnum ds) H) : enumAt [.tup ds] H R := q
theorem x_enumF {ds : List DL.D} {R : DIt → DH → Prop} (q : R (jEnum ds) H) : enumAt [.fl ds] H R := q
theorem x_enumL {p : Addr} {ds : List DL.D} {R : DIt → DH → Prop} (h : H p = some (.lst ds)) (q : R (jEnumL p) H) : enumAt [.ref p] H R := ⟨⟨ds, h⟩, q⟩
theorem x_tryM {l : Hds} {tb v : DTS} (q : tb { Z with nx := v Z, ex := hM K { Z with nx := v Z } l } σ H) : dSeq (dTryM K l tb) v Z σ H := q
theorem x_tryM1 {l : Hds} {tb : DTS} (q : tb { Z with ex := hM K Z l } σ H) : dTryM K l tb Z σ H := q
/-- the clause is not meant -/
theorem x_hNo {c : Value} {o : Option Nat} {ts : Addr → Value → Option Addr → DTS} {r : Hds} {C : Addr} {dd : Option Addr} (e : PySem.W.exmOne K (.ref C) c = some false) (q : hM K Z r C dd σ H) : hM K Z ((c, o, ts) :: r) C dd σ H := by
  cases o with
  | none => exact ⟨false, e, fun z => absurd z (by decide), fun _ => q⟩
  | some i => exact ⟨false, e, fun z => absurd z (by decide), fun _ => q⟩
theorem x_hYes {c : Value} {i : Nat} {ts : Addr → Value → Option Addr → DTS} {r : Hds} {C : Addr} {dd : Option Addr} (e : PySem.W.exmOne K (.ref C) c = some true)
    (q : ∀ a, H a = none → ts a (.ref C) dd { nx := fun σ'' H'' => Z.nx (σ''.set i none) H'', rt := Z.rt, bk := fun σ'' H'' => Z.bk (σ''.set i none) H'', ct := fun σ'' H'' => Z.ct (σ''.set i none) H'' } (σ.set i (some (.ref a))) H) : hM K Z ((c, some i, ts) :: r) C dd σ H := ⟨true, e, fun _ => q, fun z => absurd z (by decide)⟩
theorem x_hYes0 {c : Value} {ts : Addr → Value → Option Addr → DTS} {r : Hds} {C : Addr} {dd : Option Addr} (e : PySem.W.exmOne K (.ref C) c = some true)
    (q : ∀ a, H a = none → ts a (.ref C) dd { nx := Z.nx, rt := Z.rt, bk := Z.bk, ct := Z.ct } σ H) : hM K Z ((c, none, ts) :: r) C dd σ H := ⟨true, e, fun _ => q, fun z => absurd z (by decide)⟩
end
section
variable {E : DX} {σ : DSt} {H H1 : DH} {Z : DEnds} {wi : DTI} {g : DTG} {tb v : DTS} {nx : DSt → DH → Prop} {tt : DTT} {te : DTE} {vs : List Nat} {p : Addr}
theorem forEnum {ds : List DL.D} (W : Nat → DSt → DH → Prop) (h0 : W 0 σ H1)
    (step : ∀ i x σ H, ds[i]? = some x → W i σ H → g (.tup [.int (i : Int), x]) σ H fun σ2 H2 => tb { Z with nx := W (i + 1), ct := W (i + 1), bk := nx } σ2 H2) (hd : ∀ σ H, W ds.length σ H → nx σ H) : ForGo (jEnum ds) g tb Z nx σ H1 := by
  refine ⟨fun i m σ H => m = ds.length - i ∧ i ≤ ds.length ∧ W i σ H, ⟨_, rfl, Nat.zero_le _, h0⟩, ?_⟩
  rintro i m σ H ⟨rfl, hi, p⟩
  by_cases hlt : i < ds.length
  · exact .inr ⟨_, ⟨ds[i], by simp [hlt], rfl⟩, W (i + 1), fun σ' H' p' => ⟨ds.length - (i + 1), by omega, rfl, hlt, p'⟩, step i _ σ H (by simp [hlt]) p⟩
  · have e : i = ds.length := by omega
    subst e
    exact .inl ⟨Nat.le_refl _, hd σ H p⟩
theorem lcEnum {ds : List DL.D} {Qd : DH → Prop} (W : Nat → DH → Prop) (h0 : W 0 H1)
    (step : ∀ i x H, ds[i]? = some x → W i H → g (.tup [.int (i : Int), x]) (wipeD σ vs) H fun σ2 H2 => tt EF σ2 H2 fun b H3 => if b = true then te EF σ2 H3 fun y H4 => ∃ acc, H4 p = some (.lst acc) ∧ acc.length < sizeLine ∧ W (i + 1) (put H4 p (.lst (acc ++ [y]))) else W (i + 1) H3)
    (hd : ∀ H, W ds.length H → Qd H) : LcGo (jEnum ds) g tt te vs p σ H1 Qd := by
  refine ⟨fun i m H => m = ds.length - i ∧ i ≤ ds.length ∧ W i H, ⟨_, rfl, Nat.zero_le _, h0⟩, ?_⟩
  rintro i m H ⟨rfl, hi, w⟩
  by_cases hlt : i < ds.length
  · exact .inr ⟨_, ⟨ds[i], by simp [hlt], rfl⟩, W (i + 1), fun H' w' => ⟨ds.length - (i + 1), by omega, rfl, hlt, w'⟩, step i _ H (by simp [hlt]) w⟩
  · have e : i = ds.length := by omega
    subst e
    exact .inl ⟨Nat.le_refl _, hd H w⟩
end
/-! ### in, not in: ints -/
section
variable {H : DH}
theorem pysI : ∀ ns : List Int, Pys H (ns.map D.int) (ns.map PyData.int)
  | [] => .nil
  | n :: r => .cons (.int n) (pysI r)
theorem depthI : ∀ ns : List Int, PyData.depthAll (ns.map PyData.int) ≤ 1
  | [] => by simp [PyData.depthAll]
  | n :: r => by
    have h := depthI r
    simp [PyData.depthAll, PyData.depth] at h ⊢
    try omega
theorem eqvI (i j : Int) : PyData.eqv (.int i) (.int j) = decide (i = j) := by
  simp [PyData.eqv]
  try rfl
theorem x_inT {f : Bool → Bool} {ns : List Int} {i : Int} {Q : DK} (q : Q (.bl (f (decide (i ∈ ns)))) H) : dIn f (.int i) (.tup (ns.map D.int)) H Q := by
  refine ⟨.int i, ns.map PyData.int, .int i, .inr (.tup (pysI ns)), ?_, ?_⟩
  · have := depthI ns
    omega
  · rw [List.any_map]
    have e : (ns.any ((fun z => PyData.eqv z (.int i)) ∘ PyData.int)) = decide (i ∈ ns) := by
      rw [Bool.eq_iff_iff, List.any_eq_true, decide_eq_true_iff]
      simp [eqvI]
    rw [e]
    exact q
theorem x_inL {f : Bool → Bool} {p : Addr} {ns : List Int} {i : Int} {Q : DK} (h : H p = some (.lst (ns.map D.int))) (q : Q (.bl (f (decide (i ∈ ns)))) H) : dIn f (.int i) (.ref p) H Q := by
  refine ⟨.int i, ns.map PyData.int, .int i, .inl (.lst h (pysI ns)), ?_, ?_⟩
  · have := depthI ns
    omega
  · rw [List.any_map]
    have e : (ns.any ((fun z => PyData.eqv z (.int i)) ∘ PyData.int)) = decide (i ∈ ns) := by
      rw [Bool.eq_iff_iff, List.any_eq_true, decide_eq_true_iff]
      simp [eqvI]
    rw [e]
    exact q
end
end DL

/-! The data layer, part R: min, max of a tuple of ints; a def that is never called. -/
namespace DL
open PySem PySem.Spec PyProof.Rows L2
theorem vals_reads {h : Heap} : ∀ {ns : List Int} {its : List Value}, Vals (ns.map V.int) its → ReadsAll h its (ns.map PyData.int) []
  | [], _, r => by
    cases r
    exact .nil
  | n :: ns, _, r => by
    cases r with
    | cons a b =>
      obtain ⟨t, rfl⟩ := a
      exact .cons (as := []) (bs := []) (.int n t) (vals_reads b)
theorem alikeI (ns : List Int) : PySem.W.AlikeAll (ns.map PyData.int) := by
  refine ⟨fun x hx y hy => ?_, fun x hx => ?_⟩
  · obtain ⟨i, _, rfl⟩ := List.mem_map.mp hx
    obtain ⟨j, _, rfl⟩ := List.mem_map.mp hy
    first | rfl | (unfold PySem.W.alike; rfl) | simp [PySem.W.alike]
  · obtain ⟨i, _, rfl⟩ := List.mem_map.mp hx
    intro z
    cases z
theorem foldl_min_ok (n : Int) (ns : List Int) : (ns.foldl min n ∈ n :: ns) ∧ ∀ y ∈ n :: ns, ns.foldl min n ≤ y := by
  induction ns generalizing n with
  | nil => simp
  | cons k r ih =>
    obtain ⟨h1, h2⟩ := ih (min n k)
    rw [List.foldl_cons]
    refine ⟨?_, fun y hy => ?_⟩
    · rcases List.mem_cons.mp h1 with e | e
      · rw [e]
        by_cases c : n ≤ k
        · simp [Int.min_def, c]
        · simp [Int.min_def, c]
      · simp [e]
    · have h0 := h2 (min n k) (by simp)
      rcases List.mem_cons.mp hy with e | e
      · omega
      · rcases List.mem_cons.mp e with e | e
        · omega
        · exact h2 y (by simp [e])
theorem foldl_max_ok (n : Int) (ns : List Int) : (ns.foldl max n ∈ n :: ns) ∧ ∀ y ∈ n :: ns, y ≤ ns.foldl max n := by
  induction ns generalizing n with
  | nil => simp
  | cons k r ih =>
    obtain ⟨h1, h2⟩ := ih (max n k)
    rw [List.foldl_cons]
    refine ⟨?_, fun y hy => ?_⟩
    · rcases List.mem_cons.mp h1 with e | e
      · rw [e]
        by_cases c : n ≤ k
        · simp [Int.max_def, c]
        · simp [Int.max_def, c]
      · simp [e]
    · have h0 := h2 (max n k) (by simp)
      rcases List.mem_cons.mp hy with e | e
      · omega
      · rcases List.mem_cons.mp e with e | e
        · omega
        · exact h2 y (by simp [e])
section
variable {X : Cx}
theorem cr_minT (hc : X.calm = true) (hu : X.A.units + 64 < cLine) : CallR X (.builtin "min") (fun vs H Q => ∃ (a : Addr) (ns : List Int), vs = [V.ref a] ∧ SqT X.K H a (ns.map V.int) ∧ 0 < ns.length ∧ ∀ m, m ∈ ns → (∀ y, y ∈ ns → m ≤ y) → Q (.int m) H) := by
  intro pins s σ H vs us Q I r h
  obtain ⟨a, ns, rfl, hs, hl, q⟩ := h
  obtain ⟨its, rv, p, _⟩ := I.tuple hs
  rw [Vals.ref1 r]
  cases ns with
  | nil => exact absurd hl (by simp)
  | cons n ns =>
    refine PySem.W.min_tuple_data (I.ok.hd hc) (show s.heap.IsTuple a its.toArray from p) (x := .int n) (xs := ns.map PyData.int) (by simpa using vals_reads (h := s.heap) rv) (by simpa using alikeI (n :: ns)) (by have := depthI (n :: ns); simp only [List.map_cons] at this; omega) fun i v h' tk bs hi rd hk => ?_
    rw [PySem.W.minD_ints] at rd
    cases rd with
    | int m t =>
      obtain ⟨h1, h2⟩ := foldl_min_ok n ns
      exact ⟨.int _, H, I.kept hk, ⟨_, rfl⟩, q _ h1 h2⟩
theorem cr_maxT (hc : X.calm = true) (hu : X.A.units + 64 < cLine) : CallR X (.builtin "max") (fun vs H Q => ∃ (a : Addr) (ns : List Int), vs = [V.ref a] ∧ SqT X.K H a (ns.map V.int) ∧ 0 < ns.length ∧ ∀ m, m ∈ ns → (∀ y, y ∈ ns → y ≤ m) → Q (.int m) H) := by
  intro pins s σ H vs us Q I r h
  obtain ⟨a, ns, rfl, hs, hl, q⟩ := h
  obtain ⟨its, rv, p, _⟩ := I.tuple hs
  rw [Vals.ref1 r]
  cases ns with
  | nil => exact absurd hl (by simp)
  | cons n ns =>
    refine PySem.W.max_tuple_data (I.ok.hd hc) (show s.heap.IsTuple a its.toArray from p) (x := .int n) (xs := ns.map PyData.int) (by simpa using vals_reads (h := s.heap) rv) (by simpa using alikeI (n :: ns)) (by have := depthI (n :: ns); simp only [List.map_cons] at this; omega) fun i v h' tk bs hi rd hk => ?_
    rw [PySem.W.maxD_ints] at rd
    cases rd with
    | int m t =>
      obtain ⟨h1, h2⟩ := foldl_max_ok n ns
      exact ⟨.int _, H, I.kept hk, ⟨_, rfl⟩, q _ h1 h2⟩
def dMinT : DRA := fun xs H Q => ∃ (ns : List Int), xs = [.tup (ns.map D.int)] ∧ 0 < ns.length ∧ ∀ m, m ∈ ns → (∀ y, y ∈ ns → m ≤ y) → Q (.int m) H
def dMaxT : DRA := fun xs H Q => ∃ (ns : List Int), xs = [.tup (ns.map D.int)] ∧ 0 < ns.length ∧ ∀ m, m ∈ ns → (∀ y, y ∈ ns → y ≤ m) → Q (.int m) H
theorem dcl_minT (hc : X.calm = true) (hu : X.A.units + 64 < cLine) : DCl X (.builtin "min") dMinT := ⟨_, cr_minT hc hu, fun xs vs Hd H Qd Q rx rh q k => by
  obtain ⟨ns, rfl, hl, q⟩ := q
  obtain ⟨v, rfl, a, us, e1, s1, r1⟩ := reps1 rx
  exact ⟨a, ns, by rw [e1], by rw [← r1.ints]; exact s1, hl, fun m h1 h2 => k.here (q m h1 h2) rfl rh⟩⟩
theorem dcl_maxT (hc : X.calm = true) (hu : X.A.units + 64 < cLine) : DCl X (.builtin "max") dMaxT := ⟨_, cr_maxT hc hu, fun xs vs Hd H Qd Q rx rh q k => by
  obtain ⟨ns, rfl, hl, q⟩ := q
  obtain ⟨v, rfl, a, us, e1, s1, r1⟩ := reps1 rx
  exact ⟨a, ns, by rw [e1], by rw [← r1.ints]; exact s1, hl, fun m h1 h2 => k.here (q m h1 h2) rfl rh⟩⟩
theorem x_minT {H : DH} {ns : List Int} {Q : DK} (l : 0 < ns.length) (q : ∀ m, m ∈ ns → (∀ y, y ∈ ns → m ≤ y) → Q (.int m) H) : dMinT [.tup (ns.map D.int)] H Q := ⟨ns, rfl, l, q⟩
end
/-- a def that is never called -/
def spNo : DSp := fun _ _ _ _ => False
theorem dfn_no {P : Program} {w : World} {K : PySem.W.Frag} {mg : Str → Option Value} {base : Heap} {k : Nat} {f : Addr} {fd : FuncData} {ps : List Str} : DFn P w K mg base k f fd ps spNo :=
  ⟨fun vs H Q E h => by obtain ⟨_, _, _, _, _, _, h, _⟩ := h; exact h.elim, fun A outer s H args us vs Q E _ _ _ _ h => by obtain ⟨_, _, _, _, _, _, h, _⟩ := h; exact h.elim⟩
end DL

/-! The data layer, part S: targets that are tuples, int of a bool. -/
namespace DL
open PySem PySem.Spec PyProof.Rows L2
variable {σ : DSt} {H : DH}
theorem x_gTp {n : Nat} {r : DTGs} {ds : List DL.D} {Q : DSt → DH → Prop} (q : ds.length = n ∧ r ds σ H Q) : gTp n r (.tup ds) σ H Q := q
theorem x_gCn {g : DTG} {r : DTGs} {x : DL.D} {t : List DL.D} {Q : DSt → DH → Prop} (q : g x σ H fun σ' H' => r t σ' H' Q) : gCn g r (x :: t) σ H Q := q
theorem x_gNl {Q : DSt → DH → Prop} (q : Q σ H) : gNl [] σ H Q := q
theorem x_intB {b : Bool} {Q : DK} (q : Q (.int (if b then 1 else 0)) H) : dInt [.bl b] H Q := q
end DL

/-! The data layer, part T: comprehensions that map by a plain function. -/
namespace DL
open PySem PySem.Spec PyProof.Rows L2
section
variable {σ : DSt} {H : DH} {g : DTG} {te : DTE} {vs : List Nat} {p : Addr}
theorem yes_eq {R : DK} {N : DH → Prop} : (fun σ2 H2 => dYes EF σ2 H2 fun b H3 => if b = true then te EF σ2 H3 R else N H3) = fun σ2 H2 => te EF σ2 H2 R := by
  funext σ2 H2
  show (if true = true then te EF σ2 H2 R else N H2) = _
  exact if_pos rfl
theorem lcMapL {a : Addr} {ds : List DL.D} {f : DL.D → DL.D} {Qd : DH → Prop} (ha : H a = some (.lst ds)) (hp : H p = none) (hz : ds.length ≤ 1000000)
    (step : ∀ (i : Nat) (x : DL.D) (R : DK), ds[i]? = some x → R (f x) (put H p (.lst ((ds.take i).map f))) → g x (wipeD σ vs) (put H p (.lst ((ds.take i).map f))) fun σ2 H2 => te EF σ2 H2 R) (hd : Qd (put H p (.lst (ds.map f)))) : LcGo (jLst a) g dYes te vs p σ (put H p (.lst [])) Qd := by
  have ne : a ≠ p := fun z => by rw [z, hp] at ha; cases ha
  refine lcLst (ds := ds) (fun i H' => H' = put H p (.lst ((ds.take i).map f))) rfl (fun i H' e => by rw [e, put_ne ne]; exact ha) (fun i x H' hx e => ?_) fun H' e => by rw [e, List.take_length]; exact hd
  subst e
  rw [yes_eq]
  have hi : i < ds.length := (List.getElem?_eq_some_iff.mp hx).1
  refine step i x _ hx ⟨_, put_same, ?_, ?_⟩
  · rw [List.length_map, List.length_take, sizeLine_eq]
    omega
  · rw [put_put, List.take_add_one, hx, List.map_append]
    rfl
theorem lcMapS {ds : List DL.D} {f : DL.D → DL.D} {Qd : DH → Prop} (hz : ds.length ≤ 1000000)
    (step : ∀ (i : Nat) (x : DL.D) (R : DK), ds[i]? = some x → R (f x) (put H p (.lst ((ds.take i).map f))) → g x (wipeD σ vs) (put H p (.lst ((ds.take i).map f))) fun σ2 H2 => te EF σ2 H2 R) (hd : Qd (put H p (.lst (ds.map f)))) : LcGo (jSeq ds) g dYes te vs p σ (put H p (.lst [])) Qd := by
  refine lcSeq (ds := ds) (fun i H' => H' = put H p (.lst ((ds.take i).map f))) rfl (fun i x H' hx e => ?_) fun H' e => by rw [e, List.take_length]; exact hd
  subst e
  rw [yes_eq]
  have hi : i < ds.length := (List.getElem?_eq_some_iff.mp hx).1
  refine step i x _ hx ⟨_, put_same, ?_, ?_⟩
  · rw [List.length_map, List.length_take, sizeLine_eq]
    omega
  · rw [put_put, List.take_add_one, hx, List.map_append]
    rfl
/-- .. with a test -/
theorem lcFilL {a : Addr} {ds : List DL.D} {tt : DTT} {c : DL.D → Bool} {f : DL.D → DL.D} {Qd : DH → Prop} (ha : H a = some (.lst ds)) (hp : H p = none) (hz : ds.length ≤ 1000000)
    (step : ∀ (i : Nat) (x : DL.D) (acc : List DL.D) (R : DK) (N : DH → Prop), ds[i]? = some x → (c x = true → R (f x) (put H p (.lst acc))) → (c x = false → N (put H p (.lst acc))) → g x (wipeD σ vs) (put H p (.lst acc)) fun σ2 H2 => tt EF σ2 H2 fun b H3 => if b = true then te EF σ2 H3 R else N H3) (hd : Qd (put H p (.lst ((ds.filter c).map f)))) : LcGo (jLst a) g tt te vs p σ (put H p (.lst [])) Qd := by
  have ne : a ≠ p := fun z => by rw [z, hp] at ha; cases ha
  refine lcLst (ds := ds) (fun i H' => H' = put H p (.lst (((ds.take i).filter c).map f))) rfl (fun i H' e => by rw [e, put_ne ne]; exact ha) (fun i x H' hx e => ?_) fun H' e => by rw [e, List.take_length]; exact hd
  subst e
  have hi : i < ds.length := (List.getElem?_eq_some_iff.mp hx).1
  refine step i x _ _ _ hx (fun ht => ⟨_, put_same, ?_, ?_⟩) fun hf => ?_
  · have := List.length_filter_le c (ds.take i)
    rw [List.length_map, sizeLine_eq]
    rw [List.length_take] at this
    omega
  · rw [put_put, List.take_add_one, hx, List.filter_append, List.map_append]
    simp [ht]
  · rw [List.take_add_one, hx, List.filter_append, List.map_append]
    simp [hf]
theorem lcFilS {ds : List DL.D} {J : DIt} {tt : DTT} {c : Nat → DL.D → Bool} {f : Nat → DL.D → DL.D} {Qd : DH → Prop} (hz : ds.length ≤ 1000000) (hJ : J = jEnum ds)
    (step : ∀ (i : Nat) (x : DL.D) (acc : List DL.D) (R : DK) (N : DH → Prop), ds[i]? = some x → (c i x = true → R (f i x) (put H p (.lst acc))) → (c i x = false → N (put H p (.lst acc))) → g (.tup [.int (i : Int), x]) (wipeD σ vs) (put H p (.lst acc)) fun σ2 H2 => tt EF σ2 H2 fun b H3 => if b = true then te EF σ2 H3 R else N H3)
    (out : Nat → List DL.D) (o0 : out 0 = []) (o1 : ∀ (i : Nat) (x : DL.D), ds[i]? = some x → out (i + 1) = out i ++ (if c i x = true then [f i x] else [])) (hd : Qd (put H p (.lst (out ds.length)))) : LcGo J g tt te vs p σ (put H p (.lst [])) Qd := by
  subst hJ
  have ol : ∀ i, i ≤ ds.length → (out i).length ≤ i := by
    intro i
    induction i with
    | zero => intro _; rw [o0]; exact Nat.le_refl _
    | succ i ih =>
      intro h
      have hx : ds[i]? = some (ds[i]'(by omega)) := List.getElem?_eq_getElem _
      have := ih (by omega)
      rw [o1 i _ hx, List.length_append]
      split <;> simp <;> omega
  refine lcEnum (ds := ds) (fun i H' => H' = put H p (.lst (out i))) (by rw [o0]) (fun i x H' hx e => ?_) fun H' e => by rw [e]; exact hd
  subst e
  have hi : i < ds.length := (List.getElem?_eq_some_iff.mp hx).1
  have h1 := ol i (by omega)
  refine step i x _ _ _ hx (fun ht => ⟨_, put_same, ?_, ?_⟩) fun hf => ?_
  · rw [sizeLine_eq]
    omega
  · rw [put_put, o1 i x hx, if_pos ht]
  · rw [o1 i x hx, hf]
    simp
end
end DL

/-! The data layer, part U: not by truth, as a value. -/
namespace DL
open PySem PySem.Spec PyProof.Rows L2
def dNotT (a : DTE) : DTE := fun E σ H Q => a E σ H fun x H1 => truAt x H1 fun c H2 => Q (.bl (!c)) H2
theorem d_notT {X : Cx} {W : WX} {a : Expr} {da : DTE} {pos : Pos} (ha : DPE X W a da) : DPE X W (.UnaryOp .Not a pos) (dNotT da) := by
  obtain ⟨t, h1, h2⟩ := ha
  exact ⟨_, pe_notT h1, fun σd Hd σ H Qd Q E rs wx q w => h2 σd Hd σ H _ _ E rs wx q fun x H1 v H1' q1 rx rs1 u1 => by
    obtain ⟨k, e, q2⟩ := tru_rep rs1.hp rx q1
    exact ⟨k, e, w _ H1 _ H1' q2 rfl rs1 u1⟩⟩
theorem x_notT {E : DX} {σ : DSt} {H : DH} {a : DTE} {Q : DK} (q : a E σ H fun x H1 => truAt x H1 fun c H2 => Q (.bl (!c)) H2) : dNotT a E σ H Q := q
end DL

/-! The data layer, part V: math.gcd, abs, a global tuple. -/
namespace DL
open PySem PySem.Spec PyProof.Rows L2
def dGcd : DRA := fun xs H Q => ∃ a b : Int, xs = [.int a, .int b] ∧ Q (.int ((Nat.gcd a.natAbs b.natAbs : Nat) : Int)) H
def dAbs : DRA := fun xs H Q => ∃ i : Int, xs = [.int i] ∧ Q (.int (if i < 0 then -i else i)) H
section
variable {X : Cx} {W : WX} {e : Expr} {es : List Expr} {dA : DTA} {pos : Pos}
theorem dcl_gcd : DCl X (.builtin "math.gcd") dGcd := ⟨_, cr_gcd, fun xs vs Hd H Qd Q rx rh q k => by
  obtain ⟨a, b, rfl, q⟩ := q
  obtain ⟨u1, u, rfl, r1, r2⟩ := reps2 rx
  exact ⟨a, b, by rw [show u1 = V.int a from r1, show u = V.int b from r2], k.here q rfl rh⟩⟩
theorem dcl_abs : DCl X (.builtin "abs") dAbs := ⟨_, call_abs, fun xs vs Hd H Qd Q rx rh q k => by
  obtain ⟨i, rfl, q⟩ := q
  obtain ⟨v, rfl, r⟩ := reps1 rx
  exact ⟨i, by rw [show v = V.int i from r], k.here q rfl rh⟩⟩
theorem d_callBfun {x : Str} {id : String} {rd : DRA} {p : Pos} (hc : DCl X (.builtin id) rd) (hg : Gl X x) (hm : X.mg x = some (.builtin id)) (ha : DPA X W (e :: es) dA) (hdb : (x == ("__debug__" : Str)) = false := by decide)
    (he : starEach (e :: es) X.env = (false, eval e X.env) :: starEach es X.env := by rfl) (hpl : (backTo pos (starEach es X.env)).any (·.1) = false := by rfl) : DPE X W (.Call (.Name x p) (e :: es) [] pos) (dCB rd dA) := by
  obtain ⟨r, c1, c2⟩ := hc
  obtain ⟨t, h1, h2⟩ := ha
  exact ⟨_, pe_callBfun c1 hg hm h1 hdb he hpl, fun σd Hd σ H Qd Q E rs wx q w => h2 σd Hd σ H _ _ E rs wx q fun xs H1 vs H1' q1 rx rs1 u1 => c2 xs vs H1 H1' Qd Q rx rs1.hp q1 ((w.to u1).v rs1)⟩
def GlobD (K : PySem.W.Frag) (mg : Str → Option Value) (x : Str) (d : D) : Prop := ∃ (v : V) (u : Value), mg x = some u ∧ RelV v u ∧ ∀ H, Rep K H d v
theorem d_globE {x : Str} {d : D} (hg : Gl X x) (h : GlobD X.K X.mg x d) (hd : (x == ("__debug__" : Str)) = false := by decide) : DPE X W (.Name x pos) (dC d) := by
  obtain ⟨v, u, hm, r, h⟩ := h
  exact d_glob hg hm r h hd
end
inductive IntsV : List Int → List Value → Prop
  | nil : IntsV [] []
  | cons {i : Int} {t : Tok} {is : List Int} {vs : List Value} : IntsV is vs → IntsV (i :: is) (.int i t :: vs)
theorem IntsV.vals {ns : List Int} {vs : List Value} (h : IntsV ns vs) : Vals (ns.map V.int) vs := by
  induction h with
  | nil => exact .nil
  | cons _ ih => exact .cons ⟨_, rfl⟩ ih
/-- a global tuple of ints -/
theorem globT {K : PySem.W.Frag} {mg : Str → Option Value} {x : Str} {a : Addr} {od : Option Addr} {its : Array Value} {n : Nat} {sl : Array (Option Value)} {ns : List Int} (g : mg x = some (.ref a)) (l : K.lookup a = some ⟨.type "tuple", od, .seq its n, sl⟩) (h : IntsV ns its.toList) (hz : its.size ≤ 1000 := by simp) : GlobD K mg x (.tup (ns.map D.int)) :=
  ⟨.ref a, .ref a, g, rfl, fun H => ⟨a, ns.map V.int, rfl, .inr ⟨_, its, n, l, rfl, rfl, by rw [sizeLine_eq]; omega, h.vals⟩, Reps.of_ints ns⟩⟩
section
variable {H : DH}
theorem x_gcd {a b : Int} {Q : DK} (q : Q (.int ((Nat.gcd a.natAbs b.natAbs : Nat) : Int)) H) : dGcd [.int a, .int b] H Q := ⟨a, b, rfl, q⟩
theorem x_abs {i : Int} {Q : DK} (q : Q (.int (if i < 0 then -i else i)) H) : dAbs [.int i] H Q := ⟨i, rfl, q⟩
end
end DL

/-! The data layer, part W: the rules of stepping that ask nothing, found by their head. -/
namespace DL
open PySem PySem.Spec PyProof.Rows L2
class Step (G : Prop) (P : outParam Prop) : Prop where
  pf : P → G
section
variable {K : PySem.W.Frag} {E : DX} {σ : DSt} {H H1 : DH} {Z : DEnds} {wi : DTI} {g : DTG} {tb v : DTS} {nx : DSt → DH → Prop} {tt : DTT} {te : DTE} {vs : List Nat} {p : Addr}
instance st_x_set {a : DTE} {i : Nat} {u : DTS} : Step (dSeq (dSet a i) u Z σ H) (a (Z.at σ) σ H fun x H1 => u Z (σ.set i (some x)) H1) := ⟨fun q => x_set q⟩
instance st_x_drop {a : DTE} {u : DTS} : Step (dSeq (dDrop a) u Z σ H) (a (Z.at σ) σ H fun _ H1 => u Z σ H1) := ⟨fun q => x_drop q⟩
instance st_x_asg {a : DTE} {g : DTG} {u : DTS} : Step (dSeq (dAsg a g) u Z σ H) (a (Z.at σ) σ H fun x H1 => g x σ H1 (u Z)) := ⟨fun q => x_asg q⟩
instance st_x_if {c : DTT} {t u v : DTS} : Step (dSeq (dIfS c t u) v Z σ H) (c (Z.at σ) σ H fun b H1 => if b = true then dSeq t v Z σ H1 else dSeq u v Z σ H1) := ⟨fun q => x_if q⟩
instance st_x_ret {a : DTE} {v : DTS} : Step (dSeq (dRet a) v Z σ H) (a (Z.at σ) σ H Z.rt) := ⟨fun q => x_ret q⟩
instance st_x_ret1 {a : DTE} : Step (dRet a Z σ H) (a (Z.at σ) σ H Z.rt) := ⟨fun q => x_ret1 q⟩
instance st_x_next {v : DTS} : Step (dSeq dNext v Z σ H) (v Z σ H) := ⟨fun q => x_next q⟩
instance st_x_seq {t u v : DTS} : Step (dSeq (dSeq t u) v Z σ H) (dSeq t (dSeq u v) Z σ H) := ⟨fun q => x_seq q⟩
instance st_x_set1 {a : DTE} {i : Nat} : Step (dSet a i Z σ H) (a (Z.at σ) σ H fun x H1 => Z.nx (σ.set i (some x)) H1) := ⟨fun q => x_set1 q⟩
instance st_x_drop1 {a : DTE} : Step (dDrop a Z σ H) (a (Z.at σ) σ H fun _ H1 => Z.nx σ H1) := ⟨fun q => x_drop1 q⟩
instance st_x_asg1 {a : DTE} {g : DTG} : Step (dAsg a g Z σ H) (a (Z.at σ) σ H fun x H1 => g x σ H1 Z.nx) := ⟨fun q => x_asg1 q⟩
instance st_x_if1 {c : DTT} {t u : DTS} : Step (dIfS c t u Z σ H) (c (Z.at σ) σ H fun b H1 => if b = true then t Z σ H1 else u Z σ H1) := ⟨fun q => x_if1 q⟩
instance st_x_next1  : Step (dNext Z σ H) (Z.nx σ H) := ⟨fun q => x_next1 q⟩
instance st_x_retN {v : DTS} : Step (dSeq dRetN v Z σ H) (Z.rt .non H) := ⟨fun q => x_retN q⟩
instance st_x_retN1  : Step (dRetN Z σ H) (Z.rt .non H) := ⟨fun q => x_retN1 q⟩
instance st_x_brk {v : DTS} : Step (dSeq dBrk v Z σ H) (Z.bk σ H) := ⟨fun q => x_brk q⟩
instance st_x_brk1  : Step (dBrk Z σ H) (Z.bk σ H) := ⟨fun q => x_brk1 q⟩
instance st_x_cnt {v : DTS} : Step (dSeq dCnt v Z σ H) (Z.ct σ H) := ⟨fun q => x_cnt q⟩
instance st_x_cnt1  : Step (dCnt Z σ H) (Z.ct σ H) := ⟨fun q => x_cnt1 q⟩
instance st_x_sfld {o v : DTE} {f : Str} {u : DTS} : Step (dSeq (dSetFld K o v f) u Z σ H) (v (Z.at σ) σ H fun y H1 => o (Z.at σ) σ H1 fun x H2 => sfldAt K f y x H2 fun H3 => u Z σ H3) := ⟨fun q => x_sfld q⟩
instance st_x_sfld1 {o v : DTE} {f : Str} : Step (dSetFld K o v f Z σ H) (v (Z.at σ) σ H fun y H1 => o (Z.at σ) σ H1 fun x H2 => sfldAt K f y x H2 fun H3 => Z.nx σ H3) := ⟨fun q => x_sfld1 q⟩
instance st_x_raise {d : DX → DSt → DH → DX → Prop} {v : DTS} : Step (dSeq (dRaise d) v Z σ H) (d (Z.at σ) σ H fun C dd H' => Z.ex C dd σ H') := ⟨fun q => x_raise q⟩
instance st_x_raise1 {d : DX → DSt → DH → DX → Prop} : Step (dRaise d Z σ H) (d (Z.at σ) σ H fun C dd H' => Z.ex C dd σ H') := ⟨fun q => x_raise1 q⟩
instance st_x_mk {C : Addr} {fs : List Str} {a : DTA} {Qx : DX} : Step (dMk C fs a E σ H Qx) (a E σ H fun xs H1 => xs.length = fs.length ∧ ∀ d, H1 d = none → Qx C (some d) (put H1 d (.xd (fs.zip xs).reverse))) := ⟨fun q => x_mk q⟩
instance st_x_dput {a b v : DTE} {u : DTS} : Step (dSeq (dDPut a b v) u Z σ H) (v (Z.at σ) σ H fun z H1 => a (Z.at σ) σ H1 fun x H2 => b (Z.at σ) σ H2 fun y H3 => dputAt z x y H3 fun H4 => u Z σ H4) := ⟨fun q => x_dput q⟩
instance st_x_dput1 {a b v : DTE} : Step (dDPut a b v Z σ H) (v (Z.at σ) σ H fun z H1 => a (Z.at σ) σ H1 fun x H2 => b (Z.at σ) σ H2 fun y H3 => dputAt z x y H3 fun H4 => Z.nx σ H4) := ⟨fun q => x_dput1 q⟩
instance st_x_c {d : DL.D} {Q : DK} : Step (dC d E σ H Q) (Q d H) := ⟨fun q => x_c q⟩
instance st_x_op {r : DR2} {a b : DTE} {Q : DK} : Step (dOp r a b E σ H Q) (a E σ H fun x H1 => b E σ H1 fun y H2 => r x y H2 Q) := ⟨fun q => x_op q⟩
instance st_x_un {r : DR1} {a : DTE} {Q : DK} : Step (dUn r a E σ H Q) (a E σ H fun x H1 => r x H1 Q) := ⟨fun q => x_un q⟩
instance st_x_nil {Q : List DL.D → DH → Prop} : Step (dNil E σ H Q) (Q [] H) := ⟨fun q => x_nil q⟩
instance st_x_cons {a : DTE} {r : DTA} {Q : List DL.D → DH → Prop} : Step (dCons a r E σ H Q) (a E σ H fun x H1 => r E σ H1 fun xs H2 => Q (x :: xs) H2) := ⟨fun q => x_cons q⟩
instance st_x_tup {a : DTA} {Q : DK} : Step (dTup a E σ H Q) (a E σ H fun xs H1 => xs.length ≤ sizeLine ∧ Q (.tup xs) H1) := ⟨fun q => x_tup q⟩
instance st_x_lst {a : DTA} {Q : DK} : Step (dLst a E σ H Q) (a E σ H fun xs H1 => xs.length ≤ sizeLine ∧ ∀ p, H1 p = none → Q (.ref p) (put H1 p (.lst xs))) := ⟨fun q => x_lst q⟩
instance st_x_cb {r : DRA} {a : DTA} {Q : DK} : Step (dCB r a E σ H Q) (a E σ H fun xs H1 => r xs H1 Q) := ⟨fun q => x_cb q⟩
instance st_x_test {a : DTE} {Q : Bool → DH → Prop} : Step (dTest a E σ H Q) (a E σ H fun x H1 => ∃ c, x = .bl c ∧ Q c H1) := ⟨fun q => x_test q⟩
instance st_x_and {t u : DTT} {Q : Bool → DH → Prop} : Step (dAnd t u E σ H Q) (t E σ H fun c H1 => if c = true then u E σ H1 Q else Q false H1) := ⟨fun q => x_and q⟩
instance st_x_or {t u : DTT} {Q : Bool → DH → Prop} : Step (dOr t u E σ H Q) (t E σ H fun c H1 => if c = true then Q true H1 else u E σ H1 Q) := ⟨fun q => x_or q⟩
instance st_x_not {t : DTT} {Q : Bool → DH → Prop} : Step (dNot t E σ H Q) (t E σ H fun c H1 => Q (!c) H1) := ⟨fun q => x_not q⟩
instance st_x_andV {a b : DTE} {Q : DK} : Step (dAndV a b E σ H Q) (a E σ H fun x H1 => ∃ c, x = .bl c ∧ if c = true then b E σ H1 Q else Q (.bl false) H1) := ⟨fun q => x_andV q⟩
instance st_x_orV {a b : DTE} {Q : DK} : Step (dOrV a b E σ H Q) (a E σ H fun x H1 => ∃ c, x = .bl c ∧ if c = true then Q (.bl true) H1 else b E σ H1 Q) := ⟨fun q => x_orV q⟩
instance st_x_notV {a : DTE} {Q : DK} : Step (dNotV a E σ H Q) (a E σ H fun x H1 => ∃ c, x = .bl c ∧ Q (.bl (!c)) H1) := ⟨fun q => x_notV q⟩
instance st_x_ifx {t : DTT} {a b : DTE} {Q : DK} : Step (dIf t a b E σ H Q) (t E σ H fun c H1 => if c = true then a E σ H1 Q else b E σ H1 Q) := ⟨fun q => x_ifx q⟩
instance st_x_noPart {Q : Option Int → DH → Prop} : Step (dNoPart E σ H Q) (Q none H) := ⟨fun q => x_noPart q⟩
instance st_x_part {a : DTE} {Q : Option Int → DH → Prop} : Step (dPart a E σ H Q) (a E σ H fun x H1 => ∃ i, x = .int i ∧ Q (some i) H1) := ⟨fun q => x_part q⟩
instance st_x_sl {r : DL.D → Option Int → Option Int → DH → DK → Prop} {a : DTE} {l h : DTO} {Q : DK} : Step (dSl r a l h E σ H Q) (a E σ H fun x H1 => l E σ H1 fun lo H2 => h E σ H2 fun hi H3 => r x lo hi H3 Q) := ⟨fun q => x_sl q⟩
instance st_x_call {sp : DSp} {dds : List DL.D} {a : DTA} {Q : DK} : Step (dCall sp dds a E σ H Q) (a E σ H fun xs H1 => sp (xs ++ dds) H1 Q E) := ⟨fun q => x_call q⟩
instance st_x_make {C : Addr} {sp : DSp} {dds : List DL.D} {a : DTA} {Q : DK} : Step (dMake C sp dds a E σ H Q) (a E σ H fun xs H1 => ∀ p, H1 p = none → sp (.ref p :: (xs ++ dds)) (put H1 p (.ins C [])) (fun v H2 => v = .non ∧ Q (.ref p) H2) E) := ⟨fun q => x_make q⟩
instance st_x_meth {C : Addr} {m : Str} {sp : DSp} {dds : List DL.D} {o : DTE} {a : DTA} {Q : DK} : Step (dMeth C m sp dds o a E σ H Q) (o E σ H fun x H1 => methAt C m sp dds a E σ x H1 Q) := ⟨fun q => x_meth q⟩
instance st_x_fld {o : DTE} {f : Str} {Q : DK} : Step (dFld K o f E σ H Q) (o E σ H fun x H1 => fldAt K f x H1 Q) := ⟨fun q => x_fld q⟩
instance st_x_bm {T : String} {r : DL.D → List DL.D → DH → DK → Prop} {o : DTE} {a : DTA} {Q : DK} : Step (dBM T r o a E σ H Q) (o E σ H fun x H1 => tyM T x H1 ∧ a E σ H1 fun xs H2 => r x xs H2 Q) := ⟨fun q => x_bm q⟩
instance st_x_dget {a b : DTE} {Q : DK} : Step (dDGet a b E σ H Q) (a E σ H fun x H1 => b E σ H1 fun y H2 => dgetAt x y H2 Q) := ⟨fun q => x_dget q⟩
instance st_x_dnew {Q : DK} : Step (dDNew E σ H Q) (∀ p, H p = none → Q (.ref p) (put H p (.dct []))) := ⟨fun q => x_dnew q⟩
instance st_x_for  : Step (dSeq (dFor wi g tb) v Z σ H) (wi (Z.at σ) σ H fun J H1 => ForGo J g tb Z (v Z) σ H1) := ⟨fun q => x_for q⟩
instance st_x_for1  : Step (dFor wi g tb Z σ H) (wi (Z.at σ) σ H fun J H1 => ForGo J g tb Z Z.nx σ H1) := ⟨fun q => x_for1 q⟩
instance st_x_while {c : DTT} {tb v : DTS} {Z : DEnds} {σ : DSt} {H : DH} : Step (dSeq (dWhile c tb) v Z σ H) (WhGo c tb Z (v Z) σ H) := ⟨fun q => x_while q⟩
instance st_x_while1 {c : DTT} {tb : DTS} {Z : DEnds} {σ : DSt} {H : DH} : Step (dWhile c tb Z σ H) (WhGo c tb Z Z.nx σ H) := ⟨fun q => x_while1 q⟩
instance st_x_seqT {a : DTE} {R : DIt → DH → Prop} : Step (wSeq a E σ H R) (a E σ H fun x H1 => seqAt x H1 R) := ⟨fun q => x_seqT q⟩
instance st_x_rng1 {a : DTA} {R : DIt → DH → Prop} : Step (wRng1 a E σ H R) (a E σ H fun xs H1 => rng1At xs H1 R) := ⟨fun q => x_rng1 q⟩
instance st_x_rng2 {a : DTA} {R : DIt → DH → Prop} : Step (wRng2 a E σ H R) (a E σ H fun xs H1 => rng2At xs H1 R) := ⟨fun q => x_rng2 q⟩
instance st_x_gIx {a b : DTE} {v : DL.D} {Q : DSt → DH → Prop} : Step (gIx a b v σ H Q) (a (fun _ _ _ => False) σ H fun o H1 => b (fun _ _ _ => False) σ H1 fun i H2 => dSetIx o i v H2 fun H3 => Q σ H3) := ⟨fun q => x_gIx q⟩
instance st_x_gNm {i : Nat} {x : DL.D} {Q : DSt → DH → Prop} : Step (gNm i x σ H Q) (Q (σ.set i (some x)) H) := ⟨fun q => x_gNm q⟩
instance st_x_i0 {g : Int → Int → DL.D} {i j : Int} {Q : DK} : Step (dI0 g (.int i) (.int j) H Q) (Q (g i j) H) := ⟨fun q => x_i0 q⟩
instance st_x_neg {i : Int} {Q : DK} : Step (dNeg (.int i) H Q) (Q (.int (-i)) H) := ⟨fun q => x_neg q⟩
instance st_x_addI {i j : Int} {Q : DK} : Step (dAdd (.int i) (.int j) H Q) (Q (.int (i + j)) H) := ⟨fun q => x_addI q⟩
instance st_x_isN {x : DL.D} {Q : DK} : Step (dIsN x .non H Q) (Q (.bl (isN x)) H) := ⟨fun q => x_isN q⟩
instance st_x_notN {x : DL.D} {Q : DK} : Step (dNotN x .non H Q) (Q (.bl (!isN x)) H) := ⟨fun q => x_notN q⟩
instance st_x_cutT {xs : List DL.D} {lo hi : Option Int} {Q : DK} : Step (dCut (.tup xs) lo hi H Q) (Q (.tup (DL.cut xs lo hi)) H) := ⟨fun q => x_cutT q⟩
instance st_x_cutF {xs : List DL.D} {lo hi : Option Int} {Q : DK} : Step (dCut (.fl xs) lo hi H Q) (∀ p, H p = none → Q (.ref p) (put H p (.lst (DL.cut xs lo hi)))) := ⟨fun q => x_cutF q⟩
instance st_x_lenT {ds : List DL.D} {Q : DK} : Step (dLen [.tup ds] H Q) (Q (.int ds.length) H) := ⟨fun q => x_lenT q⟩
instance st_x_lenF {ds : List DL.D} {Q : DK} : Step (dLen [.fl ds] H Q) (Q (.int ds.length) H) := ⟨fun q => x_lenF q⟩
instance st_x_intI {i : Int} {Q : DK} : Step (dInt [.int i] H Q) (Q (.int i) H) := ⟨fun q => x_intI q⟩
instance st_x_max2 {i j : Int} {Q : DK} : Step (dMax2 [.int i, .int j] H Q) (Q (.int (if j > i then j else i)) H) := ⟨fun q => x_max2 q⟩
instance st_x_min2 {i j : Int} {Q : DK} : Step (dMin2 [.int i, .int j] H Q) (Q (.int (if j < i then j else i)) H) := ⟨fun q => x_min2 q⟩
instance st_x_tupT {ds : List DL.D} {Q : DK} : Step (dTupleOf [.tup ds] H Q) (Q (.tup ds) H) := ⟨fun q => x_tupT q⟩
instance st_x_tupF {ds : List DL.D} {Q : DK} : Step (dTupleOf [.fl ds] H Q) (Q (.tup ds) H) := ⟨fun q => x_tupF q⟩
instance st_x_lstT {ds : List DL.D} {Q : DK} : Step (dListOf [.tup ds] H Q) (∀ p, H p = none → Q (.ref p) (put H p (.lst ds))) := ⟨fun q => x_lstT q⟩
instance st_x_lstF {ds : List DL.D} {Q : DK} : Step (dListOf [.fl ds] H Q) (∀ p, H p = none → Q (.ref p) (put H p (.lst ds))) := ⟨fun q => x_lstF q⟩
instance st_x_chn {r r' : DR2} {a b c : DTE} {Q : DK} : Step (dChn r r' a b c E σ H Q) (a E σ H fun x H1 => b E σ H1 fun y H2 => r x y H2 fun z H3 => ∃ k, z = .bl k ∧ (if k = true then c E σ H3 fun w H4 => r' y w H4 Q else Q (.bl false) H3)) := ⟨fun q => x_chn q⟩
instance st_x_tru {a : DTE} {Q : Bool → DH → Prop} : Step (dTru a E σ H Q) (a E σ H fun x H1 => truAt x H1 Q) := ⟨fun q => x_tru q⟩
instance st_x_truB {b : Bool} {Q : Bool → DH → Prop} : Step (truAt (.bl b) H Q) (Q b H) := ⟨fun q => x_truB q⟩
instance st_x_truT {ds : List DL.D} {Q : Bool → DH → Prop} : Step (truAt (.tup ds) H Q) (Q (!ds.isEmpty) H) := ⟨fun q => x_truT q⟩
instance st_x_enum {a : DTA} {R : DIt → DH → Prop} : Step (wEnum a E σ H R) (a E σ H fun xs H1 => enumAt xs H1 R) := ⟨fun q => x_enum q⟩
instance st_x_enumT {ds : List DL.D} {R : DIt → DH → Prop} : Step (enumAt [.tup ds] H R) (R (jEnum ds) H) := ⟨fun q => x_enumT q⟩
instance st_x_notT {E : DX} {σ : DSt} {H : DH} {a : DTE} {Q : DK} : Step (dNotT a E σ H Q) (a E σ H fun x H1 => truAt x H1 fun c H2 => Q (.bl (!c)) H2) := ⟨fun q => x_notT q⟩
instance st_x_revL {a : DTE} {Q : DK} : Step (dRevL a E σ H Q) (a E σ H fun x H1 => revAt x H1 Q) := ⟨fun q => x_revL q⟩
instance st_x_inT {f : Bool → Bool} {ns : List Int} {i : Int} {Q : DK} : Step (dIn f (.int i) (.tup (ns.map D.int)) H Q) (Q (.bl (f (decide (i ∈ ns)))) H) := ⟨fun q => x_inT q⟩
instance st_x_gTp {n : Nat} {r : DTGs} {ds : List DL.D} {Q : DSt → DH → Prop} : Step (gTp n r (.tup ds) σ H Q) (ds.length = n ∧ r ds σ H Q) := ⟨fun q => x_gTp q⟩
instance st_x_gCn {g : DTG} {r : DTGs} {x : DL.D} {t : List DL.D} {Q : DSt → DH → Prop} : Step (gCn g r (x :: t) σ H Q) (g x σ H fun σ' H' => r t σ' H' Q) := ⟨fun q => x_gCn q⟩
instance st_x_gNl {Q : DSt → DH → Prop} : Step (gNl [] σ H Q) (Q σ H) := ⟨fun q => x_gNl q⟩
instance st_x_intB {b : Bool} {Q : DK} : Step (dInt [.bl b] H Q) (Q (.int (if b then 1 else 0)) H) := ⟨fun q => x_intB q⟩
instance st_x_gcd {a b : Int} {Q : DK} : Step (dGcd [.int a, .int b] H Q) (Q (.int ((Nat.gcd a.natAbs b.natAbs : Nat) : Int)) H) := ⟨fun q => x_gcd q⟩
instance st_x_abs {i : Int} {Q : DK} : Step (dAbs [.int i] H Q) (Q (.int (if i < 0 then -i else i)) H) := ⟨fun q => x_abs q⟩
instance st_x_xf {a C : Addr} {d : Option Addr} {cls : Value} {f : Str} {e : DTE} {Q : DK} : Step (dXf a C d cls f e E σ H Q) (e E σ H fun x H1 => x = .ref a ∧ cls = .ref C ∧ ∃ dd fs v, d = some dd ∧ H1 dd = some (.xd fs) ∧ fs.lookup f = some v ∧ Q v H1) := ⟨fun q => x_xf q⟩
instance st_x_lc {Q : DK} : Step (dLc wi g tt te vs E σ H Q) (wi E σ H fun J H1 => ∀ p, H1 p = none → LcGo J g tt te vs p σ (put H1 p (.lst [])) (Q (.ref p))) := ⟨fun q => x_lc q⟩
instance st_x_yes {Q : Bool → DH → Prop} : Step (dYes E σ H Q) (Q true H) := ⟨fun q => x_yes q⟩
instance st_x_seqTup {ds : List DL.D} {R : DIt → DH → Prop} : Step (seqAt (.tup ds) H R) (R (jSeq ds) H) := ⟨fun q => x_seqTup q⟩
instance st_x_seqFl {ds : List DL.D} {R : DIt → DH → Prop} : Step (seqAt (.fl ds) H R) (R (jSeq ds) H) := ⟨fun q => x_seqFl q⟩
end
end DL

/-! The data layer, part X: texts (<, in, for, slices, sorted), constants of a class, properties. -/
namespace DL
open PySem PySem.Spec PyProof.Rows L2
section
variable {X : Cx} {W : WX} {K : PySem.W.Frag}
/-! ### texts -/
def dStr2 (g : Str → Str → D) : DR2 := fun x y H Q => match x, y with
  | .str a, .str b => Q (g a b) H
  | _, _ => False
theorem dop_ltS : DOp X (compareOp .Lt) (dStr2 fun a b => .bl (decide (a.cps.toList < b.cps.toList))) := ⟨_, op_lt_str, fun x y v u Hd H Qd Q rx ry rh q k => by
  unfold dStr2 at q
  split at q
  · exact ⟨_, _, rx, ry, k.here q rfl rh⟩
  · exact q.elim⟩
/-- one sign within a text -/
def dInS (f : Bool → Bool) : DR2 := fun x y H Q => ∃ (c : Nat) (z : Str), x = .str ⟨#[c]⟩ ∧ y = .str z ∧ Q (.bl (f (decide (c ∈ z.cps.toList)))) H
theorem dop_inS : DOp X (compareOp .In) (dInS fun b => b) := ⟨_, op_in_sign, fun x y v u Hd H Qd Q rx ry rh q k => by
  obtain ⟨c, z, rfl, rfl, q⟩ := q
  exact ⟨c, z, rx, ry, k.here q rfl rh⟩⟩
theorem dop_notInS : DOp X (compareOp .NotIn) (dInS fun b => !b) := ⟨_, op_notIn_sign, fun x y v u Hd H Qd Q rx ry rh q k => by
  obtain ⟨c, z, rfl, rfl, q⟩ := q
  exact ⟨c, z, rx, ry, k.here q rfl rh⟩⟩
def jStr (z : Str) : DIt := ⟨fun i _ => z.cps.size ≤ i, fun i _ x => ∃ c, z.cps[i]? = some c ∧ x = .str ⟨#[c]⟩⟩
def strAt (x : D) (H : DH) (R : DIt → DH → Prop) : Prop := match x with
  | .str z => R (jStr z) H
  | _ => False
def wStr (a : DTE) : DTI := fun E σ H R => a E σ H fun x H1 => strAt x H1 R
theorem sim_str {H0 : Hp} {z : Str} : SimIt K H0 (Its z) (jStr z) := ⟨fun i Hd H u rh h => h, fun i Hd H x u rh h => by
  obtain ⟨c, h1, h2⟩ := h
  refine ⟨(Array.getElem?_eq_some_iff.mp h1).1, fun w H' y => ?_⟩
  obtain ⟨e1, c', e2, e3⟩ := y
  subst e1 e3 h2
  rw [h1] at e2
  cases e2
  exact ⟨rfl, rh, Up.refl _⟩⟩
theorem di_str {tg l : Expr} {da : DTE} (h : DPE X W l da) : DPI X W tg l (wStr da) := by
  obtain ⟨t, h1, h2⟩ := h
  refine ⟨_, pi_str h1, fun σd Hd σ H Rd R E rs wx q k => h2 σd Hd σ H _ _ E rs wx q fun x Hd' v H' q' rx rs' up => ?_⟩
  unfold strAt at q'
  split at q'
  · exact ⟨_, rx, k _ Hd' _ H' q' sim_str rs' up⟩
  · exact q'.elim
def dCutS : D → Option Int → Option Int → DH → DK → Prop := fun x lo hi H Q => match x with
  | .str z => z.length ≤ sizeLine ∧ Q (.str (Txt.slice z lo hi)) H
  | _ => False
theorem dslS : DSlR X dCutS := ⟨_, C8.sl_txt, fun x v lo hi Hd H Qd Q rx rh q k => by
  unfold dCutS at q
  split at q
  · exact ⟨_, rx, q.1, k.here q.2 rfl rh⟩
  · exact q.elim⟩
def dSortS : DRA := fun xs H Q => ∃ (p : Addr) (ns : List Str), xs = [.ref p] ∧ H p = some (.lst (ns.map D.str)) ∧ ns.length < 64 ∧ ∀ (ys : List Str) q, ys.Perm ns → sortedS ys = true → H q = none → Q (.ref q) (put H q (.lst (ys.map D.str)))
theorem dcl_sortS : DCl X (.builtin "sorted") dSortS := ⟨_, cr_sortedS, fun xs vs Hd H Qd Q rx rh q k => by
  obtain ⟨p, ns, rfl, h, hl, q⟩ := q
  obtain ⟨v, rfl, e⟩ := reps1 rx
  obtain ⟨us, e1, r1⟩ := rh _ _ h
  refine ⟨p, ns, by rw [show v = V.ref p from e], by rw [← r1.strs]; exact SqL.of e1, hl, fun ys r h1 h2 h3 => ?_⟩
  exact k _ _ _ _ (q ys r h1 h2 (rh.fresh h3)) rfl (rh.new h3 ⟨_, upd_same, Reps.of_strs ys⟩) (Up.new h3)⟩
def dSortI : DRA := fun xs H Q => ∃ (p : Addr) (ns : List Int), xs = [.ref p] ∧ H p = some (.lst (ns.map D.int)) ∧ ∀ (ys : List Int) q, ys.Perm ns → ys.Pairwise (· ≤ ·) → H q = none → Q (.ref q) (put H q (.lst (ys.map D.int)))
theorem dcl_sortI : DCl X (.builtin "sorted") dSortI := ⟨_, cr_sortedI, fun xs vs Hd H Qd Q rx rh q k => by
  obtain ⟨p, ns, rfl, h, q⟩ := q
  obtain ⟨v, rfl, e⟩ := reps1 rx
  obtain ⟨us, e1, r1⟩ := rh _ _ h
  refine ⟨p, ns, by rw [show v = V.ref p from e], by rw [← r1.ints]; exact SqL.of e1, fun ys r h1 h2 h3 => ?_⟩
  exact k _ _ _ _ (q ys r h1 h2 (rh.fresh h3)) rfl (rh.new h3 ⟨_, upd_same, Reps.of_ints ys⟩) (Up.new h3)⟩
/-! ### a constant of a class -/
theorem d_cval {C : Addr} {mc u : Value} {v : V} {d : D} {f : Str} {e : Expr} {pos : Pos} (r : ClX.CRead X.K C mc) (k : ClX.CVal X.K C mc f v u) (hv : ∀ H, Rep X.K H d v) (he : DPE X W e (dC (.ref C))) (hb : attributeBase e f X.env (eval e X.env) = eval e X.env := by rfl) : DPE X W (.Attribute e f pos) (dC d) := by
  obtain ⟨t, h1, h2⟩ := he
  refine ⟨_, ClX.pe_cval h1 hb, fun σd Hd σ H Qd Q E rs wx q w => h2 σd Hd σ H (fun x H1 => x = .ref C ∧ Qd d H1) _ E rs wx ⟨rfl, q⟩ fun y H1 v' H1' q1 ry rs1 u1 => ?_⟩
  obtain ⟨e, q1⟩ := q1
  subst e
  exact ⟨C, mc, v, u, ry, r, k, w _ _ _ _ q1 (hv _) rs1 u1⟩
def CValE (K : PySem.W.Frag) (C : Addr) (f : Str) (d : D) : Prop := ∃ (mc : Value) (v : V) (u : Value), ClX.CRead K C mc ∧ ClX.CVal K C mc f v u ∧ ∀ H, Rep K H d v
theorem d_cvalE {C : Addr} {d : D} {f : Str} {e : Expr} {pos : Pos} (h : CValE X.K C f d) (he : DPE X W e (dC (.ref C))) (hb : attributeBase e f X.env (eval e X.env) = eval e X.env := by rfl) : DPE X W (.Attribute e f pos) (dC d) := by
  obtain ⟨mc, v, u, r, k, hv⟩ := h
  exact d_cval r k hv he hb
/-! ### a property -/
def propAt (C : Addr) (sp : DSp) (x : D) (H : DH) (Q : DK) : Prop := match x with
  | .ref p => ∃ fs, H p = some (.ins C fs) ∧ sp [.ref p] H Q (fun _ _ _ => False)
  | _ => False
def dProp (C : Addr) (sp : DSp) (o : DTE) : DTE := fun E σ H Q => o E σ H fun x H1 => propAt C sp x H1 Q
theorem d_prop {C pr g : Addr} {f : Str} {fd : FuncData} {ps : List Str} {sp : DSp} {k : Nat} {o : Expr} {pos : Pos} {da : DTE} (ho : DPE X W o da) (c : Cls X.K C) (hp : PropOf X.K C f pr g) (F : DFn X.prog X.w X.K X.mg X.base k g fd ps sp) (hr : Room (k + 1) X.A) (hb : Binds X.K fd ps [])
    (hab : attributeBase o f X.env (eval o X.env) = eval o X.env := by rfl) : DPE X W (.Attribute o f pos) (dProp C sp da) := by
  obtain ⟨t1, a1, a2⟩ := ho
  refine ⟨_, pe_prop (E := fun _ _ _ => False) a1 c hp F hr hb .nil ?_ hab, fun σd Hd σ H Qd Q E rs wx q w => ?_⟩
  · intro pins σ H s e s' I h
    obtain ⟨_, _, _, _, _, _, _, _, _, _, _, _, z⟩ := h
    exact z.elim
  · refine a2 σd Hd σ H _ _ E rs wx q fun y H1 v H1' q1 ry rs1 u1 => ?_
    unfold propAt at q1
    split at q1
    · rename_i a
      obtain ⟨fs, hf, q1⟩ := q1
      obtain ⟨dx, gs, e1, rf⟩ := rs1.hp _ _ hf
      exact ⟨a, dx, gs, ry, e1, [.ref a], H1, Qd, _, ⟨v, [], by rw [show v = _ from ry], ry, rfl⟩, rs1.hp, q1, (w.to u1).v rs1, fun _ _ _ _ z _ _ => z⟩
    · exact q1.elim
/-! ### defaults -/
/-- what fills up a call: dds -/
structure DflD (K : PySem.W.Frag) (fd : FuncData) (ps : List Str) (dds : List D) : Prop where
  ex : ∃ (ds : List Value) (dvs : List V), Binds K fd ps ds ∧ Vals dvs ds ∧ ∀ H, Reps K H dds dvs
theorem d_makeD {C f : Addr} {fd : FuncData} {ps : List Str} {sp : DSp} {k : Nat} {x : Str} {p pos : Pos} {e : Expr} {es : List Expr} {dA : DTA} {dds : List D} (M : Mk X.K C f) (F : DFn X.prog X.w X.K X.mg X.base k f fd ps sp) (hr : Room (k + 1) X.A) (tk : L2N.Takes X W) (hm : X.mg x = some (.ref C)) (hd : DflD X.K fd ps dds) (ha : DPA X W (e :: es) dA) (hg : Gl X x := by rfl)
    (hdb : (x == ("__debug__" : Str)) = false := by decide) (he : starEach (e :: es) X.env = (false, eval e X.env) :: starEach es X.env := by rfl) (hpl : (backTo pos (starEach es X.env)).any (·.1) = false := by rfl) : DPE X W (.Call (.Name x p) (e :: es) [] pos) (dMake C sp dds dA) := by
  obtain ⟨ds, dvs, h1, h2, h3⟩ := hd.ex
  exact d_make M F hr tk hm h1 h2 h3 ha hg hdb he hpl
theorem reps_unit {K : PySem.W.Frag} {U : Addr} {od : Option Addr} {n : Nat} {sl : Array (Option Value)} (l : K.lookup U = some ⟨.type "tuple", od, .seq #[] n, sl⟩) (H : Hp) : Reps K H [.tup []] [V.ref U] :=
  ⟨V.ref U, [], rfl, ⟨U, [], rfl, .inr ⟨_, #[], n, l, rfl, rfl, by rw [sizeLine_eq]; simp, .nil⟩, rfl⟩, rfl⟩
theorem funD_unit {K : PySem.W.Frag} {x qual : Str} {st : Stmt} {f T U : Addr} {oc kV doc pm cdv ct : Value} {od od2 an : Option Addr} {n : Nat} {osl sl2 : Array (Option Value)} (l : K.lookup f = some ⟨oc, od, .func (PySem.W.fnOf x qual (defArgs st) (defBody st) (defScope st) (.ref T) kV doc pm an cdv ct), osl⟩) (c : PySem.W.codeIn K cdv qual = true)
    (lT : K.lookup T = some ⟨.type "tuple", od2, .seq #[.ref U] n, sl2⟩) (kp : PySem.W.keepIn K (.ref f) = true) : FunD K x qual (defArgs st) (defBody st) (defScope st) [V.ref U] [] f (PySem.W.fnOf x qual (defArgs st) (defBody st) (defScope st) (.ref T) kV doc pm an cdv ct) :=
  ⟨⟨oc, od, .ref T, kV, doc, pm, an, cdv, ct, osl, rfl, l, c, .inr ⟨by simp, T, _, [.ref U], n, rfl, lT, rfl, .cons rfl .nil⟩, .inl rfl⟩, kp⟩
theorem dfl_unit {K : PySem.W.Frag} {x qual : Str} {st : Stmt} {f T U : Addr} {oc kV doc pm cdv ct : Value} {od od2 od3 an : Option Addr} {n n3 : Nat} {osl sl2 sl3 : Array (Option Value)} {ps : List Str} {m : Nat} (l : K.lookup f = some ⟨oc, od, .func (PySem.W.fnOf x qual (defArgs st) (defBody st) (defScope st) (.ref T) kV doc pm an cdv ct), osl⟩) (c : PySem.W.codeIn K cdv qual = true)
    (lT : K.lookup T = some ⟨.type "tuple", od2, .seq #[.ref U] n, sl2⟩) (lU : K.lookup U = some ⟨.type "tuple", od3, .seq #[] n3, sl3⟩) (kp : PySem.W.keepIn K (.ref f) = true) (hn : m + 1 = ps.length)
    (h : ∀ (T : Addr) (kV doc pm : Value) (an : Option Addr) (cdv ct : Value) (us its : List Value), us.length = m → its.length = 1 →
      ∃ k, bindArgs (PySem.W.fnOf x qual (defArgs st) (defBody st) (defScope st) (.ref T) kV doc pm an cdv ct) ⟨us, []⟩ = seqItems? (.ref T) >>= k ∧ k (some its.toArray) = pure (ps.zip (us ++ its.drop 0))) : DflD K (PySem.W.fnOf x qual (defArgs st) (defBody st) (defScope st) (.ref T) kV doc pm an cdv ct) ps [.tup []] := by
  obtain ⟨ds, h1, h2⟩ := (funD_unit l c lT kp).binds1 (ps := ps) m 0 (by simp) (by simpa using hn) h
  exact ⟨ds, [V.ref U], h2, h1, reps_unit lU⟩
theorem all_unit {K : PySem.W.Frag} {x qual : Str} {st : Stmt} {f T U : Addr} {oc kV doc pm cdv ct : Value} {od od2 an : Option Addr} {n : Nat} {osl sl2 : Array (Option Value)} {ps : List Str} {m : Nat} (l : K.lookup f = some ⟨oc, od, .func (PySem.W.fnOf x qual (defArgs st) (defBody st) (defScope st) (.ref T) kV doc pm an cdv ct), osl⟩) (c : PySem.W.codeIn K cdv qual = true)
    (lT : K.lookup T = some ⟨.type "tuple", od2, .seq #[.ref U] n, sl2⟩) (kp : PySem.W.keepIn K (.ref f) = true) (hn : m = ps.length)
    (h : ∀ (T : Addr) (kV doc pm : Value) (an : Option Addr) (cdv ct : Value) (us its : List Value), us.length = m → its.length = 1 →
      ∃ k, bindArgs (PySem.W.fnOf x qual (defArgs st) (defBody st) (defScope st) (.ref T) kV doc pm an cdv ct) ⟨us, []⟩ = seqItems? (.ref T) >>= k ∧ k (some its.toArray) = pure (ps.zip (us ++ its.drop 1))) : Binds K (PySem.W.fnOf x qual (defArgs st) (defBody st) (defScope st) (.ref T) kV doc pm an cdv ct) ps [] := by
  obtain ⟨ds, h1, h2⟩ := (funD_unit l c lT kp).binds1 (ps := ps) m 1 (by simp) (by simpa using hn) h
  cases h1
  exact h2
end
section
variable {K : PySem.W.Frag} {σ : DSt} {H : DH} {E : DX} {Z : DEnds}
theorem x_str2 {g : Str → Str → D} {a b : Str} {Q : DK} (q : Q (g a b) H) : dStr2 g (.str a) (.str b) H Q := q
theorem x_inS {f : Bool → Bool} {c : Nat} {z : Str} {Q : DK} (q : Q (.bl (f (decide (c ∈ z.cps.toList)))) H) : dInS f (.str ⟨#[c]⟩) (.str z) H Q := ⟨c, z, rfl, rfl, q⟩
theorem x_strT {a : DTE} {R : DIt → DH → Prop} (q : a E σ H fun x H1 => strAt x H1 R) : wStr a E σ H R := q
theorem x_strS {z : Str} {R : DIt → DH → Prop} (q : R (jStr z) H) : strAt (.str z) H R := q
theorem x_cutS {z : Str} {lo hi : Option Int} {Q : DK} (h : z.length ≤ sizeLine) (q : Q (.str (Txt.slice z lo hi)) H) : dCutS (.str z) lo hi H Q := ⟨h, q⟩
theorem x_sortS {p : Addr} {ns : List Str} {Q : DK} (h : H p = some (.lst (ns.map D.str))) (l : ns.length < 64) (q : ∀ (ys : List Str) r, ys.Perm ns → sortedS ys = true → H r = none → Q (.ref r) (put H r (.lst (ys.map D.str)))) : dSortS [.ref p] H Q := ⟨p, ns, rfl, h, l, q⟩
theorem x_sortI {p : Addr} {ns : List Int} {Q : DK} (h : H p = some (.lst (ns.map D.int))) (q : ∀ (ys : List Int) r, ys.Perm ns → ys.Pairwise (· ≤ ·) → H r = none → Q (.ref r) (put H r (.lst (ys.map D.int)))) : dSortI [.ref p] H Q := ⟨p, ns, rfl, h, q⟩
theorem x_prop {C : Addr} {sp : DSp} {o : DTE} {Q : DK} (q : o E σ H fun x H1 => propAt C sp x H1 Q) : dProp C sp o E σ H Q := q
theorem x_propAt {C p : Addr} {sp : DSp} {fs : List (Str × D)} {Q : DK} (h : H p = some (.ins C fs)) (q : sp [.ref p] H Q (fun _ _ _ => False)) : propAt C sp (.ref p) H Q := ⟨fs, h, q⟩
/-- a for over a text -/
theorem forStr {z : Str} {g : DTG} {tb : DTS} {Z : DEnds} {nx : DSt → DH → Prop} {σ : DSt} {H1 : DH} (W : Nat → DSt → DH → Prop) (h0 : W 0 σ H1)
    (step : ∀ i c σ H, z.cps[i]? = some c → W i σ H → g (.str ⟨#[c]⟩) σ H fun σ2 H2 => tb { Z with nx := W (i + 1), ct := W (i + 1), bk := nx } σ2 H2) (hd : ∀ σ H, W z.cps.size σ H → nx σ H) : ForGo (jStr z) g tb Z nx σ H1 := by
  refine ⟨fun i m σ H => m = z.cps.size - i ∧ i ≤ z.cps.size ∧ W i σ H, ⟨_, rfl, Nat.zero_le _, h0⟩, ?_⟩
  rintro i m σ H ⟨rfl, hi, p⟩
  by_cases hlt : i < z.cps.size
  · exact .inr ⟨_, ⟨_, Array.getElem?_eq_getElem hlt, rfl⟩, W (i + 1), fun σ' H' p' => ⟨z.cps.size - (i + 1), by omega, rfl, hlt, p'⟩, step i _ σ H (Array.getElem?_eq_getElem hlt) p⟩
  · have e : i = z.cps.size := by omega
    subst e
    exact .inl ⟨Nat.le_refl _, hd σ H p⟩
instance st_x_str2 {g : Str → Str → D} {a b : Str} {Q : DK} : Step (dStr2 g (.str a) (.str b) H Q) (Q (g a b) H) := ⟨fun q => x_str2 q⟩
instance st_x_inS {f : Bool → Bool} {c : Nat} {z : Str} {Q : DK} : Step (dInS f (.str ⟨#[c]⟩) (.str z) H Q) (Q (.bl (f (decide (c ∈ z.cps.toList)))) H) := ⟨fun q => x_inS q⟩
instance st_x_strT {a : DTE} {R : DIt → DH → Prop} : Step (wStr a E σ H R) (a E σ H fun x H1 => strAt x H1 R) := ⟨fun q => x_strT q⟩
instance st_x_strS {z : Str} {R : DIt → DH → Prop} : Step (strAt (.str z) H R) (R (jStr z) H) := ⟨fun q => x_strS q⟩
instance st_x_prop {C : Addr} {sp : DSp} {o : DTE} {Q : DK} : Step (dProp C sp o E σ H Q) (o E σ H fun x H1 => propAt C sp x H1 Q) := ⟨fun q => x_prop q⟩
end
end DL

namespace K02
open PySem PySem.Spec PyProof.Rows L2 DL
/-! ### the text by places -/
def top (i : Nat) : Stmt := PySem.Challenge.pw_everplay_k02_boards_invalid.main.body.getD i (.Pass ⟨0, 0, 0, 0⟩)
abbrev st_is_integer : Stmt := top 11
abbrev st_is_row : Stmt := top 12
abbrev st_frozen : Stmt := top 13
abbrev st_is_name : Stmt := top 14
abbrev st_is_place : Stmt := top 15
abbrev st_is_player : Stmt := top 16
abbrev st_marks_allowed : Stmt := top 34
abbrev st_gains_allowed : Stmt := top 35
abbrev st_moves_allowed : Stmt := top 36
abbrev st_first_width : Stmt := top 37
abbrev st_shape_allowed : Stmt := top 38
abbrev st_rank_allowed : Stmt := top 39
abbrev st__law_bag : Stmt := top 42
abbrev st__law_take : Stmt := top 43
abbrev st__law_same : Stmt := top 44
abbrev st__law_name : Stmt := top 45
abbrev st__law_pool : Stmt := top 46
abbrev st__law_marks : Stmt := top 47
abbrev st__law_gains : Stmt := top 48
abbrev st__law_moves : Stmt := top 49
abbrev st__law_world : Stmt := top 50
abbrev st__law_size : Stmt := top 51
abbrev st__law_grow : Stmt := top 52
abbrev st__law_is_board : Stmt := top 54
abbrev st__law_is_int : Stmt := top 55
abbrev st__law_is_row : Stmt := top 56
abbrev st__law_is_name : Stmt := top 57
abbrev st__law_bad_marks : Stmt := top 58
abbrev st__law_bad_moves : Stmt := top 59
abbrev st__law_width : Stmt := top 60
abbrev st__law_fault : Stmt := top 61
abbrev st__law_frozen : Stmt := top 62
abbrev st__law_bent_gains : Stmt := top 63
abbrev st__law_bent_row : Stmt := top 64
abbrev st__law_bend : Stmt := top 65
abbrev st__law_bend_whole : Stmt := top 66
abbrev st__law_given : Stmt := top 67
abbrev st__law_told : Stmt := top 68
abbrev st__law_spoil_row : Stmt := top 69
abbrev st__law_spoil : Stmt := top 70
abbrev st__law_right : Stmt := top 71
abbrev st_law : Stmt := top 72
abbrev st_Board_init : Stmt := inClass (top 40) 4
abbrev st_Board_width : Stmt := inClass (top 40) 5
abbrev st_InvalidBoard : Stmt := inClass (top 3) 0
abbrev N_is_integer : List Str := ["value"]
abbrev ps_is_integer : List Str := ["value"]
theorem sc_is_integer : FnScope N_is_integer ps_is_integer (defScope st_is_integer) := dscope_by (by decide +kernel)
abbrev N_is_row : List Str := ["value"]
abbrev ps_is_row : List Str := ["value"]
theorem sc_is_row : FnScope N_is_row ps_is_row (defScope st_is_row) := dscope_by (by decide +kernel)
abbrev N_frozen : List Str := ["value", "rows", "parts", "depth", "row", "at", "made"]
abbrev ps_frozen : List Str := ["value"]
theorem sc_frozen : FnScope N_frozen ps_frozen (defScope st_frozen) := dscope_by (by decide +kernel)
abbrev N_is_name : List Str := ["value", "letter"]
abbrev ps_is_name : List Str := ["value"]
theorem sc_is_name : FnScope N_is_name ps_is_name (defScope st_is_name) := dscope_by (by decide +kernel)
abbrev N_is_place : List Str := ["size", "value"]
abbrev ps_is_place : List Str := ["size", "value"]
theorem sc_is_place : FnScope N_is_place ps_is_place (defScope st_is_place) := dscope_by (by decide +kernel)
abbrev N_is_player : List Str := ["value"]
abbrev ps_is_player : List Str := ["value"]
theorem sc_is_player : FnScope N_is_player ps_is_player (defScope st_is_player) := dscope_by (by decide +kernel)
abbrev N_marks_allowed : List Str := ["names", "at", "name"]
abbrev ps_marks_allowed : List Str := ["names"]
theorem sc_marks_allowed : FnScope N_marks_allowed ps_marks_allowed (defScope st_marks_allowed) := dscope_by (by decide +kernel)
abbrev N_gains_allowed : List Str := ["gains", "width", "limit", "gain"]
abbrev ps_gains_allowed : List Str := ["gains", "width"]
theorem sc_gains_allowed : FnScope N_gains_allowed ps_gains_allowed (defScope st_gains_allowed) := dscope_by (by decide +kernel)
abbrev N_moves_allowed : List Str := ["moves", "size", "width", "before", "move", "target", "gains"]
abbrev ps_moves_allowed : List Str := ["moves", "size", "width"]
theorem sc_moves_allowed : FnScope N_moves_allowed ps_moves_allowed (defScope st_moves_allowed) := dscope_by (by decide +kernel)
abbrev N_first_width : List Str := ["moves", "move"]
abbrev ps_first_width : List Str := ["moves"]
theorem sc_first_width : FnScope N_first_width ps_first_width (defScope st_first_width) := dscope_by (by decide +kernel)
abbrev N_shape_allowed : List Str := ["owners", "ranks", "moves", "marks", "size"]
abbrev ps_shape_allowed : List Str := ["owners", "ranks", "moves", "marks"]
theorem sc_shape_allowed : FnScope N_shape_allowed ps_shape_allowed (defScope st_shape_allowed) := dscope_by (by decide +kernel)
abbrev N_rank_allowed : List Str := ["rank"]
abbrev ps_rank_allowed : List Str := ["rank"]
theorem sc_rank_allowed : FnScope N_rank_allowed ps_rank_allowed (defScope st_rank_allowed) := dscope_by (by decide +kernel)
abbrev N__law_bag : List Str := ["script", "great", "seed", "cell", "small"]
abbrev ps__law_bag : List Str := ["script"]
theorem sc__law_bag : FnScope N__law_bag ps__law_bag (defScope st__law_bag) := dscope_by (by decide +kernel)
abbrev N__law_take : List Str := ["bag", "many", "first", "second", "drawn"]
abbrev ps__law_take : List Str := ["bag", "many"]
theorem sc__law_take : FnScope N__law_take ps__law_take (defScope st__law_take) := dscope_by (by decide +kernel)
abbrev N__law_same : List Str := ["told", "due", "k"]
abbrev ps__law_same : List Str := ["told", "due"]
theorem sc__law_same : FnScope N__law_same ps__law_same (defScope st__law_same) := dscope_by (by decide +kernel)
abbrev N__law_name : List Str := ["bag", "most", "letters", "name", "wide", "k"]
abbrev ps__law_name : List Str := ["bag", "most"]
theorem sc__law_name : FnScope N__law_name ps__law_name (defScope st__law_name) := dscope_by (by decide +kernel)
abbrev N__law_pool : List Str := ["bag", "most", "pool", "k", "name"]
abbrev ps__law_pool : List Str := ["bag", "most"]
theorem sc__law_pool : FnScope N__law_pool ps__law_pool (defScope st__law_pool) := dscope_by (by decide +kernel)
abbrev N__law_marks : List Str := ["bag", "pool", "names", "name"]
abbrev ps__law_marks : List Str := ["bag", "pool"]
theorem sc__law_marks : FnScope N__law_marks ps__law_marks (defScope st__law_marks) := dscope_by (by decide +kernel)
abbrev N__law_gains : List Str := ["bag", "width", "far", "k"]
abbrev ps__law_gains : List Str := ["bag", "width", "far"]
theorem sc__law_gains : FnScope N__law_gains ps__law_gains (defScope st__law_gains) := dscope_by (by decide +kernel)
abbrev N__law_moves : List Str := ["bag", "places", "width", "thin", "far", "sure", "row", "target"]
abbrev ps__law_moves : List Str := ["bag", "places", "width", "thin", "far"]
theorem sc__law_moves : FnScope N__law_moves ps__law_moves (defScope st__law_moves) := dscope_by (by decide +kernel)
abbrev N__law_world : List Str := ["bag", "places", "width", "most", "pool", "thin", "far", "world", "place"]
abbrev ps__law_world : List Str := ["bag", "places", "width", "most"]
theorem sc__law_world : FnScope N__law_world ps__law_world (defScope st__law_world) := dscope_by (by decide +kernel)
abbrev N__law_size : List Str := ["bag", "way"]
abbrev ps__law_size : List Str := ["bag"]
theorem sc__law_size : FnScope N__law_size ps__law_size (defScope st__law_size) := dscope_by (by decide +kernel)
abbrev N__law_grow : List Str := ["world", "count", "many", "place", "base"]
abbrev ps__law_grow : List Str := ["world", "count"]
theorem sc__law_grow : FnScope N__law_grow ps__law_grow (defScope st__law_grow) := dscope_by (by decide +kernel)
abbrev N__law_is_board : List Str := ["board", "fields"]
abbrev ps__law_is_board : List Str := ["board", "fields"]
theorem sc__law_is_board : FnScope N__law_is_board ps__law_is_board (defScope st__law_is_board) := dscope_by (by decide +kernel)
abbrev N__law_is_int : List Str := ["number"]
abbrev ps__law_is_int : List Str := ["number"]
theorem sc__law_is_int : FnScope N__law_is_int ps__law_is_int (defScope st__law_is_int) := dscope_by (by decide +kernel)
abbrev N__law_is_row : List Str := ["row"]
abbrev ps__law_is_row : List Str := ["row"]
theorem sc__law_is_row : FnScope N__law_is_row ps__law_is_row (defScope st__law_is_row) := dscope_by (by decide +kernel)
abbrev N__law_is_name : List Str := ["word", "sign"]
abbrev ps__law_is_name : List Str := ["word"]
theorem sc__law_is_name : FnScope N__law_is_name ps__law_is_name (defScope st__law_is_name) := dscope_by (by decide +kernel)
abbrev N__law_bad_marks : List Str := ["names", "k"]
abbrev ps__law_bad_marks : List Str := ["names"]
theorem sc__law_bad_marks : FnScope N__law_bad_marks ps__law_bad_marks (defScope st__law_bad_marks) := dscope_by (by decide +kernel)
abbrev N__law_bad_moves : List Str := ["row", "many", "width", "before", "move", "gain"]
abbrev ps__law_bad_moves : List Str := ["row", "many", "width"]
theorem sc__law_bad_moves : FnScope N__law_bad_moves ps__law_bad_moves (defScope st__law_bad_moves) := dscope_by (by decide +kernel)
abbrev N__law_width : List Str := ["row"]
abbrev ps__law_width : List Str := ["row"]
theorem sc__law_width : FnScope N__law_width ps__law_width (defScope st__law_width) := dscope_by (by decide +kernel)
abbrev N__law_fault : List Str := ["given", "k", "many", "width", "place", "owner", "rank"]
abbrev ps__law_fault : List Str := ["given"]
theorem sc__law_fault : FnScope N__law_fault ps__law_fault (defScope st__law_fault) := dscope_by (by decide +kernel)
abbrev N__law_frozen : List Str := ["given", "many", "rows", "row", "marks", "names", "move"]
abbrev ps__law_frozen : List Str := ["given"]
theorem sc__law_frozen : FnScope N__law_frozen ps__law_frozen (defScope st__law_frozen) := dscope_by (by decide +kernel)
abbrev N__law_bent_gains : List Str := ["bag", "target", "gains", "way", "at"]
abbrev ps__law_bent_gains : List Str := ["bag", "target", "gains", "way"]
theorem sc__law_bent_gains : FnScope N__law_bent_gains ps__law_bent_gains (defScope st__law_bent_gains) := dscope_by (by decide +kernel)
abbrev N__law_bent_row : List Str := ["bag", "row", "many", "way", "at", "target", "gains", "move"]
abbrev ps__law_bent_row : List Str := ["bag", "row", "many"]
theorem sc__law_bent_row : FnScope N__law_bent_row ps__law_bent_row (defScope st__law_bent_row) := dscope_by (by decide +kernel)
abbrev N__law_bend : List Str := ["bag", "given", "world", "many", "place", "part", "odd"]
abbrev ps__law_bend : List Str := ["bag", "given", "world"]
theorem sc__law_bend : FnScope N__law_bend ps__law_bend (defScope st__law_bend) := dscope_by (by decide +kernel)
abbrev N__law_bend_whole : List Str := ["bag", "given", "part", "way", "k"]
abbrev ps__law_bend_whole : List Str := ["bag", "given"]
theorem sc__law_bend_whole : FnScope N__law_bend_whole ps__law_bend_whole (defScope st__law_bend_whole) := dscope_by (by decide +kernel)
abbrev N__law_given : List Str := ["world", "lists", "rows", "row", "names", "move"]
abbrev ps__law_given : List Str := ["world", "lists"]
theorem sc__law_given : FnScope N__law_given ps__law_given (defScope st__law_given) := dscope_by (by decide +kernel)
abbrev N__law_told : List Str := ["given", "short", "raised"]
abbrev ps__law_told : List Str := ["given", "short"]
theorem sc__law_told : FnScope N__law_told ps__law_told (defScope st__law_told) := dscope_by (by decide +kernel)
abbrev N__law_spoil_row : List Str := ["row", "move"]
abbrev ps__law_spoil_row : List Str := ["row"]
theorem sc__law_spoil_row : FnScope N__law_spoil_row ps__law_spoil_row (defScope st__law_spoil_row) := dscope_by (by decide +kernel)
abbrev N__law_spoil : List Str := ["given", "k", "row"]
abbrev ps__law_spoil : List Str := ["given"]
theorem sc__law_spoil : FnScope N__law_spoil ps__law_spoil (defScope st__law_spoil) := dscope_by (by decide +kernel)
abbrev N__law_right : List Str := ["given", "lists", "short", "due", "fields", "told", "k"]
abbrev ps__law_right : List Str := ["given", "lists", "short"]
theorem sc__law_right : FnScope N__law_right ps__law_right (defScope st__law_right) := dscope_by (by decide +kernel)
abbrev N_law : List Str := ["script", "bag", "bends", "whole", "grown", "lists", "bare", "short", "world", "given", "turn", "limits"]
abbrev ps_law : List Str := ["script"]
theorem sc_law : FnScope N_law ps_law (defScope st_law) := dscope_by (by decide +kernel)
abbrev N_Board_init : List Str := ["self", "owners", "ranks", "moves", "marks", "size", "width", "place"]
abbrev ps_Board_init : List Str := ["self", "owners", "ranks", "moves", "marks"]
theorem sc_Board_init : FnScope N_Board_init ps_Board_init (defScope st_Board_init) := dscope_by (by decide +kernel)
abbrev N_Board_width : List Str := ["self"]
abbrev ps_Board_width : List Str := ["self"]
theorem sc_Board_width : FnScope N_Board_width ps_Board_width (defScope st_Board_width) := dscope_by (by decide +kernel)
theorem bt_ValueError : bootBuiltins "ValueError" = some (.type "ValueError") := by decide +kernel
theorem bt_all : bootBuiltins "all" = some (.builtin "all") := by decide +kernel
theorem bt_bool : bootBuiltins "bool" = some (.type "bool") := by decide +kernel
theorem bt_int : bootBuiltins "int" = some (.type "int") := by decide +kernel
theorem bt_isinstance : bootBuiltins "isinstance" = some (.builtin "isinstance") := by decide +kernel
theorem bt_len : bootBuiltins "len" = some (.builtin "len") := by decide +kernel
theorem bt_list : bootBuiltins "list" = some (.type "list") := by decide +kernel
theorem bt_range : bootBuiltins "range" = some (.type "range") := by decide +kernel
theorem bt_sorted : bootBuiltins "sorted" = some (.builtin "sorted") := by decide +kernel
theorem bt_str : bootBuiltins "str" = some (.type "str") := by decide +kernel
theorem bt_tuple : bootBuiltins "tuple" = some (.type "tuple") := by decide +kernel
/-! ### what the top has left -/
structure Txt (P : Program) (K : PySem.W.Frag) (mg : Str → Option Value) where
  z_ValueError : mg "ValueError" = none
  z_all : mg "all" = none
  z_bool : mg "bool" = none
  z_int : mg "int" = none
  z_isinstance : mg "isinstance" = none
  z_len : mg "len" = none
  z_list : mg "list" = none
  z_range : mg "range" = none
  z_sorted : mg "sorted" = none
  z_str : mg "str" = none
  z_tuple : mg "tuple" = none
  g_NAME_LIMIT : ∃ t, mg "NAME_LIMIT" = some (.int 8 t)
  g_LETTERS : GlobD K mg "LETTERS" (.str "abcdefghijklmnopqrstuvwxyz")
  C_Board : Addr
  g_Board : mg "Board" = some (.ref C_Board)
  c_Board : Cls K C_Board
  v_Board_PLACE_LIMIT : CValE K C_Board "PLACE_LIMIT" (.int 400)
  v_Board_RANK_LIMIT : CValE K C_Board "RANK_LIMIT" (.int 9)
  v_Board_GAIN_LIMIT : CValE K C_Board "GAIN_LIMIT" (.int 99)
  v_Board_WIDTH_LIMIT : CValE K C_Board "WIDTH_LIMIT" (.int 3)
  n_Board_marks : NoAttr K C_Board "marks"
  n_Board_moves : NoAttr K C_Board "moves"
  n_Board_owners : NoAttr K C_Board "owners"
  n_Board_ranks : NoAttr K C_Board "ranks"
  o_Board : OwnTy K C_Board
  f_Board_init : Addr
  d_Board_init : FuncData
  F_Board_init : DFu K "__init__" "Board.__init__" st_Board_init f_Board_init d_Board_init
  m_Board_init : Meth K C_Board "__init__" f_Board_init
  D_Board_init : DflD K d_Board_init ps_Board_init [.tup []]
  b_Board_init : Binds K d_Board_init ps_Board_init []
  f_Board_width : Addr
  d_Board_width : FuncData
  F_Board_width : DFu K "width" "Board.width" st_Board_width f_Board_width d_Board_width
  p_Board_width : ∃ pr, PropOf K C_Board "width" pr f_Board_width
  b_Board_width : Binds K d_Board_width ps_Board_width []
  M_Board : Mk K C_Board f_Board_init
  f_is_integer : Addr
  d_is_integer : FuncData
  F_is_integer : DFu K "is_integer" "is_integer" st_is_integer f_is_integer d_is_integer
  g_is_integer : mg "is_integer" = some (.ref f_is_integer)
  k_is_integer : PySem.W.keepIn K (.ref f_is_integer) = true
  b_is_integer : Binds K d_is_integer ps_is_integer []
  f_is_row : Addr
  d_is_row : FuncData
  F_is_row : DFu K "is_row" "is_row" st_is_row f_is_row d_is_row
  g_is_row : mg "is_row" = some (.ref f_is_row)
  k_is_row : PySem.W.keepIn K (.ref f_is_row) = true
  b_is_row : Binds K d_is_row ps_is_row []
  f_frozen : Addr
  d_frozen : FuncData
  F_frozen : DFu K "frozen" "frozen" st_frozen f_frozen d_frozen
  g_frozen : mg "frozen" = some (.ref f_frozen)
  k_frozen : PySem.W.keepIn K (.ref f_frozen) = true
  b_frozen : Binds K d_frozen ps_frozen []
  f_is_name : Addr
  d_is_name : FuncData
  F_is_name : DFu K "is_name" "is_name" st_is_name f_is_name d_is_name
  g_is_name : mg "is_name" = some (.ref f_is_name)
  k_is_name : PySem.W.keepIn K (.ref f_is_name) = true
  b_is_name : Binds K d_is_name ps_is_name []
  f_is_place : Addr
  d_is_place : FuncData
  F_is_place : DFu K "is_place" "is_place" st_is_place f_is_place d_is_place
  g_is_place : mg "is_place" = some (.ref f_is_place)
  k_is_place : PySem.W.keepIn K (.ref f_is_place) = true
  b_is_place : Binds K d_is_place ps_is_place []
  f_is_player : Addr
  d_is_player : FuncData
  F_is_player : DFu K "is_player" "is_player" st_is_player f_is_player d_is_player
  g_is_player : mg "is_player" = some (.ref f_is_player)
  k_is_player : PySem.W.keepIn K (.ref f_is_player) = true
  b_is_player : Binds K d_is_player ps_is_player []
  f_marks_allowed : Addr
  d_marks_allowed : FuncData
  F_marks_allowed : DFu K "marks_allowed" "marks_allowed" st_marks_allowed f_marks_allowed d_marks_allowed
  g_marks_allowed : mg "marks_allowed" = some (.ref f_marks_allowed)
  k_marks_allowed : PySem.W.keepIn K (.ref f_marks_allowed) = true
  b_marks_allowed : Binds K d_marks_allowed ps_marks_allowed []
  f_gains_allowed : Addr
  d_gains_allowed : FuncData
  F_gains_allowed : DFu K "gains_allowed" "gains_allowed" st_gains_allowed f_gains_allowed d_gains_allowed
  g_gains_allowed : mg "gains_allowed" = some (.ref f_gains_allowed)
  k_gains_allowed : PySem.W.keepIn K (.ref f_gains_allowed) = true
  b_gains_allowed : Binds K d_gains_allowed ps_gains_allowed []
  f_moves_allowed : Addr
  d_moves_allowed : FuncData
  F_moves_allowed : DFu K "moves_allowed" "moves_allowed" st_moves_allowed f_moves_allowed d_moves_allowed
  g_moves_allowed : mg "moves_allowed" = some (.ref f_moves_allowed)
  k_moves_allowed : PySem.W.keepIn K (.ref f_moves_allowed) = true
  b_moves_allowed : Binds K d_moves_allowed ps_moves_allowed []
  f_first_width : Addr
  d_first_width : FuncData
  F_first_width : DFu K "first_width" "first_width" st_first_width f_first_width d_first_width
  g_first_width : mg "first_width" = some (.ref f_first_width)
  k_first_width : PySem.W.keepIn K (.ref f_first_width) = true
  b_first_width : Binds K d_first_width ps_first_width []
  f_shape_allowed : Addr
  d_shape_allowed : FuncData
  F_shape_allowed : DFu K "shape_allowed" "shape_allowed" st_shape_allowed f_shape_allowed d_shape_allowed
  g_shape_allowed : mg "shape_allowed" = some (.ref f_shape_allowed)
  k_shape_allowed : PySem.W.keepIn K (.ref f_shape_allowed) = true
  b_shape_allowed : Binds K d_shape_allowed ps_shape_allowed []
  f_rank_allowed : Addr
  d_rank_allowed : FuncData
  F_rank_allowed : DFu K "rank_allowed" "rank_allowed" st_rank_allowed f_rank_allowed d_rank_allowed
  g_rank_allowed : mg "rank_allowed" = some (.ref f_rank_allowed)
  k_rank_allowed : PySem.W.keepIn K (.ref f_rank_allowed) = true
  b_rank_allowed : Binds K d_rank_allowed ps_rank_allowed []
  f__law_bag : Addr
  d__law_bag : FuncData
  F__law_bag : DFu K "_law_bag" "_law_bag" st__law_bag f__law_bag d__law_bag
  g__law_bag : mg "_law_bag" = some (.ref f__law_bag)
  k__law_bag : PySem.W.keepIn K (.ref f__law_bag) = true
  b__law_bag : Binds K d__law_bag ps__law_bag []
  f__law_take : Addr
  d__law_take : FuncData
  F__law_take : DFu K "_law_take" "_law_take" st__law_take f__law_take d__law_take
  g__law_take : mg "_law_take" = some (.ref f__law_take)
  k__law_take : PySem.W.keepIn K (.ref f__law_take) = true
  b__law_take : Binds K d__law_take ps__law_take []
  f__law_same : Addr
  d__law_same : FuncData
  F__law_same : DFu K "_law_same" "_law_same" st__law_same f__law_same d__law_same
  g__law_same : mg "_law_same" = some (.ref f__law_same)
  k__law_same : PySem.W.keepIn K (.ref f__law_same) = true
  b__law_same : Binds K d__law_same ps__law_same []
  f__law_name : Addr
  d__law_name : FuncData
  F__law_name : DFu K "_law_name" "_law_name" st__law_name f__law_name d__law_name
  g__law_name : mg "_law_name" = some (.ref f__law_name)
  k__law_name : PySem.W.keepIn K (.ref f__law_name) = true
  b__law_name : Binds K d__law_name ps__law_name []
  f__law_pool : Addr
  d__law_pool : FuncData
  F__law_pool : DFu K "_law_pool" "_law_pool" st__law_pool f__law_pool d__law_pool
  g__law_pool : mg "_law_pool" = some (.ref f__law_pool)
  k__law_pool : PySem.W.keepIn K (.ref f__law_pool) = true
  b__law_pool : Binds K d__law_pool ps__law_pool []
  f__law_marks : Addr
  d__law_marks : FuncData
  F__law_marks : DFu K "_law_marks" "_law_marks" st__law_marks f__law_marks d__law_marks
  g__law_marks : mg "_law_marks" = some (.ref f__law_marks)
  k__law_marks : PySem.W.keepIn K (.ref f__law_marks) = true
  b__law_marks : Binds K d__law_marks ps__law_marks []
  f__law_gains : Addr
  d__law_gains : FuncData
  F__law_gains : DFu K "_law_gains" "_law_gains" st__law_gains f__law_gains d__law_gains
  g__law_gains : mg "_law_gains" = some (.ref f__law_gains)
  k__law_gains : PySem.W.keepIn K (.ref f__law_gains) = true
  b__law_gains : Binds K d__law_gains ps__law_gains []
  f__law_moves : Addr
  d__law_moves : FuncData
  F__law_moves : DFu K "_law_moves" "_law_moves" st__law_moves f__law_moves d__law_moves
  g__law_moves : mg "_law_moves" = some (.ref f__law_moves)
  k__law_moves : PySem.W.keepIn K (.ref f__law_moves) = true
  b__law_moves : Binds K d__law_moves ps__law_moves []
  f__law_world : Addr
  d__law_world : FuncData
  F__law_world : DFu K "_law_world" "_law_world" st__law_world f__law_world d__law_world
  g__law_world : mg "_law_world" = some (.ref f__law_world)
  k__law_world : PySem.W.keepIn K (.ref f__law_world) = true
  b__law_world : Binds K d__law_world ps__law_world []
  f__law_size : Addr
  d__law_size : FuncData
  F__law_size : DFu K "_law_size" "_law_size" st__law_size f__law_size d__law_size
  g__law_size : mg "_law_size" = some (.ref f__law_size)
  k__law_size : PySem.W.keepIn K (.ref f__law_size) = true
  b__law_size : Binds K d__law_size ps__law_size []
  f__law_grow : Addr
  d__law_grow : FuncData
  F__law_grow : DFu K "_law_grow" "_law_grow" st__law_grow f__law_grow d__law_grow
  g__law_grow : mg "_law_grow" = some (.ref f__law_grow)
  k__law_grow : PySem.W.keepIn K (.ref f__law_grow) = true
  b__law_grow : Binds K d__law_grow ps__law_grow []
  f__law_is_board : Addr
  d__law_is_board : FuncData
  F__law_is_board : DFu K "_law_is_board" "_law_is_board" st__law_is_board f__law_is_board d__law_is_board
  g__law_is_board : mg "_law_is_board" = some (.ref f__law_is_board)
  k__law_is_board : PySem.W.keepIn K (.ref f__law_is_board) = true
  b__law_is_board : Binds K d__law_is_board ps__law_is_board []
  f__law_is_int : Addr
  d__law_is_int : FuncData
  F__law_is_int : DFu K "_law_is_int" "_law_is_int" st__law_is_int f__law_is_int d__law_is_int
  g__law_is_int : mg "_law_is_int" = some (.ref f__law_is_int)
  k__law_is_int : PySem.W.keepIn K (.ref f__law_is_int) = true
  b__law_is_int : Binds K d__law_is_int ps__law_is_int []
  f__law_is_row : Addr
  d__law_is_row : FuncData
  F__law_is_row : DFu K "_law_is_row" "_law_is_row" st__law_is_row f__law_is_row d__law_is_row
  g__law_is_row : mg "_law_is_row" = some (.ref f__law_is_row)
  k__law_is_row : PySem.W.keepIn K (.ref f__law_is_row) = true
  b__law_is_row : Binds K d__law_is_row ps__law_is_row []
  f__law_is_name : Addr
  d__law_is_name : FuncData
  F__law_is_name : DFu K "_law_is_name" "_law_is_name" st__law_is_name f__law_is_name d__law_is_name
  g__law_is_name : mg "_law_is_name" = some (.ref f__law_is_name)
  k__law_is_name : PySem.W.keepIn K (.ref f__law_is_name) = true
  b__law_is_name : Binds K d__law_is_name ps__law_is_name []
  f__law_bad_marks : Addr
  d__law_bad_marks : FuncData
  F__law_bad_marks : DFu K "_law_bad_marks" "_law_bad_marks" st__law_bad_marks f__law_bad_marks d__law_bad_marks
  g__law_bad_marks : mg "_law_bad_marks" = some (.ref f__law_bad_marks)
  k__law_bad_marks : PySem.W.keepIn K (.ref f__law_bad_marks) = true
  b__law_bad_marks : Binds K d__law_bad_marks ps__law_bad_marks []
  f__law_bad_moves : Addr
  d__law_bad_moves : FuncData
  F__law_bad_moves : DFu K "_law_bad_moves" "_law_bad_moves" st__law_bad_moves f__law_bad_moves d__law_bad_moves
  g__law_bad_moves : mg "_law_bad_moves" = some (.ref f__law_bad_moves)
  k__law_bad_moves : PySem.W.keepIn K (.ref f__law_bad_moves) = true
  b__law_bad_moves : Binds K d__law_bad_moves ps__law_bad_moves []
  f__law_width : Addr
  d__law_width : FuncData
  F__law_width : DFu K "_law_width" "_law_width" st__law_width f__law_width d__law_width
  g__law_width : mg "_law_width" = some (.ref f__law_width)
  k__law_width : PySem.W.keepIn K (.ref f__law_width) = true
  b__law_width : Binds K d__law_width ps__law_width []
  f__law_fault : Addr
  d__law_fault : FuncData
  F__law_fault : DFu K "_law_fault" "_law_fault" st__law_fault f__law_fault d__law_fault
  g__law_fault : mg "_law_fault" = some (.ref f__law_fault)
  k__law_fault : PySem.W.keepIn K (.ref f__law_fault) = true
  b__law_fault : Binds K d__law_fault ps__law_fault []
  f__law_frozen : Addr
  d__law_frozen : FuncData
  F__law_frozen : DFu K "_law_frozen" "_law_frozen" st__law_frozen f__law_frozen d__law_frozen
  g__law_frozen : mg "_law_frozen" = some (.ref f__law_frozen)
  k__law_frozen : PySem.W.keepIn K (.ref f__law_frozen) = true
  b__law_frozen : Binds K d__law_frozen ps__law_frozen []
  f__law_bent_gains : Addr
  d__law_bent_gains : FuncData
  F__law_bent_gains : DFu K "_law_bent_gains" "_law_bent_gains" st__law_bent_gains f__law_bent_gains d__law_bent_gains
  g__law_bent_gains : mg "_law_bent_gains" = some (.ref f__law_bent_gains)
  k__law_bent_gains : PySem.W.keepIn K (.ref f__law_bent_gains) = true
  b__law_bent_gains : Binds K d__law_bent_gains ps__law_bent_gains []
  f__law_bent_row : Addr
  d__law_bent_row : FuncData
  F__law_bent_row : DFu K "_law_bent_row" "_law_bent_row" st__law_bent_row f__law_bent_row d__law_bent_row
  g__law_bent_row : mg "_law_bent_row" = some (.ref f__law_bent_row)
  k__law_bent_row : PySem.W.keepIn K (.ref f__law_bent_row) = true
  b__law_bent_row : Binds K d__law_bent_row ps__law_bent_row []
  f__law_bend : Addr
  d__law_bend : FuncData
  F__law_bend : DFu K "_law_bend" "_law_bend" st__law_bend f__law_bend d__law_bend
  g__law_bend : mg "_law_bend" = some (.ref f__law_bend)
  k__law_bend : PySem.W.keepIn K (.ref f__law_bend) = true
  b__law_bend : Binds K d__law_bend ps__law_bend []
  f__law_bend_whole : Addr
  d__law_bend_whole : FuncData
  F__law_bend_whole : DFu K "_law_bend_whole" "_law_bend_whole" st__law_bend_whole f__law_bend_whole d__law_bend_whole
  g__law_bend_whole : mg "_law_bend_whole" = some (.ref f__law_bend_whole)
  k__law_bend_whole : PySem.W.keepIn K (.ref f__law_bend_whole) = true
  b__law_bend_whole : Binds K d__law_bend_whole ps__law_bend_whole []
  f__law_given : Addr
  d__law_given : FuncData
  F__law_given : DFu K "_law_given" "_law_given" st__law_given f__law_given d__law_given
  g__law_given : mg "_law_given" = some (.ref f__law_given)
  k__law_given : PySem.W.keepIn K (.ref f__law_given) = true
  b__law_given : Binds K d__law_given ps__law_given []
  f__law_told : Addr
  d__law_told : FuncData
  F__law_told : DFu K "_law_told" "_law_told" st__law_told f__law_told d__law_told
  g__law_told : mg "_law_told" = some (.ref f__law_told)
  k__law_told : PySem.W.keepIn K (.ref f__law_told) = true
  b__law_told : Binds K d__law_told ps__law_told []
  f__law_spoil_row : Addr
  d__law_spoil_row : FuncData
  F__law_spoil_row : DFu K "_law_spoil_row" "_law_spoil_row" st__law_spoil_row f__law_spoil_row d__law_spoil_row
  g__law_spoil_row : mg "_law_spoil_row" = some (.ref f__law_spoil_row)
  k__law_spoil_row : PySem.W.keepIn K (.ref f__law_spoil_row) = true
  b__law_spoil_row : Binds K d__law_spoil_row ps__law_spoil_row []
  f__law_spoil : Addr
  d__law_spoil : FuncData
  F__law_spoil : DFu K "_law_spoil" "_law_spoil" st__law_spoil f__law_spoil d__law_spoil
  g__law_spoil : mg "_law_spoil" = some (.ref f__law_spoil)
  k__law_spoil : PySem.W.keepIn K (.ref f__law_spoil) = true
  b__law_spoil : Binds K d__law_spoil ps__law_spoil []
  f__law_right : Addr
  d__law_right : FuncData
  F__law_right : DFu K "_law_right" "_law_right" st__law_right f__law_right d__law_right
  g__law_right : mg "_law_right" = some (.ref f__law_right)
  k__law_right : PySem.W.keepIn K (.ref f__law_right) = true
  b__law_right : Binds K d__law_right ps__law_right []
  f_law : Addr
  d_law : FuncData
  F_law : DFu K "law" "law" st_law f_law d_law
  g_law : mg "law" = some (.ref f_law)
  k_law : PySem.W.keepIn K (.ref f_law) = true
  b_law : Binds K d_law ps_law []
  C_EverplayError : Addr
  g_EverplayError : mg "EverplayError" = some (.ref C_EverplayError)
  eC_EverplayError : PySem.W.subIn K (.ref C_EverplayError) (.type "BaseException") = some true
  C_InvalidBoard : Addr
  g_InvalidBoard : mg "InvalidBoard" = some (.ref C_InvalidBoard)
  f_InvalidBoard : Addr
  cc_InvalidBoard : Addr
  cda_InvalidBoard : Addr
  d_InvalidBoard : FuncData
  e_InvalidBoard : ErT P K mg C_InvalidBoard f_InvalidBoard cc_InvalidBoard cda_InvalidBoard
  L_InvalidBoard : ErL K st_InvalidBoard "InvalidBoard.__init__" f_InvalidBoard cc_InvalidBoard cda_InvalidBoard d_InvalidBoard
  x_InvalidBoard : XfC K C_InvalidBoard
  s_InvalidBoard : ExcC K C_InvalidBoard
  n_InvalidBoard_place : PySem.W.findIn K (.ref C_InvalidBoard) "place" = some none
  b_InvalidBoard : Binds K d_InvalidBoard ["self", "place"] []
  kv_InvalidBoard : PySem.W.kitOne K (.ref C_InvalidBoard) (.type "ValueError") = some true
  ex_InvalidBoard_EverplayError : PySem.W.exmOne K (.ref C_InvalidBoard) (.ref C_EverplayError) = some true
  kt_InvalidBoard_EverplayError : PySem.W.kitOne K (.ref C_InvalidBoard) (.ref C_EverplayError) = some true
  ex_InvalidBoard_InvalidBoard : PySem.W.exmOne K (.ref C_InvalidBoard) (.ref C_InvalidBoard) = some true
  kt_InvalidBoard_InvalidBoard : PySem.W.kitOne K (.ref C_InvalidBoard) (.ref C_InvalidBoard) = some true
theorem mkT {P : Program} {K : PySem.W.Frag} {h : Heap} {mg : Str → Option Value} (X : K.In h) (G : h.Ns mainGlobals mg) (top : (P.main.scope.names.lookup ("super" : Str)).isSome = false)
    {tk_NAME_LIMIT : Tok}
    {tk_LETTERS : Tok}
    {C_Board : Addr}
    {vt_Board_PLACE_LIMIT : Tok}
    {vt_Board_RANK_LIMIT : Tok}
    {vt_Board_GAIN_LIMIT : Tok}
    {vt_Board_WIDTH_LIMIT : Tok}
    {f_Board_init : Addr} {oc_Board_init kV_Board_init dc_Board_init pm_Board_init cd_Board_init ct_Board_init : Value} {od_Board_init an_Board_init : Option Addr} {sl_Board_init : Array (Option Value)}
    {dT_Board_init dU_Board_init : Addr} {dn_Board_init dm_Board_init : Nat} {do_Board_init dp_Board_init : Option Addr} {ds_Board_init dq_Board_init : Array (Option Value)}
    {f_Board_width : Addr} {oc_Board_width kV_Board_width dc_Board_width pm_Board_width cd_Board_width ct_Board_width : Value} {od_Board_width an_Board_width : Option Addr} {sl_Board_width : Array (Option Value)}
    {pr_Board_width : Addr} {prr_Board_width : List Value}
    {f_is_integer : Addr} {oc_is_integer kV_is_integer dc_is_integer pm_is_integer cd_is_integer ct_is_integer : Value} {od_is_integer an_is_integer : Option Addr} {sl_is_integer : Array (Option Value)}
    {f_is_row : Addr} {oc_is_row kV_is_row dc_is_row pm_is_row cd_is_row ct_is_row : Value} {od_is_row an_is_row : Option Addr} {sl_is_row : Array (Option Value)}
    {f_frozen : Addr} {oc_frozen kV_frozen dc_frozen pm_frozen cd_frozen ct_frozen : Value} {od_frozen an_frozen : Option Addr} {sl_frozen : Array (Option Value)}
    {f_is_name : Addr} {oc_is_name kV_is_name dc_is_name pm_is_name cd_is_name ct_is_name : Value} {od_is_name an_is_name : Option Addr} {sl_is_name : Array (Option Value)}
    {f_is_place : Addr} {oc_is_place kV_is_place dc_is_place pm_is_place cd_is_place ct_is_place : Value} {od_is_place an_is_place : Option Addr} {sl_is_place : Array (Option Value)}
    {f_is_player : Addr} {oc_is_player kV_is_player dc_is_player pm_is_player cd_is_player ct_is_player : Value} {od_is_player an_is_player : Option Addr} {sl_is_player : Array (Option Value)}
    {f_marks_allowed : Addr} {oc_marks_allowed kV_marks_allowed dc_marks_allowed pm_marks_allowed cd_marks_allowed ct_marks_allowed : Value} {od_marks_allowed an_marks_allowed : Option Addr} {sl_marks_allowed : Array (Option Value)}
    {f_gains_allowed : Addr} {oc_gains_allowed kV_gains_allowed dc_gains_allowed pm_gains_allowed cd_gains_allowed ct_gains_allowed : Value} {od_gains_allowed an_gains_allowed : Option Addr} {sl_gains_allowed : Array (Option Value)}
    {f_moves_allowed : Addr} {oc_moves_allowed kV_moves_allowed dc_moves_allowed pm_moves_allowed cd_moves_allowed ct_moves_allowed : Value} {od_moves_allowed an_moves_allowed : Option Addr} {sl_moves_allowed : Array (Option Value)}
    {f_first_width : Addr} {oc_first_width kV_first_width dc_first_width pm_first_width cd_first_width ct_first_width : Value} {od_first_width an_first_width : Option Addr} {sl_first_width : Array (Option Value)}
    {f_shape_allowed : Addr} {oc_shape_allowed kV_shape_allowed dc_shape_allowed pm_shape_allowed cd_shape_allowed ct_shape_allowed : Value} {od_shape_allowed an_shape_allowed : Option Addr} {sl_shape_allowed : Array (Option Value)}
    {f_rank_allowed : Addr} {oc_rank_allowed kV_rank_allowed dc_rank_allowed pm_rank_allowed cd_rank_allowed ct_rank_allowed : Value} {od_rank_allowed an_rank_allowed : Option Addr} {sl_rank_allowed : Array (Option Value)}
    {f__law_bag : Addr} {oc__law_bag kV__law_bag dc__law_bag pm__law_bag cd__law_bag ct__law_bag : Value} {od__law_bag an__law_bag : Option Addr} {sl__law_bag : Array (Option Value)}
    {f__law_take : Addr} {oc__law_take kV__law_take dc__law_take pm__law_take cd__law_take ct__law_take : Value} {od__law_take an__law_take : Option Addr} {sl__law_take : Array (Option Value)}
    {f__law_same : Addr} {oc__law_same kV__law_same dc__law_same pm__law_same cd__law_same ct__law_same : Value} {od__law_same an__law_same : Option Addr} {sl__law_same : Array (Option Value)}
    {f__law_name : Addr} {oc__law_name kV__law_name dc__law_name pm__law_name cd__law_name ct__law_name : Value} {od__law_name an__law_name : Option Addr} {sl__law_name : Array (Option Value)}
    {f__law_pool : Addr} {oc__law_pool kV__law_pool dc__law_pool pm__law_pool cd__law_pool ct__law_pool : Value} {od__law_pool an__law_pool : Option Addr} {sl__law_pool : Array (Option Value)}
    {f__law_marks : Addr} {oc__law_marks kV__law_marks dc__law_marks pm__law_marks cd__law_marks ct__law_marks : Value} {od__law_marks an__law_marks : Option Addr} {sl__law_marks : Array (Option Value)}
    {f__law_gains : Addr} {oc__law_gains kV__law_gains dc__law_gains pm__law_gains cd__law_gains ct__law_gains : Value} {od__law_gains an__law_gains : Option Addr} {sl__law_gains : Array (Option Value)}
    {f__law_moves : Addr} {oc__law_moves kV__law_moves dc__law_moves pm__law_moves cd__law_moves ct__law_moves : Value} {od__law_moves an__law_moves : Option Addr} {sl__law_moves : Array (Option Value)}
    {f__law_world : Addr} {oc__law_world kV__law_world dc__law_world pm__law_world cd__law_world ct__law_world : Value} {od__law_world an__law_world : Option Addr} {sl__law_world : Array (Option Value)}
    {f__law_size : Addr} {oc__law_size kV__law_size dc__law_size pm__law_size cd__law_size ct__law_size : Value} {od__law_size an__law_size : Option Addr} {sl__law_size : Array (Option Value)}
    {f__law_grow : Addr} {oc__law_grow kV__law_grow dc__law_grow pm__law_grow cd__law_grow ct__law_grow : Value} {od__law_grow an__law_grow : Option Addr} {sl__law_grow : Array (Option Value)}
    {f__law_is_board : Addr} {oc__law_is_board kV__law_is_board dc__law_is_board pm__law_is_board cd__law_is_board ct__law_is_board : Value} {od__law_is_board an__law_is_board : Option Addr} {sl__law_is_board : Array (Option Value)}
    {f__law_is_int : Addr} {oc__law_is_int kV__law_is_int dc__law_is_int pm__law_is_int cd__law_is_int ct__law_is_int : Value} {od__law_is_int an__law_is_int : Option Addr} {sl__law_is_int : Array (Option Value)}
    {f__law_is_row : Addr} {oc__law_is_row kV__law_is_row dc__law_is_row pm__law_is_row cd__law_is_row ct__law_is_row : Value} {od__law_is_row an__law_is_row : Option Addr} {sl__law_is_row : Array (Option Value)}
    {f__law_is_name : Addr} {oc__law_is_name kV__law_is_name dc__law_is_name pm__law_is_name cd__law_is_name ct__law_is_name : Value} {od__law_is_name an__law_is_name : Option Addr} {sl__law_is_name : Array (Option Value)}
    {f__law_bad_marks : Addr} {oc__law_bad_marks kV__law_bad_marks dc__law_bad_marks pm__law_bad_marks cd__law_bad_marks ct__law_bad_marks : Value} {od__law_bad_marks an__law_bad_marks : Option Addr} {sl__law_bad_marks : Array (Option Value)}
    {f__law_bad_moves : Addr} {oc__law_bad_moves kV__law_bad_moves dc__law_bad_moves pm__law_bad_moves cd__law_bad_moves ct__law_bad_moves : Value} {od__law_bad_moves an__law_bad_moves : Option Addr} {sl__law_bad_moves : Array (Option Value)}
    {f__law_width : Addr} {oc__law_width kV__law_width dc__law_width pm__law_width cd__law_width ct__law_width : Value} {od__law_width an__law_width : Option Addr} {sl__law_width : Array (Option Value)}
    {f__law_fault : Addr} {oc__law_fault kV__law_fault dc__law_fault pm__law_fault cd__law_fault ct__law_fault : Value} {od__law_fault an__law_fault : Option Addr} {sl__law_fault : Array (Option Value)}
    {f__law_frozen : Addr} {oc__law_frozen kV__law_frozen dc__law_frozen pm__law_frozen cd__law_frozen ct__law_frozen : Value} {od__law_frozen an__law_frozen : Option Addr} {sl__law_frozen : Array (Option Value)}
    {f__law_bent_gains : Addr} {oc__law_bent_gains kV__law_bent_gains dc__law_bent_gains pm__law_bent_gains cd__law_bent_gains ct__law_bent_gains : Value} {od__law_bent_gains an__law_bent_gains : Option Addr} {sl__law_bent_gains : Array (Option Value)}
    {f__law_bent_row : Addr} {oc__law_bent_row kV__law_bent_row dc__law_bent_row pm__law_bent_row cd__law_bent_row ct__law_bent_row : Value} {od__law_bent_row an__law_bent_row : Option Addr} {sl__law_bent_row : Array (Option Value)}
    {f__law_bend : Addr} {oc__law_bend kV__law_bend dc__law_bend pm__law_bend cd__law_bend ct__law_bend : Value} {od__law_bend an__law_bend : Option Addr} {sl__law_bend : Array (Option Value)}
    {f__law_bend_whole : Addr} {oc__law_bend_whole kV__law_bend_whole dc__law_bend_whole pm__law_bend_whole cd__law_bend_whole ct__law_bend_whole : Value} {od__law_bend_whole an__law_bend_whole : Option Addr} {sl__law_bend_whole : Array (Option Value)}
    {f__law_given : Addr} {oc__law_given kV__law_given dc__law_given pm__law_given cd__law_given ct__law_given : Value} {od__law_given an__law_given : Option Addr} {sl__law_given : Array (Option Value)}
    {f__law_told : Addr} {oc__law_told kV__law_told dc__law_told pm__law_told cd__law_told ct__law_told : Value} {od__law_told an__law_told : Option Addr} {sl__law_told : Array (Option Value)}
    {f__law_spoil_row : Addr} {oc__law_spoil_row kV__law_spoil_row dc__law_spoil_row pm__law_spoil_row cd__law_spoil_row ct__law_spoil_row : Value} {od__law_spoil_row an__law_spoil_row : Option Addr} {sl__law_spoil_row : Array (Option Value)}
    {f__law_spoil : Addr} {oc__law_spoil kV__law_spoil dc__law_spoil pm__law_spoil cd__law_spoil ct__law_spoil : Value} {od__law_spoil an__law_spoil : Option Addr} {sl__law_spoil : Array (Option Value)}
    {f__law_right : Addr} {oc__law_right kV__law_right dc__law_right pm__law_right cd__law_right ct__law_right : Value} {od__law_right an__law_right : Option Addr} {sl__law_right : Array (Option Value)}
    {f_law : Addr} {oc_law kV_law dc_law pm_law cd_law ct_law : Value} {od_law an_law : Option Addr} {sl_law : Array (Option Value)}
    {C_EverplayError : Addr}
    {nm_EverplayError qn_EverplayError : Str} {ns_EverplayError : Addr} {bs_EverplayError : List Value} {sn_EverplayError : List Str} {sb_EverplayError : List Value} {ab_EverplayError : Bool} {co_EverplayError : Option Bool} {dd_EverplayError : Option Addr} {q0_EverplayError q1_EverplayError q2_EverplayError q3_EverplayError q5_EverplayError : Option Value}
    {C_InvalidBoard : Addr}
    {nm_InvalidBoard qn_InvalidBoard : Str} {ns_InvalidBoard : Addr} {bs_InvalidBoard : List Value} {sn_InvalidBoard : List Str} {sb_InvalidBoard : List Value} {ab_InvalidBoard : Bool} {co_InvalidBoard : Option Bool} {dd_InvalidBoard : Option Addr} {q0_InvalidBoard q1_InvalidBoard q2_InvalidBoard q3_InvalidBoard q5_InvalidBoard : Option Value}
    {f_InvalidBoard cc_InvalidBoard cda_InvalidBoard : Addr} {oc_InvalidBoard kV_InvalidBoard dc_InvalidBoard pm_InvalidBoard ct_InvalidBoard cl_InvalidBoard ccl_InvalidBoard : Value} {od_InvalidBoard an_InvalidBoard cld_InvalidBoard cdd_InvalidBoard : Option Addr} {sl_InvalidBoard csl_InvalidBoard ccs_InvalidBoard : Array (Option Value)} {vs_InvalidBoard : Array Value}
    {fl_InvalidBoard : Str} {tf_InvalidBoard : Tok}
    (z_ValueError : PySem.W.nsIn K mainGlobals "ValueError" = some none)
    (z_all : PySem.W.nsIn K mainGlobals "all" = some none)
    (z_bool : PySem.W.nsIn K mainGlobals "bool" = some none)
    (z_int : PySem.W.nsIn K mainGlobals "int" = some none)
    (z_isinstance : PySem.W.nsIn K mainGlobals "isinstance" = some none)
    (z_len : PySem.W.nsIn K mainGlobals "len" = some none)
    (z_list : PySem.W.nsIn K mainGlobals "list" = some none)
    (z_range : PySem.W.nsIn K mainGlobals "range" = some none)
    (z_sorted : PySem.W.nsIn K mainGlobals "sorted" = some none)
    (z_str : PySem.W.nsIn K mainGlobals "str" = some none)
    (z_tuple : PySem.W.nsIn K mainGlobals "tuple" = some none)
    (g_NAME_LIMIT : PySem.W.nsIn K mainGlobals "NAME_LIMIT" = some (some (.int 8 tk_NAME_LIMIT)))
    (g_LETTERS : PySem.W.nsIn K mainGlobals "LETTERS" = some (some (.str "abcdefghijklmnopqrstuvwxyz" tk_LETTERS)))
    (z_super : PySem.W.nsIn K mainGlobals "super" = some none)
    (opq : PySem.W.nsIn K cStatics "thirdparty.any" = some none)
    (g_Board : PySem.W.nsIn K mainGlobals "Board" = some (some (.ref C_Board)))
    (c1_Board : PySem.W.plainGet K C_Board Str.empty = true)
    (c2_Board : PySem.W.hasDictIn K C_Board = true)
    (c3_Board : PySem.W.plainOver K C_Board = true)
    (c4_Board : PySem.W.findIn K (.ref C_Board) "__setattr__" = some (some (.builtin "object.__setattr__")))
    (rd_Board : PySem.W.readsIn K C_Board (.type "type") = true)
    (rg_Board : PySem.W.specialIn K (.ref C_Board) "__getattribute__" = some (some (.builtin "type.__getattribute__")))
    (v_Board_PLACE_LIMIT : PySem.W.findCls K (.ref C_Board) (.type "type") "PLACE_LIMIT" = some (.val (.int 400 vt_Board_PLACE_LIMIT)))
    (v_Board_RANK_LIMIT : PySem.W.findCls K (.ref C_Board) (.type "type") "RANK_LIMIT" = some (.val (.int 9 vt_Board_RANK_LIMIT)))
    (v_Board_GAIN_LIMIT : PySem.W.findCls K (.ref C_Board) (.type "type") "GAIN_LIMIT" = some (.val (.int 99 vt_Board_GAIN_LIMIT)))
    (v_Board_WIDTH_LIMIT : PySem.W.findCls K (.ref C_Board) (.type "type") "WIDTH_LIMIT" = some (.val (.int 3 vt_Board_WIDTH_LIMIT)))
    (n_Board_marks : PySem.W.findIn K (.ref C_Board) "marks" = some none)
    (n_Board_moves : PySem.W.findIn K (.ref C_Board) "moves" = some none)
    (n_Board_owners : PySem.W.findIn K (.ref C_Board) "owners" = some none)
    (n_Board_ranks : PySem.W.findIn K (.ref C_Board) "ranks" = some none)
    (o1_Board : PySem.W.findIn K (.ref C_Board) "__class__" = some (some (.builtin "object.__class__")))
    (o2_Board : PySem.W.specialIn K (.builtin "object.__class__") "__get__" = some (some (.builtin "getset_descriptor.__get__")))
    (o3_Board : PySem.W.takesIn K (.builtin "object.__class__") = some true)
    (o4_Board : PySem.W.mroIn K C_Board (.type "object") = some true)
    (a_Board_init : PySem.W.findIn K (.ref C_Board) "__init__" = some (some (.ref f_Board_init)))
    (l_Board_init : K.lookup f_Board_init = some ⟨oc_Board_init, od_Board_init, .func (PySem.W.fnOf "__init__" "Board.__init__" (defArgs st_Board_init) (defBody st_Board_init) (defScope st_Board_init) (.ref dT_Board_init) kV_Board_init dc_Board_init pm_Board_init an_Board_init cd_Board_init ct_Board_init), sl_Board_init⟩)
    (cd_Board_init_ : PySem.W.codeIn K cd_Board_init "Board.__init__" = true)
    (k_Board_init : PySem.W.keepIn K (.ref f_Board_init) = true)
    (dt_Board_init : K.lookup dT_Board_init = some ⟨.type "tuple", do_Board_init, .seq #[.ref dU_Board_init] dn_Board_init, ds_Board_init⟩)
    (du_Board_init : K.lookup dU_Board_init = some ⟨.type "tuple", dp_Board_init, .seq #[] dm_Board_init, dq_Board_init⟩)
    (i_Board_init : PySem.W.isFn K (.ref f_Board_init) = true)
    (a_Board_width : PySem.W.findIn K (.ref C_Board) "width" = some (some (.ref pr_Board_width)))
    (pa_Board_width : PySem.W.specialIn K (.ref pr_Board_width) "__get__" = some (some (.builtin "property.__get__")))
    (pb_Board_width : PySem.W.takesIn K (.ref pr_Board_width) = some true)
    (pc_Board_width : PySem.W.recIn K pr_Board_width "property" = some (.ref f_Board_width :: prr_Board_width))
    (l_Board_width : K.lookup f_Board_width = some ⟨oc_Board_width, od_Board_width, .func (PySem.W.fnOf "width" "Board.width" (defArgs st_Board_width) (defBody st_Board_width) (defScope st_Board_width) .none kV_Board_width dc_Board_width pm_Board_width an_Board_width cd_Board_width ct_Board_width), sl_Board_width⟩)
    (cd_Board_width_ : PySem.W.codeIn K cd_Board_width "Board.width" = true)
    (k_Board_width : PySem.W.keepIn K (.ref f_Board_width) = true)
    (mk_Board : PySem.W.makesIn K C_Board = true)
    (kc_Board : PySem.W.keepIn K (.ref C_Board) = true)
    (g_is_integer : PySem.W.nsIn K mainGlobals "is_integer" = some (some (.ref f_is_integer)))
    (l_is_integer : K.lookup f_is_integer = some ⟨oc_is_integer, od_is_integer, .func (PySem.W.fnOf "is_integer" "is_integer" (defArgs st_is_integer) (defBody st_is_integer) (defScope st_is_integer) .none kV_is_integer dc_is_integer pm_is_integer an_is_integer cd_is_integer ct_is_integer), sl_is_integer⟩)
    (cd_is_integer_ : PySem.W.codeIn K cd_is_integer "is_integer" = true)
    (k_is_integer : PySem.W.keepIn K (.ref f_is_integer) = true)
    (g_is_row : PySem.W.nsIn K mainGlobals "is_row" = some (some (.ref f_is_row)))
    (l_is_row : K.lookup f_is_row = some ⟨oc_is_row, od_is_row, .func (PySem.W.fnOf "is_row" "is_row" (defArgs st_is_row) (defBody st_is_row) (defScope st_is_row) .none kV_is_row dc_is_row pm_is_row an_is_row cd_is_row ct_is_row), sl_is_row⟩)
    (cd_is_row_ : PySem.W.codeIn K cd_is_row "is_row" = true)
    (k_is_row : PySem.W.keepIn K (.ref f_is_row) = true)
    (g_frozen : PySem.W.nsIn K mainGlobals "frozen" = some (some (.ref f_frozen)))
    (l_frozen : K.lookup f_frozen = some ⟨oc_frozen, od_frozen, .func (PySem.W.fnOf "frozen" "frozen" (defArgs st_frozen) (defBody st_frozen) (defScope st_frozen) .none kV_frozen dc_frozen pm_frozen an_frozen cd_frozen ct_frozen), sl_frozen⟩)
    (cd_frozen_ : PySem.W.codeIn K cd_frozen "frozen" = true)
    (k_frozen : PySem.W.keepIn K (.ref f_frozen) = true)
    (g_is_name : PySem.W.nsIn K mainGlobals "is_name" = some (some (.ref f_is_name)))
    (l_is_name : K.lookup f_is_name = some ⟨oc_is_name, od_is_name, .func (PySem.W.fnOf "is_name" "is_name" (defArgs st_is_name) (defBody st_is_name) (defScope st_is_name) .none kV_is_name dc_is_name pm_is_name an_is_name cd_is_name ct_is_name), sl_is_name⟩)
    (cd_is_name_ : PySem.W.codeIn K cd_is_name "is_name" = true)
    (k_is_name : PySem.W.keepIn K (.ref f_is_name) = true)
    (g_is_place : PySem.W.nsIn K mainGlobals "is_place" = some (some (.ref f_is_place)))
    (l_is_place : K.lookup f_is_place = some ⟨oc_is_place, od_is_place, .func (PySem.W.fnOf "is_place" "is_place" (defArgs st_is_place) (defBody st_is_place) (defScope st_is_place) .none kV_is_place dc_is_place pm_is_place an_is_place cd_is_place ct_is_place), sl_is_place⟩)
    (cd_is_place_ : PySem.W.codeIn K cd_is_place "is_place" = true)
    (k_is_place : PySem.W.keepIn K (.ref f_is_place) = true)
    (g_is_player : PySem.W.nsIn K mainGlobals "is_player" = some (some (.ref f_is_player)))
    (l_is_player : K.lookup f_is_player = some ⟨oc_is_player, od_is_player, .func (PySem.W.fnOf "is_player" "is_player" (defArgs st_is_player) (defBody st_is_player) (defScope st_is_player) .none kV_is_player dc_is_player pm_is_player an_is_player cd_is_player ct_is_player), sl_is_player⟩)
    (cd_is_player_ : PySem.W.codeIn K cd_is_player "is_player" = true)
    (k_is_player : PySem.W.keepIn K (.ref f_is_player) = true)
    (g_marks_allowed : PySem.W.nsIn K mainGlobals "marks_allowed" = some (some (.ref f_marks_allowed)))
    (l_marks_allowed : K.lookup f_marks_allowed = some ⟨oc_marks_allowed, od_marks_allowed, .func (PySem.W.fnOf "marks_allowed" "marks_allowed" (defArgs st_marks_allowed) (defBody st_marks_allowed) (defScope st_marks_allowed) .none kV_marks_allowed dc_marks_allowed pm_marks_allowed an_marks_allowed cd_marks_allowed ct_marks_allowed), sl_marks_allowed⟩)
    (cd_marks_allowed_ : PySem.W.codeIn K cd_marks_allowed "marks_allowed" = true)
    (k_marks_allowed : PySem.W.keepIn K (.ref f_marks_allowed) = true)
    (g_gains_allowed : PySem.W.nsIn K mainGlobals "gains_allowed" = some (some (.ref f_gains_allowed)))
    (l_gains_allowed : K.lookup f_gains_allowed = some ⟨oc_gains_allowed, od_gains_allowed, .func (PySem.W.fnOf "gains_allowed" "gains_allowed" (defArgs st_gains_allowed) (defBody st_gains_allowed) (defScope st_gains_allowed) .none kV_gains_allowed dc_gains_allowed pm_gains_allowed an_gains_allowed cd_gains_allowed ct_gains_allowed), sl_gains_allowed⟩)
    (cd_gains_allowed_ : PySem.W.codeIn K cd_gains_allowed "gains_allowed" = true)
    (k_gains_allowed : PySem.W.keepIn K (.ref f_gains_allowed) = true)
    (g_moves_allowed : PySem.W.nsIn K mainGlobals "moves_allowed" = some (some (.ref f_moves_allowed)))
    (l_moves_allowed : K.lookup f_moves_allowed = some ⟨oc_moves_allowed, od_moves_allowed, .func (PySem.W.fnOf "moves_allowed" "moves_allowed" (defArgs st_moves_allowed) (defBody st_moves_allowed) (defScope st_moves_allowed) .none kV_moves_allowed dc_moves_allowed pm_moves_allowed an_moves_allowed cd_moves_allowed ct_moves_allowed), sl_moves_allowed⟩)
    (cd_moves_allowed_ : PySem.W.codeIn K cd_moves_allowed "moves_allowed" = true)
    (k_moves_allowed : PySem.W.keepIn K (.ref f_moves_allowed) = true)
    (g_first_width : PySem.W.nsIn K mainGlobals "first_width" = some (some (.ref f_first_width)))
    (l_first_width : K.lookup f_first_width = some ⟨oc_first_width, od_first_width, .func (PySem.W.fnOf "first_width" "first_width" (defArgs st_first_width) (defBody st_first_width) (defScope st_first_width) .none kV_first_width dc_first_width pm_first_width an_first_width cd_first_width ct_first_width), sl_first_width⟩)
    (cd_first_width_ : PySem.W.codeIn K cd_first_width "first_width" = true)
    (k_first_width : PySem.W.keepIn K (.ref f_first_width) = true)
    (g_shape_allowed : PySem.W.nsIn K mainGlobals "shape_allowed" = some (some (.ref f_shape_allowed)))
    (l_shape_allowed : K.lookup f_shape_allowed = some ⟨oc_shape_allowed, od_shape_allowed, .func (PySem.W.fnOf "shape_allowed" "shape_allowed" (defArgs st_shape_allowed) (defBody st_shape_allowed) (defScope st_shape_allowed) .none kV_shape_allowed dc_shape_allowed pm_shape_allowed an_shape_allowed cd_shape_allowed ct_shape_allowed), sl_shape_allowed⟩)
    (cd_shape_allowed_ : PySem.W.codeIn K cd_shape_allowed "shape_allowed" = true)
    (k_shape_allowed : PySem.W.keepIn K (.ref f_shape_allowed) = true)
    (g_rank_allowed : PySem.W.nsIn K mainGlobals "rank_allowed" = some (some (.ref f_rank_allowed)))
    (l_rank_allowed : K.lookup f_rank_allowed = some ⟨oc_rank_allowed, od_rank_allowed, .func (PySem.W.fnOf "rank_allowed" "rank_allowed" (defArgs st_rank_allowed) (defBody st_rank_allowed) (defScope st_rank_allowed) .none kV_rank_allowed dc_rank_allowed pm_rank_allowed an_rank_allowed cd_rank_allowed ct_rank_allowed), sl_rank_allowed⟩)
    (cd_rank_allowed_ : PySem.W.codeIn K cd_rank_allowed "rank_allowed" = true)
    (k_rank_allowed : PySem.W.keepIn K (.ref f_rank_allowed) = true)
    (g__law_bag : PySem.W.nsIn K mainGlobals "_law_bag" = some (some (.ref f__law_bag)))
    (l__law_bag : K.lookup f__law_bag = some ⟨oc__law_bag, od__law_bag, .func (PySem.W.fnOf "_law_bag" "_law_bag" (defArgs st__law_bag) (defBody st__law_bag) (defScope st__law_bag) .none kV__law_bag dc__law_bag pm__law_bag an__law_bag cd__law_bag ct__law_bag), sl__law_bag⟩)
    (cd__law_bag_ : PySem.W.codeIn K cd__law_bag "_law_bag" = true)
    (k__law_bag : PySem.W.keepIn K (.ref f__law_bag) = true)
    (g__law_take : PySem.W.nsIn K mainGlobals "_law_take" = some (some (.ref f__law_take)))
    (l__law_take : K.lookup f__law_take = some ⟨oc__law_take, od__law_take, .func (PySem.W.fnOf "_law_take" "_law_take" (defArgs st__law_take) (defBody st__law_take) (defScope st__law_take) .none kV__law_take dc__law_take pm__law_take an__law_take cd__law_take ct__law_take), sl__law_take⟩)
    (cd__law_take_ : PySem.W.codeIn K cd__law_take "_law_take" = true)
    (k__law_take : PySem.W.keepIn K (.ref f__law_take) = true)
    (g__law_same : PySem.W.nsIn K mainGlobals "_law_same" = some (some (.ref f__law_same)))
    (l__law_same : K.lookup f__law_same = some ⟨oc__law_same, od__law_same, .func (PySem.W.fnOf "_law_same" "_law_same" (defArgs st__law_same) (defBody st__law_same) (defScope st__law_same) .none kV__law_same dc__law_same pm__law_same an__law_same cd__law_same ct__law_same), sl__law_same⟩)
    (cd__law_same_ : PySem.W.codeIn K cd__law_same "_law_same" = true)
    (k__law_same : PySem.W.keepIn K (.ref f__law_same) = true)
    (g__law_name : PySem.W.nsIn K mainGlobals "_law_name" = some (some (.ref f__law_name)))
    (l__law_name : K.lookup f__law_name = some ⟨oc__law_name, od__law_name, .func (PySem.W.fnOf "_law_name" "_law_name" (defArgs st__law_name) (defBody st__law_name) (defScope st__law_name) .none kV__law_name dc__law_name pm__law_name an__law_name cd__law_name ct__law_name), sl__law_name⟩)
    (cd__law_name_ : PySem.W.codeIn K cd__law_name "_law_name" = true)
    (k__law_name : PySem.W.keepIn K (.ref f__law_name) = true)
    (g__law_pool : PySem.W.nsIn K mainGlobals "_law_pool" = some (some (.ref f__law_pool)))
    (l__law_pool : K.lookup f__law_pool = some ⟨oc__law_pool, od__law_pool, .func (PySem.W.fnOf "_law_pool" "_law_pool" (defArgs st__law_pool) (defBody st__law_pool) (defScope st__law_pool) .none kV__law_pool dc__law_pool pm__law_pool an__law_pool cd__law_pool ct__law_pool), sl__law_pool⟩)
    (cd__law_pool_ : PySem.W.codeIn K cd__law_pool "_law_pool" = true)
    (k__law_pool : PySem.W.keepIn K (.ref f__law_pool) = true)
    (g__law_marks : PySem.W.nsIn K mainGlobals "_law_marks" = some (some (.ref f__law_marks)))
    (l__law_marks : K.lookup f__law_marks = some ⟨oc__law_marks, od__law_marks, .func (PySem.W.fnOf "_law_marks" "_law_marks" (defArgs st__law_marks) (defBody st__law_marks) (defScope st__law_marks) .none kV__law_marks dc__law_marks pm__law_marks an__law_marks cd__law_marks ct__law_marks), sl__law_marks⟩)
    (cd__law_marks_ : PySem.W.codeIn K cd__law_marks "_law_marks" = true)
    (k__law_marks : PySem.W.keepIn K (.ref f__law_marks) = true)
    (g__law_gains : PySem.W.nsIn K mainGlobals "_law_gains" = some (some (.ref f__law_gains)))
    (l__law_gains : K.lookup f__law_gains = some ⟨oc__law_gains, od__law_gains, .func (PySem.W.fnOf "_law_gains" "_law_gains" (defArgs st__law_gains) (defBody st__law_gains) (defScope st__law_gains) .none kV__law_gains dc__law_gains pm__law_gains an__law_gains cd__law_gains ct__law_gains), sl__law_gains⟩)
    (cd__law_gains_ : PySem.W.codeIn K cd__law_gains "_law_gains" = true)
    (k__law_gains : PySem.W.keepIn K (.ref f__law_gains) = true)
    (g__law_moves : PySem.W.nsIn K mainGlobals "_law_moves" = some (some (.ref f__law_moves)))
    (l__law_moves : K.lookup f__law_moves = some ⟨oc__law_moves, od__law_moves, .func (PySem.W.fnOf "_law_moves" "_law_moves" (defArgs st__law_moves) (defBody st__law_moves) (defScope st__law_moves) .none kV__law_moves dc__law_moves pm__law_moves an__law_moves cd__law_moves ct__law_moves), sl__law_moves⟩)
    (cd__law_moves_ : PySem.W.codeIn K cd__law_moves "_law_moves" = true)
    (k__law_moves : PySem.W.keepIn K (.ref f__law_moves) = true)
    (g__law_world : PySem.W.nsIn K mainGlobals "_law_world" = some (some (.ref f__law_world)))
    (l__law_world : K.lookup f__law_world = some ⟨oc__law_world, od__law_world, .func (PySem.W.fnOf "_law_world" "_law_world" (defArgs st__law_world) (defBody st__law_world) (defScope st__law_world) .none kV__law_world dc__law_world pm__law_world an__law_world cd__law_world ct__law_world), sl__law_world⟩)
    (cd__law_world_ : PySem.W.codeIn K cd__law_world "_law_world" = true)
    (k__law_world : PySem.W.keepIn K (.ref f__law_world) = true)
    (g__law_size : PySem.W.nsIn K mainGlobals "_law_size" = some (some (.ref f__law_size)))
    (l__law_size : K.lookup f__law_size = some ⟨oc__law_size, od__law_size, .func (PySem.W.fnOf "_law_size" "_law_size" (defArgs st__law_size) (defBody st__law_size) (defScope st__law_size) .none kV__law_size dc__law_size pm__law_size an__law_size cd__law_size ct__law_size), sl__law_size⟩)
    (cd__law_size_ : PySem.W.codeIn K cd__law_size "_law_size" = true)
    (k__law_size : PySem.W.keepIn K (.ref f__law_size) = true)
    (g__law_grow : PySem.W.nsIn K mainGlobals "_law_grow" = some (some (.ref f__law_grow)))
    (l__law_grow : K.lookup f__law_grow = some ⟨oc__law_grow, od__law_grow, .func (PySem.W.fnOf "_law_grow" "_law_grow" (defArgs st__law_grow) (defBody st__law_grow) (defScope st__law_grow) .none kV__law_grow dc__law_grow pm__law_grow an__law_grow cd__law_grow ct__law_grow), sl__law_grow⟩)
    (cd__law_grow_ : PySem.W.codeIn K cd__law_grow "_law_grow" = true)
    (k__law_grow : PySem.W.keepIn K (.ref f__law_grow) = true)
    (g__law_is_board : PySem.W.nsIn K mainGlobals "_law_is_board" = some (some (.ref f__law_is_board)))
    (l__law_is_board : K.lookup f__law_is_board = some ⟨oc__law_is_board, od__law_is_board, .func (PySem.W.fnOf "_law_is_board" "_law_is_board" (defArgs st__law_is_board) (defBody st__law_is_board) (defScope st__law_is_board) .none kV__law_is_board dc__law_is_board pm__law_is_board an__law_is_board cd__law_is_board ct__law_is_board), sl__law_is_board⟩)
    (cd__law_is_board_ : PySem.W.codeIn K cd__law_is_board "_law_is_board" = true)
    (k__law_is_board : PySem.W.keepIn K (.ref f__law_is_board) = true)
    (g__law_is_int : PySem.W.nsIn K mainGlobals "_law_is_int" = some (some (.ref f__law_is_int)))
    (l__law_is_int : K.lookup f__law_is_int = some ⟨oc__law_is_int, od__law_is_int, .func (PySem.W.fnOf "_law_is_int" "_law_is_int" (defArgs st__law_is_int) (defBody st__law_is_int) (defScope st__law_is_int) .none kV__law_is_int dc__law_is_int pm__law_is_int an__law_is_int cd__law_is_int ct__law_is_int), sl__law_is_int⟩)
    (cd__law_is_int_ : PySem.W.codeIn K cd__law_is_int "_law_is_int" = true)
    (k__law_is_int : PySem.W.keepIn K (.ref f__law_is_int) = true)
    (g__law_is_row : PySem.W.nsIn K mainGlobals "_law_is_row" = some (some (.ref f__law_is_row)))
    (l__law_is_row : K.lookup f__law_is_row = some ⟨oc__law_is_row, od__law_is_row, .func (PySem.W.fnOf "_law_is_row" "_law_is_row" (defArgs st__law_is_row) (defBody st__law_is_row) (defScope st__law_is_row) .none kV__law_is_row dc__law_is_row pm__law_is_row an__law_is_row cd__law_is_row ct__law_is_row), sl__law_is_row⟩)
    (cd__law_is_row_ : PySem.W.codeIn K cd__law_is_row "_law_is_row" = true)
    (k__law_is_row : PySem.W.keepIn K (.ref f__law_is_row) = true)
    (g__law_is_name : PySem.W.nsIn K mainGlobals "_law_is_name" = some (some (.ref f__law_is_name)))
    (l__law_is_name : K.lookup f__law_is_name = some ⟨oc__law_is_name, od__law_is_name, .func (PySem.W.fnOf "_law_is_name" "_law_is_name" (defArgs st__law_is_name) (defBody st__law_is_name) (defScope st__law_is_name) .none kV__law_is_name dc__law_is_name pm__law_is_name an__law_is_name cd__law_is_name ct__law_is_name), sl__law_is_name⟩)
    (cd__law_is_name_ : PySem.W.codeIn K cd__law_is_name "_law_is_name" = true)
    (k__law_is_name : PySem.W.keepIn K (.ref f__law_is_name) = true)
    (g__law_bad_marks : PySem.W.nsIn K mainGlobals "_law_bad_marks" = some (some (.ref f__law_bad_marks)))
    (l__law_bad_marks : K.lookup f__law_bad_marks = some ⟨oc__law_bad_marks, od__law_bad_marks, .func (PySem.W.fnOf "_law_bad_marks" "_law_bad_marks" (defArgs st__law_bad_marks) (defBody st__law_bad_marks) (defScope st__law_bad_marks) .none kV__law_bad_marks dc__law_bad_marks pm__law_bad_marks an__law_bad_marks cd__law_bad_marks ct__law_bad_marks), sl__law_bad_marks⟩)
    (cd__law_bad_marks_ : PySem.W.codeIn K cd__law_bad_marks "_law_bad_marks" = true)
    (k__law_bad_marks : PySem.W.keepIn K (.ref f__law_bad_marks) = true)
    (g__law_bad_moves : PySem.W.nsIn K mainGlobals "_law_bad_moves" = some (some (.ref f__law_bad_moves)))
    (l__law_bad_moves : K.lookup f__law_bad_moves = some ⟨oc__law_bad_moves, od__law_bad_moves, .func (PySem.W.fnOf "_law_bad_moves" "_law_bad_moves" (defArgs st__law_bad_moves) (defBody st__law_bad_moves) (defScope st__law_bad_moves) .none kV__law_bad_moves dc__law_bad_moves pm__law_bad_moves an__law_bad_moves cd__law_bad_moves ct__law_bad_moves), sl__law_bad_moves⟩)
    (cd__law_bad_moves_ : PySem.W.codeIn K cd__law_bad_moves "_law_bad_moves" = true)
    (k__law_bad_moves : PySem.W.keepIn K (.ref f__law_bad_moves) = true)
    (g__law_width : PySem.W.nsIn K mainGlobals "_law_width" = some (some (.ref f__law_width)))
    (l__law_width : K.lookup f__law_width = some ⟨oc__law_width, od__law_width, .func (PySem.W.fnOf "_law_width" "_law_width" (defArgs st__law_width) (defBody st__law_width) (defScope st__law_width) .none kV__law_width dc__law_width pm__law_width an__law_width cd__law_width ct__law_width), sl__law_width⟩)
    (cd__law_width_ : PySem.W.codeIn K cd__law_width "_law_width" = true)
    (k__law_width : PySem.W.keepIn K (.ref f__law_width) = true)
    (g__law_fault : PySem.W.nsIn K mainGlobals "_law_fault" = some (some (.ref f__law_fault)))
    (l__law_fault : K.lookup f__law_fault = some ⟨oc__law_fault, od__law_fault, .func (PySem.W.fnOf "_law_fault" "_law_fault" (defArgs st__law_fault) (defBody st__law_fault) (defScope st__law_fault) .none kV__law_fault dc__law_fault pm__law_fault an__law_fault cd__law_fault ct__law_fault), sl__law_fault⟩)
    (cd__law_fault_ : PySem.W.codeIn K cd__law_fault "_law_fault" = true)
    (k__law_fault : PySem.W.keepIn K (.ref f__law_fault) = true)
    (g__law_frozen : PySem.W.nsIn K mainGlobals "_law_frozen" = some (some (.ref f__law_frozen)))
    (l__law_frozen : K.lookup f__law_frozen = some ⟨oc__law_frozen, od__law_frozen, .func (PySem.W.fnOf "_law_frozen" "_law_frozen" (defArgs st__law_frozen) (defBody st__law_frozen) (defScope st__law_frozen) .none kV__law_frozen dc__law_frozen pm__law_frozen an__law_frozen cd__law_frozen ct__law_frozen), sl__law_frozen⟩)
    (cd__law_frozen_ : PySem.W.codeIn K cd__law_frozen "_law_frozen" = true)
    (k__law_frozen : PySem.W.keepIn K (.ref f__law_frozen) = true)
    (g__law_bent_gains : PySem.W.nsIn K mainGlobals "_law_bent_gains" = some (some (.ref f__law_bent_gains)))
    (l__law_bent_gains : K.lookup f__law_bent_gains = some ⟨oc__law_bent_gains, od__law_bent_gains, .func (PySem.W.fnOf "_law_bent_gains" "_law_bent_gains" (defArgs st__law_bent_gains) (defBody st__law_bent_gains) (defScope st__law_bent_gains) .none kV__law_bent_gains dc__law_bent_gains pm__law_bent_gains an__law_bent_gains cd__law_bent_gains ct__law_bent_gains), sl__law_bent_gains⟩)
    (cd__law_bent_gains_ : PySem.W.codeIn K cd__law_bent_gains "_law_bent_gains" = true)
    (k__law_bent_gains : PySem.W.keepIn K (.ref f__law_bent_gains) = true)
    (g__law_bent_row : PySem.W.nsIn K mainGlobals "_law_bent_row" = some (some (.ref f__law_bent_row)))
    (l__law_bent_row : K.lookup f__law_bent_row = some ⟨oc__law_bent_row, od__law_bent_row, .func (PySem.W.fnOf "_law_bent_row" "_law_bent_row" (defArgs st__law_bent_row) (defBody st__law_bent_row) (defScope st__law_bent_row) .none kV__law_bent_row dc__law_bent_row pm__law_bent_row an__law_bent_row cd__law_bent_row ct__law_bent_row), sl__law_bent_row⟩)
    (cd__law_bent_row_ : PySem.W.codeIn K cd__law_bent_row "_law_bent_row" = true)
    (k__law_bent_row : PySem.W.keepIn K (.ref f__law_bent_row) = true)
    (g__law_bend : PySem.W.nsIn K mainGlobals "_law_bend" = some (some (.ref f__law_bend)))
    (l__law_bend : K.lookup f__law_bend = some ⟨oc__law_bend, od__law_bend, .func (PySem.W.fnOf "_law_bend" "_law_bend" (defArgs st__law_bend) (defBody st__law_bend) (defScope st__law_bend) .none kV__law_bend dc__law_bend pm__law_bend an__law_bend cd__law_bend ct__law_bend), sl__law_bend⟩)
    (cd__law_bend_ : PySem.W.codeIn K cd__law_bend "_law_bend" = true)
    (k__law_bend : PySem.W.keepIn K (.ref f__law_bend) = true)
    (g__law_bend_whole : PySem.W.nsIn K mainGlobals "_law_bend_whole" = some (some (.ref f__law_bend_whole)))
    (l__law_bend_whole : K.lookup f__law_bend_whole = some ⟨oc__law_bend_whole, od__law_bend_whole, .func (PySem.W.fnOf "_law_bend_whole" "_law_bend_whole" (defArgs st__law_bend_whole) (defBody st__law_bend_whole) (defScope st__law_bend_whole) .none kV__law_bend_whole dc__law_bend_whole pm__law_bend_whole an__law_bend_whole cd__law_bend_whole ct__law_bend_whole), sl__law_bend_whole⟩)
    (cd__law_bend_whole_ : PySem.W.codeIn K cd__law_bend_whole "_law_bend_whole" = true)
    (k__law_bend_whole : PySem.W.keepIn K (.ref f__law_bend_whole) = true)
    (g__law_given : PySem.W.nsIn K mainGlobals "_law_given" = some (some (.ref f__law_given)))
    (l__law_given : K.lookup f__law_given = some ⟨oc__law_given, od__law_given, .func (PySem.W.fnOf "_law_given" "_law_given" (defArgs st__law_given) (defBody st__law_given) (defScope st__law_given) .none kV__law_given dc__law_given pm__law_given an__law_given cd__law_given ct__law_given), sl__law_given⟩)
    (cd__law_given_ : PySem.W.codeIn K cd__law_given "_law_given" = true)
    (k__law_given : PySem.W.keepIn K (.ref f__law_given) = true)
    (g__law_told : PySem.W.nsIn K mainGlobals "_law_told" = some (some (.ref f__law_told)))
    (l__law_told : K.lookup f__law_told = some ⟨oc__law_told, od__law_told, .func (PySem.W.fnOf "_law_told" "_law_told" (defArgs st__law_told) (defBody st__law_told) (defScope st__law_told) .none kV__law_told dc__law_told pm__law_told an__law_told cd__law_told ct__law_told), sl__law_told⟩)
    (cd__law_told_ : PySem.W.codeIn K cd__law_told "_law_told" = true)
    (k__law_told : PySem.W.keepIn K (.ref f__law_told) = true)
    (g__law_spoil_row : PySem.W.nsIn K mainGlobals "_law_spoil_row" = some (some (.ref f__law_spoil_row)))
    (l__law_spoil_row : K.lookup f__law_spoil_row = some ⟨oc__law_spoil_row, od__law_spoil_row, .func (PySem.W.fnOf "_law_spoil_row" "_law_spoil_row" (defArgs st__law_spoil_row) (defBody st__law_spoil_row) (defScope st__law_spoil_row) .none kV__law_spoil_row dc__law_spoil_row pm__law_spoil_row an__law_spoil_row cd__law_spoil_row ct__law_spoil_row), sl__law_spoil_row⟩)
    (cd__law_spoil_row_ : PySem.W.codeIn K cd__law_spoil_row "_law_spoil_row" = true)
    (k__law_spoil_row : PySem.W.keepIn K (.ref f__law_spoil_row) = true)
    (g__law_spoil : PySem.W.nsIn K mainGlobals "_law_spoil" = some (some (.ref f__law_spoil)))
    (l__law_spoil : K.lookup f__law_spoil = some ⟨oc__law_spoil, od__law_spoil, .func (PySem.W.fnOf "_law_spoil" "_law_spoil" (defArgs st__law_spoil) (defBody st__law_spoil) (defScope st__law_spoil) .none kV__law_spoil dc__law_spoil pm__law_spoil an__law_spoil cd__law_spoil ct__law_spoil), sl__law_spoil⟩)
    (cd__law_spoil_ : PySem.W.codeIn K cd__law_spoil "_law_spoil" = true)
    (k__law_spoil : PySem.W.keepIn K (.ref f__law_spoil) = true)
    (g__law_right : PySem.W.nsIn K mainGlobals "_law_right" = some (some (.ref f__law_right)))
    (l__law_right : K.lookup f__law_right = some ⟨oc__law_right, od__law_right, .func (PySem.W.fnOf "_law_right" "_law_right" (defArgs st__law_right) (defBody st__law_right) (defScope st__law_right) .none kV__law_right dc__law_right pm__law_right an__law_right cd__law_right ct__law_right), sl__law_right⟩)
    (cd__law_right_ : PySem.W.codeIn K cd__law_right "_law_right" = true)
    (k__law_right : PySem.W.keepIn K (.ref f__law_right) = true)
    (g_law : PySem.W.nsIn K mainGlobals "law" = some (some (.ref f_law)))
    (l_law : K.lookup f_law = some ⟨oc_law, od_law, .func (PySem.W.fnOf "law" "law" (defArgs st_law) (defBody st_law) (defScope st_law) .none kV_law dc_law pm_law an_law cd_law ct_law), sl_law⟩)
    (cd_law_ : PySem.W.codeIn K cd_law "law" = true)
    (k_law : PySem.W.keepIn K (.ref f_law) = true)
    (g_EverplayError : PySem.W.nsIn K mainGlobals "EverplayError" = some (some (.ref C_EverplayError)))
    (x_EverplayError_ : K.lookup C_EverplayError = some (excClassObj nm_EverplayError qn_EverplayError C_EverplayError ns_EverplayError bs_EverplayError [.type "ValueError", .type "Exception", .type "BaseException", .type "object"] true sn_EverplayError sb_EverplayError ab_EverplayError co_EverplayError dd_EverplayError q0_EverplayError q1_EverplayError q2_EverplayError q3_EverplayError q5_EverplayError "ValueError.__new__"))
    (eC_EverplayError : PySem.W.subIn K (.ref C_EverplayError) (.type "BaseException") = some true)
    (tC_EverplayError : PySem.W.typeIn K (.ref C_EverplayError) = some (.type "type"))
    (hC_EverplayError : PySem.W.hasDictIn K C_EverplayError = true)
    (g_InvalidBoard : PySem.W.nsIn K mainGlobals "InvalidBoard" = some (some (.ref C_InvalidBoard)))
    (x_InvalidBoard_ : K.lookup C_InvalidBoard = some (excClassObj nm_InvalidBoard qn_InvalidBoard C_InvalidBoard ns_InvalidBoard bs_InvalidBoard [.ref C_EverplayError, .type "ValueError", .type "Exception", .type "BaseException", .type "object"] true sn_InvalidBoard sb_InvalidBoard ab_InvalidBoard co_InvalidBoard dd_InvalidBoard q0_InvalidBoard q1_InvalidBoard q2_InvalidBoard q3_InvalidBoard q5_InvalidBoard "ValueError.__new__"))
    (eC_InvalidBoard : PySem.W.subIn K (.ref C_InvalidBoard) (.type "BaseException") = some true)
    (tC_InvalidBoard : PySem.W.typeIn K (.ref C_InvalidBoard) = some (.type "type"))
    (hC_InvalidBoard : PySem.W.hasDictIn K C_InvalidBoard = true)
    (sa_InvalidBoard : PySem.W.findIn K (.ref C_InvalidBoard) "__setattr__" = some (some (.builtin "object.__setattr__")))
    (kC_InvalidBoard : PySem.W.keepIn K (.ref C_InvalidBoard) = true)
    (iC_InvalidBoard : PySem.W.findIn K (.ref C_InvalidBoard) "__init__" = some (some (.ref f_InvalidBoard)))
    (tI_InvalidBoard : PySem.W.typeIn K (.ref f_InvalidBoard) = some (.type "function"))
    (l_InvalidBoard : K.lookup f_InvalidBoard = some ⟨oc_InvalidBoard, od_InvalidBoard, .func (PySem.W.ksFn "__init__" "InvalidBoard.__init__" (defArgs st_InvalidBoard) (defBody st_InvalidBoard) (defScope st_InvalidBoard) .none kV_InvalidBoard dc_InvalidBoard pm_InvalidBoard an_InvalidBoard (.ref cda_InvalidBoard) ct_InvalidBoard cc_InvalidBoard), sl_InvalidBoard⟩)
    (cd_InvalidBoard_ : PySem.W.codeIn K (.ref cda_InvalidBoard) "InvalidBoard.__init__" = true)
    (ll_InvalidBoard : K.lookup cc_InvalidBoard = some ⟨cl_InvalidBoard, cld_InvalidBoard, .cell (some (.ref C_InvalidBoard)), csl_InvalidBoard⟩)
    (lc_InvalidBoard : K.lookup cda_InvalidBoard = some ⟨ccl_InvalidBoard, cdd_InvalidBoard, .fields vs_InvalidBoard, ccs_InvalidBoard⟩)
    (vE_InvalidBoard : PySem.W.subIn K (.ref C_InvalidBoard) (.type "ValueError") = some true)
    (mC_InvalidBoard : PySem.W.mroIn K C_InvalidBoard (.ref C_InvalidBoard) = some true)
    (fB_InvalidBoard : PySem.W.findIn K (.ref C_EverplayError) "__init__" = some (some (.builtin "ValueError.__init__")))
    (vf_InvalidBoard : vs_InvalidBoard[2]? = some (.str fl_InvalidBoard tf_InvalidBoard) ∧ ((P.main.file : Str) == fl_InvalidBoard) = true)
    (ga_InvalidBoard : PySem.W.findIn K (.ref C_InvalidBoard) "__getattribute__" = some (some (.builtin "BaseException.__getattribute__")))
    (gg_InvalidBoard : PySem.W.findIn K (.ref C_InvalidBoard) "__getattr__" = some none)
    (cA_InvalidBoard : PySem.W.findIn K (.ref C_InvalidBoard) "__class__" = some (some (.builtin "object.__class__")))
    (cB_InvalidBoard : PySem.W.specialIn K (.builtin "object.__class__") "__get__" = some (some (.builtin "getset_descriptor.__get__")))
    (cC_InvalidBoard : PySem.W.takesIn K (.builtin "object.__class__") = some true)
    (cD_InvalidBoard : PySem.W.mroIn K C_InvalidBoard (.type "object") = some true)
    (n_InvalidBoard_place : PySem.W.findIn K (.ref C_InvalidBoard) "place" = some none)
    (su_InvalidBoard_EverplayError : PySem.W.subIn K (.ref C_InvalidBoard) (.ref C_EverplayError) = some true)
    (ic_InvalidBoard_EverplayError : PySem.W.isClsIn K C_EverplayError = true)
    (ne_InvalidBoard_EverplayError : C_InvalidBoard ≠ C_EverplayError)
    (su_InvalidBoard_InvalidBoard : PySem.W.subIn K (.ref C_InvalidBoard) (.ref C_InvalidBoard) = some true)
    : ∃ (T : Txt P K mg) (kV doc pm : Value) (an : Option Addr) (cd ct : Value), T.d_law = PySem.W.fnOf "law" "law" (defArgs st_law) (defBody st_law) (defScope st_law) .none kV doc pm an cd ct := ⟨{
      z_ValueError := PySem.W.mg_none_of X G z_ValueError,
      z_all := PySem.W.mg_none_of X G z_all,
      z_bool := PySem.W.mg_none_of X G z_bool,
      z_int := PySem.W.mg_none_of X G z_int,
      z_isinstance := PySem.W.mg_none_of X G z_isinstance,
      z_len := PySem.W.mg_none_of X G z_len,
      z_list := PySem.W.mg_none_of X G z_list,
      z_range := PySem.W.mg_none_of X G z_range,
      z_sorted := PySem.W.mg_none_of X G z_sorted,
      z_str := PySem.W.mg_none_of X G z_str,
      z_tuple := PySem.W.mg_none_of X G z_tuple,
      g_NAME_LIMIT := ⟨_, PySem.W.mg_of X G g_NAME_LIMIT⟩,
      g_LETTERS := ⟨V.str "abcdefghijklmnopqrstuvwxyz", _, PySem.W.mg_of X G g_LETTERS, ⟨_, rfl⟩, fun _ => rfl⟩,
      C_Board := C_Board,
      g_Board := PySem.W.mg_of X G g_Board,
      c_Board := ⟨c1_Board, c2_Board, c3_Board, c4_Board⟩,
      v_Board_PLACE_LIMIT := ⟨.type "type", V.int 400, _, ⟨rd_Board, rg_Board⟩, ⟨v_Board_PLACE_LIMIT, ⟨_, rfl⟩⟩, fun _ => rfl⟩,
      v_Board_RANK_LIMIT := ⟨.type "type", V.int 9, _, ⟨rd_Board, rg_Board⟩, ⟨v_Board_RANK_LIMIT, ⟨_, rfl⟩⟩, fun _ => rfl⟩,
      v_Board_GAIN_LIMIT := ⟨.type "type", V.int 99, _, ⟨rd_Board, rg_Board⟩, ⟨v_Board_GAIN_LIMIT, ⟨_, rfl⟩⟩, fun _ => rfl⟩,
      v_Board_WIDTH_LIMIT := ⟨.type "type", V.int 3, _, ⟨rd_Board, rg_Board⟩, ⟨v_Board_WIDTH_LIMIT, ⟨_, rfl⟩⟩, fun _ => rfl⟩,
      n_Board_marks := n_Board_marks,
      n_Board_moves := n_Board_moves,
      n_Board_owners := n_Board_owners,
      n_Board_ranks := n_Board_ranks,
      o_Board := ⟨⟨c1_Board, c2_Board, c3_Board, c4_Board⟩, o1_Board, o2_Board, o3_Board, o4_Board⟩,
      f_Board_init := f_Board_init,
      d_Board_init := PySem.W.fnOf "__init__" "Board.__init__" (defArgs st_Board_init) (defBody st_Board_init) (defScope st_Board_init) (.ref dT_Board_init) kV_Board_init dc_Board_init pm_Board_init an_Board_init cd_Board_init ct_Board_init,
      F_Board_init := dfu_mk (st := st_Board_init) l_Board_init cd_Board_init_,
      m_Board_init := ⟨a_Board_init, i_Board_init, k_Board_init⟩,
      D_Board_init := dfl_unit (m := 4) l_Board_init cd_Board_init_ dt_Board_init du_Board_init k_Board_init rfl fun _ _ _ _ _ _ _ us its h1 h2 => match us, its, h1, h2 with | [_, _, _, _], [_], _, _ => ⟨_, rfl, rfl⟩,
      b_Board_init := all_unit (m := 5) l_Board_init cd_Board_init_ dt_Board_init k_Board_init rfl fun _ _ _ _ _ _ _ us its h1 h2 => match us, its, h1, h2 with | [_, _, _, _, _], [_], _, _ => ⟨_, rfl, rfl⟩,
      f_Board_width := f_Board_width,
      d_Board_width := PySem.W.fnOf "width" "Board.width" (defArgs st_Board_width) (defBody st_Board_width) (defScope st_Board_width) .none kV_Board_width dc_Board_width pm_Board_width an_Board_width cd_Board_width ct_Board_width,
      F_Board_width := dfu_mk (st := st_Board_width) l_Board_width cd_Board_width_,
      p_Board_width := ⟨pr_Board_width, ⟨a_Board_width, pa_Board_width, pb_Board_width, ⟨_, pc_Board_width⟩⟩⟩,
      b_Board_width := .all fun us hl => match us, hl with | [_], _ => rfl,
      M_Board := ⟨mk_Board, a_Board_init, i_Board_init, kc_Board⟩,
      f_is_integer := f_is_integer,
      d_is_integer := PySem.W.fnOf "is_integer" "is_integer" (defArgs st_is_integer) (defBody st_is_integer) (defScope st_is_integer) .none kV_is_integer dc_is_integer pm_is_integer an_is_integer cd_is_integer ct_is_integer,
      F_is_integer := dfu_mk (st := st_is_integer) l_is_integer cd_is_integer_,
      g_is_integer := PySem.W.mg_of X G g_is_integer,
      k_is_integer := k_is_integer,
      b_is_integer := .all fun us hl => match us, hl with | [_], _ => rfl,
      f_is_row := f_is_row,
      d_is_row := PySem.W.fnOf "is_row" "is_row" (defArgs st_is_row) (defBody st_is_row) (defScope st_is_row) .none kV_is_row dc_is_row pm_is_row an_is_row cd_is_row ct_is_row,
      F_is_row := dfu_mk (st := st_is_row) l_is_row cd_is_row_,
      g_is_row := PySem.W.mg_of X G g_is_row,
      k_is_row := k_is_row,
      b_is_row := .all fun us hl => match us, hl with | [_], _ => rfl,
      f_frozen := f_frozen,
      d_frozen := PySem.W.fnOf "frozen" "frozen" (defArgs st_frozen) (defBody st_frozen) (defScope st_frozen) .none kV_frozen dc_frozen pm_frozen an_frozen cd_frozen ct_frozen,
      F_frozen := dfu_mk (st := st_frozen) l_frozen cd_frozen_,
      g_frozen := PySem.W.mg_of X G g_frozen,
      k_frozen := k_frozen,
      b_frozen := .all fun us hl => match us, hl with | [_], _ => rfl,
      f_is_name := f_is_name,
      d_is_name := PySem.W.fnOf "is_name" "is_name" (defArgs st_is_name) (defBody st_is_name) (defScope st_is_name) .none kV_is_name dc_is_name pm_is_name an_is_name cd_is_name ct_is_name,
      F_is_name := dfu_mk (st := st_is_name) l_is_name cd_is_name_,
      g_is_name := PySem.W.mg_of X G g_is_name,
      k_is_name := k_is_name,
      b_is_name := .all fun us hl => match us, hl with | [_], _ => rfl,
      f_is_place := f_is_place,
      d_is_place := PySem.W.fnOf "is_place" "is_place" (defArgs st_is_place) (defBody st_is_place) (defScope st_is_place) .none kV_is_place dc_is_place pm_is_place an_is_place cd_is_place ct_is_place,
      F_is_place := dfu_mk (st := st_is_place) l_is_place cd_is_place_,
      g_is_place := PySem.W.mg_of X G g_is_place,
      k_is_place := k_is_place,
      b_is_place := .all fun us hl => match us, hl with | [_, _], _ => rfl,
      f_is_player := f_is_player,
      d_is_player := PySem.W.fnOf "is_player" "is_player" (defArgs st_is_player) (defBody st_is_player) (defScope st_is_player) .none kV_is_player dc_is_player pm_is_player an_is_player cd_is_player ct_is_player,
      F_is_player := dfu_mk (st := st_is_player) l_is_player cd_is_player_,
      g_is_player := PySem.W.mg_of X G g_is_player,
      k_is_player := k_is_player,
      b_is_player := .all fun us hl => match us, hl with | [_], _ => rfl,
      f_marks_allowed := f_marks_allowed,
      d_marks_allowed := PySem.W.fnOf "marks_allowed" "marks_allowed" (defArgs st_marks_allowed) (defBody st_marks_allowed) (defScope st_marks_allowed) .none kV_marks_allowed dc_marks_allowed pm_marks_allowed an_marks_allowed cd_marks_allowed ct_marks_allowed,
      F_marks_allowed := dfu_mk (st := st_marks_allowed) l_marks_allowed cd_marks_allowed_,
      g_marks_allowed := PySem.W.mg_of X G g_marks_allowed,
      k_marks_allowed := k_marks_allowed,
      b_marks_allowed := .all fun us hl => match us, hl with | [_], _ => rfl,
      f_gains_allowed := f_gains_allowed,
      d_gains_allowed := PySem.W.fnOf "gains_allowed" "gains_allowed" (defArgs st_gains_allowed) (defBody st_gains_allowed) (defScope st_gains_allowed) .none kV_gains_allowed dc_gains_allowed pm_gains_allowed an_gains_allowed cd_gains_allowed ct_gains_allowed,
      F_gains_allowed := dfu_mk (st := st_gains_allowed) l_gains_allowed cd_gains_allowed_,
      g_gains_allowed := PySem.W.mg_of X G g_gains_allowed,
      k_gains_allowed := k_gains_allowed,
      b_gains_allowed := .all fun us hl => match us, hl with | [_, _], _ => rfl,
      f_moves_allowed := f_moves_allowed,
      d_moves_allowed := PySem.W.fnOf "moves_allowed" "moves_allowed" (defArgs st_moves_allowed) (defBody st_moves_allowed) (defScope st_moves_allowed) .none kV_moves_allowed dc_moves_allowed pm_moves_allowed an_moves_allowed cd_moves_allowed ct_moves_allowed,
      F_moves_allowed := dfu_mk (st := st_moves_allowed) l_moves_allowed cd_moves_allowed_,
      g_moves_allowed := PySem.W.mg_of X G g_moves_allowed,
      k_moves_allowed := k_moves_allowed,
      b_moves_allowed := .all fun us hl => match us, hl with | [_, _, _], _ => rfl,
      f_first_width := f_first_width,
      d_first_width := PySem.W.fnOf "first_width" "first_width" (defArgs st_first_width) (defBody st_first_width) (defScope st_first_width) .none kV_first_width dc_first_width pm_first_width an_first_width cd_first_width ct_first_width,
      F_first_width := dfu_mk (st := st_first_width) l_first_width cd_first_width_,
      g_first_width := PySem.W.mg_of X G g_first_width,
      k_first_width := k_first_width,
      b_first_width := .all fun us hl => match us, hl with | [_], _ => rfl,
      f_shape_allowed := f_shape_allowed,
      d_shape_allowed := PySem.W.fnOf "shape_allowed" "shape_allowed" (defArgs st_shape_allowed) (defBody st_shape_allowed) (defScope st_shape_allowed) .none kV_shape_allowed dc_shape_allowed pm_shape_allowed an_shape_allowed cd_shape_allowed ct_shape_allowed,
      F_shape_allowed := dfu_mk (st := st_shape_allowed) l_shape_allowed cd_shape_allowed_,
      g_shape_allowed := PySem.W.mg_of X G g_shape_allowed,
      k_shape_allowed := k_shape_allowed,
      b_shape_allowed := .all fun us hl => match us, hl with | [_, _, _, _], _ => rfl,
      f_rank_allowed := f_rank_allowed,
      d_rank_allowed := PySem.W.fnOf "rank_allowed" "rank_allowed" (defArgs st_rank_allowed) (defBody st_rank_allowed) (defScope st_rank_allowed) .none kV_rank_allowed dc_rank_allowed pm_rank_allowed an_rank_allowed cd_rank_allowed ct_rank_allowed,
      F_rank_allowed := dfu_mk (st := st_rank_allowed) l_rank_allowed cd_rank_allowed_,
      g_rank_allowed := PySem.W.mg_of X G g_rank_allowed,
      k_rank_allowed := k_rank_allowed,
      b_rank_allowed := .all fun us hl => match us, hl with | [_], _ => rfl,
      f__law_bag := f__law_bag,
      d__law_bag := PySem.W.fnOf "_law_bag" "_law_bag" (defArgs st__law_bag) (defBody st__law_bag) (defScope st__law_bag) .none kV__law_bag dc__law_bag pm__law_bag an__law_bag cd__law_bag ct__law_bag,
      F__law_bag := dfu_mk (st := st__law_bag) l__law_bag cd__law_bag_,
      g__law_bag := PySem.W.mg_of X G g__law_bag,
      k__law_bag := k__law_bag,
      b__law_bag := .all fun us hl => match us, hl with | [_], _ => rfl,
      f__law_take := f__law_take,
      d__law_take := PySem.W.fnOf "_law_take" "_law_take" (defArgs st__law_take) (defBody st__law_take) (defScope st__law_take) .none kV__law_take dc__law_take pm__law_take an__law_take cd__law_take ct__law_take,
      F__law_take := dfu_mk (st := st__law_take) l__law_take cd__law_take_,
      g__law_take := PySem.W.mg_of X G g__law_take,
      k__law_take := k__law_take,
      b__law_take := .all fun us hl => match us, hl with | [_, _], _ => rfl,
      f__law_same := f__law_same,
      d__law_same := PySem.W.fnOf "_law_same" "_law_same" (defArgs st__law_same) (defBody st__law_same) (defScope st__law_same) .none kV__law_same dc__law_same pm__law_same an__law_same cd__law_same ct__law_same,
      F__law_same := dfu_mk (st := st__law_same) l__law_same cd__law_same_,
      g__law_same := PySem.W.mg_of X G g__law_same,
      k__law_same := k__law_same,
      b__law_same := .all fun us hl => match us, hl with | [_, _], _ => rfl,
      f__law_name := f__law_name,
      d__law_name := PySem.W.fnOf "_law_name" "_law_name" (defArgs st__law_name) (defBody st__law_name) (defScope st__law_name) .none kV__law_name dc__law_name pm__law_name an__law_name cd__law_name ct__law_name,
      F__law_name := dfu_mk (st := st__law_name) l__law_name cd__law_name_,
      g__law_name := PySem.W.mg_of X G g__law_name,
      k__law_name := k__law_name,
      b__law_name := .all fun us hl => match us, hl with | [_, _], _ => rfl,
      f__law_pool := f__law_pool,
      d__law_pool := PySem.W.fnOf "_law_pool" "_law_pool" (defArgs st__law_pool) (defBody st__law_pool) (defScope st__law_pool) .none kV__law_pool dc__law_pool pm__law_pool an__law_pool cd__law_pool ct__law_pool,
      F__law_pool := dfu_mk (st := st__law_pool) l__law_pool cd__law_pool_,
      g__law_pool := PySem.W.mg_of X G g__law_pool,
      k__law_pool := k__law_pool,
      b__law_pool := .all fun us hl => match us, hl with | [_, _], _ => rfl,
      f__law_marks := f__law_marks,
      d__law_marks := PySem.W.fnOf "_law_marks" "_law_marks" (defArgs st__law_marks) (defBody st__law_marks) (defScope st__law_marks) .none kV__law_marks dc__law_marks pm__law_marks an__law_marks cd__law_marks ct__law_marks,
      F__law_marks := dfu_mk (st := st__law_marks) l__law_marks cd__law_marks_,
      g__law_marks := PySem.W.mg_of X G g__law_marks,
      k__law_marks := k__law_marks,
      b__law_marks := .all fun us hl => match us, hl with | [_, _], _ => rfl,
      f__law_gains := f__law_gains,
      d__law_gains := PySem.W.fnOf "_law_gains" "_law_gains" (defArgs st__law_gains) (defBody st__law_gains) (defScope st__law_gains) .none kV__law_gains dc__law_gains pm__law_gains an__law_gains cd__law_gains ct__law_gains,
      F__law_gains := dfu_mk (st := st__law_gains) l__law_gains cd__law_gains_,
      g__law_gains := PySem.W.mg_of X G g__law_gains,
      k__law_gains := k__law_gains,
      b__law_gains := .all fun us hl => match us, hl with | [_, _, _], _ => rfl,
      f__law_moves := f__law_moves,
      d__law_moves := PySem.W.fnOf "_law_moves" "_law_moves" (defArgs st__law_moves) (defBody st__law_moves) (defScope st__law_moves) .none kV__law_moves dc__law_moves pm__law_moves an__law_moves cd__law_moves ct__law_moves,
      F__law_moves := dfu_mk (st := st__law_moves) l__law_moves cd__law_moves_,
      g__law_moves := PySem.W.mg_of X G g__law_moves,
      k__law_moves := k__law_moves,
      b__law_moves := .all fun us hl => match us, hl with | [_, _, _, _, _], _ => rfl,
      f__law_world := f__law_world,
      d__law_world := PySem.W.fnOf "_law_world" "_law_world" (defArgs st__law_world) (defBody st__law_world) (defScope st__law_world) .none kV__law_world dc__law_world pm__law_world an__law_world cd__law_world ct__law_world,
      F__law_world := dfu_mk (st := st__law_world) l__law_world cd__law_world_,
      g__law_world := PySem.W.mg_of X G g__law_world,
      k__law_world := k__law_world,
      b__law_world := .all fun us hl => match us, hl with | [_, _, _, _], _ => rfl,
      f__law_size := f__law_size,
      d__law_size := PySem.W.fnOf "_law_size" "_law_size" (defArgs st__law_size) (defBody st__law_size) (defScope st__law_size) .none kV__law_size dc__law_size pm__law_size an__law_size cd__law_size ct__law_size,
      F__law_size := dfu_mk (st := st__law_size) l__law_size cd__law_size_,
      g__law_size := PySem.W.mg_of X G g__law_size,
      k__law_size := k__law_size,
      b__law_size := .all fun us hl => match us, hl with | [_], _ => rfl,
      f__law_grow := f__law_grow,
      d__law_grow := PySem.W.fnOf "_law_grow" "_law_grow" (defArgs st__law_grow) (defBody st__law_grow) (defScope st__law_grow) .none kV__law_grow dc__law_grow pm__law_grow an__law_grow cd__law_grow ct__law_grow,
      F__law_grow := dfu_mk (st := st__law_grow) l__law_grow cd__law_grow_,
      g__law_grow := PySem.W.mg_of X G g__law_grow,
      k__law_grow := k__law_grow,
      b__law_grow := .all fun us hl => match us, hl with | [_, _], _ => rfl,
      f__law_is_board := f__law_is_board,
      d__law_is_board := PySem.W.fnOf "_law_is_board" "_law_is_board" (defArgs st__law_is_board) (defBody st__law_is_board) (defScope st__law_is_board) .none kV__law_is_board dc__law_is_board pm__law_is_board an__law_is_board cd__law_is_board ct__law_is_board,
      F__law_is_board := dfu_mk (st := st__law_is_board) l__law_is_board cd__law_is_board_,
      g__law_is_board := PySem.W.mg_of X G g__law_is_board,
      k__law_is_board := k__law_is_board,
      b__law_is_board := .all fun us hl => match us, hl with | [_, _], _ => rfl,
      f__law_is_int := f__law_is_int,
      d__law_is_int := PySem.W.fnOf "_law_is_int" "_law_is_int" (defArgs st__law_is_int) (defBody st__law_is_int) (defScope st__law_is_int) .none kV__law_is_int dc__law_is_int pm__law_is_int an__law_is_int cd__law_is_int ct__law_is_int,
      F__law_is_int := dfu_mk (st := st__law_is_int) l__law_is_int cd__law_is_int_,
      g__law_is_int := PySem.W.mg_of X G g__law_is_int,
      k__law_is_int := k__law_is_int,
      b__law_is_int := .all fun us hl => match us, hl with | [_], _ => rfl,
      f__law_is_row := f__law_is_row,
      d__law_is_row := PySem.W.fnOf "_law_is_row" "_law_is_row" (defArgs st__law_is_row) (defBody st__law_is_row) (defScope st__law_is_row) .none kV__law_is_row dc__law_is_row pm__law_is_row an__law_is_row cd__law_is_row ct__law_is_row,
      F__law_is_row := dfu_mk (st := st__law_is_row) l__law_is_row cd__law_is_row_,
      g__law_is_row := PySem.W.mg_of X G g__law_is_row,
      k__law_is_row := k__law_is_row,
      b__law_is_row := .all fun us hl => match us, hl with | [_], _ => rfl,
      f__law_is_name := f__law_is_name,
      d__law_is_name := PySem.W.fnOf "_law_is_name" "_law_is_name" (defArgs st__law_is_name) (defBody st__law_is_name) (defScope st__law_is_name) .none kV__law_is_name dc__law_is_name pm__law_is_name an__law_is_name cd__law_is_name ct__law_is_name,
      F__law_is_name := dfu_mk (st := st__law_is_name) l__law_is_name cd__law_is_name_,
      g__law_is_name := PySem.W.mg_of X G g__law_is_name,
      k__law_is_name := k__law_is_name,
      b__law_is_name := .all fun us hl => match us, hl with | [_], _ => rfl,
      f__law_bad_marks := f__law_bad_marks,
      d__law_bad_marks := PySem.W.fnOf "_law_bad_marks" "_law_bad_marks" (defArgs st__law_bad_marks) (defBody st__law_bad_marks) (defScope st__law_bad_marks) .none kV__law_bad_marks dc__law_bad_marks pm__law_bad_marks an__law_bad_marks cd__law_bad_marks ct__law_bad_marks,
      F__law_bad_marks := dfu_mk (st := st__law_bad_marks) l__law_bad_marks cd__law_bad_marks_,
      g__law_bad_marks := PySem.W.mg_of X G g__law_bad_marks,
      k__law_bad_marks := k__law_bad_marks,
      b__law_bad_marks := .all fun us hl => match us, hl with | [_], _ => rfl,
      f__law_bad_moves := f__law_bad_moves,
      d__law_bad_moves := PySem.W.fnOf "_law_bad_moves" "_law_bad_moves" (defArgs st__law_bad_moves) (defBody st__law_bad_moves) (defScope st__law_bad_moves) .none kV__law_bad_moves dc__law_bad_moves pm__law_bad_moves an__law_bad_moves cd__law_bad_moves ct__law_bad_moves,
      F__law_bad_moves := dfu_mk (st := st__law_bad_moves) l__law_bad_moves cd__law_bad_moves_,
      g__law_bad_moves := PySem.W.mg_of X G g__law_bad_moves,
      k__law_bad_moves := k__law_bad_moves,
      b__law_bad_moves := .all fun us hl => match us, hl with | [_, _, _], _ => rfl,
      f__law_width := f__law_width,
      d__law_width := PySem.W.fnOf "_law_width" "_law_width" (defArgs st__law_width) (defBody st__law_width) (defScope st__law_width) .none kV__law_width dc__law_width pm__law_width an__law_width cd__law_width ct__law_width,
      F__law_width := dfu_mk (st := st__law_width) l__law_width cd__law_width_,
      g__law_width := PySem.W.mg_of X G g__law_width,
      k__law_width := k__law_width,
      b__law_width := .all fun us hl => match us, hl with | [_], _ => rfl,
      f__law_fault := f__law_fault,
      d__law_fault := PySem.W.fnOf "_law_fault" "_law_fault" (defArgs st__law_fault) (defBody st__law_fault) (defScope st__law_fault) .none kV__law_fault dc__law_fault pm__law_fault an__law_fault cd__law_fault ct__law_fault,
      F__law_fault := dfu_mk (st := st__law_fault) l__law_fault cd__law_fault_,
      g__law_fault := PySem.W.mg_of X G g__law_fault,
      k__law_fault := k__law_fault,
      b__law_fault := .all fun us hl => match us, hl with | [_], _ => rfl,
      f__law_frozen := f__law_frozen,
      d__law_frozen := PySem.W.fnOf "_law_frozen" "_law_frozen" (defArgs st__law_frozen) (defBody st__law_frozen) (defScope st__law_frozen) .none kV__law_frozen dc__law_frozen pm__law_frozen an__law_frozen cd__law_frozen ct__law_frozen,
      F__law_frozen := dfu_mk (st := st__law_frozen) l__law_frozen cd__law_frozen_,
      g__law_frozen := PySem.W.mg_of X G g__law_frozen,
      k__law_frozen := k__law_frozen,
      b__law_frozen := .all fun us hl => match us, hl with | [_], _ => rfl,
      f__law_bent_gains := f__law_bent_gains,
      d__law_bent_gains := PySem.W.fnOf "_law_bent_gains" "_law_bent_gains" (defArgs st__law_bent_gains) (defBody st__law_bent_gains) (defScope st__law_bent_gains) .none kV__law_bent_gains dc__law_bent_gains pm__law_bent_gains an__law_bent_gains cd__law_bent_gains ct__law_bent_gains,
      F__law_bent_gains := dfu_mk (st := st__law_bent_gains) l__law_bent_gains cd__law_bent_gains_,
      g__law_bent_gains := PySem.W.mg_of X G g__law_bent_gains,
      k__law_bent_gains := k__law_bent_gains,
      b__law_bent_gains := .all fun us hl => match us, hl with | [_, _, _, _], _ => rfl,
      f__law_bent_row := f__law_bent_row,
      d__law_bent_row := PySem.W.fnOf "_law_bent_row" "_law_bent_row" (defArgs st__law_bent_row) (defBody st__law_bent_row) (defScope st__law_bent_row) .none kV__law_bent_row dc__law_bent_row pm__law_bent_row an__law_bent_row cd__law_bent_row ct__law_bent_row,
      F__law_bent_row := dfu_mk (st := st__law_bent_row) l__law_bent_row cd__law_bent_row_,
      g__law_bent_row := PySem.W.mg_of X G g__law_bent_row,
      k__law_bent_row := k__law_bent_row,
      b__law_bent_row := .all fun us hl => match us, hl with | [_, _, _], _ => rfl,
      f__law_bend := f__law_bend,
      d__law_bend := PySem.W.fnOf "_law_bend" "_law_bend" (defArgs st__law_bend) (defBody st__law_bend) (defScope st__law_bend) .none kV__law_bend dc__law_bend pm__law_bend an__law_bend cd__law_bend ct__law_bend,
      F__law_bend := dfu_mk (st := st__law_bend) l__law_bend cd__law_bend_,
      g__law_bend := PySem.W.mg_of X G g__law_bend,
      k__law_bend := k__law_bend,
      b__law_bend := .all fun us hl => match us, hl with | [_, _, _], _ => rfl,
      f__law_bend_whole := f__law_bend_whole,
      d__law_bend_whole := PySem.W.fnOf "_law_bend_whole" "_law_bend_whole" (defArgs st__law_bend_whole) (defBody st__law_bend_whole) (defScope st__law_bend_whole) .none kV__law_bend_whole dc__law_bend_whole pm__law_bend_whole an__law_bend_whole cd__law_bend_whole ct__law_bend_whole,
      F__law_bend_whole := dfu_mk (st := st__law_bend_whole) l__law_bend_whole cd__law_bend_whole_,
      g__law_bend_whole := PySem.W.mg_of X G g__law_bend_whole,
      k__law_bend_whole := k__law_bend_whole,
      b__law_bend_whole := .all fun us hl => match us, hl with | [_, _], _ => rfl,
      f__law_given := f__law_given,
      d__law_given := PySem.W.fnOf "_law_given" "_law_given" (defArgs st__law_given) (defBody st__law_given) (defScope st__law_given) .none kV__law_given dc__law_given pm__law_given an__law_given cd__law_given ct__law_given,
      F__law_given := dfu_mk (st := st__law_given) l__law_given cd__law_given_,
      g__law_given := PySem.W.mg_of X G g__law_given,
      k__law_given := k__law_given,
      b__law_given := .all fun us hl => match us, hl with | [_, _], _ => rfl,
      f__law_told := f__law_told,
      d__law_told := PySem.W.fnOf "_law_told" "_law_told" (defArgs st__law_told) (defBody st__law_told) (defScope st__law_told) .none kV__law_told dc__law_told pm__law_told an__law_told cd__law_told ct__law_told,
      F__law_told := dfu_mk (st := st__law_told) l__law_told cd__law_told_,
      g__law_told := PySem.W.mg_of X G g__law_told,
      k__law_told := k__law_told,
      b__law_told := .all fun us hl => match us, hl with | [_, _], _ => rfl,
      f__law_spoil_row := f__law_spoil_row,
      d__law_spoil_row := PySem.W.fnOf "_law_spoil_row" "_law_spoil_row" (defArgs st__law_spoil_row) (defBody st__law_spoil_row) (defScope st__law_spoil_row) .none kV__law_spoil_row dc__law_spoil_row pm__law_spoil_row an__law_spoil_row cd__law_spoil_row ct__law_spoil_row,
      F__law_spoil_row := dfu_mk (st := st__law_spoil_row) l__law_spoil_row cd__law_spoil_row_,
      g__law_spoil_row := PySem.W.mg_of X G g__law_spoil_row,
      k__law_spoil_row := k__law_spoil_row,
      b__law_spoil_row := .all fun us hl => match us, hl with | [_], _ => rfl,
      f__law_spoil := f__law_spoil,
      d__law_spoil := PySem.W.fnOf "_law_spoil" "_law_spoil" (defArgs st__law_spoil) (defBody st__law_spoil) (defScope st__law_spoil) .none kV__law_spoil dc__law_spoil pm__law_spoil an__law_spoil cd__law_spoil ct__law_spoil,
      F__law_spoil := dfu_mk (st := st__law_spoil) l__law_spoil cd__law_spoil_,
      g__law_spoil := PySem.W.mg_of X G g__law_spoil,
      k__law_spoil := k__law_spoil,
      b__law_spoil := .all fun us hl => match us, hl with | [_], _ => rfl,
      f__law_right := f__law_right,
      d__law_right := PySem.W.fnOf "_law_right" "_law_right" (defArgs st__law_right) (defBody st__law_right) (defScope st__law_right) .none kV__law_right dc__law_right pm__law_right an__law_right cd__law_right ct__law_right,
      F__law_right := dfu_mk (st := st__law_right) l__law_right cd__law_right_,
      g__law_right := PySem.W.mg_of X G g__law_right,
      k__law_right := k__law_right,
      b__law_right := .all fun us hl => match us, hl with | [_, _, _], _ => rfl,
      f_law := f_law,
      d_law := PySem.W.fnOf "law" "law" (defArgs st_law) (defBody st_law) (defScope st_law) .none kV_law dc_law pm_law an_law cd_law ct_law,
      F_law := dfu_mk (st := st_law) l_law cd_law_,
      g_law := PySem.W.mg_of X G g_law,
      k_law := k_law,
      b_law := .all fun us hl => match us, hl with | [_], _ => rfl,
      C_EverplayError := C_EverplayError,
      g_EverplayError := PySem.W.mg_of X G g_EverplayError,
      eC_EverplayError := eC_EverplayError,
      C_InvalidBoard := C_InvalidBoard,
      g_InvalidBoard := PySem.W.mg_of X G g_InvalidBoard,
      f_InvalidBoard := f_InvalidBoard,
      cc_InvalidBoard := cc_InvalidBoard,
      cda_InvalidBoard := cda_InvalidBoard,
      d_InvalidBoard := PySem.W.ksFn "__init__" "InvalidBoard.__init__" (defArgs st_InvalidBoard) (defBody st_InvalidBoard) (defScope st_InvalidBoard) .none kV_InvalidBoard dc_InvalidBoard pm_InvalidBoard an_InvalidBoard (.ref cda_InvalidBoard) ct_InvalidBoard cc_InvalidBoard,
      e_InvalidBoard := ⟨⟨⟨_, _, _, _, _, _, _, _, _, _, _, _, _, _, _, x_InvalidBoard_, by first | rfl | decide +kernel⟩, sa_InvalidBoard, eC_InvalidBoard, tC_InvalidBoard, kC_InvalidBoard⟩, iC_InvalidBoard, tI_InvalidBoard, al_of x_InvalidBoard_ x_EverplayError_ fB_InvalidBoard, vE_InvalidBoard, mC_InvalidBoard, PySem.W.mg_none_of X G z_super, opq, ⟨_, _, _, ll_InvalidBoard⟩, ⟨_, _, _, _, _, _, lc_InvalidBoard, vf_InvalidBoard.1, vf_InvalidBoard.2⟩, top⟩,
      L_InvalidBoard := ⟨⟨_, _, _, _, _, _, _, _, rfl, l_InvalidBoard, cd_InvalidBoard_⟩⟩,
      x_InvalidBoard := ⟨ga_InvalidBoard, gg_InvalidBoard, eC_InvalidBoard, hC_InvalidBoard⟩,
      s_InvalidBoard := ⟨ga_InvalidBoard, gg_InvalidBoard, eC_InvalidBoard, hC_InvalidBoard, cA_InvalidBoard, cB_InvalidBoard, cC_InvalidBoard, cD_InvalidBoard⟩,
      n_InvalidBoard_place := n_InvalidBoard_place,
      b_InvalidBoard := .all fun us hl => match us, hl with | [_, _], _ => rfl,
      kv_InvalidBoard := kit_type (by decide +kernel) vE_InvalidBoard,
      ex_InvalidBoard_EverplayError := exm_of eC_EverplayError hC_EverplayError tC_EverplayError su_InvalidBoard_EverplayError,
      kt_InvalidBoard_EverplayError := kit_own ne_InvalidBoard_EverplayError ic_InvalidBoard_EverplayError tC_EverplayError su_InvalidBoard_EverplayError,
      ex_InvalidBoard_InvalidBoard := exm_of eC_InvalidBoard hC_InvalidBoard tC_InvalidBoard su_InvalidBoard_InvalidBoard,
      kt_InvalidBoard_InvalidBoard := kit_self
    }, _, _, _, _, _, _, rfl⟩
section
variable {P : Program} {w : World} {K : PySem.W.Frag} {mg : Str → Option Value} {base : Heap}
theorem er_InvalidBoard (T : Txt P K mg) : FnOk P w K mg base (L2N.CX P w) 1 T.f_InvalidBoard T.d_InvalidBoard ["self", "place"] (spI1 T.C_InvalidBoard "place") :=
  init1 T.e_InvalidBoard T.L_InvalidBoard T.n_InvalidBoard_place (iScope_by (by decide +kernel)) rfl rfl rfl rfl rfl (fun _ => rfl) (fun _ => rfl) (fun _ => rfl) (fun _ => rfl) (fun _ _ _ _ _ => pss_one (ps_ost (pv 0) (pv 1)))
def rd_is_integer (T : Txt P K mg) : DTS := (dRet (dAndV (dCB (dIsi K) (dCons (dVar 0) (dCons (dC (.ty "int")) dNil))) (dNotV (dCB (dIsi K) (dCons (dVar 0) (dCons (dC (.ty "bool")) dNil))))))
theorem dv_is_integer (T : Txt P K mg) {k : Nat} (cdv : Value) (A : Around) (outer : List Env) (s : Shared) (H : Hp) (E : XK) (hr : Room (k + 2) (A.deeper (envOfC "is_integer" (defScope st_is_integer) s.heap.objs.size T.f_is_integer cdv))) :
    DPSs (cxOf (L2N.CX P w) P w K mg base N_is_integer "is_integer" (defScope st_is_integer) T.f_is_integer cdv A outer s H E) (WE0 E) (defBody st_is_integer) (rd_is_integer T) := by
  exact (ds_one (ds_ret (d_and (d_callB dcl_isi rfl T.z_isinstance bt_isinstance (da_cons (d_var 0) (da_cons (d_ty rfl T.z_int bt_int) da_nil))) (d_one (d_not (d_callB dcl_isi rfl T.z_isinstance bt_isinstance (da_cons (d_var 0) (da_cons (d_ty rfl T.z_bool bt_bool) da_nil))))))))
theorem fn_is_integer (T : Txt P K mg) {k : Nat} {sp : DSp} (len : ∀ ds Hd Q E, sp ds Hd Q E → ds.length = 1) (h : ∀ ds Hd Q Ed, sp ds Hd Q Ed → rd_is_integer T (endsOf Q Ed) (startD N_is_integer ds) Hd) : DFn P w K mg base (k + 3) T.f_is_integer T.d_is_integer ps_is_integer sp :=
  dfun T.F_is_integer sc_is_integer len fun cdv A outer s H E hr => ⟨_, dv_is_integer T cdv A outer s H E hr, h⟩
def rd_is_row (T : Txt P K mg) : DTS := (dRet (dCB (dIsiT K) (dCons (dVar 0) (dCons (dTup (dCons (dC (.ty "list")) (dCons (dC (.ty "tuple")) dNil))) dNil))))
theorem dv_is_row (T : Txt P K mg) {k : Nat} (cdv : Value) (A : Around) (outer : List Env) (s : Shared) (H : Hp) (E : XK) (hr : Room (k + 2) (A.deeper (envOfC "is_row" (defScope st_is_row) s.heap.objs.size T.f_is_row cdv))) :
    DPSs (cxOf (L2N.CX P w) P w K mg base N_is_row "is_row" (defScope st_is_row) T.f_is_row cdv A outer s H E) (WE0 E) (defBody st_is_row) (rd_is_row T) := by
  exact (ds_one (ds_ret (d_isiT rfl T.z_isinstance (d_var 0) (da_cons (d_ty rfl T.z_list bt_list) (da_cons (d_ty rfl T.z_tuple bt_tuple) da_nil)))))
theorem fn_is_row (T : Txt P K mg) {k : Nat} {sp : DSp} (len : ∀ ds Hd Q E, sp ds Hd Q E → ds.length = 1) (h : ∀ ds Hd Q Ed, sp ds Hd Q Ed → rd_is_row T (endsOf Q Ed) (startD N_is_row ds) Hd) : DFn P w K mg base (k + 3) T.f_is_row T.d_is_row ps_is_row sp :=
  dfun T.F_is_row sc_is_row len fun cdv A outer s H E hr => ⟨_, dv_is_row T cdv A outer s H E hr, h⟩
def rd_frozen (T : Txt P K mg) (sp_is_row : DSp) : DTS := (dSeq (dIfS (dNot (dTest (dCall sp_is_row [] (dCons (dVar 0) dNil)))) (dRet (dVar 0)) dNext) (dSeq (dSet (dLst (dCons (dVar 0) dNil)) 1) (dSeq (dSet dDNew 2) (dSeq (dDPut (dVar 2) (dC (.int 0)) (dLst dNil)) (dWhile (dTest (dC (.bl true))) (dSeq (dSet (dOp (dI0 fun i j => .int (i - j)) (dCB dLen (dCons (dVar 1) dNil)) (dC (.int 1))) 3) (dSeq (dSet (dOp dIx (dVar 1) (dVar 3)) 4) (dSeq (dSet (dCB dLen (dCons (dDGet (dVar 2) (dVar 3)) dNil)) 5) (dIfS (dTest (dOp dEq (dVar 5) (dCB dLen (dCons (dVar 4) dNil)))) (dSeq (dDrop (dBM "list" dPop (dVar 1) dNil)) (dSeq (dSet (dCB dTupleOf (dCons (dDGet (dVar 2) (dVar 3)) dNil)) 6) (dSeq (dIfS (dTest (dOp dEq (dVar 3) (dC (.int 0)))) (dRet (dVar 6)) dNext) (dDrop (dBM "list" dApp (dDGet (dVar 2) (dOp (dI0 fun i j => .int (i - j)) (dVar 3) (dC (.int 1)))) (dCons (dVar 6) dNil)))))) (dIfS (dTest (dCall sp_is_row [] (dCons (dOp dIx (dVar 4) (dVar 5)) dNil))) (dSeq (dDrop (dBM "list" dApp (dVar 1) (dCons (dOp dIx (dVar 4) (dVar 5)) dNil))) (dDPut (dVar 2) (dOp dAdd (dVar 3) (dC (.int 1))) (dLst dNil))) (dDrop (dBM "list" dApp (dDGet (dVar 2) (dVar 3)) (dCons (dOp dIx (dVar 4) (dVar 5)) dNil)))))))))))))
theorem dv_frozen (T : Txt P K mg) {k : Nat} {sp_is_row : DSp} (F_is_row : DFn P w K mg base k T.f_is_row T.d_is_row ps_is_row sp_is_row) (cdv : Value) (A : Around) (outer : List Env) (s : Shared) (H : Hp) (E : XK) (hr : Room (k + 2) (A.deeper (envOfC "frozen" (defScope st_frozen) s.heap.objs.size T.f_frozen cdv))) :
    DPSs (cxOf (L2N.CX P w) P w K mg base N_frozen "frozen" (defScope st_frozen) T.f_frozen cdv A outer s H E) (WE0 E) (defBody st_frozen) (rd_frozen T sp_is_row) := by
  have hu64 := hu64_of hr
  have hu1 := hu_of hr
  have hr0 := hr.mono (Nat.le_add_right k 2)
  exact (ds_cons (ds_if (dt_not (dt_val (d_call F_is_row hr0 takesE T.g_is_row T.k_is_row T.b_is_row .nil (fun _ => rfl) (da_cons (d_var 0) da_nil)))) (ds_one (ds_ret (d_var 0))) ds_nil) (ds_cons (ds_set (i := 1) sc_frozen.nd rfl (Or.inl rfl) (d_lst (da_cons (d_var 0) da_nil))) (ds_cons (ds_set (i := 2) sc_frozen.nd rfl (Or.inl rfl) d_dnew) (ds_cons (ds_dput hu1 (d_var 2) d_int (d_lst da_nil)) (ds_one (ds_while passesE (dt_val d_bl) (ds_cons (ds_set (i := 3) sc_frozen.nd rfl (Or.inl rfl) (d_op dop_sub (d_callB dcl_len rfl T.z_len bt_len (da_cons (d_var 1) da_nil)) d_int)) (ds_cons (ds_set (i := 4) sc_frozen.nd rfl (Or.inl rfl) (d_ix dix (d_var 1) (d_var 3))) (ds_cons (ds_set (i := 5) sc_frozen.nd rfl (Or.inl rfl) (d_callB dcl_len rfl T.z_len bt_len (da_cons (d_dget hu1 (d_var 2) (d_var 3)) da_nil))) (ds_one (ds_if (dt_cmp (dop_eq hu64) (d_var 5) (d_callB dcl_len rfl T.z_len bt_len (da_cons (d_var 4) da_nil)) rfl) (ds_cons (ds_expr (d_bm0 pla_list sl_list_pop ty_list_pop dmt_pop (d_var 1))) (ds_cons (ds_set (i := 6) sc_frozen.nd rfl (Or.inl rfl) (d_callTy dcl_tuple rfl T.z_tuple bt_tuple (da_cons (d_dget hu1 (d_var 2) (d_var 3)) da_nil))) (ds_cons (ds_if (dt_cmp (dop_eq hu64) (d_var 3) d_int rfl) (ds_one (ds_ret (d_var 6))) ds_nil) (ds_one (ds_expr (d_bm pla_list sl_list_append ty_list_append dmt_append (d_dget hu1 (d_var 2) (d_op dop_sub (d_var 3) d_int)) (da_cons (d_var 6) da_nil))))))) (ds_one (ds_if (dt_val (d_call F_is_row hr0 takesE T.g_is_row T.k_is_row T.b_is_row .nil (fun _ => rfl) (da_cons (d_ix dix (d_var 4) (d_var 5)) da_nil))) (ds_cons (ds_expr (d_bm pla_list sl_list_append ty_list_append dmt_append (d_var 1) (da_cons (d_ix dix (d_var 4) (d_var 5)) da_nil))) (ds_one (ds_dput hu1 (d_var 2) (d_op dop_add (d_var 3) d_int) (d_lst da_nil)))) (ds_one (ds_expr (d_bm pla_list sl_list_append ty_list_append dmt_append (d_dget hu1 (d_var 2) (d_var 3)) (da_cons (d_ix dix (d_var 4) (d_var 5)) da_nil)))))))))))))))))
theorem fn_frozen (T : Txt P K mg) {k : Nat} {sp_is_row : DSp} (F_is_row : DFn P w K mg base k T.f_is_row T.d_is_row ps_is_row sp_is_row) {sp : DSp} (len : ∀ ds Hd Q E, sp ds Hd Q E → ds.length = 1) (h : ∀ ds Hd Q Ed, sp ds Hd Q Ed → rd_frozen T sp_is_row (endsOf Q Ed) (startD N_frozen ds) Hd) : DFn P w K mg base (k + 3) T.f_frozen T.d_frozen ps_frozen sp :=
  dfun T.F_frozen sc_frozen len fun cdv A outer s H E hr => ⟨_, dv_frozen T F_is_row cdv A outer s H E hr, h⟩
def rd_is_name (T : Txt P K mg) : DTS := (dSeq (dIfS (dOr (dNot (dTest (dCB (dIsi K) (dCons (dVar 0) (dCons (dC (.ty "str")) dNil))))) (dNot (dTest (dChn (dI0 fun i j => .bl (decide (i ≤ j))) (dI0 fun i j => .bl (decide (i ≤ j))) (dC (.int 1)) (dCB dLen (dCons (dVar 0) dNil)) (dC (.int 8)))))) (dRet (dC (.bl false))) dNext) (dRet (dCB (dAny1 fun bs => bs.all id) (dCons (dLc (wStr (dVar 0)) (gNm 1) dYes (dOp (dInS fun b => b) (dVar 1) (dC (.str "abcdefghijklmnopqrstuvwxyz"))) [1]) dNil))))
theorem dv_is_name (T : Txt P K mg) {k : Nat} (cdv : Value) (A : Around) (outer : List Env) (s : Shared) (H : Hp) (E : XK) (hr : Room (k + 2) (A.deeper (envOfC "is_name" (defScope st_is_name) s.heap.objs.size T.f_is_name cdv))) :
    DPSs (cxOf (L2N.CX P w) P w K mg base N_is_name "is_name" (defScope st_is_name) T.f_is_name cdv A outer s H E) (WE0 E) (defBody st_is_name) (rd_is_name T) := by
  exact (ds_cons (ds_if (dw_pt (dw_or (dt_not (dt_val (d_callB dcl_isi rfl T.z_isinstance bt_isinstance (da_cons (d_var 0) (da_cons (d_ty rfl T.z_str bt_str) da_nil))))) (dw_or1 (dt_not (dt_chain dop_le dop_le d_int (d_callB dcl_len rfl T.z_len bt_len (da_cons (d_var 0) da_nil)) (d_globI rfl T.g_NAME_LIMIT)))))) (ds_one (ds_ret d_bl)) ds_nil) (ds_one (ds_ret (d_callB (dcl_all1 rfl) rfl T.z_all bt_all (da_cons (d_lc (own := [("letter", 1)]) rfl sc_is_name.nd (di_str (d_var 0)) (blkOk_by (N := N_is_name) (sc := defScope st_is_name) (own := [("letter", 1)]) (by decide +kernel)) (fun _ _ _ _ _ => (dgo_name (i := 1) sc_is_name.nd rfl (Or.inl rfl))) (fun _ _ _ _ _ => dts_nil) (fun _ _ _ _ _ => (d_cmp dop_inS (d_var 1) (d_globE rfl T.g_LETTERS) rfl))) da_nil)))))
theorem fn_is_name (T : Txt P K mg) {k : Nat} {sp : DSp} (len : ∀ ds Hd Q E, sp ds Hd Q E → ds.length = 1) (h : ∀ ds Hd Q Ed, sp ds Hd Q Ed → rd_is_name T (endsOf Q Ed) (startD N_is_name ds) Hd) : DFn P w K mg base (k + 3) T.f_is_name T.d_is_name ps_is_name sp :=
  dfun T.F_is_name sc_is_name len fun cdv A outer s H E hr => ⟨_, dv_is_name T cdv A outer s H E hr, h⟩
def rd_is_place (T : Txt P K mg) (sp_is_integer : DSp) : DTS := (dRet (dAndV (dCall sp_is_integer [] (dCons (dVar 1) dNil)) (dChn (dI0 fun i j => .bl (decide (i ≤ j))) (dI0 fun i j => .bl (decide (i < j))) (dC (.int 0)) (dVar 1) (dVar 0))))
theorem dv_is_place (T : Txt P K mg) {k : Nat} {sp_is_integer : DSp} (F_is_integer : DFn P w K mg base k T.f_is_integer T.d_is_integer ps_is_integer sp_is_integer) (cdv : Value) (A : Around) (outer : List Env) (s : Shared) (H : Hp) (E : XK) (hr : Room (k + 2) (A.deeper (envOfC "is_place" (defScope st_is_place) s.heap.objs.size T.f_is_place cdv))) :
    DPSs (cxOf (L2N.CX P w) P w K mg base N_is_place "is_place" (defScope st_is_place) T.f_is_place cdv A outer s H E) (WE0 E) (defBody st_is_place) (rd_is_place T sp_is_integer) := by
  have hr0 := hr.mono (Nat.le_add_right k 2)
  exact (ds_one (ds_ret (d_and (d_call F_is_integer hr0 takesE T.g_is_integer T.k_is_integer T.b_is_integer .nil (fun _ => rfl) (da_cons (d_var 1) da_nil)) (d_one (d_chain dop_le dop_lt d_int (d_var 1) (d_var 0))))))
theorem fn_is_place (T : Txt P K mg) {k : Nat} {sp_is_integer : DSp} (F_is_integer : DFn P w K mg base k T.f_is_integer T.d_is_integer ps_is_integer sp_is_integer) {sp : DSp} (len : ∀ ds Hd Q E, sp ds Hd Q E → ds.length = 2) (h : ∀ ds Hd Q Ed, sp ds Hd Q Ed → rd_is_place T sp_is_integer (endsOf Q Ed) (startD N_is_place ds) Hd) : DFn P w K mg base (k + 3) T.f_is_place T.d_is_place ps_is_place sp :=
  dfun T.F_is_place sc_is_place len fun cdv A outer s H E hr => ⟨_, dv_is_place T F_is_integer cdv A outer s H E hr, h⟩
def rd_is_player (T : Txt P K mg) (sp_is_integer : DSp) : DTS := (dRet (dAndV (dCall sp_is_integer [] (dCons (dVar 0) dNil)) (dChn (dI0 fun i j => .bl (decide (i ≤ j))) (dI0 fun i j => .bl (decide (i ≤ j))) (dC (.int 0)) (dVar 0) (dC (.int 1)))))
theorem dv_is_player (T : Txt P K mg) {k : Nat} {sp_is_integer : DSp} (F_is_integer : DFn P w K mg base k T.f_is_integer T.d_is_integer ps_is_integer sp_is_integer) (cdv : Value) (A : Around) (outer : List Env) (s : Shared) (H : Hp) (E : XK) (hr : Room (k + 2) (A.deeper (envOfC "is_player" (defScope st_is_player) s.heap.objs.size T.f_is_player cdv))) :
    DPSs (cxOf (L2N.CX P w) P w K mg base N_is_player "is_player" (defScope st_is_player) T.f_is_player cdv A outer s H E) (WE0 E) (defBody st_is_player) (rd_is_player T sp_is_integer) := by
  have hr0 := hr.mono (Nat.le_add_right k 2)
  exact (ds_one (ds_ret (d_and (d_call F_is_integer hr0 takesE T.g_is_integer T.k_is_integer T.b_is_integer .nil (fun _ => rfl) (da_cons (d_var 0) da_nil)) (d_one (d_chain dop_le dop_le d_int (d_var 0) d_int)))))
theorem fn_is_player (T : Txt P K mg) {k : Nat} {sp_is_integer : DSp} (F_is_integer : DFn P w K mg base k T.f_is_integer T.d_is_integer ps_is_integer sp_is_integer) {sp : DSp} (len : ∀ ds Hd Q E, sp ds Hd Q E → ds.length = 1) (h : ∀ ds Hd Q Ed, sp ds Hd Q Ed → rd_is_player T sp_is_integer (endsOf Q Ed) (startD N_is_player ds) Hd) : DFn P w K mg base (k + 3) T.f_is_player T.d_is_player ps_is_player sp :=
  dfun T.F_is_player sc_is_player len fun cdv A outer s H E hr => ⟨_, dv_is_player T F_is_integer cdv A outer s H E hr, h⟩
def rd_marks_allowed (T : Txt P K mg) (sp_is_row : DSp) (sp_is_name : DSp) : DTS := (dSeq (dIfS (dOr (dNot (dTest (dCall sp_is_row [] (dCons (dVar 0) dNil)))) (dNot (dTest (dCB (dAny1 fun bs => bs.all id) (dCons (dLc (wSeq (dVar 0)) (gNm 2) dYes (dCall sp_is_name [] (dCons (dVar 2) dNil)) [2]) dNil))))) (dRet (dC (.bl false))) dNext) (dRet (dCB (dAny1 fun bs => bs.all id) (dCons (dLc (wRng1 (dCons (dOp (dI0 fun i j => .int (i - j)) (dCB dLen (dCons (dVar 0) dNil)) (dC (.int 1))) dNil)) (gNm 1) dYes (dOp (dStr2 fun a b => .bl (decide (a.cps.toList < b.cps.toList))) (dOp dIx (dVar 0) (dVar 1)) (dOp dIx (dVar 0) (dOp dAdd (dVar 1) (dC (.int 1))))) [1]) dNil))))
theorem dv_marks_allowed (T : Txt P K mg) {k : Nat} {sp_is_row : DSp} {sp_is_name : DSp} (F_is_row : DFn P w K mg base k T.f_is_row T.d_is_row ps_is_row sp_is_row) (F_is_name : DFn P w K mg base k T.f_is_name T.d_is_name ps_is_name sp_is_name) (cdv : Value) (A : Around) (outer : List Env) (s : Shared) (H : Hp) (E : XK) (hr : Room (k + 2) (A.deeper (envOfC "marks_allowed" (defScope st_marks_allowed) s.heap.objs.size T.f_marks_allowed cdv))) :
    DPSs (cxOf (L2N.CX P w) P w K mg base N_marks_allowed "marks_allowed" (defScope st_marks_allowed) T.f_marks_allowed cdv A outer s H E) (WE0 E) (defBody st_marks_allowed) (rd_marks_allowed T sp_is_row sp_is_name) := by
  have hr0 := hr.mono (Nat.le_add_right k 2)
  exact (ds_cons (ds_if (dw_pt (dw_or (dt_not (dt_val (d_call F_is_row hr0 takesE T.g_is_row T.k_is_row T.b_is_row .nil (fun _ => rfl) (da_cons (d_var 0) da_nil)))) (dw_or1 (dt_not (dt_val (d_callB (dcl_all1 rfl) rfl T.z_all bt_all (da_cons (d_lc (own := [("name", 2)]) rfl sc_marks_allowed.nd (di_seq (d_var 0)) (blkOk_by (N := N_marks_allowed) (sc := defScope st_marks_allowed) (own := [("name", 2)]) (by decide +kernel)) (fun _ _ _ _ _ => (dgo_name (i := 2) sc_marks_allowed.nd rfl (Or.inl rfl))) (fun _ _ _ _ _ => dts_nil) (fun _ _ _ _ _ => (d_call F_is_name hr0 takesF T.g_is_name T.k_is_name T.b_is_name .nil (fun _ => rfl) (da_cons (d_var 2) da_nil)))) da_nil))))))) (ds_one (ds_ret d_bl)) ds_nil) (ds_one (ds_ret (d_callB (dcl_all1 rfl) rfl T.z_all bt_all (da_cons (d_lc (own := [("at", 1)]) rfl sc_marks_allowed.nd (di_rng1 rfl T.z_range (da_cons (d_op dop_sub (d_callB dcl_len rfl T.z_len bt_len (da_cons (d_var 0) da_nil)) d_int) da_nil)) (blkOk_by (N := N_marks_allowed) (sc := defScope st_marks_allowed) (own := [("at", 1)]) (by decide +kernel)) (fun _ _ _ _ _ => (dgo_name (i := 1) sc_marks_allowed.nd rfl (Or.inl rfl))) (fun _ _ _ _ _ => dts_nil) (fun _ _ _ _ _ => (d_cmp dop_ltS (d_ix dix (d_var 0) (d_var 1)) (d_ix dix (d_var 0) (d_op dop_add (d_var 1) d_int)) rfl))) da_nil)))))
theorem fn_marks_allowed (T : Txt P K mg) {k : Nat} {sp_is_row : DSp} {sp_is_name : DSp} (F_is_row : DFn P w K mg base k T.f_is_row T.d_is_row ps_is_row sp_is_row) (F_is_name : DFn P w K mg base k T.f_is_name T.d_is_name ps_is_name sp_is_name) {sp : DSp} (len : ∀ ds Hd Q E, sp ds Hd Q E → ds.length = 1) (h : ∀ ds Hd Q Ed, sp ds Hd Q Ed → rd_marks_allowed T sp_is_row sp_is_name (endsOf Q Ed) (startD N_marks_allowed ds) Hd) : DFn P w K mg base (k + 3) T.f_marks_allowed T.d_marks_allowed ps_marks_allowed sp :=
  dfun T.F_marks_allowed sc_marks_allowed len fun cdv A outer s H E hr => ⟨_, dv_marks_allowed T F_is_row F_is_name cdv A outer s H E hr, h⟩
def rd_gains_allowed (T : Txt P K mg) (sp_is_row : DSp) (sp_is_integer : DSp) : DTS := (dSeq (dIfS (dOr (dNot (dTest (dCall sp_is_row [] (dCons (dVar 0) dNil)))) (dOr (dTest (dOp dNe (dCB dLen (dCons (dVar 0) dNil)) (dVar 1))) (dTest (dOp (dI0 fun i j => .bl (decide (j < i))) (dVar 1) (dC (.int 3)))))) (dRet (dC (.bl false))) dNext) (dSeq (dSet (dC (.int 99)) 2) (dRet (dCB (dAny1 fun bs => bs.all id) (dCons (dLc (wSeq (dVar 0)) (gNm 3) dYes (dAndV (dCall sp_is_integer [] (dCons (dVar 3) dNil)) (dChn (dI0 fun i j => .bl (decide (i ≤ j))) (dI0 fun i j => .bl (decide (i ≤ j))) (dUn dNeg (dVar 2)) (dVar 3) (dVar 2))) [3]) dNil)))))
theorem dv_gains_allowed (T : Txt P K mg) {k : Nat} {sp_is_row : DSp} {sp_is_integer : DSp} (F_is_row : DFn P w K mg base k T.f_is_row T.d_is_row ps_is_row sp_is_row) (F_is_integer : DFn P w K mg base k T.f_is_integer T.d_is_integer ps_is_integer sp_is_integer) (cdv : Value) (A : Around) (outer : List Env) (s : Shared) (H : Hp) (E : XK) (hr : Room (k + 2) (A.deeper (envOfC "gains_allowed" (defScope st_gains_allowed) s.heap.objs.size T.f_gains_allowed cdv))) :
    DPSs (cxOf (L2N.CX P w) P w K mg base N_gains_allowed "gains_allowed" (defScope st_gains_allowed) T.f_gains_allowed cdv A outer s H E) (WE0 E) (defBody st_gains_allowed) (rd_gains_allowed T sp_is_row sp_is_integer) := by
  have hu64 := hu64_of hr
  have hr0 := hr.mono (Nat.le_add_right k 2)
  exact (ds_cons (ds_if (dw_pt (dw_or (dt_not (dt_val (d_call F_is_row hr0 takesE T.g_is_row T.k_is_row T.b_is_row .nil (fun _ => rfl) (da_cons (d_var 0) da_nil)))) (dw_or (dt_cmp (dop_ne hu64) (d_callB dcl_len rfl T.z_len bt_len (da_cons (d_var 0) da_nil)) (d_var 1) rfl) (dw_or1 (dt_cmp dop_gt (d_var 1) (d_cvalE T.v_Board_WIDTH_LIMIT (d_cls rfl T.g_Board)) rfl))))) (ds_one (ds_ret d_bl)) ds_nil) (ds_cons (ds_set (i := 2) sc_gains_allowed.nd rfl (Or.inr rfl) (d_cvalE T.v_Board_GAIN_LIMIT (d_cls rfl T.g_Board))) (ds_one (ds_ret (d_callB (dcl_all1 rfl) rfl T.z_all bt_all (da_cons (d_lc (own := [("gain", 3)]) rfl sc_gains_allowed.nd (di_seq (d_var 0)) (blkOk_by (N := N_gains_allowed) (sc := defScope st_gains_allowed) (own := [("gain", 3)]) (by decide +kernel)) (fun _ _ _ _ _ => (dgo_name (i := 3) sc_gains_allowed.nd rfl (Or.inl rfl))) (fun _ _ _ _ _ => dts_nil) (fun _ _ _ _ _ => (d_and (d_call F_is_integer hr0 takesF T.g_is_integer T.k_is_integer T.b_is_integer .nil (fun _ => rfl) (da_cons (d_var 3) da_nil)) (d_one (d_chain dop_le dop_le (d_un dun_neg (d_var 2)) (d_var 3) (d_var 2)))))) da_nil))))))
theorem fn_gains_allowed (T : Txt P K mg) {k : Nat} {sp_is_row : DSp} {sp_is_integer : DSp} (F_is_row : DFn P w K mg base k T.f_is_row T.d_is_row ps_is_row sp_is_row) (F_is_integer : DFn P w K mg base k T.f_is_integer T.d_is_integer ps_is_integer sp_is_integer) {sp : DSp} (len : ∀ ds Hd Q E, sp ds Hd Q E → ds.length = 2) (h : ∀ ds Hd Q Ed, sp ds Hd Q Ed → rd_gains_allowed T sp_is_row sp_is_integer (endsOf Q Ed) (startD N_gains_allowed ds) Hd) : DFn P w K mg base (k + 3) T.f_gains_allowed T.d_gains_allowed ps_gains_allowed sp :=
  dfun T.F_gains_allowed sc_gains_allowed len fun cdv A outer s H E hr => ⟨_, dv_gains_allowed T F_is_row F_is_integer cdv A outer s H E hr, h⟩
def rd_moves_allowed (T : Txt P K mg) (sp_is_row : DSp) (sp_is_place : DSp) (sp_gains_allowed : DSp) : DTS := (dSeq (dIfS (dOr (dNot (dTest (dCall sp_is_row [] (dCons (dVar 0) dNil)))) (dTest (dOp dEq (dCB dLen (dCons (dVar 0) dNil)) (dC (.int 0))))) (dRet (dC (.bl false))) dNext) (dSeq (dSet (dUn dNeg (dC (.int 1))) 3) (dSeq (dFor (wSeq (dVar 0)) (gNm 4) (dSeq (dIfS (dOr (dNot (dTest (dCall sp_is_row [] (dCons (dVar 4) dNil)))) (dTest (dOp dNe (dCB dLen (dCons (dVar 4) dNil)) (dC (.int 2))))) (dRet (dC (.bl false))) dNext) (dSeq (dAsg (dVar 4) (gTp 2 (gCn (gNm 5) (gCn (gNm 6) gNl)))) (dSeq (dIfS (dOr (dNot (dTest (dCall sp_is_place [] (dCons (dVar 1) (dCons (dVar 5) dNil))))) (dOr (dTest (dOp (dI0 fun i j => .bl (decide (i ≤ j))) (dVar 5) (dVar 3))) (dNot (dTest (dCall sp_gains_allowed [] (dCons (dVar 6) (dCons (dVar 2) dNil))))))) (dRet (dC (.bl false))) dNext) (dSet (dVar 5) 3))))) (dRet (dC (.bl true))))))
theorem dv_moves_allowed (T : Txt P K mg) {k : Nat} {sp_is_row : DSp} {sp_is_place : DSp} {sp_gains_allowed : DSp} (F_is_row : DFn P w K mg base k T.f_is_row T.d_is_row ps_is_row sp_is_row) (F_is_place : DFn P w K mg base k T.f_is_place T.d_is_place ps_is_place sp_is_place) (F_gains_allowed : DFn P w K mg base k T.f_gains_allowed T.d_gains_allowed ps_gains_allowed sp_gains_allowed) (cdv : Value) (A : Around) (outer : List Env) (s : Shared) (H : Hp) (E : XK) (hr : Room (k + 2) (A.deeper (envOfC "moves_allowed" (defScope st_moves_allowed) s.heap.objs.size T.f_moves_allowed cdv))) :
    DPSs (cxOf (L2N.CX P w) P w K mg base N_moves_allowed "moves_allowed" (defScope st_moves_allowed) T.f_moves_allowed cdv A outer s H E) (WE0 E) (defBody st_moves_allowed) (rd_moves_allowed T sp_is_row sp_is_place sp_gains_allowed) := by
  have hu64 := hu64_of hr
  have hr0 := hr.mono (Nat.le_add_right k 2)
  exact (ds_cons (ds_if (dw_pt (dw_or (dt_not (dt_val (d_call F_is_row hr0 takesE T.g_is_row T.k_is_row T.b_is_row .nil (fun _ => rfl) (da_cons (d_var 0) da_nil)))) (dw_or1 (dt_cmp (dop_eq hu64) (d_callB dcl_len rfl T.z_len bt_len (da_cons (d_var 0) da_nil)) d_int rfl)))) (ds_one (ds_ret d_bl)) ds_nil) (ds_cons (ds_set (i := 3) sc_moves_allowed.nd rfl (Or.inl rfl) (d_un dun_neg d_int)) (ds_cons (ds_for passesE rfl (di_seq (d_var 0)) (dg_name (i := 4) sc_moves_allowed.nd rfl (Or.inl rfl)) (ds_cons (ds_if (dw_pt (dw_or (dt_not (dt_val (d_call F_is_row hr0 takesE T.g_is_row T.k_is_row T.b_is_row .nil (fun _ => rfl) (da_cons (d_var 4) da_nil)))) (dw_or1 (dt_cmp (dop_ne hu64) (d_callB dcl_len rfl T.z_len bt_len (da_cons (d_var 4) da_nil)) d_int rfl)))) (ds_one (ds_ret d_bl)) ds_nil) (ds_cons (ds_asg (d_var 4) (dg_tup rfl (dgs_cons (dg_name (i := 5) sc_moves_allowed.nd rfl (Or.inl rfl)) (dgs_cons (dg_name (i := 6) sc_moves_allowed.nd rfl (Or.inl rfl)) dgs_nil)))) (ds_cons (ds_if (dw_pt (dw_or (dt_not (dt_val (d_call F_is_place hr0 takesE T.g_is_place T.k_is_place T.b_is_place .nil (fun _ => rfl) (da_cons (d_var 1) (da_cons (d_var 5) da_nil))))) (dw_or (dt_cmp dop_le (d_var 5) (d_var 3) rfl) (dw_or1 (dt_not (dt_val (d_call F_gains_allowed hr0 takesE T.g_gains_allowed T.k_gains_allowed T.b_gains_allowed .nil (fun _ => rfl) (da_cons (d_var 6) (da_cons (d_var 2) da_nil))))))))) (ds_one (ds_ret d_bl)) ds_nil) (ds_one (ds_set (i := 3) sc_moves_allowed.nd rfl (Or.inl rfl) (d_var 5))))))) (ds_one (ds_ret d_bl)))))
theorem fn_moves_allowed (T : Txt P K mg) {k : Nat} {sp_is_row : DSp} {sp_is_place : DSp} {sp_gains_allowed : DSp} (F_is_row : DFn P w K mg base k T.f_is_row T.d_is_row ps_is_row sp_is_row) (F_is_place : DFn P w K mg base k T.f_is_place T.d_is_place ps_is_place sp_is_place) (F_gains_allowed : DFn P w K mg base k T.f_gains_allowed T.d_gains_allowed ps_gains_allowed sp_gains_allowed) {sp : DSp} (len : ∀ ds Hd Q E, sp ds Hd Q E → ds.length = 3) (h : ∀ ds Hd Q Ed, sp ds Hd Q Ed → rd_moves_allowed T sp_is_row sp_is_place sp_gains_allowed (endsOf Q Ed) (startD N_moves_allowed ds) Hd) : DFn P w K mg base (k + 3) T.f_moves_allowed T.d_moves_allowed ps_moves_allowed sp :=
  dfun T.F_moves_allowed sc_moves_allowed len fun cdv A outer s H E hr => ⟨_, dv_moves_allowed T F_is_row F_is_place F_gains_allowed cdv A outer s H E hr, h⟩
def rd_first_width (T : Txt P K mg) (sp_is_row : DSp) : DTS := (dSeq (dIfS (dOr (dNot (dTest (dCall sp_is_row [] (dCons (dVar 0) dNil)))) (dTest (dOp dEq (dCB dLen (dCons (dVar 0) dNil)) (dC (.int 0))))) (dRet (dUn dNeg (dC (.int 1)))) dNext) (dSeq (dSet (dOp dIx (dVar 0) (dC (.int 0))) 1) (dSeq (dIfS (dOr (dNot (dTest (dCall sp_is_row [] (dCons (dVar 1) dNil)))) (dOr (dTest (dOp dNe (dCB dLen (dCons (dVar 1) dNil)) (dC (.int 2)))) (dNot (dTest (dCall sp_is_row [] (dCons (dOp dIx (dVar 1) (dC (.int 1))) dNil)))))) (dRet (dUn dNeg (dC (.int 1)))) dNext) (dRet (dCB dLen (dCons (dOp dIx (dVar 1) (dC (.int 1))) dNil))))))
theorem dv_first_width (T : Txt P K mg) {k : Nat} {sp_is_row : DSp} (F_is_row : DFn P w K mg base k T.f_is_row T.d_is_row ps_is_row sp_is_row) (cdv : Value) (A : Around) (outer : List Env) (s : Shared) (H : Hp) (E : XK) (hr : Room (k + 2) (A.deeper (envOfC "first_width" (defScope st_first_width) s.heap.objs.size T.f_first_width cdv))) :
    DPSs (cxOf (L2N.CX P w) P w K mg base N_first_width "first_width" (defScope st_first_width) T.f_first_width cdv A outer s H E) (WE0 E) (defBody st_first_width) (rd_first_width T sp_is_row) := by
  have hu64 := hu64_of hr
  have hr0 := hr.mono (Nat.le_add_right k 2)
  exact (ds_cons (ds_if (dw_pt (dw_or (dt_not (dt_val (d_call F_is_row hr0 takesE T.g_is_row T.k_is_row T.b_is_row .nil (fun _ => rfl) (da_cons (d_var 0) da_nil)))) (dw_or1 (dt_cmp (dop_eq hu64) (d_callB dcl_len rfl T.z_len bt_len (da_cons (d_var 0) da_nil)) d_int rfl)))) (ds_one (ds_ret (d_un dun_neg d_int))) ds_nil) (ds_cons (ds_set (i := 1) sc_first_width.nd rfl (Or.inl rfl) (d_ix dix (d_var 0) d_int)) (ds_cons (ds_if (dw_pt (dw_or (dt_not (dt_val (d_call F_is_row hr0 takesE T.g_is_row T.k_is_row T.b_is_row .nil (fun _ => rfl) (da_cons (d_var 1) da_nil)))) (dw_or (dt_cmp (dop_ne hu64) (d_callB dcl_len rfl T.z_len bt_len (da_cons (d_var 1) da_nil)) d_int rfl) (dw_or1 (dt_not (dt_val (d_call F_is_row hr0 takesE T.g_is_row T.k_is_row T.b_is_row .nil (fun _ => rfl) (da_cons (d_ix dix (d_var 1) d_int) da_nil)))))))) (ds_one (ds_ret (d_un dun_neg d_int))) ds_nil) (ds_one (ds_ret (d_callB dcl_len rfl T.z_len bt_len (da_cons (d_ix dix (d_var 1) d_int) da_nil)))))))
theorem fn_first_width (T : Txt P K mg) {k : Nat} {sp_is_row : DSp} (F_is_row : DFn P w K mg base k T.f_is_row T.d_is_row ps_is_row sp_is_row) {sp : DSp} (len : ∀ ds Hd Q E, sp ds Hd Q E → ds.length = 1) (h : ∀ ds Hd Q Ed, sp ds Hd Q Ed → rd_first_width T sp_is_row (endsOf Q Ed) (startD N_first_width ds) Hd) : DFn P w K mg base (k + 3) T.f_first_width T.d_first_width ps_first_width sp :=
  dfun T.F_first_width sc_first_width len fun cdv A outer s H E hr => ⟨_, dv_first_width T F_is_row cdv A outer s H E hr, h⟩
def rd_shape_allowed (T : Txt P K mg) (sp_is_row : DSp) : DTS := (dSeq (dIfS (dOr (dNot (dTest (dCall sp_is_row [] (dCons (dVar 0) dNil)))) (dOr (dNot (dTest (dCall sp_is_row [] (dCons (dVar 1) dNil)))) (dOr (dNot (dTest (dCall sp_is_row [] (dCons (dVar 2) dNil)))) (dNot (dTest (dCall sp_is_row [] (dCons (dVar 3) dNil))))))) (dRet (dC (.bl false))) dNext) (dSeq (dSet (dCB dLen (dCons (dVar 0) dNil)) 4) (dSeq (dIfS (dOr (dNot (dTest (dChn (dI0 fun i j => .bl (decide (i ≤ j))) (dI0 fun i j => .bl (decide (i ≤ j))) (dC (.int 1)) (dVar 4) (dC (.int 400))))) (dOr (dTest (dOp dNe (dCB dLen (dCons (dVar 1) dNil)) (dVar 4))) (dTest (dOp dNe (dCB dLen (dCons (dVar 2) dNil)) (dVar 4))))) (dRet (dC (.bl false))) dNext) (dRet (dOrV (dOp dEq (dCB dLen (dCons (dVar 3) dNil)) (dC (.int 0))) (dOp dEq (dCB dLen (dCons (dVar 3) dNil)) (dVar 4)))))))
theorem dv_shape_allowed (T : Txt P K mg) {k : Nat} {sp_is_row : DSp} (F_is_row : DFn P w K mg base k T.f_is_row T.d_is_row ps_is_row sp_is_row) (cdv : Value) (A : Around) (outer : List Env) (s : Shared) (H : Hp) (E : XK) (hr : Room (k + 2) (A.deeper (envOfC "shape_allowed" (defScope st_shape_allowed) s.heap.objs.size T.f_shape_allowed cdv))) :
    DPSs (cxOf (L2N.CX P w) P w K mg base N_shape_allowed "shape_allowed" (defScope st_shape_allowed) T.f_shape_allowed cdv A outer s H E) (WE0 E) (defBody st_shape_allowed) (rd_shape_allowed T sp_is_row) := by
  have hu64 := hu64_of hr
  have hr0 := hr.mono (Nat.le_add_right k 2)
  exact (ds_cons (ds_if (dw_pt (dw_or (dt_not (dt_val (d_call F_is_row hr0 takesE T.g_is_row T.k_is_row T.b_is_row .nil (fun _ => rfl) (da_cons (d_var 0) da_nil)))) (dw_or (dt_not (dt_val (d_call F_is_row hr0 takesE T.g_is_row T.k_is_row T.b_is_row .nil (fun _ => rfl) (da_cons (d_var 1) da_nil)))) (dw_or (dt_not (dt_val (d_call F_is_row hr0 takesE T.g_is_row T.k_is_row T.b_is_row .nil (fun _ => rfl) (da_cons (d_var 2) da_nil)))) (dw_or1 (dt_not (dt_val (d_call F_is_row hr0 takesE T.g_is_row T.k_is_row T.b_is_row .nil (fun _ => rfl) (da_cons (d_var 3) da_nil))))))))) (ds_one (ds_ret d_bl)) ds_nil) (ds_cons (ds_set (i := 4) sc_shape_allowed.nd rfl (Or.inl rfl) (d_callB dcl_len rfl T.z_len bt_len (da_cons (d_var 0) da_nil))) (ds_cons (ds_if (dw_pt (dw_or (dt_not (dt_chain dop_le dop_le d_int (d_var 4) (d_cvalE T.v_Board_PLACE_LIMIT (d_cls rfl T.g_Board)))) (dw_or (dt_cmp (dop_ne hu64) (d_callB dcl_len rfl T.z_len bt_len (da_cons (d_var 1) da_nil)) (d_var 4) rfl) (dw_or1 (dt_cmp (dop_ne hu64) (d_callB dcl_len rfl T.z_len bt_len (da_cons (d_var 2) da_nil)) (d_var 4) rfl))))) (ds_one (ds_ret d_bl)) ds_nil) (ds_one (ds_ret (d_or (d_cmp (dop_eq hu64) (d_callB dcl_len rfl T.z_len bt_len (da_cons (d_var 3) da_nil)) d_int rfl) (d_one (d_cmp (dop_eq hu64) (d_callB dcl_len rfl T.z_len bt_len (da_cons (d_var 3) da_nil)) (d_var 4) rfl))))))))
theorem fn_shape_allowed (T : Txt P K mg) {k : Nat} {sp_is_row : DSp} (F_is_row : DFn P w K mg base k T.f_is_row T.d_is_row ps_is_row sp_is_row) {sp : DSp} (len : ∀ ds Hd Q E, sp ds Hd Q E → ds.length = 4) (h : ∀ ds Hd Q Ed, sp ds Hd Q Ed → rd_shape_allowed T sp_is_row (endsOf Q Ed) (startD N_shape_allowed ds) Hd) : DFn P w K mg base (k + 3) T.f_shape_allowed T.d_shape_allowed ps_shape_allowed sp :=
  dfun T.F_shape_allowed sc_shape_allowed len fun cdv A outer s H E hr => ⟨_, dv_shape_allowed T F_is_row cdv A outer s H E hr, h⟩
def rd_rank_allowed (T : Txt P K mg) (sp_is_integer : DSp) : DTS := (dRet (dAndV (dCall sp_is_integer [] (dCons (dVar 0) dNil)) (dChn (dI0 fun i j => .bl (decide (i ≤ j))) (dI0 fun i j => .bl (decide (i ≤ j))) (dC (.int 0)) (dVar 0) (dC (.int 9)))))
theorem dv_rank_allowed (T : Txt P K mg) {k : Nat} {sp_is_integer : DSp} (F_is_integer : DFn P w K mg base k T.f_is_integer T.d_is_integer ps_is_integer sp_is_integer) (cdv : Value) (A : Around) (outer : List Env) (s : Shared) (H : Hp) (E : XK) (hr : Room (k + 2) (A.deeper (envOfC "rank_allowed" (defScope st_rank_allowed) s.heap.objs.size T.f_rank_allowed cdv))) :
    DPSs (cxOf (L2N.CX P w) P w K mg base N_rank_allowed "rank_allowed" (defScope st_rank_allowed) T.f_rank_allowed cdv A outer s H E) (WE0 E) (defBody st_rank_allowed) (rd_rank_allowed T sp_is_integer) := by
  have hr0 := hr.mono (Nat.le_add_right k 2)
  exact (ds_one (ds_ret (d_and (d_call F_is_integer hr0 takesE T.g_is_integer T.k_is_integer T.b_is_integer .nil (fun _ => rfl) (da_cons (d_var 0) da_nil)) (d_one (d_chain dop_le dop_le d_int (d_var 0) (d_cvalE T.v_Board_RANK_LIMIT (d_cls rfl T.g_Board)))))))
theorem fn_rank_allowed (T : Txt P K mg) {k : Nat} {sp_is_integer : DSp} (F_is_integer : DFn P w K mg base k T.f_is_integer T.d_is_integer ps_is_integer sp_is_integer) {sp : DSp} (len : ∀ ds Hd Q E, sp ds Hd Q E → ds.length = 1) (h : ∀ ds Hd Q Ed, sp ds Hd Q Ed → rd_rank_allowed T sp_is_integer (endsOf Q Ed) (startD N_rank_allowed ds) Hd) : DFn P w K mg base (k + 3) T.f_rank_allowed T.d_rank_allowed ps_rank_allowed sp :=
  dfun T.F_rank_allowed sc_rank_allowed len fun cdv A outer s H E hr => ⟨_, dv_rank_allowed T F_is_integer cdv A outer s H E hr, h⟩
def rd__law_bag (T : Txt P K mg) : DTS := (dSeq (dSet (dLst dNil) 1) (dSeq (dSet (dC (.int 24)) 2) (dSeq (dFor (wSeq (dSl dCut (dVar 0) dNoPart (dPart (dC (.int 63))))) (gNm 3) (dSeq (dSet (dOp (dI (fun _ j => 0 < j) fun i j => .int (i % j)) (dCB dInt (dCons (dVar 3) dNil)) (dOp (dI CPow fun i j => .int (i ^ j.toNat)) (dC (.int 10)) (dC (.int 60)))) 4) (dSeq (dIfS (dTest (dOp (dI0 fun i j => .bl (decide (j ≤ i))) (dVar 4) (dOp (dI CPow fun i j => .int (i ^ j.toNat)) (dC (.int 10)) (dC (.int 18))))) (dDrop (dBM "list" dApp (dVar 1) (dCons (dVar 4) dNil))) dNext) (dSet (dOp (dI (fun _ j => 0 < j) fun i j => .int (i % j)) (dCB dInt (dCons (dOp dAdd (dOp dAdd (dOp dMul (dVar 2) (dC (.int 48271))) (dVar 4)) (dC (.int 1))) dNil)) (dC (.int 2147483647))) 2)))) (dRet (dLst (dCons (dVar 1) (dCons (dC (.int 0)) (dCons (dC (.int 0)) (dCons (dVar 2) (dCons (dC (.int 0)) dNil))))))))))
theorem dv__law_bag (T : Txt P K mg) {k : Nat} (cdv : Value) (A : Around) (outer : List Env) (s : Shared) (H : Hp) (E : XK) (hr : Room (k + 2) (A.deeper (envOfC "_law_bag" (defScope st__law_bag) s.heap.objs.size T.f__law_bag cdv))) :
    DPSs (cxOf (L2N.CX P w) P w K mg base N__law_bag "_law_bag" (defScope st__law_bag) T.f__law_bag cdv A outer s H E) (WE0 E) (defBody st__law_bag) (rd__law_bag T) := by
  exact (ds_cons (ds_set (i := 1) sc__law_bag.nd rfl (Or.inl rfl) (d_lst da_nil)) (ds_cons (ds_set (i := 2) sc__law_bag.nd rfl (Or.inl rfl) d_int) (ds_cons (ds_for passesE rfl (di_seq (d_slice dsl (d_var 0) do_none (do_some d_int))) (dg_name (i := 3) sc__law_bag.nd rfl (Or.inl rfl)) (ds_cons (ds_set (i := 4) sc__law_bag.nd rfl (Or.inl rfl) (d_op dop_mod (d_callTy dcl_int rfl T.z_int bt_int (da_cons (d_var 3) da_nil)) (d_op dop_pow d_int d_int))) (ds_cons (ds_if (dt_cmp dop_ge (d_var 4) (d_op dop_pow d_int d_int) rfl) (ds_one (ds_expr (d_bm pla_list sl_list_append ty_list_append dmt_append (d_var 1) (da_cons (d_var 4) da_nil)))) ds_nil) (ds_one (ds_set (i := 2) sc__law_bag.nd rfl (Or.inl rfl) (d_op dop_mod (d_callTy dcl_int rfl T.z_int bt_int (da_cons (d_op dop_add (d_op dop_add (d_op dop_mul (d_var 2) d_int) (d_var 4)) d_int) da_nil)) d_int)))))) (ds_one (ds_ret (d_lst (da_cons (d_var 1) (da_cons d_int (da_cons d_int (da_cons (d_var 2) (da_cons d_int da_nil)))))))))))
theorem fn__law_bag (T : Txt P K mg) {k : Nat} {sp : DSp} (len : ∀ ds Hd Q E, sp ds Hd Q E → ds.length = 1) (h : ∀ ds Hd Q Ed, sp ds Hd Q Ed → rd__law_bag T (endsOf Q Ed) (startD N__law_bag ds) Hd) : DFn P w K mg base (k + 3) T.f__law_bag T.d__law_bag ps__law_bag sp :=
  dfun T.F__law_bag sc__law_bag len fun cdv A outer s H E hr => ⟨_, dv__law_bag T cdv A outer s H E hr, h⟩
def rd__law_take (T : Txt P K mg) : DTS := (dSeq (dIfS (dAnd (dTest (dOp (dI0 fun i j => .bl (decide (i < j))) (dOp dIx (dVar 0) (dC (.int 2))) (dC (.int 2)))) (dTest (dOp (dI0 fun i j => .bl (decide (i < j))) (dOp dIx (dVar 0) (dC (.int 1))) (dCB dLen (dCons (dOp dIx (dVar 0) (dC (.int 0))) dNil))))) (dSeq (dAsg (dOp dIx (dOp dIx (dVar 0) (dC (.int 0))) (dOp dIx (dVar 0) (dC (.int 1)))) (gIx (dVar 0) (dC (.int 2)))) (dAsg (dOp dAdd (dOp dIx (dVar 0) (dC (.int 1))) (dC (.int 1))) (gIx (dVar 0) (dC (.int 1))))) dNext) (dSeq (dIfS (dTest (dOp (dI0 fun i j => .bl (decide (j < i))) (dOp dIx (dVar 0) (dC (.int 2))) (dC (.int 1)))) (dSeq (dSet (dOp (dI (fun _ j => 0 < j) fun i j => .int (i % j)) (dCB dInt (dCons (dOp dIx (dVar 0) (dC (.int 2))) dNil)) (dVar 1)) 4) (dSeq (dAsg (dOp (dI CDv fun i j => .int (i / j)) (dOp dIx (dVar 0) (dC (.int 2))) (dVar 1)) (gIx (dVar 0) (dC (.int 2)))) (dRet (dVar 4)))) dNext) (dSeq (dAsg (dOp dAdd (dOp dIx (dVar 0) (dC (.int 4))) (dC (.int 1))) (gIx (dVar 0) (dC (.int 4)))) (dSeq (dSet (dOp (dI (fun _ j => 0 < j) fun i j => .int (i % j)) (dCB dInt (dCons (dOp dMul (dOp dAdd (dOp dIx (dVar 0) (dC (.int 3))) (dOp dIx (dVar 0) (dC (.int 4)))) (dC (.int 48271))) dNil)) (dC (.int 2147483647))) 2) (dSeq (dAsg (dVar 2) (gIx (dVar 0) (dC (.int 3)))) (dSeq (dSet (dOp (dI (fun _ j => 0 < j) fun i j => .int (i % j)) (dCB dInt (dCons (dOp dMul (dOp dAdd (dOp (dI CDv fun i j => .int (i / j)) (dVar 2) (dC (.int 3))) (dOp dMul (dOp dIx (dVar 0) (dC (.int 4))) (dOp dIx (dVar 0) (dC (.int 4))))) (dC (.int 69621))) dNil)) (dC (.int 2147483629))) 3) (dRet (dOp (dI (fun _ j => 0 < j) fun i j => .int (i % j)) (dOp (dI CDv fun i j => .int (i / j)) (dVar 3) (dC (.int 16))) (dVar 1)))))))))
theorem dv__law_take (T : Txt P K mg) {k : Nat} (cdv : Value) (A : Around) (outer : List Env) (s : Shared) (H : Hp) (E : XK) (hr : Room (k + 2) (A.deeper (envOfC "_law_take" (defScope st__law_take) s.heap.objs.size T.f__law_take cdv))) :
    DPSs (cxOf (L2N.CX P w) P w K mg base N__law_take "_law_take" (defScope st__law_take) T.f__law_take cdv A outer s H E) (WE0 E) (defBody st__law_take) (rd__law_take T) := by
  exact (ds_cons (ds_if (dw_pt (dw_and (dt_cmp dop_lt (d_ix dix (d_var 0) d_int) d_int rfl) (dw_and1 (dt_cmp dop_lt (d_ix dix (d_var 0) d_int) (d_callB dcl_len rfl T.z_len bt_len (da_cons (d_ix dix (d_var 0) d_int) da_nil)) rfl)))) (ds_cons (ds_asg (d_ix dix (d_ix dix (d_var 0) d_int) (d_ix dix (d_var 0) d_int)) (dg_ix (d_var 0) d_int)) (ds_one (ds_asg (d_op dop_add (d_ix dix (d_var 0) d_int) d_int) (dg_ix (d_var 0) d_int)))) ds_nil) (ds_cons (ds_if (dt_cmp dop_gt (d_ix dix (d_var 0) d_int) d_int rfl) (ds_cons (ds_set (i := 4) sc__law_take.nd rfl (Or.inl rfl) (d_op dop_mod (d_callTy dcl_int rfl T.z_int bt_int (da_cons (d_ix dix (d_var 0) d_int) da_nil)) (d_var 1))) (ds_cons (ds_asg (d_op dop_fdiv (d_ix dix (d_var 0) d_int) (d_var 1)) (dg_ix (d_var 0) d_int)) (ds_one (ds_ret (d_var 4))))) ds_nil) (ds_cons (ds_asg (d_op dop_add (d_ix dix (d_var 0) d_int) d_int) (dg_ix (d_var 0) d_int)) (ds_cons (ds_set (i := 2) sc__law_take.nd rfl (Or.inl rfl) (d_op dop_mod (d_callTy dcl_int rfl T.z_int bt_int (da_cons (d_op dop_mul (d_op dop_add (d_ix dix (d_var 0) d_int) (d_ix dix (d_var 0) d_int)) d_int) da_nil)) d_int)) (ds_cons (ds_asg (d_var 2) (dg_ix (d_var 0) d_int)) (ds_cons (ds_set (i := 3) sc__law_take.nd rfl (Or.inl rfl) (d_op dop_mod (d_callTy dcl_int rfl T.z_int bt_int (da_cons (d_op dop_mul (d_op dop_add (d_op dop_fdiv (d_var 2) d_int) (d_op dop_mul (d_ix dix (d_var 0) d_int) (d_ix dix (d_var 0) d_int))) d_int) da_nil)) d_int)) (ds_one (ds_ret (d_op dop_mod (d_op dop_fdiv (d_var 3) d_int) (d_var 1))))))))))
theorem fn__law_take (T : Txt P K mg) {k : Nat} {sp : DSp} (len : ∀ ds Hd Q E, sp ds Hd Q E → ds.length = 2) (h : ∀ ds Hd Q Ed, sp ds Hd Q Ed → rd__law_take T (endsOf Q Ed) (startD N__law_take ds) Hd) : DFn P w K mg base (k + 3) T.f__law_take T.d__law_take ps__law_take sp :=
  dfun T.F__law_take sc__law_take len fun cdv A outer s H E hr => ⟨_, dv__law_take T cdv A outer s H E hr, h⟩
def rd__law_same (T : Txt P K mg) (sp__law_same : DSp) : DTS := (dSeq (dIfS (dTest (dCB (dIsi K) (dCons (dVar 1) (dCons (dC (.ty "tuple")) dNil)))) (dSeq (dIfS (dOr (dNot (dTest (dCB (dIsi K) (dCons (dVar 0) (dCons (dC (.ty "tuple")) dNil))))) (dTest (dOp dNe (dCB dLen (dCons (dVar 0) dNil)) (dCB dLen (dCons (dVar 1) dNil))))) (dRet (dC (.bl false))) dNext) (dSeq (dFor (wRng1 (dCons (dCB dLen (dCons (dVar 1) dNil)) dNil)) (gNm 2) (dIfS (dNot (dTest (dCall sp__law_same [] (dCons (dOp dIx (dVar 0) (dVar 2)) (dCons (dOp dIx (dVar 1) (dVar 2)) dNil))))) (dRet (dC (.bl false))) dNext)) (dRet (dC (.bl true))))) dNext) (dSeq (dIfS (dTest (dCB (dIsi K) (dCons (dVar 1) (dCons (dC (.ty "str")) dNil)))) (dRet (dAndV (dCB (dIsi K) (dCons (dVar 0) (dCons (dC (.ty "str")) dNil))) (dOp dEq (dVar 0) (dVar 1)))) dNext) (dSeq (dIfS (dTest (dOp dIsN (dVar 1) (dC .non))) (dRet (dOp dIsN (dVar 0) (dC .non))) dNext) (dSeq (dIfS (dTest (dCB (dIsi K) (dCons (dVar 1) (dCons (dC (.ty "bool")) dNil)))) (dRet (dAndV (dCB (dIsi K) (dCons (dVar 0) (dCons (dC (.ty "bool")) dNil))) (dOp dEq (dVar 0) (dVar 1)))) dNext) (dRet (dAndV (dCB (dIsi K) (dCons (dVar 0) (dCons (dC (.ty "int")) dNil))) (dAndV (dNotV (dCB (dIsi K) (dCons (dVar 0) (dCons (dC (.ty "bool")) dNil)))) (dOp dEq (dVar 0) (dVar 1)))))))))
theorem dv__law_same (T : Txt P K mg) {k : Nat} {sp__law_same : DSp} (F__law_same : DFn P w K mg base k T.f__law_same T.d__law_same ps__law_same sp__law_same) (cdv : Value) (A : Around) (outer : List Env) (s : Shared) (H : Hp) (E : XK) (hr : Room (k + 2) (A.deeper (envOfC "_law_same" (defScope st__law_same) s.heap.objs.size T.f__law_same cdv))) :
    DPSs (cxOf (L2N.CX P w) P w K mg base N__law_same "_law_same" (defScope st__law_same) T.f__law_same cdv A outer s H E) (WE0 E) (defBody st__law_same) (rd__law_same T sp__law_same) := by
  have hu64 := hu64_of hr
  have hr0 := hr.mono (Nat.le_add_right k 2)
  exact (ds_cons (ds_if (dt_val (d_callB dcl_isi rfl T.z_isinstance bt_isinstance (da_cons (d_var 1) (da_cons (d_ty rfl T.z_tuple bt_tuple) da_nil)))) (ds_cons (ds_if (dw_pt (dw_or (dt_not (dt_val (d_callB dcl_isi rfl T.z_isinstance bt_isinstance (da_cons (d_var 0) (da_cons (d_ty rfl T.z_tuple bt_tuple) da_nil))))) (dw_or1 (dt_cmp (dop_ne hu64) (d_callB dcl_len rfl T.z_len bt_len (da_cons (d_var 0) da_nil)) (d_callB dcl_len rfl T.z_len bt_len (da_cons (d_var 1) da_nil)) rfl)))) (ds_one (ds_ret d_bl)) ds_nil) (ds_cons (ds_for passesE rfl (di_rng1 rfl T.z_range (da_cons (d_callB dcl_len rfl T.z_len bt_len (da_cons (d_var 1) da_nil)) da_nil)) (dg_name (i := 2) sc__law_same.nd rfl (Or.inl rfl)) (ds_one (ds_if (dt_not (dt_val (d_call F__law_same hr0 takesE T.g__law_same T.k__law_same T.b__law_same .nil (fun _ => rfl) (da_cons (d_ix dix (d_var 0) (d_var 2)) (da_cons (d_ix dix (d_var 1) (d_var 2)) da_nil))))) (ds_one (ds_ret d_bl)) ds_nil))) (ds_one (ds_ret d_bl)))) ds_nil) (ds_cons (ds_if (dt_val (d_callB dcl_isi rfl T.z_isinstance bt_isinstance (da_cons (d_var 1) (da_cons (d_ty rfl T.z_str bt_str) da_nil)))) (ds_one (ds_ret (d_and (d_callB dcl_isi rfl T.z_isinstance bt_isinstance (da_cons (d_var 0) (da_cons (d_ty rfl T.z_str bt_str) da_nil))) (d_one (d_cmp (dop_eq hu64) (d_var 0) (d_var 1) rfl))))) ds_nil) (ds_cons (ds_if (dt_cmp dop_isN (d_var 1) d_non rfl) (ds_one (ds_ret (d_cmp dop_isN (d_var 0) d_non rfl))) ds_nil) (ds_cons (ds_if (dt_val (d_callB dcl_isi rfl T.z_isinstance bt_isinstance (da_cons (d_var 1) (da_cons (d_ty rfl T.z_bool bt_bool) da_nil)))) (ds_one (ds_ret (d_and (d_callB dcl_isi rfl T.z_isinstance bt_isinstance (da_cons (d_var 0) (da_cons (d_ty rfl T.z_bool bt_bool) da_nil))) (d_one (d_cmp (dop_eq hu64) (d_var 0) (d_var 1) rfl))))) ds_nil) (ds_one (ds_ret (d_and (d_callB dcl_isi rfl T.z_isinstance bt_isinstance (da_cons (d_var 0) (da_cons (d_ty rfl T.z_int bt_int) da_nil))) (d_and (d_not (d_callB dcl_isi rfl T.z_isinstance bt_isinstance (da_cons (d_var 0) (da_cons (d_ty rfl T.z_bool bt_bool) da_nil)))) (d_one (d_cmp (dop_eq hu64) (d_var 0) (d_var 1) rfl))))))))))
theorem fn__law_same (T : Txt P K mg) {k : Nat} {sp__law_same : DSp} (F__law_same : DFn P w K mg base k T.f__law_same T.d__law_same ps__law_same sp__law_same) {sp : DSp} (len : ∀ ds Hd Q E, sp ds Hd Q E → ds.length = 2) (h : ∀ ds Hd Q Ed, sp ds Hd Q Ed → rd__law_same T sp__law_same (endsOf Q Ed) (startD N__law_same ds) Hd) : DFn P w K mg base (k + 3) T.f__law_same T.d__law_same ps__law_same sp :=
  dfun T.F__law_same sc__law_same len fun cdv A outer s H E hr => ⟨_, dv__law_same T F__law_same cdv A outer s H E hr, h⟩
def rd__law_name (T : Txt P K mg) (sp__law_take : DSp) : DTS := (dSeq (dSet (dC (.str "abcdefghijklmnopqrstuvwxyz")) 2) (dSeq (dSet (dC (.str "")) 3) (dSeq (dSet (dCall sp__law_take [] (dCons (dVar 0) (dCons (dC (.int 2)) dNil))) 4) (dSeq (dFor (wRng1 (dCons (dOp dAdd (dC (.int 1)) (dCall sp__law_take [] (dCons (dVar 0) (dCons (dOp dAdd (dC (.int 1)) (dCall sp__law_take [] (dCons (dVar 0) (dCons (dVar 1) dNil)))) dNil)))) dNil)) (gNm 5) (dIfS (dTest (dOp dEq (dVar 4) (dC (.int 1)))) (dSet (dOp dAdd (dVar 3) (dOp dIx (dVar 2) (dCall sp__law_take [] (dCons (dVar 0) (dCons (dC (.int 26)) dNil))))) 3) (dSet (dOp dAdd (dVar 3) (dOp dIx (dC (.str "abz")) (dCall sp__law_take [] (dCons (dVar 0) (dCons (dC (.int 3)) dNil))))) 3))) (dRet (dVar 3))))))
theorem dv__law_name (T : Txt P K mg) {k : Nat} {sp__law_take : DSp} (F__law_take : DFn P w K mg base k T.f__law_take T.d__law_take ps__law_take sp__law_take) (cdv : Value) (A : Around) (outer : List Env) (s : Shared) (H : Hp) (E : XK) (hr : Room (k + 2) (A.deeper (envOfC "_law_name" (defScope st__law_name) s.heap.objs.size T.f__law_name cdv))) :
    DPSs (cxOf (L2N.CX P w) P w K mg base N__law_name "_law_name" (defScope st__law_name) T.f__law_name cdv A outer s H E) (WE0 E) (defBody st__law_name) (rd__law_name T sp__law_take) := by
  have hu64 := hu64_of hr
  have hr0 := hr.mono (Nat.le_add_right k 2)
  exact (ds_cons (ds_set (i := 2) sc__law_name.nd rfl (Or.inl rfl) d_str) (ds_cons (ds_set (i := 3) sc__law_name.nd rfl (Or.inl rfl) d_str) (ds_cons (ds_set (i := 4) sc__law_name.nd rfl (Or.inl rfl) (d_call F__law_take hr0 takesE T.g__law_take T.k__law_take T.b__law_take .nil (fun _ => rfl) (da_cons (d_var 0) (da_cons d_int da_nil)))) (ds_cons (ds_for passesE rfl (di_rng1 rfl T.z_range (da_cons (d_op dop_add d_int (d_call F__law_take hr0 takesE T.g__law_take T.k__law_take T.b__law_take .nil (fun _ => rfl) (da_cons (d_var 0) (da_cons (d_op dop_add d_int (d_call F__law_take hr0 takesE T.g__law_take T.k__law_take T.b__law_take .nil (fun _ => rfl) (da_cons (d_var 0) (da_cons (d_var 1) da_nil)))) da_nil)))) da_nil)) (dg_name (i := 5) sc__law_name.nd rfl (Or.inl rfl)) (ds_one (ds_if (dt_cmp (dop_eq hu64) (d_var 4) d_int rfl) (ds_one (ds_set (i := 3) sc__law_name.nd rfl (Or.inl rfl) (d_op dop_add (d_var 3) (d_ix dix (d_var 2) (d_call F__law_take hr0 takesE T.g__law_take T.k__law_take T.b__law_take .nil (fun _ => rfl) (da_cons (d_var 0) (da_cons d_int da_nil))))))) (ds_one (ds_set (i := 3) sc__law_name.nd rfl (Or.inl rfl) (d_op dop_add (d_var 3) (d_ix dix d_str (d_call F__law_take hr0 takesE T.g__law_take T.k__law_take T.b__law_take .nil (fun _ => rfl) (da_cons (d_var 0) (da_cons d_int da_nil)))))))))) (ds_one (ds_ret (d_var 3)))))))
theorem fn__law_name (T : Txt P K mg) {k : Nat} {sp__law_take : DSp} (F__law_take : DFn P w K mg base k T.f__law_take T.d__law_take ps__law_take sp__law_take) {sp : DSp} (len : ∀ ds Hd Q E, sp ds Hd Q E → ds.length = 2) (h : ∀ ds Hd Q Ed, sp ds Hd Q Ed → rd__law_name T sp__law_take (endsOf Q Ed) (startD N__law_name ds) Hd) : DFn P w K mg base (k + 3) T.f__law_name T.d__law_name ps__law_name sp :=
  dfun T.F__law_name sc__law_name len fun cdv A outer s H E hr => ⟨_, dv__law_name T F__law_take cdv A outer s H E hr, h⟩
def rd__law_pool (T : Txt P K mg) (sp__law_take : DSp) (sp__law_name : DSp) : DTS := (dSeq (dSet (dLst dNil) 2) (dSeq (dFor (wRng1 (dCons (dCall sp__law_take [] (dCons (dVar 0) (dCons (dC (.int 5)) dNil))) dNil)) (gNm 3) (dSeq (dSet (dCall sp__law_name [] (dCons (dVar 0) (dCons (dVar 1) dNil))) 4) (dIfS (dTest (dOp (dIn fun b => !b) (dVar 4) (dVar 2))) (dDrop (dBM "list" dApp (dVar 2) (dCons (dVar 4) dNil))) dNext))) (dRet (dCB dSortS (dCons (dVar 2) dNil)))))
theorem dv__law_pool (T : Txt P K mg) {k : Nat} {sp__law_take : DSp} {sp__law_name : DSp} (F__law_take : DFn P w K mg base k T.f__law_take T.d__law_take ps__law_take sp__law_take) (F__law_name : DFn P w K mg base k T.f__law_name T.d__law_name ps__law_name sp__law_name) (cdv : Value) (A : Around) (outer : List Env) (s : Shared) (H : Hp) (E : XK) (hr : Room (k + 2) (A.deeper (envOfC "_law_pool" (defScope st__law_pool) s.heap.objs.size T.f__law_pool cdv))) :
    DPSs (cxOf (L2N.CX P w) P w K mg base N__law_pool "_law_pool" (defScope st__law_pool) T.f__law_pool cdv A outer s H E) (WE0 E) (defBody st__law_pool) (rd__law_pool T sp__law_take sp__law_name) := by
  have hu64 := hu64_of hr
  have hr0 := hr.mono (Nat.le_add_right k 2)
  exact (ds_cons (ds_set (i := 2) sc__law_pool.nd rfl (Or.inl rfl) (d_lst da_nil)) (ds_cons (ds_for passesE rfl (di_rng1 rfl T.z_range (da_cons (d_call F__law_take hr0 takesE T.g__law_take T.k__law_take T.b__law_take .nil (fun _ => rfl) (da_cons (d_var 0) (da_cons d_int da_nil))) da_nil)) (dg_name (i := 3) sc__law_pool.nd rfl (Or.inl rfl)) (ds_cons (ds_set (i := 4) sc__law_pool.nd rfl (Or.inl rfl) (d_call F__law_name hr0 takesE T.g__law_name T.k__law_name T.b__law_name .nil (fun _ => rfl) (da_cons (d_var 0) (da_cons (d_var 1) da_nil)))) (ds_one (ds_if (dt_cmp (dop_notIn hu64) (d_var 4) (d_var 2) rfl) (ds_one (ds_expr (d_bm pla_list sl_list_append ty_list_append dmt_append (d_var 2) (da_cons (d_var 4) da_nil)))) ds_nil)))) (ds_one (ds_ret (d_callB dcl_sortS rfl T.z_sorted bt_sorted (da_cons (d_var 2) da_nil))))))
theorem fn__law_pool (T : Txt P K mg) {k : Nat} {sp__law_take : DSp} {sp__law_name : DSp} (F__law_take : DFn P w K mg base k T.f__law_take T.d__law_take ps__law_take sp__law_take) (F__law_name : DFn P w K mg base k T.f__law_name T.d__law_name ps__law_name sp__law_name) {sp : DSp} (len : ∀ ds Hd Q E, sp ds Hd Q E → ds.length = 2) (h : ∀ ds Hd Q Ed, sp ds Hd Q Ed → rd__law_pool T sp__law_take sp__law_name (endsOf Q Ed) (startD N__law_pool ds) Hd) : DFn P w K mg base (k + 3) T.f__law_pool T.d__law_pool ps__law_pool sp :=
  dfun T.F__law_pool sc__law_pool len fun cdv A outer s H E hr => ⟨_, dv__law_pool T F__law_take F__law_name cdv A outer s H E hr, h⟩
def rd__law_marks (T : Txt P K mg) (sp__law_take : DSp) : DTS := (dSeq (dSet (dLst dNil) 2) (dSeq (dFor (wSeq (dVar 1)) (gNm 3) (dIfS (dTest (dOp dEq (dCall sp__law_take [] (dCons (dVar 0) (dCons (dC (.int 3)) dNil))) (dC (.int 0)))) (dDrop (dBM "list" dApp (dVar 2) (dCons (dVar 3) dNil))) dNext)) (dRet (dCB dTupleOf (dCons (dVar 2) dNil)))))
theorem dv__law_marks (T : Txt P K mg) {k : Nat} {sp__law_take : DSp} (F__law_take : DFn P w K mg base k T.f__law_take T.d__law_take ps__law_take sp__law_take) (cdv : Value) (A : Around) (outer : List Env) (s : Shared) (H : Hp) (E : XK) (hr : Room (k + 2) (A.deeper (envOfC "_law_marks" (defScope st__law_marks) s.heap.objs.size T.f__law_marks cdv))) :
    DPSs (cxOf (L2N.CX P w) P w K mg base N__law_marks "_law_marks" (defScope st__law_marks) T.f__law_marks cdv A outer s H E) (WE0 E) (defBody st__law_marks) (rd__law_marks T sp__law_take) := by
  have hu64 := hu64_of hr
  have hr0 := hr.mono (Nat.le_add_right k 2)
  exact (ds_cons (ds_set (i := 2) sc__law_marks.nd rfl (Or.inl rfl) (d_lst da_nil)) (ds_cons (ds_for passesE rfl (di_seq (d_var 1)) (dg_name (i := 3) sc__law_marks.nd rfl (Or.inl rfl)) (ds_one (ds_if (dt_cmp (dop_eq hu64) (d_call F__law_take hr0 takesE T.g__law_take T.k__law_take T.b__law_take .nil (fun _ => rfl) (da_cons (d_var 0) (da_cons d_int da_nil))) d_int rfl) (ds_one (ds_expr (d_bm pla_list sl_list_append ty_list_append dmt_append (d_var 2) (da_cons (d_var 3) da_nil)))) ds_nil))) (ds_one (ds_ret (d_callTy dcl_tuple rfl T.z_tuple bt_tuple (da_cons (d_var 2) da_nil))))))
theorem fn__law_marks (T : Txt P K mg) {k : Nat} {sp__law_take : DSp} (F__law_take : DFn P w K mg base k T.f__law_take T.d__law_take ps__law_take sp__law_take) {sp : DSp} (len : ∀ ds Hd Q E, sp ds Hd Q E → ds.length = 2) (h : ∀ ds Hd Q Ed, sp ds Hd Q Ed → rd__law_marks T sp__law_take (endsOf Q Ed) (startD N__law_marks ds) Hd) : DFn P w K mg base (k + 3) T.f__law_marks T.d__law_marks ps__law_marks sp :=
  dfun T.F__law_marks sc__law_marks len fun cdv A outer s H E hr => ⟨_, dv__law_marks T F__law_take cdv A outer s H E hr, h⟩
def rd__law_gains (T : Txt P K mg) (sp__law_take : DSp) : DTS := (dSeq (dIfS (dTest (dOp dEq (dVar 2) (dC (.int 0)))) (dRet (dCB dTupleOf (dCons (dLc (wRng1 (dCons (dVar 1) dNil)) (gNm 3) dYes (dOp (dI0 fun i j => .int (i - j)) (dCall sp__law_take [] (dCons (dVar 0) (dCons (dC (.int 199)) dNil))) (dC (.int 99))) [3]) dNil))) dNext) (dSeq (dIfS (dTest (dOp dEq (dVar 2) (dC (.int 1)))) (dRet (dCB dTupleOf (dCons (dLc (wRng1 (dCons (dVar 1) dNil)) (gNm 3) dYes (dOp dIx (dLst (dCons (dUn dNeg (dC (.int 99))) (dCons (dC (.int 99)) (dCons (dC (.int 0)) (dCons (dC (.int 98)) dNil))))) (dCall sp__law_take [] (dCons (dVar 0) (dCons (dC (.int 4)) dNil)))) [3]) dNil))) dNext) (dRet (dCB dTupleOf (dCons (dLc (wRng1 (dCons (dVar 1) dNil)) (gNm 3) dYes (dOp (dI0 fun i j => .int (i - j)) (dCall sp__law_take [] (dCons (dVar 0) (dCons (dC (.int 7)) dNil))) (dC (.int 3))) [3]) dNil)))))
theorem dv__law_gains (T : Txt P K mg) {k : Nat} {sp__law_take : DSp} (F__law_take : DFn P w K mg base k T.f__law_take T.d__law_take ps__law_take sp__law_take) (cdv : Value) (A : Around) (outer : List Env) (s : Shared) (H : Hp) (E : XK) (hr : Room (k + 2) (A.deeper (envOfC "_law_gains" (defScope st__law_gains) s.heap.objs.size T.f__law_gains cdv))) :
    DPSs (cxOf (L2N.CX P w) P w K mg base N__law_gains "_law_gains" (defScope st__law_gains) T.f__law_gains cdv A outer s H E) (WE0 E) (defBody st__law_gains) (rd__law_gains T sp__law_take) := by
  have hu64 := hu64_of hr
  have hr0 := hr.mono (Nat.le_add_right k 2)
  exact (ds_cons (ds_if (dt_cmp (dop_eq hu64) (d_var 2) d_int rfl) (ds_one (ds_ret (d_callTy dcl_tuple rfl T.z_tuple bt_tuple (da_cons (d_lc (own := [("k", 3)]) rfl sc__law_gains.nd (di_rng1 rfl T.z_range (da_cons (d_var 1) da_nil)) (blkOk_by (N := N__law_gains) (sc := defScope st__law_gains) (own := [("k", 3)]) (by decide +kernel)) (fun _ _ _ _ _ => (dgo_name (i := 3) sc__law_gains.nd rfl (Or.inl rfl))) (fun _ _ _ _ _ => dts_nil) (fun _ _ _ _ _ => (d_op dop_sub (d_call F__law_take hr0 takesF T.g__law_take T.k__law_take T.b__law_take .nil (fun _ => rfl) (da_cons (d_var 0) (da_cons d_int da_nil))) d_int))) da_nil)))) ds_nil) (ds_cons (ds_if (dt_cmp (dop_eq hu64) (d_var 2) d_int rfl) (ds_one (ds_ret (d_callTy dcl_tuple rfl T.z_tuple bt_tuple (da_cons (d_lc (own := [("k", 3)]) rfl sc__law_gains.nd (di_rng1 rfl T.z_range (da_cons (d_var 1) da_nil)) (blkOk_by (N := N__law_gains) (sc := defScope st__law_gains) (own := [("k", 3)]) (by decide +kernel)) (fun _ _ _ _ _ => (dgo_name (i := 3) sc__law_gains.nd rfl (Or.inl rfl))) (fun _ _ _ _ _ => dts_nil) (fun _ _ _ _ _ => (d_ix dix (d_lst (da_cons (d_un dun_neg d_int) (da_cons d_int (da_cons d_int (da_cons d_int da_nil))))) (d_call F__law_take hr0 takesF T.g__law_take T.k__law_take T.b__law_take .nil (fun _ => rfl) (da_cons (d_var 0) (da_cons d_int da_nil)))))) da_nil)))) ds_nil) (ds_one (ds_ret (d_callTy dcl_tuple rfl T.z_tuple bt_tuple (da_cons (d_lc (own := [("k", 3)]) rfl sc__law_gains.nd (di_rng1 rfl T.z_range (da_cons (d_var 1) da_nil)) (blkOk_by (N := N__law_gains) (sc := defScope st__law_gains) (own := [("k", 3)]) (by decide +kernel)) (fun _ _ _ _ _ => (dgo_name (i := 3) sc__law_gains.nd rfl (Or.inl rfl))) (fun _ _ _ _ _ => dts_nil) (fun _ _ _ _ _ => (d_op dop_sub (d_call F__law_take hr0 takesF T.g__law_take T.k__law_take T.b__law_take .nil (fun _ => rfl) (da_cons (d_var 0) (da_cons d_int da_nil))) d_int))) da_nil))))))
theorem fn__law_gains (T : Txt P K mg) {k : Nat} {sp__law_take : DSp} (F__law_take : DFn P w K mg base k T.f__law_take T.d__law_take ps__law_take sp__law_take) {sp : DSp} (len : ∀ ds Hd Q E, sp ds Hd Q E → ds.length = 3) (h : ∀ ds Hd Q Ed, sp ds Hd Q Ed → rd__law_gains T sp__law_take (endsOf Q Ed) (startD N__law_gains ds) Hd) : DFn P w K mg base (k + 3) T.f__law_gains T.d__law_gains ps__law_gains sp :=
  dfun T.F__law_gains sc__law_gains len fun cdv A outer s H E hr => ⟨_, dv__law_gains T F__law_take cdv A outer s H E hr, h⟩
def rd__law_moves (T : Txt P K mg) (sp__law_take : DSp) (sp__law_gains : DSp) : DTS := (dSeq (dSet (dCall sp__law_take [] (dCons (dVar 0) (dCons (dVar 1) dNil))) 5) (dSeq (dSet (dLst dNil) 6) (dSeq (dFor (wRng1 (dCons (dVar 1) dNil)) (gNm 7) (dIfS (dOr (dTest (dOp dEq (dVar 7) (dVar 5))) (dTest (dOp dEq (dCall sp__law_take [] (dCons (dVar 0) (dCons (dVar 3) dNil))) (dC (.int 0))))) (dDrop (dBM "list" dApp (dVar 6) (dCons (dTup (dCons (dVar 7) (dCons (dCall sp__law_gains [] (dCons (dVar 0) (dCons (dVar 2) (dCons (dVar 4) dNil)))) dNil))) dNil))) dNext)) (dRet (dVar 6)))))
theorem dv__law_moves (T : Txt P K mg) {k : Nat} {sp__law_take : DSp} {sp__law_gains : DSp} (F__law_take : DFn P w K mg base k T.f__law_take T.d__law_take ps__law_take sp__law_take) (F__law_gains : DFn P w K mg base k T.f__law_gains T.d__law_gains ps__law_gains sp__law_gains) (cdv : Value) (A : Around) (outer : List Env) (s : Shared) (H : Hp) (E : XK) (hr : Room (k + 2) (A.deeper (envOfC "_law_moves" (defScope st__law_moves) s.heap.objs.size T.f__law_moves cdv))) :
    DPSs (cxOf (L2N.CX P w) P w K mg base N__law_moves "_law_moves" (defScope st__law_moves) T.f__law_moves cdv A outer s H E) (WE0 E) (defBody st__law_moves) (rd__law_moves T sp__law_take sp__law_gains) := by
  have hu64 := hu64_of hr
  have hr0 := hr.mono (Nat.le_add_right k 2)
  exact (ds_cons (ds_set (i := 5) sc__law_moves.nd rfl (Or.inl rfl) (d_call F__law_take hr0 takesE T.g__law_take T.k__law_take T.b__law_take .nil (fun _ => rfl) (da_cons (d_var 0) (da_cons (d_var 1) da_nil)))) (ds_cons (ds_set (i := 6) sc__law_moves.nd rfl (Or.inl rfl) (d_lst da_nil)) (ds_cons (ds_for passesE rfl (di_rng1 rfl T.z_range (da_cons (d_var 1) da_nil)) (dg_name (i := 7) sc__law_moves.nd rfl (Or.inl rfl)) (ds_one (ds_if (dw_pt (dw_or (dt_cmp (dop_eq hu64) (d_var 7) (d_var 5) rfl) (dw_or1 (dt_cmp (dop_eq hu64) (d_call F__law_take hr0 takesE T.g__law_take T.k__law_take T.b__law_take .nil (fun _ => rfl) (da_cons (d_var 0) (da_cons (d_var 3) da_nil))) d_int rfl)))) (ds_one (ds_expr (d_bm pla_list sl_list_append ty_list_append dmt_append (d_var 6) (da_cons (d_tup (da_cons (d_var 7) (da_cons (d_call F__law_gains hr0 takesE T.g__law_gains T.k__law_gains T.b__law_gains .nil (fun _ => rfl) (da_cons (d_var 0) (da_cons (d_var 2) (da_cons (d_var 4) da_nil)))) da_nil))) da_nil)))) ds_nil))) (ds_one (ds_ret (d_var 6))))))
theorem fn__law_moves (T : Txt P K mg) {k : Nat} {sp__law_take : DSp} {sp__law_gains : DSp} (F__law_take : DFn P w K mg base k T.f__law_take T.d__law_take ps__law_take sp__law_take) (F__law_gains : DFn P w K mg base k T.f__law_gains T.d__law_gains ps__law_gains sp__law_gains) {sp : DSp} (len : ∀ ds Hd Q E, sp ds Hd Q E → ds.length = 5) (h : ∀ ds Hd Q Ed, sp ds Hd Q Ed → rd__law_moves T sp__law_take sp__law_gains (endsOf Q Ed) (startD N__law_moves ds) Hd) : DFn P w K mg base (k + 3) T.f__law_moves T.d__law_moves ps__law_moves sp :=
  dfun T.F__law_moves sc__law_moves len fun cdv A outer s H E hr => ⟨_, dv__law_moves T F__law_take F__law_gains cdv A outer s H E hr, h⟩
def rd__law_world (T : Txt P K mg) (sp__law_pool : DSp) (sp__law_take : DSp) (sp__law_moves : DSp) (sp__law_marks : DSp) : DTS := (dSeq (dSet (dCall sp__law_pool [] (dCons (dVar 0) (dCons (dVar 3) dNil))) 4) (dSeq (dSet (dOp dAdd (dC (.int 2)) (dCall sp__law_take [] (dCons (dVar 0) (dCons (dC (.int 4)) dNil)))) 5) (dSeq (dSet (dCall sp__law_take [] (dCons (dVar 0) (dCons (dC (.int 4)) dNil))) 6) (dSeq (dSet (dLst (dCons (dLst dNil) (dCons (dLst dNil) (dCons (dLst dNil) (dCons (dLst dNil) dNil))))) 7) (dSeq (dFor (wRng1 (dCons (dVar 1) dNil)) (gNm 8) (dSeq (dDrop (dBM "list" dApp (dOp dIx (dVar 7) (dC (.int 0))) (dCons (dCall sp__law_take [] (dCons (dVar 0) (dCons (dC (.int 2)) dNil))) dNil))) (dSeq (dDrop (dBM "list" dApp (dOp dIx (dVar 7) (dC (.int 1))) (dCons (dCall sp__law_take [] (dCons (dVar 0) (dCons (dC (.int 10)) dNil))) dNil))) (dSeq (dDrop (dBM "list" dApp (dOp dIx (dVar 7) (dC (.int 2))) (dCons (dCall sp__law_moves [] (dCons (dVar 0) (dCons (dVar 1) (dCons (dVar 2) (dCons (dVar 5) (dCons (dVar 6) dNil)))))) dNil))) (dDrop (dBM "list" dApp (dOp dIx (dVar 7) (dC (.int 3))) (dCons (dCall sp__law_marks [] (dCons (dVar 0) (dCons (dVar 4) dNil))) dNil))))))) (dRet (dVar 7)))))))
theorem dv__law_world (T : Txt P K mg) {k : Nat} {sp__law_pool : DSp} {sp__law_take : DSp} {sp__law_moves : DSp} {sp__law_marks : DSp} (F__law_pool : DFn P w K mg base k T.f__law_pool T.d__law_pool ps__law_pool sp__law_pool) (F__law_take : DFn P w K mg base k T.f__law_take T.d__law_take ps__law_take sp__law_take) (F__law_moves : DFn P w K mg base k T.f__law_moves T.d__law_moves ps__law_moves sp__law_moves) (F__law_marks : DFn P w K mg base k T.f__law_marks T.d__law_marks ps__law_marks sp__law_marks) (cdv : Value) (A : Around) (outer : List Env) (s : Shared) (H : Hp) (E : XK) (hr : Room (k + 2) (A.deeper (envOfC "_law_world" (defScope st__law_world) s.heap.objs.size T.f__law_world cdv))) :
    DPSs (cxOf (L2N.CX P w) P w K mg base N__law_world "_law_world" (defScope st__law_world) T.f__law_world cdv A outer s H E) (WE0 E) (defBody st__law_world) (rd__law_world T sp__law_pool sp__law_take sp__law_moves sp__law_marks) := by
  have hr0 := hr.mono (Nat.le_add_right k 2)
  exact (ds_cons (ds_set (i := 4) sc__law_world.nd rfl (Or.inl rfl) (d_call F__law_pool hr0 takesE T.g__law_pool T.k__law_pool T.b__law_pool .nil (fun _ => rfl) (da_cons (d_var 0) (da_cons (d_var 3) da_nil)))) (ds_cons (ds_set (i := 5) sc__law_world.nd rfl (Or.inl rfl) (d_op dop_add d_int (d_call F__law_take hr0 takesE T.g__law_take T.k__law_take T.b__law_take .nil (fun _ => rfl) (da_cons (d_var 0) (da_cons d_int da_nil))))) (ds_cons (ds_set (i := 6) sc__law_world.nd rfl (Or.inl rfl) (d_call F__law_take hr0 takesE T.g__law_take T.k__law_take T.b__law_take .nil (fun _ => rfl) (da_cons (d_var 0) (da_cons d_int da_nil)))) (ds_cons (ds_set (i := 7) sc__law_world.nd rfl (Or.inl rfl) (d_lst (da_cons (d_lst da_nil) (da_cons (d_lst da_nil) (da_cons (d_lst da_nil) (da_cons (d_lst da_nil) da_nil)))))) (ds_cons (ds_for passesE rfl (di_rng1 rfl T.z_range (da_cons (d_var 1) da_nil)) (dg_name (i := 8) sc__law_world.nd rfl (Or.inl rfl)) (ds_cons (ds_expr (d_bm pla_list sl_list_append ty_list_append dmt_append (d_ix dix (d_var 7) d_int) (da_cons (d_call F__law_take hr0 takesE T.g__law_take T.k__law_take T.b__law_take .nil (fun _ => rfl) (da_cons (d_var 0) (da_cons d_int da_nil))) da_nil))) (ds_cons (ds_expr (d_bm pla_list sl_list_append ty_list_append dmt_append (d_ix dix (d_var 7) d_int) (da_cons (d_call F__law_take hr0 takesE T.g__law_take T.k__law_take T.b__law_take .nil (fun _ => rfl) (da_cons (d_var 0) (da_cons d_int da_nil))) da_nil))) (ds_cons (ds_expr (d_bm pla_list sl_list_append ty_list_append dmt_append (d_ix dix (d_var 7) d_int) (da_cons (d_call F__law_moves hr0 takesE T.g__law_moves T.k__law_moves T.b__law_moves .nil (fun _ => rfl) (da_cons (d_var 0) (da_cons (d_var 1) (da_cons (d_var 2) (da_cons (d_var 5) (da_cons (d_var 6) da_nil)))))) da_nil))) (ds_one (ds_expr (d_bm pla_list sl_list_append ty_list_append dmt_append (d_ix dix (d_var 7) d_int) (da_cons (d_call F__law_marks hr0 takesE T.g__law_marks T.k__law_marks T.b__law_marks .nil (fun _ => rfl) (da_cons (d_var 0) (da_cons (d_var 4) da_nil))) da_nil)))))))) (ds_one (ds_ret (d_var 7))))))))
theorem fn__law_world (T : Txt P K mg) {k : Nat} {sp__law_pool : DSp} {sp__law_take : DSp} {sp__law_moves : DSp} {sp__law_marks : DSp} (F__law_pool : DFn P w K mg base k T.f__law_pool T.d__law_pool ps__law_pool sp__law_pool) (F__law_take : DFn P w K mg base k T.f__law_take T.d__law_take ps__law_take sp__law_take) (F__law_moves : DFn P w K mg base k T.f__law_moves T.d__law_moves ps__law_moves sp__law_moves) (F__law_marks : DFn P w K mg base k T.f__law_marks T.d__law_marks ps__law_marks sp__law_marks) {sp : DSp} (len : ∀ ds Hd Q E, sp ds Hd Q E → ds.length = 4) (h : ∀ ds Hd Q Ed, sp ds Hd Q Ed → rd__law_world T sp__law_pool sp__law_take sp__law_moves sp__law_marks (endsOf Q Ed) (startD N__law_world ds) Hd) : DFn P w K mg base (k + 3) T.f__law_world T.d__law_world ps__law_world sp :=
  dfun T.F__law_world sc__law_world len fun cdv A outer s H E hr => ⟨_, dv__law_world T F__law_pool F__law_take F__law_moves F__law_marks cdv A outer s H E hr, h⟩
def rd__law_size (T : Txt P K mg) (sp__law_take : DSp) : DTS := (dSeq (dSet (dCall sp__law_take [] (dCons (dVar 0) (dCons (dC (.int 8)) dNil))) 1) (dSeq (dIfS (dTest (dOp dEq (dVar 1) (dC (.int 0)))) (dRet (dC (.int 1))) dNext) (dSeq (dIfS (dTest (dOp dEq (dVar 1) (dC (.int 1)))) (dRet (dOp dAdd (dC (.int 1)) (dCall sp__law_take [] (dCons (dVar 0) (dCons (dC (.int 12)) dNil))))) dNext) (dRet (dOp dAdd (dC (.int 2)) (dCall sp__law_take [] (dCons (dVar 0) (dCons (dC (.int 5)) dNil))))))))
theorem dv__law_size (T : Txt P K mg) {k : Nat} {sp__law_take : DSp} (F__law_take : DFn P w K mg base k T.f__law_take T.d__law_take ps__law_take sp__law_take) (cdv : Value) (A : Around) (outer : List Env) (s : Shared) (H : Hp) (E : XK) (hr : Room (k + 2) (A.deeper (envOfC "_law_size" (defScope st__law_size) s.heap.objs.size T.f__law_size cdv))) :
    DPSs (cxOf (L2N.CX P w) P w K mg base N__law_size "_law_size" (defScope st__law_size) T.f__law_size cdv A outer s H E) (WE0 E) (defBody st__law_size) (rd__law_size T sp__law_take) := by
  have hu64 := hu64_of hr
  have hr0 := hr.mono (Nat.le_add_right k 2)
  exact (ds_cons (ds_set (i := 1) sc__law_size.nd rfl (Or.inl rfl) (d_call F__law_take hr0 takesE T.g__law_take T.k__law_take T.b__law_take .nil (fun _ => rfl) (da_cons (d_var 0) (da_cons d_int da_nil)))) (ds_cons (ds_if (dt_cmp (dop_eq hu64) (d_var 1) d_int rfl) (ds_one (ds_ret d_int)) ds_nil) (ds_cons (ds_if (dt_cmp (dop_eq hu64) (d_var 1) d_int rfl) (ds_one (ds_ret (d_op dop_add d_int (d_call F__law_take hr0 takesE T.g__law_take T.k__law_take T.b__law_take .nil (fun _ => rfl) (da_cons (d_var 0) (da_cons d_int da_nil)))))) ds_nil) (ds_one (ds_ret (d_op dop_add d_int (d_call F__law_take hr0 takesE T.g__law_take T.k__law_take T.b__law_take .nil (fun _ => rfl) (da_cons (d_var 0) (da_cons d_int da_nil)))))))))
theorem fn__law_size (T : Txt P K mg) {k : Nat} {sp__law_take : DSp} (F__law_take : DFn P w K mg base k T.f__law_take T.d__law_take ps__law_take sp__law_take) {sp : DSp} (len : ∀ ds Hd Q E, sp ds Hd Q E → ds.length = 1) (h : ∀ ds Hd Q Ed, sp ds Hd Q Ed → rd__law_size T sp__law_take (endsOf Q Ed) (startD N__law_size ds) Hd) : DFn P w K mg base (k + 3) T.f__law_size T.d__law_size ps__law_size sp :=
  dfun T.F__law_size sc__law_size len fun cdv A outer s H E hr => ⟨_, dv__law_size T F__law_take cdv A outer s H E hr, h⟩
def rd__law_grow (T : Txt P K mg) : DTS := (dSeq (dSet (dCB dLen (dCons (dOp dIx (dVar 0) (dC (.int 0))) dNil)) 2) (dFor (wRng2 (dCons (dVar 2) (dCons (dVar 1) dNil))) (gNm 3) (dSeq (dSet (dOp (dI (fun _ j => 0 < j) fun i j => .int (i % j)) (dVar 3) (dVar 2)) 4) (dSeq (dDrop (dBM "list" dApp (dOp dIx (dVar 0) (dC (.int 0))) (dCons (dOp dIx (dOp dIx (dVar 0) (dC (.int 0))) (dVar 4)) dNil))) (dSeq (dDrop (dBM "list" dApp (dOp dIx (dVar 0) (dC (.int 1))) (dCons (dOp dIx (dOp dIx (dVar 0) (dC (.int 1))) (dVar 4)) dNil))) (dSeq (dDrop (dBM "list" dApp (dOp dIx (dVar 0) (dC (.int 2))) (dCons (dOp dAdd (dCB dListOf (dCons (dOp dIx (dOp dIx (dVar 0) (dC (.int 2))) (dVar 4)) dNil)) (dLst (dCons (dTup (dCons (dVar 3) (dCons (dOp dIx (dOp dIx (dOp dIx (dOp dIx (dVar 0) (dC (.int 2))) (dVar 4)) (dC (.int 0))) (dC (.int 1))) dNil))) dNil))) dNil))) (dDrop (dBM "list" dApp (dOp dIx (dVar 0) (dC (.int 3))) (dCons (dOp dIx (dOp dIx (dVar 0) (dC (.int 3))) (dVar 4)) dNil)))))))))
theorem dv__law_grow (T : Txt P K mg) {k : Nat} (cdv : Value) (A : Around) (outer : List Env) (s : Shared) (H : Hp) (E : XK) (hr : Room (k + 2) (A.deeper (envOfC "_law_grow" (defScope st__law_grow) s.heap.objs.size T.f__law_grow cdv))) :
    DPSs (cxOf (L2N.CX P w) P w K mg base N__law_grow "_law_grow" (defScope st__law_grow) T.f__law_grow cdv A outer s H E) (WE0 E) (defBody st__law_grow) (rd__law_grow T) := by
  exact (ds_cons (ds_set (i := 2) sc__law_grow.nd rfl (Or.inl rfl) (d_callB dcl_len rfl T.z_len bt_len (da_cons (d_ix dix (d_var 0) d_int) da_nil))) (ds_one (ds_for passesE rfl (di_rng2 rfl T.z_range (da_cons (d_var 2) (da_cons (d_var 1) da_nil))) (dg_name (i := 3) sc__law_grow.nd rfl (Or.inl rfl)) (ds_cons (ds_set (i := 4) sc__law_grow.nd rfl (Or.inl rfl) (d_op dop_mod (d_var 3) (d_var 2))) (ds_cons (ds_expr (d_bm pla_list sl_list_append ty_list_append dmt_append (d_ix dix (d_var 0) d_int) (da_cons (d_ix dix (d_ix dix (d_var 0) d_int) (d_var 4)) da_nil))) (ds_cons (ds_expr (d_bm pla_list sl_list_append ty_list_append dmt_append (d_ix dix (d_var 0) d_int) (da_cons (d_ix dix (d_ix dix (d_var 0) d_int) (d_var 4)) da_nil))) (ds_cons (ds_expr (d_bm pla_list sl_list_append ty_list_append dmt_append (d_ix dix (d_var 0) d_int) (da_cons (d_op dop_add (d_callTy dcl_list rfl T.z_list bt_list (da_cons (d_ix dix (d_ix dix (d_var 0) d_int) (d_var 4)) da_nil)) (d_lst (da_cons (d_tup (da_cons (d_var 3) (da_cons (d_ix dix (d_ix dix (d_ix dix (d_ix dix (d_var 0) d_int) (d_var 4)) d_int) d_int) da_nil))) da_nil))) da_nil))) (ds_one (ds_expr (d_bm pla_list sl_list_append ty_list_append dmt_append (d_ix dix (d_var 0) d_int) (da_cons (d_ix dix (d_ix dix (d_var 0) d_int) (d_var 4)) da_nil)))))))))))
theorem fn__law_grow (T : Txt P K mg) {k : Nat} {sp : DSp} (len : ∀ ds Hd Q E, sp ds Hd Q E → ds.length = 2) (h : ∀ ds Hd Q Ed, sp ds Hd Q Ed → rd__law_grow T (endsOf Q Ed) (startD N__law_grow ds) Hd) : DFn P w K mg base (k + 3) T.f__law_grow T.d__law_grow ps__law_grow sp :=
  dfun T.F__law_grow sc__law_grow len fun cdv A outer s H E hr => ⟨_, dv__law_grow T cdv A outer s H E hr, h⟩
def rd__law_is_board (T : Txt P K mg) (sp__law_same : DSp) : DTS := (dSeq (dIfS (dNot (dTest (dCB (dIsi K) (dCons (dVar 0) (dCons (dC (.ref T.C_Board)) dNil))))) (dRet (dC (.bl false))) dNext) (dSeq (dIfS (dOr (dNot (dTest (dCall sp__law_same [] (dCons (dFld K (dVar 0) "owners") (dCons (dOp dIx (dVar 1) (dC (.int 0))) dNil))))) (dNot (dTest (dCall sp__law_same [] (dCons (dFld K (dVar 0) "ranks") (dCons (dOp dIx (dVar 1) (dC (.int 1))) dNil)))))) (dRet (dC (.bl false))) dNext) (dRet (dAndV (dCall sp__law_same [] (dCons (dFld K (dVar 0) "moves") (dCons (dOp dIx (dVar 1) (dC (.int 2))) dNil))) (dCall sp__law_same [] (dCons (dFld K (dVar 0) "marks") (dCons (dOp dIx (dVar 1) (dC (.int 3))) dNil)))))))
theorem dv__law_is_board (T : Txt P K mg) {k : Nat} {sp__law_same : DSp} (F__law_same : DFn P w K mg base k T.f__law_same T.d__law_same ps__law_same sp__law_same) (cdv : Value) (A : Around) (outer : List Env) (s : Shared) (H : Hp) (E : XK) (hr : Room (k + 2) (A.deeper (envOfC "_law_is_board" (defScope st__law_is_board) s.heap.objs.size T.f__law_is_board cdv))) :
    DPSs (cxOf (L2N.CX P w) P w K mg base N__law_is_board "_law_is_board" (defScope st__law_is_board) T.f__law_is_board cdv A outer s H E) (WE0 E) (defBody st__law_is_board) (rd__law_is_board T sp__law_same) := by
  have hr0 := hr.mono (Nat.le_add_right k 2)
  exact (ds_cons (ds_if (dt_not (dt_val (d_callB dcl_isi rfl T.z_isinstance bt_isinstance (da_cons (d_var 0) (da_cons (d_cls rfl T.g_Board) da_nil))))) (ds_one (ds_ret d_bl)) ds_nil) (ds_cons (ds_if (dw_pt (dw_or (dt_not (dt_val (d_call F__law_same hr0 takesE T.g__law_same T.k__law_same T.b__law_same .nil (fun _ => rfl) (da_cons (d_fld (d_var 0)) (da_cons (d_ix dix (d_var 1) d_int) da_nil))))) (dw_or1 (dt_not (dt_val (d_call F__law_same hr0 takesE T.g__law_same T.k__law_same T.b__law_same .nil (fun _ => rfl) (da_cons (d_fld (d_var 0)) (da_cons (d_ix dix (d_var 1) d_int) da_nil)))))))) (ds_one (ds_ret d_bl)) ds_nil) (ds_one (ds_ret (d_and (d_call F__law_same hr0 takesE T.g__law_same T.k__law_same T.b__law_same .nil (fun _ => rfl) (da_cons (d_fld (d_var 0)) (da_cons (d_ix dix (d_var 1) d_int) da_nil))) (d_one (d_call F__law_same hr0 takesE T.g__law_same T.k__law_same T.b__law_same .nil (fun _ => rfl) (da_cons (d_fld (d_var 0)) (da_cons (d_ix dix (d_var 1) d_int) da_nil)))))))))
theorem fn__law_is_board (T : Txt P K mg) {k : Nat} {sp__law_same : DSp} (F__law_same : DFn P w K mg base k T.f__law_same T.d__law_same ps__law_same sp__law_same) {sp : DSp} (len : ∀ ds Hd Q E, sp ds Hd Q E → ds.length = 2) (h : ∀ ds Hd Q Ed, sp ds Hd Q Ed → rd__law_is_board T sp__law_same (endsOf Q Ed) (startD N__law_is_board ds) Hd) : DFn P w K mg base (k + 3) T.f__law_is_board T.d__law_is_board ps__law_is_board sp :=
  dfun T.F__law_is_board sc__law_is_board len fun cdv A outer s H E hr => ⟨_, dv__law_is_board T F__law_same cdv A outer s H E hr, h⟩
def rd__law_is_int (T : Txt P K mg) : DTS := (dRet (dAndV (dCB (dIsi K) (dCons (dVar 0) (dCons (dC (.ty "int")) dNil))) (dNotV (dCB (dIsi K) (dCons (dVar 0) (dCons (dC (.ty "bool")) dNil))))))
theorem dv__law_is_int (T : Txt P K mg) {k : Nat} (cdv : Value) (A : Around) (outer : List Env) (s : Shared) (H : Hp) (E : XK) (hr : Room (k + 2) (A.deeper (envOfC "_law_is_int" (defScope st__law_is_int) s.heap.objs.size T.f__law_is_int cdv))) :
    DPSs (cxOf (L2N.CX P w) P w K mg base N__law_is_int "_law_is_int" (defScope st__law_is_int) T.f__law_is_int cdv A outer s H E) (WE0 E) (defBody st__law_is_int) (rd__law_is_int T) := by
  exact (ds_one (ds_ret (d_and (d_callB dcl_isi rfl T.z_isinstance bt_isinstance (da_cons (d_var 0) (da_cons (d_ty rfl T.z_int bt_int) da_nil))) (d_one (d_not (d_callB dcl_isi rfl T.z_isinstance bt_isinstance (da_cons (d_var 0) (da_cons (d_ty rfl T.z_bool bt_bool) da_nil))))))))
theorem fn__law_is_int (T : Txt P K mg) {k : Nat} {sp : DSp} (len : ∀ ds Hd Q E, sp ds Hd Q E → ds.length = 1) (h : ∀ ds Hd Q Ed, sp ds Hd Q Ed → rd__law_is_int T (endsOf Q Ed) (startD N__law_is_int ds) Hd) : DFn P w K mg base (k + 3) T.f__law_is_int T.d__law_is_int ps__law_is_int sp :=
  dfun T.F__law_is_int sc__law_is_int len fun cdv A outer s H E hr => ⟨_, dv__law_is_int T cdv A outer s H E hr, h⟩
def rd__law_is_row (T : Txt P K mg) : DTS := (dRet (dCB (dIsiT K) (dCons (dVar 0) (dCons (dTup (dCons (dC (.ty "tuple")) (dCons (dC (.ty "list")) dNil))) dNil))))
theorem dv__law_is_row (T : Txt P K mg) {k : Nat} (cdv : Value) (A : Around) (outer : List Env) (s : Shared) (H : Hp) (E : XK) (hr : Room (k + 2) (A.deeper (envOfC "_law_is_row" (defScope st__law_is_row) s.heap.objs.size T.f__law_is_row cdv))) :
    DPSs (cxOf (L2N.CX P w) P w K mg base N__law_is_row "_law_is_row" (defScope st__law_is_row) T.f__law_is_row cdv A outer s H E) (WE0 E) (defBody st__law_is_row) (rd__law_is_row T) := by
  exact (ds_one (ds_ret (d_isiT rfl T.z_isinstance (d_var 0) (da_cons (d_ty rfl T.z_tuple bt_tuple) (da_cons (d_ty rfl T.z_list bt_list) da_nil)))))
theorem fn__law_is_row (T : Txt P K mg) {k : Nat} {sp : DSp} (len : ∀ ds Hd Q E, sp ds Hd Q E → ds.length = 1) (h : ∀ ds Hd Q Ed, sp ds Hd Q Ed → rd__law_is_row T (endsOf Q Ed) (startD N__law_is_row ds) Hd) : DFn P w K mg base (k + 3) T.f__law_is_row T.d__law_is_row ps__law_is_row sp :=
  dfun T.F__law_is_row sc__law_is_row len fun cdv A outer s H E hr => ⟨_, dv__law_is_row T cdv A outer s H E hr, h⟩
def rd__law_is_name (T : Txt P K mg) : DTS := (dSeq (dIfS (dOr (dNot (dTest (dCB (dIsi K) (dCons (dVar 0) (dCons (dC (.ty "str")) dNil))))) (dOr (dTest (dOp (dI0 fun i j => .bl (decide (i < j))) (dCB dLen (dCons (dVar 0) dNil)) (dC (.int 1)))) (dTest (dOp (dI0 fun i j => .bl (decide (j < i))) (dCB dLen (dCons (dVar 0) dNil)) (dC (.int 8)))))) (dRet (dC (.bl false))) dNext) (dSeq (dFor (wStr (dVar 0)) (gNm 1) (dIfS (dTest (dOp (dInS fun b => !b) (dVar 1) (dC (.str "abcdefghijklmnopqrstuvwxyz")))) (dRet (dC (.bl false))) dNext)) (dRet (dC (.bl true)))))
theorem dv__law_is_name (T : Txt P K mg) {k : Nat} (cdv : Value) (A : Around) (outer : List Env) (s : Shared) (H : Hp) (E : XK) (hr : Room (k + 2) (A.deeper (envOfC "_law_is_name" (defScope st__law_is_name) s.heap.objs.size T.f__law_is_name cdv))) :
    DPSs (cxOf (L2N.CX P w) P w K mg base N__law_is_name "_law_is_name" (defScope st__law_is_name) T.f__law_is_name cdv A outer s H E) (WE0 E) (defBody st__law_is_name) (rd__law_is_name T) := by
  exact (ds_cons (ds_if (dw_pt (dw_or (dt_not (dt_val (d_callB dcl_isi rfl T.z_isinstance bt_isinstance (da_cons (d_var 0) (da_cons (d_ty rfl T.z_str bt_str) da_nil))))) (dw_or (dt_cmp dop_lt (d_callB dcl_len rfl T.z_len bt_len (da_cons (d_var 0) da_nil)) d_int rfl) (dw_or1 (dt_cmp dop_gt (d_callB dcl_len rfl T.z_len bt_len (da_cons (d_var 0) da_nil)) d_int rfl))))) (ds_one (ds_ret d_bl)) ds_nil) (ds_cons (ds_for passesE rfl (di_str (d_var 0)) (dg_name (i := 1) sc__law_is_name.nd rfl (Or.inl rfl)) (ds_one (ds_if (dt_cmp dop_notInS (d_var 1) d_str rfl) (ds_one (ds_ret d_bl)) ds_nil))) (ds_one (ds_ret d_bl))))
theorem fn__law_is_name (T : Txt P K mg) {k : Nat} {sp : DSp} (len : ∀ ds Hd Q E, sp ds Hd Q E → ds.length = 1) (h : ∀ ds Hd Q Ed, sp ds Hd Q Ed → rd__law_is_name T (endsOf Q Ed) (startD N__law_is_name ds) Hd) : DFn P w K mg base (k + 3) T.f__law_is_name T.d__law_is_name ps__law_is_name sp :=
  dfun T.F__law_is_name sc__law_is_name len fun cdv A outer s H E hr => ⟨_, dv__law_is_name T cdv A outer s H E hr, h⟩
def rd__law_bad_marks (T : Txt P K mg) (sp__law_is_row : DSp) (sp__law_is_name : DSp) : DTS := (dSeq (dIfS (dNot (dTest (dCall sp__law_is_row [] (dCons (dVar 0) dNil)))) (dRet (dC (.bl true))) dNext) (dSeq (dFor (wRng1 (dCons (dCB dLen (dCons (dVar 0) dNil)) dNil)) (gNm 1) (dSeq (dIfS (dNot (dTest (dCall sp__law_is_name [] (dCons (dOp dIx (dVar 0) (dVar 1)) dNil)))) (dRet (dC (.bl true))) dNext) (dIfS (dAnd (dTest (dOp (dI0 fun i j => .bl (decide (j < i))) (dVar 1) (dC (.int 0)))) (dNot (dTest (dOp (dStr2 fun a b => .bl (decide (a.cps.toList < b.cps.toList))) (dOp dIx (dVar 0) (dOp (dI0 fun i j => .int (i - j)) (dVar 1) (dC (.int 1)))) (dOp dIx (dVar 0) (dVar 1)))))) (dRet (dC (.bl true))) dNext))) (dRet (dC (.bl false)))))
theorem dv__law_bad_marks (T : Txt P K mg) {k : Nat} {sp__law_is_row : DSp} {sp__law_is_name : DSp} (F__law_is_row : DFn P w K mg base k T.f__law_is_row T.d__law_is_row ps__law_is_row sp__law_is_row) (F__law_is_name : DFn P w K mg base k T.f__law_is_name T.d__law_is_name ps__law_is_name sp__law_is_name) (cdv : Value) (A : Around) (outer : List Env) (s : Shared) (H : Hp) (E : XK) (hr : Room (k + 2) (A.deeper (envOfC "_law_bad_marks" (defScope st__law_bad_marks) s.heap.objs.size T.f__law_bad_marks cdv))) :
    DPSs (cxOf (L2N.CX P w) P w K mg base N__law_bad_marks "_law_bad_marks" (defScope st__law_bad_marks) T.f__law_bad_marks cdv A outer s H E) (WE0 E) (defBody st__law_bad_marks) (rd__law_bad_marks T sp__law_is_row sp__law_is_name) := by
  have hr0 := hr.mono (Nat.le_add_right k 2)
  exact (ds_cons (ds_if (dt_not (dt_val (d_call F__law_is_row hr0 takesE T.g__law_is_row T.k__law_is_row T.b__law_is_row .nil (fun _ => rfl) (da_cons (d_var 0) da_nil)))) (ds_one (ds_ret d_bl)) ds_nil) (ds_cons (ds_for passesE rfl (di_rng1 rfl T.z_range (da_cons (d_callB dcl_len rfl T.z_len bt_len (da_cons (d_var 0) da_nil)) da_nil)) (dg_name (i := 1) sc__law_bad_marks.nd rfl (Or.inl rfl)) (ds_cons (ds_if (dt_not (dt_val (d_call F__law_is_name hr0 takesE T.g__law_is_name T.k__law_is_name T.b__law_is_name .nil (fun _ => rfl) (da_cons (d_ix dix (d_var 0) (d_var 1)) da_nil)))) (ds_one (ds_ret d_bl)) ds_nil) (ds_one (ds_if (dw_pt (dw_and (dt_cmp dop_gt (d_var 1) d_int rfl) (dw_and1 (dt_not (dt_cmp dop_ltS (d_ix dix (d_var 0) (d_op dop_sub (d_var 1) d_int)) (d_ix dix (d_var 0) (d_var 1)) rfl))))) (ds_one (ds_ret d_bl)) ds_nil)))) (ds_one (ds_ret d_bl))))
theorem fn__law_bad_marks (T : Txt P K mg) {k : Nat} {sp__law_is_row : DSp} {sp__law_is_name : DSp} (F__law_is_row : DFn P w K mg base k T.f__law_is_row T.d__law_is_row ps__law_is_row sp__law_is_row) (F__law_is_name : DFn P w K mg base k T.f__law_is_name T.d__law_is_name ps__law_is_name sp__law_is_name) {sp : DSp} (len : ∀ ds Hd Q E, sp ds Hd Q E → ds.length = 1) (h : ∀ ds Hd Q Ed, sp ds Hd Q Ed → rd__law_bad_marks T sp__law_is_row sp__law_is_name (endsOf Q Ed) (startD N__law_bad_marks ds) Hd) : DFn P w K mg base (k + 3) T.f__law_bad_marks T.d__law_bad_marks ps__law_bad_marks sp :=
  dfun T.F__law_bad_marks sc__law_bad_marks len fun cdv A outer s H E hr => ⟨_, dv__law_bad_marks T F__law_is_row F__law_is_name cdv A outer s H E hr, h⟩
def rd__law_bad_moves (T : Txt P K mg) (sp__law_is_row : DSp) (sp__law_is_int : DSp) : DTS := (dSeq (dIfS (dOr (dNot (dTest (dCall sp__law_is_row [] (dCons (dVar 0) dNil)))) (dOr (dTest (dOp (dI0 fun i j => .bl (decide (i < j))) (dCB dLen (dCons (dVar 0) dNil)) (dC (.int 1)))) (dOr (dTest (dOp (dI0 fun i j => .bl (decide (i < j))) (dVar 2) (dC (.int 0)))) (dTest (dOp (dI0 fun i j => .bl (decide (j < i))) (dVar 2) (dC (.int 3))))))) (dRet (dC (.bl true))) dNext) (dSeq (dSet (dUn dNeg (dC (.int 1))) 3) (dSeq (dFor (wSeq (dVar 0)) (gNm 4) (dSeq (dIfS (dOr (dNot (dTest (dCall sp__law_is_row [] (dCons (dVar 4) dNil)))) (dTest (dOp dNe (dCB dLen (dCons (dVar 4) dNil)) (dC (.int 2))))) (dRet (dC (.bl true))) dNext) (dSeq (dIfS (dOr (dNot (dTest (dCall sp__law_is_int [] (dCons (dOp dIx (dVar 4) (dC (.int 0))) dNil)))) (dNot (dTest (dCall sp__law_is_row [] (dCons (dOp dIx (dVar 4) (dC (.int 1))) dNil))))) (dRet (dC (.bl true))) dNext) (dSeq (dIfS (dOr (dTest (dOp (dI0 fun i j => .bl (decide (i ≤ j))) (dOp dIx (dVar 4) (dC (.int 0))) (dVar 3))) (dOr (dTest (dOp (dI0 fun i j => .bl (decide (j ≤ i))) (dOp dIx (dVar 4) (dC (.int 0))) (dVar 1))) (dTest (dOp dNe (dCB dLen (dCons (dOp dIx (dVar 4) (dC (.int 1))) dNil)) (dVar 2))))) (dRet (dC (.bl true))) dNext) (dSeq (dSet (dOp dIx (dVar 4) (dC (.int 0))) 3) (dFor (wSeq (dOp dIx (dVar 4) (dC (.int 1)))) (gNm 5) (dIfS (dOr (dNot (dTest (dCall sp__law_is_int [] (dCons (dVar 5) dNil)))) (dOr (dTest (dOp (dI0 fun i j => .bl (decide (i < j))) (dVar 5) (dUn dNeg (dC (.int 99))))) (dTest (dOp (dI0 fun i j => .bl (decide (j < i))) (dVar 5) (dC (.int 99)))))) (dRet (dC (.bl true))) dNext))))))) (dRet (dC (.bl false))))))
theorem dv__law_bad_moves (T : Txt P K mg) {k : Nat} {sp__law_is_row : DSp} {sp__law_is_int : DSp} (F__law_is_row : DFn P w K mg base k T.f__law_is_row T.d__law_is_row ps__law_is_row sp__law_is_row) (F__law_is_int : DFn P w K mg base k T.f__law_is_int T.d__law_is_int ps__law_is_int sp__law_is_int) (cdv : Value) (A : Around) (outer : List Env) (s : Shared) (H : Hp) (E : XK) (hr : Room (k + 2) (A.deeper (envOfC "_law_bad_moves" (defScope st__law_bad_moves) s.heap.objs.size T.f__law_bad_moves cdv))) :
    DPSs (cxOf (L2N.CX P w) P w K mg base N__law_bad_moves "_law_bad_moves" (defScope st__law_bad_moves) T.f__law_bad_moves cdv A outer s H E) (WE0 E) (defBody st__law_bad_moves) (rd__law_bad_moves T sp__law_is_row sp__law_is_int) := by
  have hu64 := hu64_of hr
  have hr0 := hr.mono (Nat.le_add_right k 2)
  exact (ds_cons (ds_if (dw_pt (dw_or (dt_not (dt_val (d_call F__law_is_row hr0 takesE T.g__law_is_row T.k__law_is_row T.b__law_is_row .nil (fun _ => rfl) (da_cons (d_var 0) da_nil)))) (dw_or (dt_cmp dop_lt (d_callB dcl_len rfl T.z_len bt_len (da_cons (d_var 0) da_nil)) d_int rfl) (dw_or (dt_cmp dop_lt (d_var 2) d_int rfl) (dw_or1 (dt_cmp dop_gt (d_var 2) d_int rfl)))))) (ds_one (ds_ret d_bl)) ds_nil) (ds_cons (ds_set (i := 3) sc__law_bad_moves.nd rfl (Or.inl rfl) (d_un dun_neg d_int)) (ds_cons (ds_for passesE rfl (di_seq (d_var 0)) (dg_name (i := 4) sc__law_bad_moves.nd rfl (Or.inl rfl)) (ds_cons (ds_if (dw_pt (dw_or (dt_not (dt_val (d_call F__law_is_row hr0 takesE T.g__law_is_row T.k__law_is_row T.b__law_is_row .nil (fun _ => rfl) (da_cons (d_var 4) da_nil)))) (dw_or1 (dt_cmp (dop_ne hu64) (d_callB dcl_len rfl T.z_len bt_len (da_cons (d_var 4) da_nil)) d_int rfl)))) (ds_one (ds_ret d_bl)) ds_nil) (ds_cons (ds_if (dw_pt (dw_or (dt_not (dt_val (d_call F__law_is_int hr0 takesE T.g__law_is_int T.k__law_is_int T.b__law_is_int .nil (fun _ => rfl) (da_cons (d_ix dix (d_var 4) d_int) da_nil)))) (dw_or1 (dt_not (dt_val (d_call F__law_is_row hr0 takesE T.g__law_is_row T.k__law_is_row T.b__law_is_row .nil (fun _ => rfl) (da_cons (d_ix dix (d_var 4) d_int) da_nil))))))) (ds_one (ds_ret d_bl)) ds_nil) (ds_cons (ds_if (dw_pt (dw_or (dt_cmp dop_le (d_ix dix (d_var 4) d_int) (d_var 3) rfl) (dw_or (dt_cmp dop_ge (d_ix dix (d_var 4) d_int) (d_var 1) rfl) (dw_or1 (dt_cmp (dop_ne hu64) (d_callB dcl_len rfl T.z_len bt_len (da_cons (d_ix dix (d_var 4) d_int) da_nil)) (d_var 2) rfl))))) (ds_one (ds_ret d_bl)) ds_nil) (ds_cons (ds_set (i := 3) sc__law_bad_moves.nd rfl (Or.inl rfl) (d_ix dix (d_var 4) d_int)) (ds_one (ds_for passesE rfl (di_seq (d_ix dix (d_var 4) d_int)) (dg_name (i := 5) sc__law_bad_moves.nd rfl (Or.inl rfl)) (ds_one (ds_if (dw_pt (dw_or (dt_not (dt_val (d_call F__law_is_int hr0 takesE T.g__law_is_int T.k__law_is_int T.b__law_is_int .nil (fun _ => rfl) (da_cons (d_var 5) da_nil)))) (dw_or (dt_cmp dop_lt (d_var 5) (d_un dun_neg d_int) rfl) (dw_or1 (dt_cmp dop_gt (d_var 5) d_int rfl))))) (ds_one (ds_ret d_bl)) ds_nil))))))))) (ds_one (ds_ret d_bl)))))
theorem fn__law_bad_moves (T : Txt P K mg) {k : Nat} {sp__law_is_row : DSp} {sp__law_is_int : DSp} (F__law_is_row : DFn P w K mg base k T.f__law_is_row T.d__law_is_row ps__law_is_row sp__law_is_row) (F__law_is_int : DFn P w K mg base k T.f__law_is_int T.d__law_is_int ps__law_is_int sp__law_is_int) {sp : DSp} (len : ∀ ds Hd Q E, sp ds Hd Q E → ds.length = 3) (h : ∀ ds Hd Q Ed, sp ds Hd Q Ed → rd__law_bad_moves T sp__law_is_row sp__law_is_int (endsOf Q Ed) (startD N__law_bad_moves ds) Hd) : DFn P w K mg base (k + 3) T.f__law_bad_moves T.d__law_bad_moves ps__law_bad_moves sp :=
  dfun T.F__law_bad_moves sc__law_bad_moves len fun cdv A outer s H E hr => ⟨_, dv__law_bad_moves T F__law_is_row F__law_is_int cdv A outer s H E hr, h⟩
def rd__law_width (T : Txt P K mg) (sp__law_is_row : DSp) : DTS := (dSeq (dIfS (dOr (dNot (dTest (dCall sp__law_is_row [] (dCons (dVar 0) dNil)))) (dOr (dTest (dOp (dI0 fun i j => .bl (decide (i < j))) (dCB dLen (dCons (dVar 0) dNil)) (dC (.int 1)))) (dOr (dNot (dTest (dCall sp__law_is_row [] (dCons (dOp dIx (dVar 0) (dC (.int 0))) dNil)))) (dTest (dOp dNe (dCB dLen (dCons (dOp dIx (dVar 0) (dC (.int 0))) dNil)) (dC (.int 2))))))) (dRet (dUn dNeg (dC (.int 1)))) dNext) (dSeq (dIfS (dNot (dTest (dCall sp__law_is_row [] (dCons (dOp dIx (dOp dIx (dVar 0) (dC (.int 0))) (dC (.int 1))) dNil)))) (dRet (dUn dNeg (dC (.int 1)))) dNext) (dRet (dCB dLen (dCons (dOp dIx (dOp dIx (dVar 0) (dC (.int 0))) (dC (.int 1))) dNil)))))
theorem dv__law_width (T : Txt P K mg) {k : Nat} {sp__law_is_row : DSp} (F__law_is_row : DFn P w K mg base k T.f__law_is_row T.d__law_is_row ps__law_is_row sp__law_is_row) (cdv : Value) (A : Around) (outer : List Env) (s : Shared) (H : Hp) (E : XK) (hr : Room (k + 2) (A.deeper (envOfC "_law_width" (defScope st__law_width) s.heap.objs.size T.f__law_width cdv))) :
    DPSs (cxOf (L2N.CX P w) P w K mg base N__law_width "_law_width" (defScope st__law_width) T.f__law_width cdv A outer s H E) (WE0 E) (defBody st__law_width) (rd__law_width T sp__law_is_row) := by
  have hu64 := hu64_of hr
  have hr0 := hr.mono (Nat.le_add_right k 2)
  exact (ds_cons (ds_if (dw_pt (dw_or (dt_not (dt_val (d_call F__law_is_row hr0 takesE T.g__law_is_row T.k__law_is_row T.b__law_is_row .nil (fun _ => rfl) (da_cons (d_var 0) da_nil)))) (dw_or (dt_cmp dop_lt (d_callB dcl_len rfl T.z_len bt_len (da_cons (d_var 0) da_nil)) d_int rfl) (dw_or (dt_not (dt_val (d_call F__law_is_row hr0 takesE T.g__law_is_row T.k__law_is_row T.b__law_is_row .nil (fun _ => rfl) (da_cons (d_ix dix (d_var 0) d_int) da_nil)))) (dw_or1 (dt_cmp (dop_ne hu64) (d_callB dcl_len rfl T.z_len bt_len (da_cons (d_ix dix (d_var 0) d_int) da_nil)) d_int rfl)))))) (ds_one (ds_ret (d_un dun_neg d_int))) ds_nil) (ds_cons (ds_if (dt_not (dt_val (d_call F__law_is_row hr0 takesE T.g__law_is_row T.k__law_is_row T.b__law_is_row .nil (fun _ => rfl) (da_cons (d_ix dix (d_ix dix (d_var 0) d_int) d_int) da_nil)))) (ds_one (ds_ret (d_un dun_neg d_int))) ds_nil) (ds_one (ds_ret (d_callB dcl_len rfl T.z_len bt_len (da_cons (d_ix dix (d_ix dix (d_var 0) d_int) d_int) da_nil))))))
theorem fn__law_width (T : Txt P K mg) {k : Nat} {sp__law_is_row : DSp} (F__law_is_row : DFn P w K mg base k T.f__law_is_row T.d__law_is_row ps__law_is_row sp__law_is_row) {sp : DSp} (len : ∀ ds Hd Q E, sp ds Hd Q E → ds.length = 1) (h : ∀ ds Hd Q Ed, sp ds Hd Q Ed → rd__law_width T sp__law_is_row (endsOf Q Ed) (startD N__law_width ds) Hd) : DFn P w K mg base (k + 3) T.f__law_width T.d__law_width ps__law_width sp :=
  dfun T.F__law_width sc__law_width len fun cdv A outer s H E hr => ⟨_, dv__law_width T F__law_is_row cdv A outer s H E hr, h⟩
def rd__law_fault (T : Txt P K mg) (sp__law_is_row : DSp) (sp__law_width : DSp) (sp__law_is_int : DSp) (sp__law_bad_moves : DSp) (sp__law_bad_marks : DSp) : DTS := (dSeq (dFor (wRng1 (dCons (dC (.int 4)) dNil)) (gNm 1) (dIfS (dNot (dTest (dCall sp__law_is_row [] (dCons (dOp dIx (dVar 0) (dVar 1)) dNil)))) (dRet (dUn dNeg (dC (.int 1)))) dNext)) (dSeq (dSet (dCB dLen (dCons (dOp dIx (dVar 0) (dC (.int 0))) dNil)) 2) (dSeq (dIfS (dOr (dTest (dOp (dI0 fun i j => .bl (decide (i < j))) (dVar 2) (dC (.int 1)))) (dOr (dTest (dOp (dI0 fun i j => .bl (decide (j < i))) (dVar 2) (dC (.int 400)))) (dOr (dTest (dOp dNe (dCB dLen (dCons (dOp dIx (dVar 0) (dC (.int 1))) dNil)) (dVar 2))) (dTest (dOp dNe (dCB dLen (dCons (dOp dIx (dVar 0) (dC (.int 2))) dNil)) (dVar 2)))))) (dRet (dUn dNeg (dC (.int 1)))) dNext) (dSeq (dIfS (dAnd (dTest (dOp dNe (dCB dLen (dCons (dOp dIx (dVar 0) (dC (.int 3))) dNil)) (dC (.int 0)))) (dTest (dOp dNe (dCB dLen (dCons (dOp dIx (dVar 0) (dC (.int 3))) dNil)) (dVar 2)))) (dRet (dUn dNeg (dC (.int 1)))) dNext) (dSeq (dSet (dCall sp__law_width [] (dCons (dOp dIx (dOp dIx (dVar 0) (dC (.int 2))) (dC (.int 0))) dNil)) 3) (dSeq (dFor (wRng1 (dCons (dVar 2) dNil)) (gNm 4) (dSeq (dSet (dOp dIx (dOp dIx (dVar 0) (dC (.int 0))) (dVar 4)) 5) (dSeq (dSet (dOp dIx (dOp dIx (dVar 0) (dC (.int 1))) (dVar 4)) 6) (dSeq (dIfS (dOr (dNot (dTest (dCall sp__law_is_int [] (dCons (dVar 5) dNil)))) (dOr (dTest (dOp (dI0 fun i j => .bl (decide (i < j))) (dVar 5) (dC (.int 0)))) (dTest (dOp (dI0 fun i j => .bl (decide (j < i))) (dVar 5) (dC (.int 1)))))) (dRet (dVar 4)) dNext) (dSeq (dIfS (dOr (dNot (dTest (dCall sp__law_is_int [] (dCons (dVar 6) dNil)))) (dOr (dTest (dOp (dI0 fun i j => .bl (decide (i < j))) (dVar 6) (dC (.int 0)))) (dTest (dOp (dI0 fun i j => .bl (decide (j < i))) (dVar 6) (dC (.int 9)))))) (dRet (dVar 4)) dNext) (dSeq (dIfS (dTest (dCall sp__law_bad_moves [] (dCons (dOp dIx (dOp dIx (dVar 0) (dC (.int 2))) (dVar 4)) (dCons (dVar 2) (dCons (dVar 3) dNil))))) (dRet (dVar 4)) dNext) (dIfS (dAnd (dTest (dOp (dI0 fun i j => .bl (decide (j < i))) (dCB dLen (dCons (dOp dIx (dVar 0) (dC (.int 3))) dNil)) (dC (.int 0)))) (dTest (dCall sp__law_bad_marks [] (dCons (dOp dIx (dOp dIx (dVar 0) (dC (.int 3))) (dVar 4)) dNil)))) (dRet (dVar 4)) dNext))))))) (dRet (dC .non))))))))
theorem dv__law_fault (T : Txt P K mg) {k : Nat} {sp__law_is_row : DSp} {sp__law_width : DSp} {sp__law_is_int : DSp} {sp__law_bad_moves : DSp} {sp__law_bad_marks : DSp} (F__law_is_row : DFn P w K mg base k T.f__law_is_row T.d__law_is_row ps__law_is_row sp__law_is_row) (F__law_width : DFn P w K mg base k T.f__law_width T.d__law_width ps__law_width sp__law_width) (F__law_is_int : DFn P w K mg base k T.f__law_is_int T.d__law_is_int ps__law_is_int sp__law_is_int) (F__law_bad_moves : DFn P w K mg base k T.f__law_bad_moves T.d__law_bad_moves ps__law_bad_moves sp__law_bad_moves) (F__law_bad_marks : DFn P w K mg base k T.f__law_bad_marks T.d__law_bad_marks ps__law_bad_marks sp__law_bad_marks) (cdv : Value) (A : Around) (outer : List Env) (s : Shared) (H : Hp) (E : XK) (hr : Room (k + 2) (A.deeper (envOfC "_law_fault" (defScope st__law_fault) s.heap.objs.size T.f__law_fault cdv))) :
    DPSs (cxOf (L2N.CX P w) P w K mg base N__law_fault "_law_fault" (defScope st__law_fault) T.f__law_fault cdv A outer s H E) (WE0 E) (defBody st__law_fault) (rd__law_fault T sp__law_is_row sp__law_width sp__law_is_int sp__law_bad_moves sp__law_bad_marks) := by
  have hu64 := hu64_of hr
  have hr0 := hr.mono (Nat.le_add_right k 2)
  exact (ds_cons (ds_for passesE rfl (di_rng1 rfl T.z_range (da_cons d_int da_nil)) (dg_name (i := 1) sc__law_fault.nd rfl (Or.inl rfl)) (ds_one (ds_if (dt_not (dt_val (d_call F__law_is_row hr0 takesE T.g__law_is_row T.k__law_is_row T.b__law_is_row .nil (fun _ => rfl) (da_cons (d_ix dix (d_var 0) (d_var 1)) da_nil)))) (ds_one (ds_ret (d_un dun_neg d_int))) ds_nil))) (ds_cons (ds_set (i := 2) sc__law_fault.nd rfl (Or.inl rfl) (d_callB dcl_len rfl T.z_len bt_len (da_cons (d_ix dix (d_var 0) d_int) da_nil))) (ds_cons (ds_if (dw_pt (dw_or (dt_cmp dop_lt (d_var 2) d_int rfl) (dw_or (dt_cmp dop_gt (d_var 2) d_int rfl) (dw_or (dt_cmp (dop_ne hu64) (d_callB dcl_len rfl T.z_len bt_len (da_cons (d_ix dix (d_var 0) d_int) da_nil)) (d_var 2) rfl) (dw_or1 (dt_cmp (dop_ne hu64) (d_callB dcl_len rfl T.z_len bt_len (da_cons (d_ix dix (d_var 0) d_int) da_nil)) (d_var 2) rfl)))))) (ds_one (ds_ret (d_un dun_neg d_int))) ds_nil) (ds_cons (ds_if (dw_pt (dw_and (dt_cmp (dop_ne hu64) (d_callB dcl_len rfl T.z_len bt_len (da_cons (d_ix dix (d_var 0) d_int) da_nil)) d_int rfl) (dw_and1 (dt_cmp (dop_ne hu64) (d_callB dcl_len rfl T.z_len bt_len (da_cons (d_ix dix (d_var 0) d_int) da_nil)) (d_var 2) rfl)))) (ds_one (ds_ret (d_un dun_neg d_int))) ds_nil) (ds_cons (ds_set (i := 3) sc__law_fault.nd rfl (Or.inl rfl) (d_call F__law_width hr0 takesE T.g__law_width T.k__law_width T.b__law_width .nil (fun _ => rfl) (da_cons (d_ix dix (d_ix dix (d_var 0) d_int) d_int) da_nil))) (ds_cons (ds_for passesE rfl (di_rng1 rfl T.z_range (da_cons (d_var 2) da_nil)) (dg_name (i := 4) sc__law_fault.nd rfl (Or.inl rfl)) (ds_cons (ds_set (i := 5) sc__law_fault.nd rfl (Or.inl rfl) (d_ix dix (d_ix dix (d_var 0) d_int) (d_var 4))) (ds_cons (ds_set (i := 6) sc__law_fault.nd rfl (Or.inl rfl) (d_ix dix (d_ix dix (d_var 0) d_int) (d_var 4))) (ds_cons (ds_if (dw_pt (dw_or (dt_not (dt_val (d_call F__law_is_int hr0 takesE T.g__law_is_int T.k__law_is_int T.b__law_is_int .nil (fun _ => rfl) (da_cons (d_var 5) da_nil)))) (dw_or (dt_cmp dop_lt (d_var 5) d_int rfl) (dw_or1 (dt_cmp dop_gt (d_var 5) d_int rfl))))) (ds_one (ds_ret (d_var 4))) ds_nil) (ds_cons (ds_if (dw_pt (dw_or (dt_not (dt_val (d_call F__law_is_int hr0 takesE T.g__law_is_int T.k__law_is_int T.b__law_is_int .nil (fun _ => rfl) (da_cons (d_var 6) da_nil)))) (dw_or (dt_cmp dop_lt (d_var 6) d_int rfl) (dw_or1 (dt_cmp dop_gt (d_var 6) d_int rfl))))) (ds_one (ds_ret (d_var 4))) ds_nil) (ds_cons (ds_if (dt_val (d_call F__law_bad_moves hr0 takesE T.g__law_bad_moves T.k__law_bad_moves T.b__law_bad_moves .nil (fun _ => rfl) (da_cons (d_ix dix (d_ix dix (d_var 0) d_int) (d_var 4)) (da_cons (d_var 2) (da_cons (d_var 3) da_nil))))) (ds_one (ds_ret (d_var 4))) ds_nil) (ds_one (ds_if (dw_pt (dw_and (dt_cmp dop_gt (d_callB dcl_len rfl T.z_len bt_len (da_cons (d_ix dix (d_var 0) d_int) da_nil)) d_int rfl) (dw_and1 (dt_val (d_call F__law_bad_marks hr0 takesE T.g__law_bad_marks T.k__law_bad_marks T.b__law_bad_marks .nil (fun _ => rfl) (da_cons (d_ix dix (d_ix dix (d_var 0) d_int) (d_var 4)) da_nil)))))) (ds_one (ds_ret (d_var 4))) ds_nil)))))))) (ds_one (ds_ret d_non))))))))
theorem fn__law_fault (T : Txt P K mg) {k : Nat} {sp__law_is_row : DSp} {sp__law_width : DSp} {sp__law_is_int : DSp} {sp__law_bad_moves : DSp} {sp__law_bad_marks : DSp} (F__law_is_row : DFn P w K mg base k T.f__law_is_row T.d__law_is_row ps__law_is_row sp__law_is_row) (F__law_width : DFn P w K mg base k T.f__law_width T.d__law_width ps__law_width sp__law_width) (F__law_is_int : DFn P w K mg base k T.f__law_is_int T.d__law_is_int ps__law_is_int sp__law_is_int) (F__law_bad_moves : DFn P w K mg base k T.f__law_bad_moves T.d__law_bad_moves ps__law_bad_moves sp__law_bad_moves) (F__law_bad_marks : DFn P w K mg base k T.f__law_bad_marks T.d__law_bad_marks ps__law_bad_marks sp__law_bad_marks) {sp : DSp} (len : ∀ ds Hd Q E, sp ds Hd Q E → ds.length = 1) (h : ∀ ds Hd Q Ed, sp ds Hd Q Ed → rd__law_fault T sp__law_is_row sp__law_width sp__law_is_int sp__law_bad_moves sp__law_bad_marks (endsOf Q Ed) (startD N__law_fault ds) Hd) : DFn P w K mg base (k + 3) T.f__law_fault T.d__law_fault ps__law_fault sp :=
  dfun T.F__law_fault sc__law_fault len fun cdv A outer s H E hr => ⟨_, dv__law_fault T F__law_is_row F__law_width F__law_is_int F__law_bad_moves F__law_bad_marks cdv A outer s H E hr, h⟩
def rd__law_frozen (T : Txt P K mg) : DTS := (dSeq (dSet (dCB dLen (dCons (dOp dIx (dVar 0) (dC (.int 0))) dNil)) 1) (dSeq (dSet (dLst dNil) 2) (dSeq (dFor (wSeq (dOp dIx (dVar 0) (dC (.int 2)))) (gNm 3) (dDrop (dBM "list" dApp (dVar 2) (dCons (dCB dTupleOf (dCons (dLc (wSeq (dVar 3)) (gNm 6) dYes (dTup (dCons (dOp dIx (dVar 6) (dC (.int 0))) (dCons (dCB dTupleOf (dCons (dOp dIx (dVar 6) (dC (.int 1))) dNil)) dNil))) [6]) dNil)) dNil)))) (dSeq (dSet (dCB dTupleOf (dCons (dLc (wSeq (dOp dIx (dVar 0) (dC (.int 3)))) (gNm 5) dYes (dCB dTupleOf (dCons (dVar 5) dNil)) [5]) dNil)) 4) (dSeq (dIfS (dTest (dOp dEq (dCB dLen (dCons (dVar 4) dNil)) (dC (.int 0)))) (dSet (dOp dMul (dTup (dCons (dTup dNil) dNil)) (dVar 1)) 4) dNext) (dRet (dTup (dCons (dCB dTupleOf (dCons (dOp dIx (dVar 0) (dC (.int 0))) dNil)) (dCons (dCB dTupleOf (dCons (dOp dIx (dVar 0) (dC (.int 1))) dNil)) (dCons (dCB dTupleOf (dCons (dVar 2) dNil)) (dCons (dVar 4) dNil)))))))))))
theorem dv__law_frozen (T : Txt P K mg) {k : Nat} (cdv : Value) (A : Around) (outer : List Env) (s : Shared) (H : Hp) (E : XK) (hr : Room (k + 2) (A.deeper (envOfC "_law_frozen" (defScope st__law_frozen) s.heap.objs.size T.f__law_frozen cdv))) :
    DPSs (cxOf (L2N.CX P w) P w K mg base N__law_frozen "_law_frozen" (defScope st__law_frozen) T.f__law_frozen cdv A outer s H E) (WE0 E) (defBody st__law_frozen) (rd__law_frozen T) := by
  have hu64 := hu64_of hr
  exact (ds_cons (ds_set (i := 1) sc__law_frozen.nd rfl (Or.inl rfl) (d_callB dcl_len rfl T.z_len bt_len (da_cons (d_ix dix (d_var 0) d_int) da_nil))) (ds_cons (ds_set (i := 2) sc__law_frozen.nd rfl (Or.inl rfl) (d_lst da_nil)) (ds_cons (ds_for passesE rfl (di_seq (d_ix dix (d_var 0) d_int)) (dg_name (i := 3) sc__law_frozen.nd rfl (Or.inl rfl)) (ds_one (ds_expr (d_bm pla_list sl_list_append ty_list_append dmt_append (d_var 2) (da_cons (d_callTy dcl_tuple rfl T.z_tuple bt_tuple (da_cons (d_lc (own := [("move", 6)]) rfl sc__law_frozen.nd (di_seq (d_var 3)) (blkOk_by (N := N__law_frozen) (sc := defScope st__law_frozen) (own := [("move", 6)]) (by decide +kernel)) (fun _ _ _ _ _ => (dgo_name (i := 6) sc__law_frozen.nd rfl (Or.inl rfl))) (fun _ _ _ _ _ => dts_nil) (fun _ _ _ _ _ => (d_tup (da_cons (d_ix dix (d_var 6) d_int) (da_cons (d_callTy dcl_tuple rfl T.z_tuple bt_tuple (da_cons (d_ix dix (d_var 6) d_int) da_nil)) da_nil))))) da_nil)) da_nil))))) (ds_cons (ds_set (i := 4) sc__law_frozen.nd rfl (Or.inl rfl) (d_callTy dcl_tuple rfl T.z_tuple bt_tuple (da_cons (d_lc (own := [("names", 5)]) rfl sc__law_frozen.nd (di_seq (d_ix dix (d_var 0) d_int)) (blkOk_by (N := N__law_frozen) (sc := defScope st__law_frozen) (own := [("names", 5)]) (by decide +kernel)) (fun _ _ _ _ _ => (dgo_name (i := 5) sc__law_frozen.nd rfl (Or.inl rfl))) (fun _ _ _ _ _ => dts_nil) (fun _ _ _ _ _ => (d_callTy dcl_tuple rfl T.z_tuple bt_tuple (da_cons (d_var 5) da_nil)))) da_nil))) (ds_cons (ds_if (dt_cmp (dop_eq hu64) (d_callB dcl_len rfl T.z_len bt_len (da_cons (d_var 4) da_nil)) d_int rfl) (ds_one (ds_set (i := 4) sc__law_frozen.nd rfl (Or.inl rfl) (d_op dop_mul (d_tup (da_cons (d_tup da_nil) da_nil)) (d_var 1)))) ds_nil) (ds_one (ds_ret (d_tup (da_cons (d_callTy dcl_tuple rfl T.z_tuple bt_tuple (da_cons (d_ix dix (d_var 0) d_int) da_nil)) (da_cons (d_callTy dcl_tuple rfl T.z_tuple bt_tuple (da_cons (d_ix dix (d_var 0) d_int) da_nil)) (da_cons (d_callTy dcl_tuple rfl T.z_tuple bt_tuple (da_cons (d_var 2) da_nil)) (da_cons (d_var 4) da_nil))))))))))))
theorem fn__law_frozen (T : Txt P K mg) {k : Nat} {sp : DSp} (len : ∀ ds Hd Q E, sp ds Hd Q E → ds.length = 1) (h : ∀ ds Hd Q Ed, sp ds Hd Q Ed → rd__law_frozen T (endsOf Q Ed) (startD N__law_frozen ds) Hd) : DFn P w K mg base (k + 3) T.f__law_frozen T.d__law_frozen ps__law_frozen sp :=
  dfun T.F__law_frozen sc__law_frozen len fun cdv A outer s H E hr => ⟨_, dv__law_frozen T cdv A outer s H E hr, h⟩
def rd__law_bent_gains (T : Txt P K mg) (sp__law_take : DSp) : DTS := (dSeq (dIfS (dTest (dOp dEq (dVar 3) (dC (.int 9)))) (dRet (dTup (dCons (dVar 1) (dCons (dOp dAdd (dVar 2) (dTup (dCons (dC (.int 0)) dNil))) dNil)))) dNext) (dSeq (dIfS (dTest (dOp dEq (dVar 3) (dC (.int 10)))) (dRet (dTup (dCons (dVar 1) (dCons (dSl dCut (dVar 2) (dPart (dC (.int 1))) dNoPart) dNil)))) dNext) (dSeq (dIfS (dTest (dOp dEq (dCB dLen (dCons (dVar 2) dNil)) (dC (.int 0)))) (dRet (dTup (dCons (dVar 1) (dCons (dC .non) dNil)))) dNext) (dSeq (dSet (dCall sp__law_take [] (dCons (dVar 0) (dCons (dCB dLen (dCons (dVar 2) dNil)) dNil))) 4) (dRet (dTup (dCons (dVar 1) (dCons (dOp dAdd (dOp dAdd (dSl dCut (dVar 2) dNoPart (dPart (dVar 4))) (dTup (dCons (dOp dIx (dLst (dCons (dC (.int 100)) (dCons (dUn dNeg (dC (.int 100))) (dCons (dC (.bl true)) (dCons (dC .non) (dCons (dOp (dI CPow fun i j => .int (i ^ j.toNat)) (dC (.int 10)) (dC (.int 30))) dNil)))))) (dCall sp__law_take [] (dCons (dVar 0) (dCons (dC (.int 5)) dNil)))) dNil))) (dSl dCut (dVar 2) (dPart (dOp dAdd (dVar 4) (dC (.int 1)))) dNoPart)) dNil))))))))
theorem dv__law_bent_gains (T : Txt P K mg) {k : Nat} {sp__law_take : DSp} (F__law_take : DFn P w K mg base k T.f__law_take T.d__law_take ps__law_take sp__law_take) (cdv : Value) (A : Around) (outer : List Env) (s : Shared) (H : Hp) (E : XK) (hr : Room (k + 2) (A.deeper (envOfC "_law_bent_gains" (defScope st__law_bent_gains) s.heap.objs.size T.f__law_bent_gains cdv))) :
    DPSs (cxOf (L2N.CX P w) P w K mg base N__law_bent_gains "_law_bent_gains" (defScope st__law_bent_gains) T.f__law_bent_gains cdv A outer s H E) (WE0 E) (defBody st__law_bent_gains) (rd__law_bent_gains T sp__law_take) := by
  have hu64 := hu64_of hr
  have hr0 := hr.mono (Nat.le_add_right k 2)
  exact (ds_cons (ds_if (dt_cmp (dop_eq hu64) (d_var 3) d_int rfl) (ds_one (ds_ret (d_tup (da_cons (d_var 1) (da_cons (d_op dop_add (d_var 2) (d_tup (da_cons d_int da_nil))) da_nil))))) ds_nil) (ds_cons (ds_if (dt_cmp (dop_eq hu64) (d_var 3) d_int rfl) (ds_one (ds_ret (d_tup (da_cons (d_var 1) (da_cons (d_slice dsl (d_var 2) (do_some d_int) do_none) da_nil))))) ds_nil) (ds_cons (ds_if (dt_cmp (dop_eq hu64) (d_callB dcl_len rfl T.z_len bt_len (da_cons (d_var 2) da_nil)) d_int rfl) (ds_one (ds_ret (d_tup (da_cons (d_var 1) (da_cons d_non da_nil))))) ds_nil) (ds_cons (ds_set (i := 4) sc__law_bent_gains.nd rfl (Or.inl rfl) (d_call F__law_take hr0 takesE T.g__law_take T.k__law_take T.b__law_take .nil (fun _ => rfl) (da_cons (d_var 0) (da_cons (d_callB dcl_len rfl T.z_len bt_len (da_cons (d_var 2) da_nil)) da_nil)))) (ds_one (ds_ret (d_tup (da_cons (d_var 1) (da_cons (d_op dop_add (d_op dop_add (d_slice dsl (d_var 2) do_none (do_some (d_var 4))) (d_tup (da_cons (d_ix dix (d_lst (da_cons d_int (da_cons (d_un dun_neg d_int) (da_cons d_bl (da_cons d_non (da_cons (d_op dop_pow d_int d_int) da_nil)))))) (d_call F__law_take hr0 takesE T.g__law_take T.k__law_take T.b__law_take .nil (fun _ => rfl) (da_cons (d_var 0) (da_cons d_int da_nil)))) da_nil))) (d_slice dsl (d_var 2) (do_some (d_op dop_add (d_var 4) d_int)) do_none)) da_nil)))))))))
theorem fn__law_bent_gains (T : Txt P K mg) {k : Nat} {sp__law_take : DSp} (F__law_take : DFn P w K mg base k T.f__law_take T.d__law_take ps__law_take sp__law_take) {sp : DSp} (len : ∀ ds Hd Q E, sp ds Hd Q E → ds.length = 4) (h : ∀ ds Hd Q Ed, sp ds Hd Q Ed → rd__law_bent_gains T sp__law_take (endsOf Q Ed) (startD N__law_bent_gains ds) Hd) : DFn P w K mg base (k + 3) T.f__law_bent_gains T.d__law_bent_gains ps__law_bent_gains sp :=
  dfun T.F__law_bent_gains sc__law_bent_gains len fun cdv A outer s H E hr => ⟨_, dv__law_bent_gains T F__law_take cdv A outer s H E hr, h⟩
def rd__law_bent_row (T : Txt P K mg) (sp__law_take : DSp) (sp__law_bent_gains : DSp) : DTS := (dSeq (dSet (dCall sp__law_take [] (dCons (dVar 0) (dCons (dC (.int 12)) dNil))) 3) (dSeq (dSet (dCall sp__law_take [] (dCons (dVar 0) (dCons (dCB dLen (dCons (dVar 1) dNil)) dNil))) 4) (dSeq (dSet (dOp dIx (dOp dIx (dVar 1) (dVar 4)) (dC (.int 0))) 5) (dSeq (dSet (dOp dIx (dOp dIx (dVar 1) (dVar 4)) (dC (.int 1))) 6) (dSeq (dIfS (dTest (dOp dEq (dVar 3) (dC (.int 0)))) (dRet (dOp dIx (dLst (dCons (dTup dNil) (dCons (dC .non) (dCons (dC (.int 7)) dNil)))) (dCall sp__law_take [] (dCons (dVar 0) (dCons (dC (.int 3)) dNil))))) dNext) (dSeq (dIfS (dTest (dOp dEq (dVar 3) (dC (.int 1)))) (dRet (dOp dAdd (dVar 1) (dLst (dCons (dOp dIx (dVar 1) (dVar 4)) dNil)))) dNext) (dSeq (dIfS (dTest (dOp dEq (dVar 3) (dC (.int 2)))) (dRet (dRevL (dVar 1))) dNext) (dSeq (dSet (dVar 5) 7) (dSeq (dIfS (dTest (dOp dEq (dVar 3) (dC (.int 3)))) (dSet (dTup (dCons (dOp dAdd (dVar 2) (dCall sp__law_take [] (dCons (dVar 0) (dCons (dC (.int 2)) dNil)))) (dCons (dVar 6) dNil))) 7) dNext) (dSeq (dIfS (dTest (dOp dEq (dVar 3) (dC (.int 4)))) (dSet (dTup (dCons (dUn dNeg (dC (.int 1))) (dCons (dVar 6) dNil))) 7) dNext) (dSeq (dIfS (dTest (dOp dEq (dVar 3) (dC (.int 5)))) (dSet (dTup (dCons (dOp dIx (dLst (dCons (dC (.bl true)) (dCons (dC .non) (dCons (dC (.str "0")) dNil)))) (dCall sp__law_take [] (dCons (dVar 0) (dCons (dC (.int 3)) dNil)))) (dCons (dVar 6) dNil))) 7) dNext) (dSeq (dIfS (dTest (dOp dEq (dVar 3) (dC (.int 6)))) (dSet (dTup (dCons (dVar 5) dNil)) 7) dNext) (dSeq (dIfS (dTest (dOp dEq (dVar 3) (dC (.int 7)))) (dSet (dTup (dCons (dVar 5) (dCons (dVar 6) (dCons (dC (.int 0)) dNil)))) 7) dNext) (dSeq (dIfS (dTest (dOp (dI0 fun i j => .bl (decide (j < i))) (dVar 3) (dC (.int 8)))) (dSet (dCall sp__law_bent_gains [] (dCons (dVar 0) (dCons (dVar 5) (dCons (dVar 6) (dCons (dVar 3) dNil))))) 7) dNext) (dRet (dOp dAdd (dOp dAdd (dSl dCut (dVar 1) dNoPart (dPart (dVar 4))) (dLst (dCons (dVar 7) dNil))) (dSl dCut (dVar 1) (dPart (dOp dAdd (dVar 4) (dC (.int 1)))) dNoPart)))))))))))))))))
theorem dv__law_bent_row (T : Txt P K mg) {k : Nat} {sp__law_take : DSp} {sp__law_bent_gains : DSp} (F__law_take : DFn P w K mg base k T.f__law_take T.d__law_take ps__law_take sp__law_take) (F__law_bent_gains : DFn P w K mg base k T.f__law_bent_gains T.d__law_bent_gains ps__law_bent_gains sp__law_bent_gains) (cdv : Value) (A : Around) (outer : List Env) (s : Shared) (H : Hp) (E : XK) (hr : Room (k + 2) (A.deeper (envOfC "_law_bent_row" (defScope st__law_bent_row) s.heap.objs.size T.f__law_bent_row cdv))) :
    DPSs (cxOf (L2N.CX P w) P w K mg base N__law_bent_row "_law_bent_row" (defScope st__law_bent_row) T.f__law_bent_row cdv A outer s H E) (WE0 E) (defBody st__law_bent_row) (rd__law_bent_row T sp__law_take sp__law_bent_gains) := by
  have hu64 := hu64_of hr
  have hr0 := hr.mono (Nat.le_add_right k 2)
  exact (ds_cons (ds_set (i := 3) sc__law_bent_row.nd rfl (Or.inl rfl) (d_call F__law_take hr0 takesE T.g__law_take T.k__law_take T.b__law_take .nil (fun _ => rfl) (da_cons (d_var 0) (da_cons d_int da_nil)))) (ds_cons (ds_set (i := 4) sc__law_bent_row.nd rfl (Or.inl rfl) (d_call F__law_take hr0 takesE T.g__law_take T.k__law_take T.b__law_take .nil (fun _ => rfl) (da_cons (d_var 0) (da_cons (d_callB dcl_len rfl T.z_len bt_len (da_cons (d_var 1) da_nil)) da_nil)))) (ds_cons (ds_set (i := 5) sc__law_bent_row.nd rfl (Or.inl rfl) (d_ix dix (d_ix dix (d_var 1) (d_var 4)) d_int)) (ds_cons (ds_set (i := 6) sc__law_bent_row.nd rfl (Or.inl rfl) (d_ix dix (d_ix dix (d_var 1) (d_var 4)) d_int)) (ds_cons (ds_if (dt_cmp (dop_eq hu64) (d_var 3) d_int rfl) (ds_one (ds_ret (d_ix dix (d_lst (da_cons (d_tup da_nil) (da_cons d_non (da_cons d_int da_nil)))) (d_call F__law_take hr0 takesE T.g__law_take T.k__law_take T.b__law_take .nil (fun _ => rfl) (da_cons (d_var 0) (da_cons d_int da_nil)))))) ds_nil) (ds_cons (ds_if (dt_cmp (dop_eq hu64) (d_var 3) d_int rfl) (ds_one (ds_ret (d_op dop_add (d_var 1) (d_lst (da_cons (d_ix dix (d_var 1) (d_var 4)) da_nil))))) ds_nil) (ds_cons (ds_if (dt_cmp (dop_eq hu64) (d_var 3) d_int rfl) (ds_one (ds_ret (d_revL (d_var 1)))) ds_nil) (ds_cons (ds_set (i := 7) sc__law_bent_row.nd rfl (Or.inl rfl) (d_var 5)) (ds_cons (ds_if (dt_cmp (dop_eq hu64) (d_var 3) d_int rfl) (ds_one (ds_set (i := 7) sc__law_bent_row.nd rfl (Or.inl rfl) (d_tup (da_cons (d_op dop_add (d_var 2) (d_call F__law_take hr0 takesE T.g__law_take T.k__law_take T.b__law_take .nil (fun _ => rfl) (da_cons (d_var 0) (da_cons d_int da_nil)))) (da_cons (d_var 6) da_nil))))) ds_nil) (ds_cons (ds_if (dt_cmp (dop_eq hu64) (d_var 3) d_int rfl) (ds_one (ds_set (i := 7) sc__law_bent_row.nd rfl (Or.inl rfl) (d_tup (da_cons (d_un dun_neg d_int) (da_cons (d_var 6) da_nil))))) ds_nil) (ds_cons (ds_if (dt_cmp (dop_eq hu64) (d_var 3) d_int rfl) (ds_one (ds_set (i := 7) sc__law_bent_row.nd rfl (Or.inl rfl) (d_tup (da_cons (d_ix dix (d_lst (da_cons d_bl (da_cons d_non (da_cons d_str da_nil)))) (d_call F__law_take hr0 takesE T.g__law_take T.k__law_take T.b__law_take .nil (fun _ => rfl) (da_cons (d_var 0) (da_cons d_int da_nil)))) (da_cons (d_var 6) da_nil))))) ds_nil) (ds_cons (ds_if (dt_cmp (dop_eq hu64) (d_var 3) d_int rfl) (ds_one (ds_set (i := 7) sc__law_bent_row.nd rfl (Or.inl rfl) (d_tup (da_cons (d_var 5) da_nil)))) ds_nil) (ds_cons (ds_if (dt_cmp (dop_eq hu64) (d_var 3) d_int rfl) (ds_one (ds_set (i := 7) sc__law_bent_row.nd rfl (Or.inl rfl) (d_tup (da_cons (d_var 5) (da_cons (d_var 6) (da_cons d_int da_nil)))))) ds_nil) (ds_cons (ds_if (dt_cmp dop_gt (d_var 3) d_int rfl) (ds_one (ds_set (i := 7) sc__law_bent_row.nd rfl (Or.inl rfl) (d_call F__law_bent_gains hr0 takesE T.g__law_bent_gains T.k__law_bent_gains T.b__law_bent_gains .nil (fun _ => rfl) (da_cons (d_var 0) (da_cons (d_var 5) (da_cons (d_var 6) (da_cons (d_var 3) da_nil))))))) ds_nil) (ds_one (ds_ret (d_op dop_add (d_op dop_add (d_slice dsl (d_var 1) do_none (do_some (d_var 4))) (d_lst (da_cons (d_var 7) da_nil))) (d_slice dsl (d_var 1) (do_some (d_op dop_add (d_var 4) d_int)) do_none))))))))))))))))))
theorem fn__law_bent_row (T : Txt P K mg) {k : Nat} {sp__law_take : DSp} {sp__law_bent_gains : DSp} (F__law_take : DFn P w K mg base k T.f__law_take T.d__law_take ps__law_take sp__law_take) (F__law_bent_gains : DFn P w K mg base k T.f__law_bent_gains T.d__law_bent_gains ps__law_bent_gains sp__law_bent_gains) {sp : DSp} (len : ∀ ds Hd Q E, sp ds Hd Q E → ds.length = 3) (h : ∀ ds Hd Q Ed, sp ds Hd Q Ed → rd__law_bent_row T sp__law_take sp__law_bent_gains (endsOf Q Ed) (startD N__law_bent_row ds) Hd) : DFn P w K mg base (k + 3) T.f__law_bent_row T.d__law_bent_row ps__law_bent_row sp :=
  dfun T.F__law_bent_row sc__law_bent_row len fun cdv A outer s H E hr => ⟨_, dv__law_bent_row T F__law_take F__law_bent_gains cdv A outer s H E hr, h⟩
def rd__law_bend (T : Txt P K mg) (sp__law_take : DSp) (sp__law_bent_row : DSp) : DTS := (dSeq (dSet (dCB dLen (dCons (dOp dIx (dVar 2) (dC (.int 0))) dNil)) 3) (dSeq (dSet (dCall sp__law_take [] (dCons (dVar 0) (dCons (dVar 3) dNil))) 4) (dSeq (dSet (dCall sp__law_take [] (dCons (dVar 0) (dCons (dC (.int 6)) dNil))) 5) (dIfS (dOr (dTest (dOp dEq (dVar 5) (dC (.int 0)))) (dAnd (dTest (dOp dEq (dVar 5) (dC (.int 2)))) (dTest (dOp dEq (dCB dLen (dCons (dOp dIx (dVar 1) (dC (.int 3))) dNil)) (dC (.int 0)))))) (dAsg (dOp dIx (dLst (dCons (dC (.int 2)) (dCons (dUn dNeg (dC (.int 1))) (dCons (dC (.bl true)) (dCons (dC .non) (dCons (dC (.str "0")) dNil)))))) (dCall sp__law_take [] (dCons (dVar 0) (dCons (dC (.int 5)) dNil)))) (gIx (dOp dIx (dVar 1) (dC (.int 0))) (dVar 4))) (dIfS (dTest (dOp dEq (dVar 5) (dC (.int 1)))) (dAsg (dOp dIx (dLst (dCons (dUn dNeg (dC (.int 1))) (dCons (dC (.int 10)) (dCons (dC (.bl true)) (dCons (dC .non) (dCons (dTup (dCons (dC (.int 3)) dNil)) dNil)))))) (dCall sp__law_take [] (dCons (dVar 0) (dCons (dC (.int 5)) dNil)))) (gIx (dOp dIx (dVar 1) (dC (.int 1))) (dVar 4))) (dIfS (dTest (dOp dEq (dVar 5) (dC (.int 2)))) (dSeq (dSet (dLst (dCons (dTup (dCons (dC (.str "b")) (dCons (dC (.str "a")) dNil))) (dCons (dTup (dCons (dC (.str "a")) (dCons (dC (.str "a")) dNil))) (dCons (dTup (dCons (dC (.str "abcdefghi")) dNil)) (dCons (dTup (dCons (dC (.str "")) dNil)) (dCons (dTup (dCons (dC (.str "A")) dNil)) (dCons (dTup (dCons (dC (.str "a")) (dCons (dC (.str "b1")) dNil))) (dCons (dTup (dCons (dC (.int 1)) dNil)) (dCons (dTup (dCons (dC (.str "a")) (dCons (dC .non) dNil))) dNil))))))))) 6) (dSeq (dSet (dOp dAdd (dVar 6) (dLst (dCons (dTup (dCons (dTup (dCons (dC (.str "a")) dNil)) dNil)) (dCons (dC .non) (dCons (dC (.int 5)) dNil))))) 6) (dAsg (dOp dIx (dVar 6) (dCall sp__law_take [] (dCons (dVar 0) (dCons (dCB dLen (dCons (dVar 6) dNil)) dNil)))) (gIx (dOp dIx (dVar 1) (dC (.int 3))) (dVar 4))))) (dAsg (dCall sp__law_bent_row [] (dCons (dVar 0) (dCons (dCB dListOf (dCons (dOp dIx (dOp dIx (dVar 2) (dC (.int 2))) (dVar 4)) dNil)) (dCons (dVar 3) dNil)))) (gIx (dOp dIx (dVar 1) (dC (.int 2))) (dVar 4)))))))))
theorem dv__law_bend (T : Txt P K mg) {k : Nat} {sp__law_take : DSp} {sp__law_bent_row : DSp} (F__law_take : DFn P w K mg base k T.f__law_take T.d__law_take ps__law_take sp__law_take) (F__law_bent_row : DFn P w K mg base k T.f__law_bent_row T.d__law_bent_row ps__law_bent_row sp__law_bent_row) (cdv : Value) (A : Around) (outer : List Env) (s : Shared) (H : Hp) (E : XK) (hr : Room (k + 2) (A.deeper (envOfC "_law_bend" (defScope st__law_bend) s.heap.objs.size T.f__law_bend cdv))) :
    DPSs (cxOf (L2N.CX P w) P w K mg base N__law_bend "_law_bend" (defScope st__law_bend) T.f__law_bend cdv A outer s H E) (WE0 E) (defBody st__law_bend) (rd__law_bend T sp__law_take sp__law_bent_row) := by
  have hu64 := hu64_of hr
  have hr0 := hr.mono (Nat.le_add_right k 2)
  exact (ds_cons (ds_set (i := 3) sc__law_bend.nd rfl (Or.inl rfl) (d_callB dcl_len rfl T.z_len bt_len (da_cons (d_ix dix (d_var 2) d_int) da_nil))) (ds_cons (ds_set (i := 4) sc__law_bend.nd rfl (Or.inl rfl) (d_call F__law_take hr0 takesE T.g__law_take T.k__law_take T.b__law_take .nil (fun _ => rfl) (da_cons (d_var 0) (da_cons (d_var 3) da_nil)))) (ds_cons (ds_set (i := 5) sc__law_bend.nd rfl (Or.inl rfl) (d_call F__law_take hr0 takesE T.g__law_take T.k__law_take T.b__law_take .nil (fun _ => rfl) (da_cons (d_var 0) (da_cons d_int da_nil)))) (ds_one (ds_if (dw_pt (dw_or (dt_cmp (dop_eq hu64) (d_var 5) d_int rfl) (dw_or1 (dw_pt (dw_and (dt_cmp (dop_eq hu64) (d_var 5) d_int rfl) (dw_and1 (dt_cmp (dop_eq hu64) (d_callB dcl_len rfl T.z_len bt_len (da_cons (d_ix dix (d_var 1) d_int) da_nil)) d_int rfl))))))) (ds_one (ds_asg (d_ix dix (d_lst (da_cons d_int (da_cons (d_un dun_neg d_int) (da_cons d_bl (da_cons d_non (da_cons d_str da_nil)))))) (d_call F__law_take hr0 takesE T.g__law_take T.k__law_take T.b__law_take .nil (fun _ => rfl) (da_cons (d_var 0) (da_cons d_int da_nil)))) (dg_ix (d_ix dix (d_var 1) d_int) (d_var 4)))) (ds_one (ds_if (dt_cmp (dop_eq hu64) (d_var 5) d_int rfl) (ds_one (ds_asg (d_ix dix (d_lst (da_cons (d_un dun_neg d_int) (da_cons d_int (da_cons d_bl (da_cons d_non (da_cons (d_tup (da_cons d_int da_nil)) da_nil)))))) (d_call F__law_take hr0 takesE T.g__law_take T.k__law_take T.b__law_take .nil (fun _ => rfl) (da_cons (d_var 0) (da_cons d_int da_nil)))) (dg_ix (d_ix dix (d_var 1) d_int) (d_var 4)))) (ds_one (ds_if (dt_cmp (dop_eq hu64) (d_var 5) d_int rfl) (ds_cons (ds_set (i := 6) sc__law_bend.nd rfl (Or.inl rfl) (d_lst (da_cons (d_tup (da_cons d_str (da_cons d_str da_nil))) (da_cons (d_tup (da_cons d_str (da_cons d_str da_nil))) (da_cons (d_tup (da_cons d_str da_nil)) (da_cons (d_tup (da_cons d_str da_nil)) (da_cons (d_tup (da_cons d_str da_nil)) (da_cons (d_tup (da_cons d_str (da_cons d_str da_nil))) (da_cons (d_tup (da_cons d_int da_nil)) (da_cons (d_tup (da_cons d_str (da_cons d_non da_nil))) da_nil)))))))))) (ds_cons (ds_set (i := 6) sc__law_bend.nd rfl (Or.inl rfl) (d_op dop_add (d_var 6) (d_lst (da_cons (d_tup (da_cons (d_tup (da_cons d_str da_nil)) da_nil)) (da_cons d_non (da_cons d_int da_nil)))))) (ds_one (ds_asg (d_ix dix (d_var 6) (d_call F__law_take hr0 takesE T.g__law_take T.k__law_take T.b__law_take .nil (fun _ => rfl) (da_cons (d_var 0) (da_cons (d_callB dcl_len rfl T.z_len bt_len (da_cons (d_var 6) da_nil)) da_nil)))) (dg_ix (d_ix dix (d_var 1) d_int) (d_var 4)))))) (ds_one (ds_asg (d_call F__law_bent_row hr0 takesE T.g__law_bent_row T.k__law_bent_row T.b__law_bent_row .nil (fun _ => rfl) (da_cons (d_var 0) (da_cons (d_callTy dcl_list rfl T.z_list bt_list (da_cons (d_ix dix (d_ix dix (d_var 2) d_int) (d_var 4)) da_nil)) (da_cons (d_var 3) da_nil)))) (dg_ix (d_ix dix (d_var 1) d_int) (d_var 4)))))))))))))
theorem fn__law_bend (T : Txt P K mg) {k : Nat} {sp__law_take : DSp} {sp__law_bent_row : DSp} (F__law_take : DFn P w K mg base k T.f__law_take T.d__law_take ps__law_take sp__law_take) (F__law_bent_row : DFn P w K mg base k T.f__law_bent_row T.d__law_bent_row ps__law_bent_row sp__law_bent_row) {sp : DSp} (len : ∀ ds Hd Q E, sp ds Hd Q E → ds.length = 3) (h : ∀ ds Hd Q Ed, sp ds Hd Q Ed → rd__law_bend T sp__law_take sp__law_bent_row (endsOf Q Ed) (startD N__law_bend ds) Hd) : DFn P w K mg base (k + 3) T.f__law_bend T.d__law_bend ps__law_bend sp :=
  dfun T.F__law_bend sc__law_bend len fun cdv A outer s H E hr => ⟨_, dv__law_bend T F__law_take F__law_bent_row cdv A outer s H E hr, h⟩
def rd__law_bend_whole (T : Txt P K mg) (sp__law_take : DSp) : DTS := (dSeq (dSet (dCall sp__law_take [] (dCons (dVar 0) (dCons (dC (.int 4)) dNil))) 2) (dSeq (dSet (dCall sp__law_take [] (dCons (dVar 0) (dCons (dC (.int 4)) dNil))) 3) (dIfS (dAnd (dTest (dOp dEq (dVar 3) (dC (.int 0)))) (dTest (dOp (dI0 fun i j => .bl (decide (i < j))) (dVar 2) (dC (.int 3))))) (dAsg (dOp dIx (dLst (dCons (dC .non) (dCons (dC (.int 7)) dNil))) (dCall sp__law_take [] (dCons (dVar 0) (dCons (dC (.int 2)) dNil)))) (gIx (dVar 1) (dVar 2))) (dIfS (dTest (dOp dEq (dVar 3) (dC (.int 1)))) (dAsg (dSl dCut (dOp dIx (dVar 1) (dVar 2)) dNoPart (dPart (dUn dNeg (dC (.int 1))))) (gIx (dVar 1) (dVar 2))) (dIfS (dTest (dOp dEq (dVar 3) (dC (.int 2)))) (dAsg (dOp dAdd (dOp dIx (dVar 1) (dVar 2)) (dSl dCut (dOp dIx (dVar 1) (dVar 2)) dNoPart (dPart (dC (.int 1))))) (gIx (dVar 1) (dVar 2))) (dIfS (dTest (dOp dEq (dVar 3) (dC (.int 3)))) (dFor (wRng1 (dCons (dC (.int 4)) dNil)) (gNm 4) (dAsg (dSl dCut (dOp dIx (dVar 1) (dVar 4)) dNoPart (dPart (dC (.int 0)))) (gIx (dVar 1) (dVar 4)))) dNext))))))
theorem dv__law_bend_whole (T : Txt P K mg) {k : Nat} {sp__law_take : DSp} (F__law_take : DFn P w K mg base k T.f__law_take T.d__law_take ps__law_take sp__law_take) (cdv : Value) (A : Around) (outer : List Env) (s : Shared) (H : Hp) (E : XK) (hr : Room (k + 2) (A.deeper (envOfC "_law_bend_whole" (defScope st__law_bend_whole) s.heap.objs.size T.f__law_bend_whole cdv))) :
    DPSs (cxOf (L2N.CX P w) P w K mg base N__law_bend_whole "_law_bend_whole" (defScope st__law_bend_whole) T.f__law_bend_whole cdv A outer s H E) (WE0 E) (defBody st__law_bend_whole) (rd__law_bend_whole T sp__law_take) := by
  have hu64 := hu64_of hr
  have hr0 := hr.mono (Nat.le_add_right k 2)
  exact (ds_cons (ds_set (i := 2) sc__law_bend_whole.nd rfl (Or.inl rfl) (d_call F__law_take hr0 takesE T.g__law_take T.k__law_take T.b__law_take .nil (fun _ => rfl) (da_cons (d_var 0) (da_cons d_int da_nil)))) (ds_cons (ds_set (i := 3) sc__law_bend_whole.nd rfl (Or.inl rfl) (d_call F__law_take hr0 takesE T.g__law_take T.k__law_take T.b__law_take .nil (fun _ => rfl) (da_cons (d_var 0) (da_cons d_int da_nil)))) (ds_one (ds_if (dw_pt (dw_and (dt_cmp (dop_eq hu64) (d_var 3) d_int rfl) (dw_and1 (dt_cmp dop_lt (d_var 2) d_int rfl)))) (ds_one (ds_asg (d_ix dix (d_lst (da_cons d_non (da_cons d_int da_nil))) (d_call F__law_take hr0 takesE T.g__law_take T.k__law_take T.b__law_take .nil (fun _ => rfl) (da_cons (d_var 0) (da_cons d_int da_nil)))) (dg_ix (d_var 1) (d_var 2)))) (ds_one (ds_if (dt_cmp (dop_eq hu64) (d_var 3) d_int rfl) (ds_one (ds_asg (d_slice dsl (d_ix dix (d_var 1) (d_var 2)) do_none (do_some (d_un dun_neg d_int))) (dg_ix (d_var 1) (d_var 2)))) (ds_one (ds_if (dt_cmp (dop_eq hu64) (d_var 3) d_int rfl) (ds_one (ds_asg (d_op dop_add (d_ix dix (d_var 1) (d_var 2)) (d_slice dsl (d_ix dix (d_var 1) (d_var 2)) do_none (do_some d_int))) (dg_ix (d_var 1) (d_var 2)))) (ds_one (ds_if (dt_cmp (dop_eq hu64) (d_var 3) d_int rfl) (ds_one (ds_for passesE rfl (di_rng1 rfl T.z_range (da_cons d_int da_nil)) (dg_name (i := 4) sc__law_bend_whole.nd rfl (Or.inl rfl)) (ds_one (ds_asg (d_slice dsl (d_ix dix (d_var 1) (d_var 4)) do_none (do_some d_int)) (dg_ix (d_var 1) (d_var 4)))))) ds_nil))))))))))
theorem fn__law_bend_whole (T : Txt P K mg) {k : Nat} {sp__law_take : DSp} (F__law_take : DFn P w K mg base k T.f__law_take T.d__law_take ps__law_take sp__law_take) {sp : DSp} (len : ∀ ds Hd Q E, sp ds Hd Q E → ds.length = 2) (h : ∀ ds Hd Q Ed, sp ds Hd Q Ed → rd__law_bend_whole T sp__law_take (endsOf Q Ed) (startD N__law_bend_whole ds) Hd) : DFn P w K mg base (k + 3) T.f__law_bend_whole T.d__law_bend_whole ps__law_bend_whole sp :=
  dfun T.F__law_bend_whole sc__law_bend_whole len fun cdv A outer s H E hr => ⟨_, dv__law_bend_whole T F__law_take cdv A outer s H E hr, h⟩
def rd__law_given (T : Txt P K mg) : DTS := (dSeq (dIfS (dTest (dOp dEq (dVar 1) (dC (.int 0)))) (dRet (dLst (dCons (dCB dListOf (dCons (dOp dIx (dVar 0) (dC (.int 0))) dNil)) (dCons (dCB dListOf (dCons (dOp dIx (dVar 0) (dC (.int 1))) dNil)) (dCons (dLc (wSeq (dOp dIx (dVar 0) (dC (.int 2)))) (gNm 3) dYes (dCB dTupleOf (dCons (dVar 3) dNil)) [3]) (dCons (dCB dListOf (dCons (dOp dIx (dVar 0) (dC (.int 3))) dNil)) dNil)))))) dNext) (dSeq (dSet (dLst dNil) 2) (dSeq (dFor (wSeq (dOp dIx (dVar 0) (dC (.int 2)))) (gNm 3) (dDrop (dBM "list" dApp (dVar 2) (dCons (dLc (wSeq (dVar 3)) (gNm 5) dYes (dLst (dCons (dOp dIx (dVar 5) (dC (.int 0))) (dCons (dCB dListOf (dCons (dOp dIx (dVar 5) (dC (.int 1))) dNil)) dNil))) [5]) dNil)))) (dRet (dLst (dCons (dCB dListOf (dCons (dOp dIx (dVar 0) (dC (.int 0))) dNil)) (dCons (dCB dListOf (dCons (dOp dIx (dVar 0) (dC (.int 1))) dNil)) (dCons (dVar 2) (dCons (dLc (wSeq (dOp dIx (dVar 0) (dC (.int 3)))) (gNm 4) dYes (dCB dListOf (dCons (dVar 4) dNil)) [4]) dNil)))))))))
theorem dv__law_given (T : Txt P K mg) {k : Nat} (cdv : Value) (A : Around) (outer : List Env) (s : Shared) (H : Hp) (E : XK) (hr : Room (k + 2) (A.deeper (envOfC "_law_given" (defScope st__law_given) s.heap.objs.size T.f__law_given cdv))) :
    DPSs (cxOf (L2N.CX P w) P w K mg base N__law_given "_law_given" (defScope st__law_given) T.f__law_given cdv A outer s H E) (WE0 E) (defBody st__law_given) (rd__law_given T) := by
  have hu64 := hu64_of hr
  exact (ds_cons (ds_if (dt_cmp (dop_eq hu64) (d_var 1) d_int rfl) (ds_one (ds_ret (d_lst (da_cons (d_callTy dcl_list rfl T.z_list bt_list (da_cons (d_ix dix (d_var 0) d_int) da_nil)) (da_cons (d_callTy dcl_list rfl T.z_list bt_list (da_cons (d_ix dix (d_var 0) d_int) da_nil)) (da_cons (d_lc (own := [("row", 3)]) rfl sc__law_given.nd (di_seq (d_ix dix (d_var 0) d_int)) (blkOk_by (N := N__law_given) (sc := defScope st__law_given) (own := [("row", 3)]) (by decide +kernel)) (fun _ _ _ _ _ => (dgo_name (i := 3) sc__law_given.nd rfl (Or.inl rfl))) (fun _ _ _ _ _ => dts_nil) (fun _ _ _ _ _ => (d_callTy dcl_tuple rfl T.z_tuple bt_tuple (da_cons (d_var 3) da_nil)))) (da_cons (d_callTy dcl_list rfl T.z_list bt_list (da_cons (d_ix dix (d_var 0) d_int) da_nil)) da_nil))))))) ds_nil) (ds_cons (ds_set (i := 2) sc__law_given.nd rfl (Or.inl rfl) (d_lst da_nil)) (ds_cons (ds_for passesE rfl (di_seq (d_ix dix (d_var 0) d_int)) (dg_name (i := 3) sc__law_given.nd rfl (Or.inl rfl)) (ds_one (ds_expr (d_bm pla_list sl_list_append ty_list_append dmt_append (d_var 2) (da_cons (d_lc (own := [("move", 5)]) rfl sc__law_given.nd (di_seq (d_var 3)) (blkOk_by (N := N__law_given) (sc := defScope st__law_given) (own := [("move", 5)]) (by decide +kernel)) (fun _ _ _ _ _ => (dgo_name (i := 5) sc__law_given.nd rfl (Or.inl rfl))) (fun _ _ _ _ _ => dts_nil) (fun _ _ _ _ _ => (d_lst (da_cons (d_ix dix (d_var 5) d_int) (da_cons (d_callTy dcl_list rfl T.z_list bt_list (da_cons (d_ix dix (d_var 5) d_int) da_nil)) da_nil))))) da_nil))))) (ds_one (ds_ret (d_lst (da_cons (d_callTy dcl_list rfl T.z_list bt_list (da_cons (d_ix dix (d_var 0) d_int) da_nil)) (da_cons (d_callTy dcl_list rfl T.z_list bt_list (da_cons (d_ix dix (d_var 0) d_int) da_nil)) (da_cons (d_var 2) (da_cons (d_lc (own := [("names", 4)]) rfl sc__law_given.nd (di_seq (d_ix dix (d_var 0) d_int)) (blkOk_by (N := N__law_given) (sc := defScope st__law_given) (own := [("names", 4)]) (by decide +kernel)) (fun _ _ _ _ _ => (dgo_name (i := 4) sc__law_given.nd rfl (Or.inl rfl))) (fun _ _ _ _ _ => dts_nil) (fun _ _ _ _ _ => (d_callTy dcl_list rfl T.z_list bt_list (da_cons (d_var 4) da_nil)))) da_nil))))))))))
theorem fn__law_given (T : Txt P K mg) {k : Nat} {sp : DSp} (len : ∀ ds Hd Q E, sp ds Hd Q E → ds.length = 2) (h : ∀ ds Hd Q Ed, sp ds Hd Q Ed → rd__law_given T (endsOf Q Ed) (startD N__law_given ds) Hd) : DFn P w K mg base (k + 3) T.f__law_given T.d__law_given ps__law_given sp :=
  dfun T.F__law_given sc__law_given len fun cdv A outer s H E hr => ⟨_, dv__law_given T cdv A outer s H E hr, h⟩
def rd__law_told (T : Txt P K mg) (sp_Board_init : DSp) : DTS := (dSeq (dTry (fun C => PySem.W.exmOne K (.ref C) (.ref T.C_EverplayError)) 2 (dSeq (dIfS (dTest (dVar 1)) (dRet (dTup (dCons (dC (.str "board")) (dCons (dMake T.C_Board sp_Board_init [.tup []] (dCons (dOp dIx (dVar 0) (dC (.int 0))) (dCons (dOp dIx (dVar 0) (dC (.int 1))) (dCons (dOp dIx (dVar 0) (dC (.int 2))) dNil)))) dNil)))) dNext) (dRet (dTup (dCons (dC (.str "board")) (dCons (dMake T.C_Board sp_Board_init [] (dCons (dOp dIx (dVar 0) (dC (.int 0))) (dCons (dOp dIx (dVar 0) (dC (.int 1))) (dCons (dOp dIx (dVar 0) (dC (.int 2))) (dCons (dOp dIx (dVar 0) (dC (.int 3))) dNil))))) dNil))))) (fun a cls d => (dIfS (dAnd (dTest (dCB (dIsE K T.C_InvalidBoard a d cls) (dCons (dVar 2) (dCons (dC (.ty "ValueError")) dNil)))) (dTest (dCB (dIsE K T.C_InvalidBoard a d cls) (dCons (dVar 2) (dCons (dC (.ref T.C_InvalidBoard)) dNil))))) (dRet (dTup (dCons (dC (.str "place")) (dCons (dXf a T.C_InvalidBoard d cls "place" (dVar 2)) dNil)))) dNext))) (dRet (dTup (dCons (dC (.str "other")) (dCons (dC (.int 0)) dNil)))))
theorem dv__law_told (T : Txt P K mg) {k : Nat} {sp_Board_init : DSp} (F_Board_init : DFn P w K mg base k T.f_Board_init T.d_Board_init ps_Board_init sp_Board_init) (cdv : Value) (A : Around) (outer : List Env) (s : Shared) (H : Hp) (E : XK) (hr : Room (k + 2) (A.deeper (envOfC "_law_told" (defScope st__law_told) s.heap.objs.size T.f__law_told cdv))) :
    DPSs (cxOf (L2N.CX P w) P w K mg base N__law_told "_law_told" (defScope st__law_told) T.f__law_told cdv A outer s H E) (WE0 E) (defBody st__law_told) (rd__law_told T sp_Board_init) := by
  have hr1 := hr.mono (Nat.le_succ (k + 1))
  exact (ds_cons (ds_try (i := 2) rfl rfl sc__law_told.nd rfl rfl ⟨rfl, by decide, (.inl T.g_EverplayError)⟩ takesE (fun W' pn xe tk' ps => (ds_cons (ds_if (dt_val (d_var 1)) (ds_one (ds_ret (d_tup (da_cons d_str (da_cons (d_makeD T.M_Board F_Board_init hr1 tk' T.g_Board T.D_Board_init (da_cons (d_ix dix (d_var 0) d_int) (da_cons (d_ix dix (d_var 0) d_int) (da_cons (d_ix dix (d_var 0) d_int) da_nil)))) da_nil))))) ds_nil) (ds_one (ds_ret (d_tup (da_cons d_str (da_cons (d_make T.M_Board F_Board_init hr1 tk' T.g_Board T.b_Board_init .nil (fun _ => rfl) (da_cons (d_ix dix (d_var 0) d_int) (da_cons (d_ix dix (d_var 0) d_int) (da_cons (d_ix dix (d_var 0) d_int) (da_cons (d_ix dix (d_var 0) d_int) da_nil))))) da_nil))))))) (fun a oe cls d pn hz hf => (ds_one (ds_if (dw_pt (dw_and (dt_val (d_callB (dcl_isE T.s_InvalidBoard hz hf) rfl T.z_isinstance bt_isinstance (da_cons (d_var 2) (da_cons (d_ty rfl T.z_ValueError bt_ValueError) da_nil)))) (dw_and1 (dt_val (d_callB (dcl_isE T.s_InvalidBoard hz hf) rfl T.z_isinstance bt_isinstance (da_cons (d_var 2) (da_cons (d_cls rfl T.g_InvalidBoard) da_nil))))))) (ds_one (ds_ret (d_tup (da_cons d_str (da_cons (d_xf T.x_InvalidBoard T.n_InvalidBoard_place hz hf (d_var 2)) da_nil))))) ds_nil)))) (ds_one (ds_ret (d_tup (da_cons d_str (da_cons d_int da_nil))))))
theorem fn__law_told (T : Txt P K mg) {k : Nat} {sp_Board_init : DSp} (F_Board_init : DFn P w K mg base k T.f_Board_init T.d_Board_init ps_Board_init sp_Board_init) {sp : DSp} (len : ∀ ds Hd Q E, sp ds Hd Q E → ds.length = 2) (h : ∀ ds Hd Q Ed, sp ds Hd Q Ed → rd__law_told T sp_Board_init (endsOf Q Ed) (startD N__law_told ds) Hd) : DFn P w K mg base (k + 3) T.f__law_told T.d__law_told ps__law_told sp :=
  dfun T.F__law_told sc__law_told len fun cdv A outer s H E hr => ⟨_, dv__law_told T F_Board_init cdv A outer s H E hr, h⟩
def rd__law_spoil_row (T : Txt P K mg) : DTS := (dSeq (dFor (wSeq (dVar 0)) (gNm 1) (dIfS (dTest (dCB (dIsi K) (dCons (dVar 1) (dCons (dC (.ty "list")) dNil)))) (dSeq (dDrop (dBM "list" dApp (dOp dIx (dVar 1) (dC (.int 1))) (dCons (dC (.int 0)) dNil))) (dDrop (dBM "list" dApp (dVar 1) (dCons (dC (.int 0)) dNil)))) dNext)) (dDrop (dBM "list" dApp (dVar 0) (dCons (dC (.int 0)) dNil))))
theorem dv__law_spoil_row (T : Txt P K mg) {k : Nat} (cdv : Value) (A : Around) (outer : List Env) (s : Shared) (H : Hp) (E : XK) (hr : Room (k + 2) (A.deeper (envOfC "_law_spoil_row" (defScope st__law_spoil_row) s.heap.objs.size T.f__law_spoil_row cdv))) :
    DPSs (cxOf (L2N.CX P w) P w K mg base N__law_spoil_row "_law_spoil_row" (defScope st__law_spoil_row) T.f__law_spoil_row cdv A outer s H E) (WE0 E) (defBody st__law_spoil_row) (rd__law_spoil_row T) := by
  exact (ds_cons (ds_for passesE rfl (di_seq (d_var 0)) (dg_name (i := 1) sc__law_spoil_row.nd rfl (Or.inl rfl)) (ds_one (ds_if (dt_val (d_callB dcl_isi rfl T.z_isinstance bt_isinstance (da_cons (d_var 1) (da_cons (d_ty rfl T.z_list bt_list) da_nil)))) (ds_cons (ds_expr (d_bm pla_list sl_list_append ty_list_append dmt_append (d_ix dix (d_var 1) d_int) (da_cons d_int da_nil))) (ds_one (ds_expr (d_bm pla_list sl_list_append ty_list_append dmt_append (d_var 1) (da_cons d_int da_nil))))) ds_nil))) (ds_one (ds_expr (d_bm pla_list sl_list_append ty_list_append dmt_append (d_var 0) (da_cons d_int da_nil)))))
theorem fn__law_spoil_row (T : Txt P K mg) {k : Nat} {sp : DSp} (len : ∀ ds Hd Q E, sp ds Hd Q E → ds.length = 1) (h : ∀ ds Hd Q Ed, sp ds Hd Q Ed → rd__law_spoil_row T (endsOf Q Ed) (startD N__law_spoil_row ds) Hd) : DFn P w K mg base (k + 3) T.f__law_spoil_row T.d__law_spoil_row ps__law_spoil_row sp :=
  dfun T.F__law_spoil_row sc__law_spoil_row len fun cdv A outer s H E hr => ⟨_, dv__law_spoil_row T cdv A outer s H E hr, h⟩
def rd__law_spoil (T : Txt P K mg) (sp__law_spoil_row : DSp) : DTS := (dFor (wRng1 (dCons (dC (.int 4)) dNil)) (gNm 1) (dIfS (dTest (dCB (dIsi K) (dCons (dOp dIx (dVar 0) (dVar 1)) (dCons (dC (.ty "list")) dNil)))) (dSeq (dFor (wSeq (dOp dIx (dVar 0) (dVar 1))) (gNm 2) (dIfS (dTest (dCB (dIsi K) (dCons (dVar 2) (dCons (dC (.ty "list")) dNil)))) (dDrop (dCall sp__law_spoil_row [] (dCons (dVar 2) dNil))) dNext)) (dDrop (dBM "list" dApp (dOp dIx (dVar 0) (dVar 1)) (dCons (dC (.int 0)) dNil)))) dNext))
theorem dv__law_spoil (T : Txt P K mg) {k : Nat} {sp__law_spoil_row : DSp} (F__law_spoil_row : DFn P w K mg base k T.f__law_spoil_row T.d__law_spoil_row ps__law_spoil_row sp__law_spoil_row) (cdv : Value) (A : Around) (outer : List Env) (s : Shared) (H : Hp) (E : XK) (hr : Room (k + 2) (A.deeper (envOfC "_law_spoil" (defScope st__law_spoil) s.heap.objs.size T.f__law_spoil cdv))) :
    DPSs (cxOf (L2N.CX P w) P w K mg base N__law_spoil "_law_spoil" (defScope st__law_spoil) T.f__law_spoil cdv A outer s H E) (WE0 E) (defBody st__law_spoil) (rd__law_spoil T sp__law_spoil_row) := by
  have hr0 := hr.mono (Nat.le_add_right k 2)
  exact (ds_one (ds_for passesE rfl (di_rng1 rfl T.z_range (da_cons d_int da_nil)) (dg_name (i := 1) sc__law_spoil.nd rfl (Or.inl rfl)) (ds_one (ds_if (dt_val (d_callB dcl_isi rfl T.z_isinstance bt_isinstance (da_cons (d_ix dix (d_var 0) (d_var 1)) (da_cons (d_ty rfl T.z_list bt_list) da_nil)))) (ds_cons (ds_for passesE rfl (di_seq (d_ix dix (d_var 0) (d_var 1))) (dg_name (i := 2) sc__law_spoil.nd rfl (Or.inl rfl)) (ds_one (ds_if (dt_val (d_callB dcl_isi rfl T.z_isinstance bt_isinstance (da_cons (d_var 2) (da_cons (d_ty rfl T.z_list bt_list) da_nil)))) (ds_one (ds_expr (d_call F__law_spoil_row hr0 takesE T.g__law_spoil_row T.k__law_spoil_row T.b__law_spoil_row .nil (fun _ => rfl) (da_cons (d_var 2) da_nil)))) ds_nil))) (ds_one (ds_expr (d_bm pla_list sl_list_append ty_list_append dmt_append (d_ix dix (d_var 0) (d_var 1)) (da_cons d_int da_nil))))) ds_nil))))
theorem fn__law_spoil (T : Txt P K mg) {k : Nat} {sp__law_spoil_row : DSp} (F__law_spoil_row : DFn P w K mg base k T.f__law_spoil_row T.d__law_spoil_row ps__law_spoil_row sp__law_spoil_row) {sp : DSp} (len : ∀ ds Hd Q E, sp ds Hd Q E → ds.length = 1) (h : ∀ ds Hd Q Ed, sp ds Hd Q Ed → rd__law_spoil T sp__law_spoil_row (endsOf Q Ed) (startD N__law_spoil ds) Hd) : DFn P w K mg base (k + 3) T.f__law_spoil T.d__law_spoil ps__law_spoil sp :=
  dfun T.F__law_spoil sc__law_spoil len fun cdv A outer s H E hr => ⟨_, dv__law_spoil T F__law_spoil_row cdv A outer s H E hr, h⟩
def rd__law_right (T : Txt P K mg) (sp__law_fault : DSp) (sp__law_frozen : DSp) (sp__law_told : DSp) (sp__law_same : DSp) (sp__law_is_board : DSp) (sp__law_spoil : DSp) (sp_Board_width : DSp) : DTS := (dSeq (dSet (dCall sp__law_fault [] (dCons (dVar 0) dNil)) 3) (dSeq (dIfS (dTest (dOp dEq (dVar 1) (dC (.int 0)))) (dFor (wRng1 (dCons (dC (.int 4)) dNil)) (gNm 6) (dIfS (dTest (dCB (dIsi K) (dCons (dOp dIx (dVar 0) (dVar 6)) (dCons (dC (.ty "list")) dNil)))) (dAsg (dCB dTupleOf (dCons (dOp dIx (dVar 0) (dVar 6)) dNil)) (gIx (dVar 0) (dVar 6))) dNext)) dNext) (dSeq (dSet (dC .non) 4) (dSeq (dIfS (dTest (dOp dIsN (dVar 3) (dC .non))) (dSet (dCall sp__law_frozen [] (dCons (dVar 0) dNil)) 4) dNext) (dSeq (dSet (dCall sp__law_told [] (dCons (dVar 0) (dCons (dAndV (dOp dEq (dVar 2) (dC (.int 1))) (dOp dEq (dCB dLen (dCons (dOp dIx (dVar 0) (dC (.int 3))) dNil)) (dC (.int 0)))) dNil))) 5) (dSeq (dIfS (dTest (dOp dNotN (dVar 3) (dC .non))) (dRet (dAndV (dOp dEq (dOp dIx (dVar 5) (dC (.int 0))) (dC (.str "place"))) (dCall sp__law_same [] (dCons (dOp dIx (dVar 5) (dC (.int 1))) (dCons (dVar 3) dNil))))) dNext) (dSeq (dIfS (dOr (dTest (dOp dNe (dOp dIx (dVar 5) (dC (.int 0))) (dC (.str "board")))) (dNot (dTest (dCall sp__law_is_board [] (dCons (dOp dIx (dVar 5) (dC (.int 1))) (dCons (dVar 4) dNil)))))) (dRet (dC (.bl false))) dNext) (dSeq (dDrop (dCall sp__law_spoil [] (dCons (dVar 0) dNil))) (dRet (dAndV (dCall sp__law_is_board [] (dCons (dOp dIx (dVar 5) (dC (.int 1))) (dCons (dVar 4) dNil))) (dCall sp__law_same [] (dCons (dProp T.C_Board sp_Board_width (dOp dIx (dVar 5) (dC (.int 1)))) (dCons (dCB dLen (dCons (dOp dIx (dOp dIx (dOp dIx (dOp dIx (dVar 4) (dC (.int 2))) (dC (.int 0))) (dC (.int 0))) (dC (.int 1))) dNil)) dNil)))))))))))))
theorem dv__law_right (T : Txt P K mg) {k : Nat} {sp__law_fault : DSp} {sp__law_frozen : DSp} {sp__law_told : DSp} {sp__law_same : DSp} {sp__law_is_board : DSp} {sp__law_spoil : DSp} {sp_Board_width : DSp} (F__law_fault : DFn P w K mg base k T.f__law_fault T.d__law_fault ps__law_fault sp__law_fault) (F__law_frozen : DFn P w K mg base k T.f__law_frozen T.d__law_frozen ps__law_frozen sp__law_frozen) (F__law_told : DFn P w K mg base k T.f__law_told T.d__law_told ps__law_told sp__law_told) (F__law_same : DFn P w K mg base k T.f__law_same T.d__law_same ps__law_same sp__law_same) (F__law_is_board : DFn P w K mg base k T.f__law_is_board T.d__law_is_board ps__law_is_board sp__law_is_board) (F__law_spoil : DFn P w K mg base k T.f__law_spoil T.d__law_spoil ps__law_spoil sp__law_spoil) (F_Board_width : DFn P w K mg base k T.f_Board_width T.d_Board_width ps_Board_width sp_Board_width) (cdv : Value) (A : Around) (outer : List Env) (s : Shared) (H : Hp) (E : XK) (hr : Room (k + 2) (A.deeper (envOfC "_law_right" (defScope st__law_right) s.heap.objs.size T.f__law_right cdv))) :
    DPSs (cxOf (L2N.CX P w) P w K mg base N__law_right "_law_right" (defScope st__law_right) T.f__law_right cdv A outer s H E) (WE0 E) (defBody st__law_right) (rd__law_right T sp__law_fault sp__law_frozen sp__law_told sp__law_same sp__law_is_board sp__law_spoil sp_Board_width) := by
  have hu64 := hu64_of hr
  have hr0 := hr.mono (Nat.le_add_right k 2)
  have hr1 := hr.mono (Nat.le_succ (k + 1))
  exact (ds_cons (ds_set (i := 3) sc__law_right.nd rfl (Or.inl rfl) (d_call F__law_fault hr0 takesE T.g__law_fault T.k__law_fault T.b__law_fault .nil (fun _ => rfl) (da_cons (d_var 0) da_nil))) (ds_cons (ds_if (dt_cmp (dop_eq hu64) (d_var 1) d_int rfl) (ds_one (ds_for passesE rfl (di_rng1 rfl T.z_range (da_cons d_int da_nil)) (dg_name (i := 6) sc__law_right.nd rfl (Or.inl rfl)) (ds_one (ds_if (dt_val (d_callB dcl_isi rfl T.z_isinstance bt_isinstance (da_cons (d_ix dix (d_var 0) (d_var 6)) (da_cons (d_ty rfl T.z_list bt_list) da_nil)))) (ds_one (ds_asg (d_callTy dcl_tuple rfl T.z_tuple bt_tuple (da_cons (d_ix dix (d_var 0) (d_var 6)) da_nil)) (dg_ix (d_var 0) (d_var 6)))) ds_nil)))) ds_nil) (ds_cons (ds_set (i := 4) sc__law_right.nd rfl (Or.inl rfl) d_non) (ds_cons (ds_if (dt_cmp dop_isN (d_var 3) d_non rfl) (ds_one (ds_set (i := 4) sc__law_right.nd rfl (Or.inl rfl) (d_call F__law_frozen hr0 takesE T.g__law_frozen T.k__law_frozen T.b__law_frozen .nil (fun _ => rfl) (da_cons (d_var 0) da_nil)))) ds_nil) (ds_cons (ds_set (i := 5) sc__law_right.nd rfl (Or.inl rfl) (d_call F__law_told hr0 takesE T.g__law_told T.k__law_told T.b__law_told .nil (fun _ => rfl) (da_cons (d_var 0) (da_cons (d_and (d_cmp (dop_eq hu64) (d_var 2) d_int rfl) (d_one (d_cmp (dop_eq hu64) (d_callB dcl_len rfl T.z_len bt_len (da_cons (d_ix dix (d_var 0) d_int) da_nil)) d_int rfl))) da_nil)))) (ds_cons (ds_if (dt_cmp dop_notN (d_var 3) d_non rfl) (ds_one (ds_ret (d_and (d_cmp (dop_eq hu64) (d_ix dix (d_var 5) d_int) d_str rfl) (d_one (d_call F__law_same hr0 takesE T.g__law_same T.k__law_same T.b__law_same .nil (fun _ => rfl) (da_cons (d_ix dix (d_var 5) d_int) (da_cons (d_var 3) da_nil))))))) ds_nil) (ds_cons (ds_if (dw_pt (dw_or (dt_cmp (dop_ne hu64) (d_ix dix (d_var 5) d_int) d_str rfl) (dw_or1 (dt_not (dt_val (d_call F__law_is_board hr0 takesE T.g__law_is_board T.k__law_is_board T.b__law_is_board .nil (fun _ => rfl) (da_cons (d_ix dix (d_var 5) d_int) (da_cons (d_var 4) da_nil)))))))) (ds_one (ds_ret d_bl)) ds_nil) (ds_cons (ds_expr (d_call F__law_spoil hr0 takesE T.g__law_spoil T.k__law_spoil T.b__law_spoil .nil (fun _ => rfl) (da_cons (d_var 0) da_nil))) (ds_one (ds_ret (d_and (d_call F__law_is_board hr0 takesE T.g__law_is_board T.k__law_is_board T.b__law_is_board .nil (fun _ => rfl) (da_cons (d_ix dix (d_var 5) d_int) (da_cons (d_var 4) da_nil))) (d_one (d_call F__law_same hr0 takesE T.g__law_same T.k__law_same T.b__law_same .nil (fun _ => rfl) (da_cons (d_prop (d_ix dix (d_var 5) d_int) T.c_Board T.p_Board_width.choose_spec F_Board_width hr1 T.b_Board_width) (da_cons (d_callB dcl_len rfl T.z_len bt_len (da_cons (d_ix dix (d_ix dix (d_ix dix (d_ix dix (d_var 4) d_int) d_int) d_int) d_int) da_nil)) da_nil)))))))))))))))
theorem fn__law_right (T : Txt P K mg) {k : Nat} {sp__law_fault : DSp} {sp__law_frozen : DSp} {sp__law_told : DSp} {sp__law_same : DSp} {sp__law_is_board : DSp} {sp__law_spoil : DSp} {sp_Board_width : DSp} (F__law_fault : DFn P w K mg base k T.f__law_fault T.d__law_fault ps__law_fault sp__law_fault) (F__law_frozen : DFn P w K mg base k T.f__law_frozen T.d__law_frozen ps__law_frozen sp__law_frozen) (F__law_told : DFn P w K mg base k T.f__law_told T.d__law_told ps__law_told sp__law_told) (F__law_same : DFn P w K mg base k T.f__law_same T.d__law_same ps__law_same sp__law_same) (F__law_is_board : DFn P w K mg base k T.f__law_is_board T.d__law_is_board ps__law_is_board sp__law_is_board) (F__law_spoil : DFn P w K mg base k T.f__law_spoil T.d__law_spoil ps__law_spoil sp__law_spoil) (F_Board_width : DFn P w K mg base k T.f_Board_width T.d_Board_width ps_Board_width sp_Board_width) {sp : DSp} (len : ∀ ds Hd Q E, sp ds Hd Q E → ds.length = 3) (h : ∀ ds Hd Q Ed, sp ds Hd Q Ed → rd__law_right T sp__law_fault sp__law_frozen sp__law_told sp__law_same sp__law_is_board sp__law_spoil sp_Board_width (endsOf Q Ed) (startD N__law_right ds) Hd) : DFn P w K mg base (k + 3) T.f__law_right T.d__law_right ps__law_right sp :=
  dfun T.F__law_right sc__law_right len fun cdv A outer s H E hr => ⟨_, dv__law_right T F__law_fault F__law_frozen F__law_told F__law_same F__law_is_board F__law_spoil F_Board_width cdv A outer s H E hr, h⟩
def rd_law (T : Txt P K mg) (sp__law_bag : DSp) (sp__law_take : DSp) (sp__law_world : DSp) (sp__law_size : DSp) (sp__law_grow : DSp) (sp__law_right : DSp) (sp__law_given : DSp) (sp__law_bend : DSp) (sp__law_bend_whole : DSp) (sp__law_same : DSp) : DTS := (dSeq (dSet (dCall sp__law_bag [] (dCons (dVar 0) dNil)) 1) (dSeq (dSet (dCall sp__law_take [] (dCons (dVar 1) (dCons (dC (.int 3)) dNil))) 2) (dSeq (dSet (dCall sp__law_take [] (dCons (dVar 1) (dCons (dC (.int 4)) dNil))) 3) (dSeq (dSet (dCall sp__law_take [] (dCons (dVar 1) (dCons (dC (.int 12)) dNil))) 4) (dSeq (dSet (dCall sp__law_take [] (dCons (dVar 1) (dCons (dC (.int 2)) dNil))) 5) (dSeq (dSet (dCall sp__law_take [] (dCons (dVar 1) (dCons (dC (.int 4)) dNil))) 6) (dSeq (dSet (dCall sp__law_take [] (dCons (dVar 1) (dCons (dC (.int 2)) dNil))) 7) (dSeq (dSet (dCall sp__law_world [] (dCons (dVar 1) (dCons (dCall sp__law_size [] (dCons (dVar 1) dNil)) (dCons (dCall sp__law_take [] (dCons (dVar 1) (dCons (dC (.int 4)) dNil))) (dCons (dC (.int 8)) dNil))))) 8) (dSeq (dIfS (dTest (dOp dEq (dVar 4) (dC (.int 1)))) (dDrop (dCall sp__law_grow [] (dCons (dVar 8) (dCons (dOp dAdd (dC (.int 399)) (dCall sp__law_take [] (dCons (dVar 1) (dCons (dC (.int 3)) dNil)))) dNil)))) dNext) (dSeq (dIfS (dNot (dTest (dCall sp__law_right [] (dCons (dCall sp__law_given [] (dCons (dVar 8) (dCons (dVar 5) dNil))) (dCons (dVar 5) (dCons (dVar 7) dNil)))))) (dRet (dC (.bl false))) dNext) (dSeq (dSet (dCall sp__law_given [] (dCons (dVar 8) (dCons (dVar 5) dNil))) 9) (dSeq (dIfS (dTest (dOp dEq (dVar 6) (dC (.int 1)))) (dAsg (dLst dNil) (gIx (dVar 9) (dC (.int 3)))) dNext) (dSeq (dFor (wRng1 (dCons (dVar 2) dNil)) (gNm 10) (dDrop (dCall sp__law_bend [] (dCons (dVar 1) (dCons (dVar 9) (dCons (dVar 8) dNil)))))) (dSeq (dIfS (dTest (dOp dEq (dVar 3) (dC (.int 1)))) (dDrop (dCall sp__law_bend_whole [] (dCons (dVar 1) (dCons (dVar 9) dNil)))) dNext) (dSeq (dIfS (dNot (dTest (dCall sp__law_right [] (dCons (dVar 9) (dCons (dVar 5) (dCons (dVar 7) dNil)))))) (dRet (dC (.bl false))) dNext) (dSeq (dSet (dTup (dCons (dC (.int 400)) (dCons (dC (.int 9)) (dCons (dC (.int 99)) (dCons (dC (.int 3)) dNil))))) 11) (dSeq (dIfS (dNot (dTest (dCall sp__law_same [] (dCons (dVar 11) (dCons (dTup (dCons (dC (.int 400)) (dCons (dC (.int 9)) (dCons (dC (.int 99)) (dCons (dC (.int 3)) dNil))))) dNil))))) (dRet (dC (.bl false))) dNext) (dRet (dCall sp__law_right [] (dCons (dCall sp__law_given [] (dCons (dVar 8) (dCons (dVar 5) dNil))) (dCons (dVar 5) (dCons (dVar 7) dNil))))))))))))))))))))))
theorem dv_law (T : Txt P K mg) {k : Nat} {sp__law_bag : DSp} {sp__law_take : DSp} {sp__law_world : DSp} {sp__law_size : DSp} {sp__law_grow : DSp} {sp__law_right : DSp} {sp__law_given : DSp} {sp__law_bend : DSp} {sp__law_bend_whole : DSp} {sp__law_same : DSp} (F__law_bag : DFn P w K mg base k T.f__law_bag T.d__law_bag ps__law_bag sp__law_bag) (F__law_take : DFn P w K mg base k T.f__law_take T.d__law_take ps__law_take sp__law_take) (F__law_world : DFn P w K mg base k T.f__law_world T.d__law_world ps__law_world sp__law_world) (F__law_size : DFn P w K mg base k T.f__law_size T.d__law_size ps__law_size sp__law_size) (F__law_grow : DFn P w K mg base k T.f__law_grow T.d__law_grow ps__law_grow sp__law_grow) (F__law_right : DFn P w K mg base k T.f__law_right T.d__law_right ps__law_right sp__law_right) (F__law_given : DFn P w K mg base k T.f__law_given T.d__law_given ps__law_given sp__law_given) (F__law_bend : DFn P w K mg base k T.f__law_bend T.d__law_bend ps__law_bend sp__law_bend) (F__law_bend_whole : DFn P w K mg base k T.f__law_bend_whole T.d__law_bend_whole ps__law_bend_whole sp__law_bend_whole) (F__law_same : DFn P w K mg base k T.f__law_same T.d__law_same ps__law_same sp__law_same) (cdv : Value) (A : Around) (outer : List Env) (s : Shared) (H : Hp) (E : XK) (hr : Room (k + 2) (A.deeper (envOfC "law" (defScope st_law) s.heap.objs.size T.f_law cdv))) :
    DPSs (cxOf (L2N.CX P w) P w K mg base N_law "law" (defScope st_law) T.f_law cdv A outer s H E) (WE0 E) (defBody st_law) (rd_law T sp__law_bag sp__law_take sp__law_world sp__law_size sp__law_grow sp__law_right sp__law_given sp__law_bend sp__law_bend_whole sp__law_same) := by
  have hu64 := hu64_of hr
  have hr0 := hr.mono (Nat.le_add_right k 2)
  exact (ds_cons (ds_set (i := 1) sc_law.nd rfl (Or.inl rfl) (d_call F__law_bag hr0 takesE T.g__law_bag T.k__law_bag T.b__law_bag .nil (fun _ => rfl) (da_cons (d_var 0) da_nil))) (ds_cons (ds_set (i := 2) sc_law.nd rfl (Or.inl rfl) (d_call F__law_take hr0 takesE T.g__law_take T.k__law_take T.b__law_take .nil (fun _ => rfl) (da_cons (d_var 1) (da_cons d_int da_nil)))) (ds_cons (ds_set (i := 3) sc_law.nd rfl (Or.inl rfl) (d_call F__law_take hr0 takesE T.g__law_take T.k__law_take T.b__law_take .nil (fun _ => rfl) (da_cons (d_var 1) (da_cons d_int da_nil)))) (ds_cons (ds_set (i := 4) sc_law.nd rfl (Or.inl rfl) (d_call F__law_take hr0 takesE T.g__law_take T.k__law_take T.b__law_take .nil (fun _ => rfl) (da_cons (d_var 1) (da_cons d_int da_nil)))) (ds_cons (ds_set (i := 5) sc_law.nd rfl (Or.inl rfl) (d_call F__law_take hr0 takesE T.g__law_take T.k__law_take T.b__law_take .nil (fun _ => rfl) (da_cons (d_var 1) (da_cons d_int da_nil)))) (ds_cons (ds_set (i := 6) sc_law.nd rfl (Or.inl rfl) (d_call F__law_take hr0 takesE T.g__law_take T.k__law_take T.b__law_take .nil (fun _ => rfl) (da_cons (d_var 1) (da_cons d_int da_nil)))) (ds_cons (ds_set (i := 7) sc_law.nd rfl (Or.inl rfl) (d_call F__law_take hr0 takesE T.g__law_take T.k__law_take T.b__law_take .nil (fun _ => rfl) (da_cons (d_var 1) (da_cons d_int da_nil)))) (ds_cons (ds_set (i := 8) sc_law.nd rfl (Or.inl rfl) (d_call F__law_world hr0 takesE T.g__law_world T.k__law_world T.b__law_world .nil (fun _ => rfl) (da_cons (d_var 1) (da_cons (d_call F__law_size hr0 takesE T.g__law_size T.k__law_size T.b__law_size .nil (fun _ => rfl) (da_cons (d_var 1) da_nil)) (da_cons (d_call F__law_take hr0 takesE T.g__law_take T.k__law_take T.b__law_take .nil (fun _ => rfl) (da_cons (d_var 1) (da_cons d_int da_nil))) (da_cons d_int da_nil)))))) (ds_cons (ds_if (dt_cmp (dop_eq hu64) (d_var 4) d_int rfl) (ds_one (ds_expr (d_call F__law_grow hr0 takesE T.g__law_grow T.k__law_grow T.b__law_grow .nil (fun _ => rfl) (da_cons (d_var 8) (da_cons (d_op dop_add d_int (d_call F__law_take hr0 takesE T.g__law_take T.k__law_take T.b__law_take .nil (fun _ => rfl) (da_cons (d_var 1) (da_cons d_int da_nil)))) da_nil))))) ds_nil) (ds_cons (ds_if (dt_not (dt_val (d_call F__law_right hr0 takesE T.g__law_right T.k__law_right T.b__law_right .nil (fun _ => rfl) (da_cons (d_call F__law_given hr0 takesE T.g__law_given T.k__law_given T.b__law_given .nil (fun _ => rfl) (da_cons (d_var 8) (da_cons (d_var 5) da_nil))) (da_cons (d_var 5) (da_cons (d_var 7) da_nil)))))) (ds_one (ds_ret d_bl)) ds_nil) (ds_cons (ds_set (i := 9) sc_law.nd rfl (Or.inl rfl) (d_call F__law_given hr0 takesE T.g__law_given T.k__law_given T.b__law_given .nil (fun _ => rfl) (da_cons (d_var 8) (da_cons (d_var 5) da_nil)))) (ds_cons (ds_if (dt_cmp (dop_eq hu64) (d_var 6) d_int rfl) (ds_one (ds_asg (d_lst da_nil) (dg_ix (d_var 9) d_int))) ds_nil) (ds_cons (ds_for passesE rfl (di_rng1 rfl T.z_range (da_cons (d_var 2) da_nil)) (dg_name (i := 10) sc_law.nd rfl (Or.inl rfl)) (ds_one (ds_expr (d_call F__law_bend hr0 takesE T.g__law_bend T.k__law_bend T.b__law_bend .nil (fun _ => rfl) (da_cons (d_var 1) (da_cons (d_var 9) (da_cons (d_var 8) da_nil))))))) (ds_cons (ds_if (dt_cmp (dop_eq hu64) (d_var 3) d_int rfl) (ds_one (ds_expr (d_call F__law_bend_whole hr0 takesE T.g__law_bend_whole T.k__law_bend_whole T.b__law_bend_whole .nil (fun _ => rfl) (da_cons (d_var 1) (da_cons (d_var 9) da_nil))))) ds_nil) (ds_cons (ds_if (dt_not (dt_val (d_call F__law_right hr0 takesE T.g__law_right T.k__law_right T.b__law_right .nil (fun _ => rfl) (da_cons (d_var 9) (da_cons (d_var 5) (da_cons (d_var 7) da_nil)))))) (ds_one (ds_ret d_bl)) ds_nil) (ds_cons (ds_set (i := 11) sc_law.nd rfl (Or.inl rfl) (d_tup (da_cons (d_cvalE T.v_Board_PLACE_LIMIT (d_cls rfl T.g_Board)) (da_cons (d_cvalE T.v_Board_RANK_LIMIT (d_cls rfl T.g_Board)) (da_cons (d_cvalE T.v_Board_GAIN_LIMIT (d_cls rfl T.g_Board)) (da_cons (d_cvalE T.v_Board_WIDTH_LIMIT (d_cls rfl T.g_Board)) da_nil)))))) (ds_cons (ds_if (dt_not (dt_val (d_call F__law_same hr0 takesE T.g__law_same T.k__law_same T.b__law_same .nil (fun _ => rfl) (da_cons (d_var 11) (da_cons (d_tup (da_cons d_int (da_cons d_int (da_cons d_int (da_cons d_int da_nil))))) da_nil))))) (ds_one (ds_ret d_bl)) ds_nil) (ds_one (ds_ret (d_call F__law_right hr0 takesE T.g__law_right T.k__law_right T.b__law_right .nil (fun _ => rfl) (da_cons (d_call F__law_given hr0 takesE T.g__law_given T.k__law_given T.b__law_given .nil (fun _ => rfl) (da_cons (d_var 8) (da_cons (d_var 5) da_nil))) (da_cons (d_var 5) (da_cons (d_var 7) da_nil)))))))))))))))))))))))
theorem fn_law (T : Txt P K mg) {k : Nat} {sp__law_bag : DSp} {sp__law_take : DSp} {sp__law_world : DSp} {sp__law_size : DSp} {sp__law_grow : DSp} {sp__law_right : DSp} {sp__law_given : DSp} {sp__law_bend : DSp} {sp__law_bend_whole : DSp} {sp__law_same : DSp} (F__law_bag : DFn P w K mg base k T.f__law_bag T.d__law_bag ps__law_bag sp__law_bag) (F__law_take : DFn P w K mg base k T.f__law_take T.d__law_take ps__law_take sp__law_take) (F__law_world : DFn P w K mg base k T.f__law_world T.d__law_world ps__law_world sp__law_world) (F__law_size : DFn P w K mg base k T.f__law_size T.d__law_size ps__law_size sp__law_size) (F__law_grow : DFn P w K mg base k T.f__law_grow T.d__law_grow ps__law_grow sp__law_grow) (F__law_right : DFn P w K mg base k T.f__law_right T.d__law_right ps__law_right sp__law_right) (F__law_given : DFn P w K mg base k T.f__law_given T.d__law_given ps__law_given sp__law_given) (F__law_bend : DFn P w K mg base k T.f__law_bend T.d__law_bend ps__law_bend sp__law_bend) (F__law_bend_whole : DFn P w K mg base k T.f__law_bend_whole T.d__law_bend_whole ps__law_bend_whole sp__law_bend_whole) (F__law_same : DFn P w K mg base k T.f__law_same T.d__law_same ps__law_same sp__law_same) {sp : DSp} (len : ∀ ds Hd Q E, sp ds Hd Q E → ds.length = 1) (h : ∀ ds Hd Q Ed, sp ds Hd Q Ed → rd_law T sp__law_bag sp__law_take sp__law_world sp__law_size sp__law_grow sp__law_right sp__law_given sp__law_bend sp__law_bend_whole sp__law_same (endsOf Q Ed) (startD N_law ds) Hd) : DFn P w K mg base (k + 3) T.f_law T.d_law ps_law sp :=
  dfun T.F_law sc_law len fun cdv A outer s H E hr => ⟨_, dv_law T F__law_bag F__law_take F__law_world F__law_size F__law_grow F__law_right F__law_given F__law_bend F__law_bend_whole F__law_same cdv A outer s H E hr, h⟩
def rd_Board_init (T : Txt P K mg) (sp_frozen : DSp) (sp_shape_allowed : DSp) (sp_first_width : DSp) (sp_is_player : DSp) (sp_rank_allowed : DSp) (sp_marks_allowed : DSp) (sp_moves_allowed : DSp) : DTS := (dSeq (dAsg (dTup (dCons (dCall sp_frozen [] (dCons (dVar 1) dNil)) (dCons (dCall sp_frozen [] (dCons (dVar 2) dNil)) (dCons (dCall sp_frozen [] (dCons (dVar 3) dNil)) (dCons (dCall sp_frozen [] (dCons (dVar 4) dNil)) dNil))))) (gTp 4 (gCn (gNm 1) (gCn (gNm 2) (gCn (gNm 3) (gCn (gNm 4) gNl)))))) (dSeq (dIfS (dNot (dTest (dCall sp_shape_allowed [] (dCons (dVar 1) (dCons (dVar 2) (dCons (dVar 3) (dCons (dVar 4) dNil))))))) (dRaise (dMk T.C_InvalidBoard ["place"] (dCons (dUn dNeg (dC (.int 1))) dNil))) dNext) (dSeq (dSet (dCB dLen (dCons (dVar 1) dNil)) 5) (dSeq (dIfS (dTest (dOp dEq (dCB dLen (dCons (dVar 4) dNil)) (dC (.int 0)))) (dSet (dOp dMul (dTup (dCons (dTup dNil) dNil)) (dVar 5)) 4) dNext) (dSeq (dSet (dCall sp_first_width [] (dCons (dOp dIx (dVar 3) (dC (.int 0))) dNil)) 6) (dSeq (dFor (wRng1 (dCons (dVar 5) dNil)) (gNm 7) (dSeq (dIfS (dOr (dNot (dTest (dCall sp_is_player [] (dCons (dOp dIx (dVar 1) (dVar 7)) dNil)))) (dNot (dTest (dCall sp_rank_allowed [] (dCons (dOp dIx (dVar 2) (dVar 7)) dNil))))) (dRaise (dMk T.C_InvalidBoard ["place"] (dCons (dVar 7) dNil))) dNext) (dIfS (dOr (dNot (dTest (dCall sp_marks_allowed [] (dCons (dOp dIx (dVar 4) (dVar 7)) dNil)))) (dNot (dTest (dCall sp_moves_allowed [] (dCons (dOp dIx (dVar 3) (dVar 7)) (dCons (dVar 5) (dCons (dVar 6) dNil))))))) (dRaise (dMk T.C_InvalidBoard ["place"] (dCons (dVar 7) dNil))) dNext))) (dSeq (dSetFld K (dVar 0) (dVar 1) "owners") (dSeq (dSetFld K (dVar 0) (dVar 2) "ranks") (dSeq (dSetFld K (dVar 0) (dVar 3) "moves") (dSetFld K (dVar 0) (dVar 4) "marks"))))))))))
theorem dv_Board_init (T : Txt P K mg) {k : Nat} {sp_frozen : DSp} {sp_shape_allowed : DSp} {sp_first_width : DSp} {sp_is_player : DSp} {sp_rank_allowed : DSp} {sp_marks_allowed : DSp} {sp_moves_allowed : DSp} (F_frozen : DFn P w K mg base k T.f_frozen T.d_frozen ps_frozen sp_frozen) (F_shape_allowed : DFn P w K mg base k T.f_shape_allowed T.d_shape_allowed ps_shape_allowed sp_shape_allowed) (F_first_width : DFn P w K mg base k T.f_first_width T.d_first_width ps_first_width sp_first_width) (F_is_player : DFn P w K mg base k T.f_is_player T.d_is_player ps_is_player sp_is_player) (F_rank_allowed : DFn P w K mg base k T.f_rank_allowed T.d_rank_allowed ps_rank_allowed sp_rank_allowed) (F_marks_allowed : DFn P w K mg base k T.f_marks_allowed T.d_marks_allowed ps_marks_allowed sp_marks_allowed) (F_moves_allowed : DFn P w K mg base k T.f_moves_allowed T.d_moves_allowed ps_moves_allowed sp_moves_allowed) (cdv : Value) (A : Around) (outer : List Env) (s : Shared) (H : Hp) (E : XK) (hr : Room (k + 2) (A.deeper (envOfC "Board.__init__" (defScope st_Board_init) s.heap.objs.size T.f_Board_init cdv))) :
    DPSs (cxOf (L2N.CX P w) P w K mg base N_Board_init "Board.__init__" (defScope st_Board_init) T.f_Board_init cdv A outer s H E) (WE0 E) (defBody st_Board_init) (rd_Board_init T sp_frozen sp_shape_allowed sp_first_width sp_is_player sp_rank_allowed sp_marks_allowed sp_moves_allowed) := by
  have hu64 := hu64_of hr
  have hr0 := hr.mono (Nat.le_add_right k 2)
  have hr2 := hr.mono (Nat.le_add_left 2 k)
  exact (ds_cons (ds_asg (d_tup (da_cons (d_call F_frozen hr0 takesE T.g_frozen T.k_frozen T.b_frozen .nil (fun _ => rfl) (da_cons (d_var 1) da_nil)) (da_cons (d_call F_frozen hr0 takesE T.g_frozen T.k_frozen T.b_frozen .nil (fun _ => rfl) (da_cons (d_var 2) da_nil)) (da_cons (d_call F_frozen hr0 takesE T.g_frozen T.k_frozen T.b_frozen .nil (fun _ => rfl) (da_cons (d_var 3) da_nil)) (da_cons (d_call F_frozen hr0 takesE T.g_frozen T.k_frozen T.b_frozen .nil (fun _ => rfl) (da_cons (d_var 4) da_nil)) da_nil))))) (dg_tup rfl (dgs_cons (dg_name (i := 1) sc_Board_init.nd rfl (Or.inl rfl)) (dgs_cons (dg_name (i := 2) sc_Board_init.nd rfl (Or.inl rfl)) (dgs_cons (dg_name (i := 3) sc_Board_init.nd rfl (Or.inl rfl)) (dgs_cons (dg_name (i := 4) sc_Board_init.nd rfl (Or.inl rfl)) dgs_nil)))))) (ds_cons (ds_if (dt_not (dt_val (d_call F_shape_allowed hr0 takesE T.g_shape_allowed T.k_shape_allowed T.b_shape_allowed .nil (fun _ => rfl) (da_cons (d_var 1) (da_cons (d_var 2) (da_cons (d_var 3) (da_cons (d_var 4) da_nil))))))) (ds_one (ds_raise rfl takesE (d_mk T.e_InvalidBoard.o T.e_InvalidBoard.iC T.e_InvalidBoard.tI iend1 (by decide) (er_InvalidBoard T) hr2 T.b_InvalidBoard T.g_InvalidBoard (da_cons (d_un dun_neg d_int) da_nil)))) ds_nil) (ds_cons (ds_set (i := 5) sc_Board_init.nd rfl (Or.inl rfl) (d_callB dcl_len rfl T.z_len bt_len (da_cons (d_var 1) da_nil))) (ds_cons (ds_if (dt_cmp (dop_eq hu64) (d_callB dcl_len rfl T.z_len bt_len (da_cons (d_var 4) da_nil)) d_int rfl) (ds_one (ds_set (i := 4) sc_Board_init.nd rfl (Or.inl rfl) (d_op dop_mul (d_tup (da_cons (d_tup da_nil) da_nil)) (d_var 5)))) ds_nil) (ds_cons (ds_set (i := 6) sc_Board_init.nd rfl (Or.inl rfl) (d_call F_first_width hr0 takesE T.g_first_width T.k_first_width T.b_first_width .nil (fun _ => rfl) (da_cons (d_ix dix (d_var 3) d_int) da_nil))) (ds_cons (ds_for passesE rfl (di_rng1 rfl T.z_range (da_cons (d_var 5) da_nil)) (dg_name (i := 7) sc_Board_init.nd rfl (Or.inl rfl)) (ds_cons (ds_if (dw_pt (dw_or (dt_not (dt_val (d_call F_is_player hr0 takesE T.g_is_player T.k_is_player T.b_is_player .nil (fun _ => rfl) (da_cons (d_ix dix (d_var 1) (d_var 7)) da_nil)))) (dw_or1 (dt_not (dt_val (d_call F_rank_allowed hr0 takesE T.g_rank_allowed T.k_rank_allowed T.b_rank_allowed .nil (fun _ => rfl) (da_cons (d_ix dix (d_var 2) (d_var 7)) da_nil))))))) (ds_one (ds_raise rfl takesE (d_mk T.e_InvalidBoard.o T.e_InvalidBoard.iC T.e_InvalidBoard.tI iend1 (by decide) (er_InvalidBoard T) hr2 T.b_InvalidBoard T.g_InvalidBoard (da_cons (d_var 7) da_nil)))) ds_nil) (ds_one (ds_if (dw_pt (dw_or (dt_not (dt_val (d_call F_marks_allowed hr0 takesE T.g_marks_allowed T.k_marks_allowed T.b_marks_allowed .nil (fun _ => rfl) (da_cons (d_ix dix (d_var 4) (d_var 7)) da_nil)))) (dw_or1 (dt_not (dt_val (d_call F_moves_allowed hr0 takesE T.g_moves_allowed T.k_moves_allowed T.b_moves_allowed .nil (fun _ => rfl) (da_cons (d_ix dix (d_var 3) (d_var 7)) (da_cons (d_var 5) (da_cons (d_var 6) da_nil))))))))) (ds_one (ds_raise rfl takesE (d_mk T.e_InvalidBoard.o T.e_InvalidBoard.iC T.e_InvalidBoard.tI iend1 (by decide) (er_InvalidBoard T) hr2 T.b_InvalidBoard T.g_InvalidBoard (da_cons (d_var 7) da_nil)))) ds_nil)))) (ds_cons (ds_fld (d_var 0) (d_var 1)) (ds_cons (ds_fld (d_var 0) (d_var 2)) (ds_cons (ds_fld (d_var 0) (d_var 3)) (ds_one (ds_fld (d_var 0) (d_var 4))))))))))))
theorem fn_Board_init (T : Txt P K mg) {k : Nat} {sp_frozen : DSp} {sp_shape_allowed : DSp} {sp_first_width : DSp} {sp_is_player : DSp} {sp_rank_allowed : DSp} {sp_marks_allowed : DSp} {sp_moves_allowed : DSp} (F_frozen : DFn P w K mg base k T.f_frozen T.d_frozen ps_frozen sp_frozen) (F_shape_allowed : DFn P w K mg base k T.f_shape_allowed T.d_shape_allowed ps_shape_allowed sp_shape_allowed) (F_first_width : DFn P w K mg base k T.f_first_width T.d_first_width ps_first_width sp_first_width) (F_is_player : DFn P w K mg base k T.f_is_player T.d_is_player ps_is_player sp_is_player) (F_rank_allowed : DFn P w K mg base k T.f_rank_allowed T.d_rank_allowed ps_rank_allowed sp_rank_allowed) (F_marks_allowed : DFn P w K mg base k T.f_marks_allowed T.d_marks_allowed ps_marks_allowed sp_marks_allowed) (F_moves_allowed : DFn P w K mg base k T.f_moves_allowed T.d_moves_allowed ps_moves_allowed sp_moves_allowed) {sp : DSp} (len : ∀ ds Hd Q E, sp ds Hd Q E → ds.length = 5) (h : ∀ ds Hd Q Ed, sp ds Hd Q Ed → rd_Board_init T sp_frozen sp_shape_allowed sp_first_width sp_is_player sp_rank_allowed sp_marks_allowed sp_moves_allowed (endsOf Q Ed) (startD N_Board_init ds) Hd) : DFn P w K mg base (k + 3) T.f_Board_init T.d_Board_init ps_Board_init sp :=
  dfun T.F_Board_init sc_Board_init len fun cdv A outer s H E hr => ⟨_, dv_Board_init T F_frozen F_shape_allowed F_first_width F_is_player F_rank_allowed F_marks_allowed F_moves_allowed cdv A outer s H E hr, h⟩
def rd_Board_width (T : Txt P K mg) : DTS := (dRet (dCB dLen (dCons (dOp dIx (dOp dIx (dOp dIx (dFld K (dVar 0) "moves") (dC (.int 0))) (dC (.int 0))) (dC (.int 1))) dNil)))
theorem dv_Board_width (T : Txt P K mg) {k : Nat} (cdv : Value) (A : Around) (outer : List Env) (s : Shared) (H : Hp) (E : XK) (hr : Room (k + 2) (A.deeper (envOfC "Board.width" (defScope st_Board_width) s.heap.objs.size T.f_Board_width cdv))) :
    DPSs (cxOf (L2N.CX P w) P w K mg base N_Board_width "Board.width" (defScope st_Board_width) T.f_Board_width cdv A outer s H E) (WE0 E) (defBody st_Board_width) (rd_Board_width T) := by
  exact (ds_one (ds_ret (d_callB dcl_len rfl T.z_len bt_len (da_cons (d_ix dix (d_ix dix (d_ix dix (d_fld (d_var 0)) d_int) d_int) d_int) da_nil))))
theorem fn_Board_width (T : Txt P K mg) {k : Nat} {sp : DSp} (len : ∀ ds Hd Q E, sp ds Hd Q E → ds.length = 1) (h : ∀ ds Hd Q Ed, sp ds Hd Q Ed → rd_Board_width T (endsOf Q Ed) (startD N_Board_width ds) Hd) : DFn P w K mg base (k + 3) T.f_Board_width T.d_Board_width ps_Board_width sp :=
  dfun T.F_Board_width sc_Board_width len fun cdv A outer s H E hr => ⟨_, dv_Board_width T cdv A outer s H E hr, h⟩
end
end K02

local macro_rules | `(tactic| walk_at "ne") => `(tactic| first | assumption | (apply Ne.symm; assumption) | (refine DL.dne_of_none ?_ ?_ <;> assumption) | (apply Ne.symm; refine DL.dne_of_none ?_ ?_ <;> assumption))
local macro_rules | `(tactic| walk_at "dh") => `(tactic| first
  | assumption
  | exact DL.put_same
  | (refine DL.put_old ?_ ?_; (walk_at "dh"); assumption)
  | (refine (DL.put_ne ?_).trans ?_; (walk_at "ne"); (walk_at "dh")))
local macro_rules | `(tactic| walk_at "sz") => `(tactic| first | assumption | exact Nat.le_of_lt (L2.small1000 (by first | decide | omega)) | exact L2.small1000 (by first | decide | omega) | (rw [PySem.sizeLine_eq]; simp only [List.length_cons, List.length_nil, List.length_append, List.length_map] <;> omega))
local macro_rules | `(tactic| walk_at "dx") => `(tactic| first
  | with_reducible refine DL.Step.pf ?_
  
  
  
  
  | ((with_reducible refine' DL.x_var ?h ?_); (case h => exact rfl))
  
  | ((with_reducible refine DL.x_sz ?h ?_); (case h => walk_at "sz")) 
  
  
  
  
  
  
  | ((with_reducible refine' DL.x_lenL ?h ?_); (case h => walk_at "dh")) | ((with_reducible refine' DL.x_tupL ?h ?_); (case h => walk_at "dh")) | ((with_reducible refine' DL.x_lstL ?h ?_); (case h => walk_at "dh")) | ((with_reducible refine' DL.x_cutL ?h ?_); (case h => walk_at "dh"))
  | ((with_reducible refine' DL.x_ixT ?h ?_); (case h => first | assumption | exact rfl)) | ((with_reducible refine' DL.x_ixF ?h ?_); (case h => first | assumption | exact rfl)) | ((with_reducible refine' DL.x_ixL ?g ?h ?_); (case g => walk_at "dh"); (case h => first | assumption | exact rfl))
  | ((with_reducible refine' DL.x_setIx ?g ?h ?_); (case g => walk_at "dh"); (case h => first | assumption | exact rfl))
  | ((with_reducible refine' DL.x_app ?g ?h ?_); (case g => walk_at "dh"); (case h => walk_at "sz"))
  | ((with_reducible refine DL.x_tym ?h ?_); (case h => first | exact DL.tyM_lst (by walk_at "dh") | exact DL.tyM_dct (by walk_at "dh")))
  | ((with_reducible refine' DL.x_fldAt ?h ?c ?n ?l ?_); (case h => walk_at "dh"); (case c => assumption); (case n => assumption); (case l => first | exact rfl | (simp [List.lookup])))
  | ((with_reducible refine' DL.x_sfldAt ?h ?c ?n ?l ?_); (case h => walk_at "dh"); (case c => assumption); (case n => assumption); (case l => first | (simp; done) | exact Nat.le_of_ble_eq_true rfl))
  | ((with_reducible refine' DL.x_propAt ?h ?_); (case h => walk_at "dh"))
  | ((with_reducible refine' DL.x_methAt ?h ?l ?_); (case h => walk_at "dh"); (case l => first | exact rfl | (simp [List.lookup])))
  | ((with_reducible refine' DL.x_dgetAt ?h ?k ?l ?_); (case h => walk_at "dh"); (case k => exact rfl); (case l => assumption))
  | ((with_reducible refine' DL.x_lenO ?h ?l ?_); (case h => walk_at "dh"); (case l => first | exact rfl | (simp [List.lookup])))
  | ((with_reducible refine DL.x_eqn ?h ?_); (case h => exact rfl))
  | ((with_reducible refine' DL.x_truL ?h ?_); (case h => walk_at "dh")) | ((with_reducible refine' DL.x_enumL ?h ?_); (case h => walk_at "dh"))
  | ((with_reducible refine' DL.x_revAt ?h ?_); (case h => walk_at "dh")) | with_reducible refine DL.x_tryM ?_ | with_reducible refine DL.x_tryM1 ?_
  | with_reducible refine DL.x_eqI ?_ | with_reducible refine DL.x_neI ?_ 
  | with_reducible refine DL.x_try ?_ | with_reducible refine DL.x_try1 ?_ 
  | ((with_reducible refine' DL.x_acc ?h ?l ?_); (case h => walk_at "dh"); (case l => walk_at "sz"))
  | ((with_reducible refine' DL.x_seqLst ?h ?_); (case h => walk_at "dh"))
  | with_reducible refine DL.x_bl ?_ | with_reducible refine DL.x_ii ?_
  | ((with_reducible refine' DL.x_iteT ?h ?_); (case h => exact rfl)) | ((with_reducible refine' DL.x_iteF ?h ?_); (case h => exact rfl)))
local macro_rules | `(tactic| walk_at "dxs") => `(tactic| repeat (walk_at "dx"))

namespace K02
open PySem PySem.Spec PyProof.Rows L2 DL
section
variable {P : Program} {w : World} {K : PySem.W.Frag} {mg : Str → Option Value} {base : Heap}
/-! ### rows -/
def RowIs (H : DH) (x : DL.D) (b : Bool) : Prop := (∃ t, kindD x = some t ∧ b = (isB t "list" || isB t "tuple")) ∨ (∃ a xs, x = .ref a ∧ H a = some (.lst xs) ∧ b = true)
def sp_is_row : DSp := fun ds H Q _ => ∃ x b, ds = [x] ∧ RowIs H x b ∧ Q (.bl b) H
theorem ok_is_row (T : Txt P K mg) : DFn P w K mg base 3 T.f_is_row T.d_is_row ps_is_row sp_is_row := by
  refine fn_is_row (k := 0) T (fun ds H Q E h => ?_) (fun ds H Q E h => ?_)
  · obtain ⟨x, b, rfl, _⟩ := h; rfl
  · obtain ⟨x, b, rfl, hx, q⟩ := h
    unfold rd_is_row
    walk_at "dxs"
    rcases hx with ⟨t, ht, rfl⟩ | ⟨a, xs, rfl, ha, rfl⟩
    · refine x_isiT (cs := ["list", "tuple"]) ht (by decide) (x_endR (Sub.refl _) ?_)
      simpa using q
    · refine x_isiTL (cs := ["list", "tuple"]) ha (by decide) (x_endR (Sub.refl _) ?_)
      exact q

/-! ### frozen -/
mutual
/-- what frozen makes of a value: rows all the way down to tuples -/
inductive Frz (H : DH) : DL.D → DL.D → Prop
  | leaf {x} : RowIs H x false → Frz H x x
  | tup {xs ys} : Frzs H xs ys → Frz H (.tup xs) (.tup ys)
  | fl {xs ys} : Frzs H xs ys → Frz H (.fl xs) (.tup ys)
  | lst {a xs ys} : H a = some (.lst xs) → Frzs H xs ys → Frz H (.ref a) (.tup ys)
inductive Frzs (H : DH) : List DL.D → List DL.D → Prop
  | nil : Frzs H [] []
  | cons {x y xs ys} : Frz H x y → Frzs H xs ys → Frzs H (x :: xs) (y :: ys)
end
theorem Frzs.len {H : DH} : ∀ {xs ys : List DL.D}, Frzs H xs ys → xs.length = ys.length
  | _, _, .nil => rfl
  | _, _, .cons _ h => by rw [List.length_cons, List.length_cons, Frzs.len h]
theorem Frzs.get {H : DH} : ∀ {xs ys : List DL.D} {i : Nat} {x : DL.D}, Frzs H xs ys → xs[i]? = some x → ∃ y, ys[i]? = some y ∧ Frz H x y
  | _, _, _, _, .nil, e => by simp at e
  | _, _, 0, _, .cons h _, e => by
    simp at e
    subst e
    exact ⟨_, rfl, h⟩
  | _, _, i + 1, _, .cons _ h, e => by
    obtain ⟨y, e1, h1⟩ := Frzs.get (i := i) h (by simpa using e)
    exact ⟨y, by simpa using e1, h1⟩
/-- the items of a row -/
inductive Items (H : DH) : DL.D → List DL.D → Prop
  | tup {xs} : Items H (.tup xs) xs
  | fl {xs} : Items H (.fl xs) xs
  | lst {a xs} : H a = some (.lst xs) → Items H (.ref a) xs
theorem Frz.items {H : DH} {x : DL.D} {ys : List DL.D} (h : Frz H x (.tup ys)) : ∃ xs, Items H x xs ∧ Frzs H xs ys := by
  cases h with
  | leaf l =>
    rcases l with ⟨t, e, b⟩ | ⟨a, xs, e, _, b⟩
    · cases e
      exact absurd b (by decide)
    · cases b
  | tup h => exact ⟨_, .tup, h⟩
  | fl h => exact ⟨_, .fl, h⟩
  | lst a h => exact ⟨_, .lst a, h⟩
theorem Frz.row {H : DH} {x y : DL.D} (h : Frz H x y) : (RowIs H x false ∧ y = x) ∨ (RowIs H x true ∧ ∃ ys, y = .tup ys) := by
  cases h with
  | leaf l => exact .inl ⟨l, rfl⟩
  | tup h => exact .inr ⟨.inl ⟨"tuple", rfl, by decide⟩, _, rfl⟩
  | fl h => exact .inr ⟨.inl ⟨"list", rfl, by decide⟩, _, rfl⟩
  | lst a h => exact .inr ⟨.inr ⟨_, _, rfl, a, rfl⟩, _, rfl⟩
theorem RowIs.sub {H H' : DH} {x : DL.D} {b : Bool} (s : ∀ a xs, H a = some (.lst xs) → H' a = some (.lst xs)) (h : RowIs H x b) : RowIs H' x b := by
  rcases h with ⟨t, e, b⟩ | ⟨a, xs, e, h, b⟩
  · exact .inl ⟨t, e, b⟩
  · exact .inr ⟨a, xs, e, s a xs h, b⟩
mutual
/-- a measure of what is to be made -/
def wt : DL.D → Nat
  | .tup ys => 2 + wts ys
  | _ => 1
def wts : List DL.D → Nat
  | [] => 0
  | y :: ys => wt y + wts ys
end
theorem wts_drop : ∀ (ys : List DL.D) (i : Nat) (y : DL.D), ys[i]? = some y → wts (ys.drop i) = wt y + wts (ys.drop (i + 1))
  | [], _, _, e => by simp at e
  | z :: ys, 0, y, e => by
    simp at e
    subst e
    simp [wts]
  | z :: ys, i + 1, y, e => by
    have := wts_drop ys i y (by simpa using e)
    simpa using this
theorem wt_pos (y : DL.D) : 1 ≤ wt y := by
  cases y <;> simp [wt] <;> omega
/-- the depth of what is made: so many rows stand open at most -/
def sp_frozen : DSp := fun ds H Q _ => ∃ x y, ds = [x] ∧ Frz H x y ∧ wt y ≤ 100000 ∧ Q y H
/-- a row that stands open: the row, its items, what it becomes, where its part is laid, how many items are done -/
structure Op where
  r : DL.D
  xs : List DL.D
  ys : List DL.D
  p : Addr
  n : Nat
/-- the open rows, the innermost first -/
def Open (H0 H : DH) (kvs : List (Key × DL.D)) : List Op → Prop
  | [] => True
  | o :: os => (Items H0 o.r o.xs ∧ Frzs H0 o.xs o.ys ∧ wts o.ys ≤ 100000) ∧ o.n ≤ o.ys.length ∧ (H o.p = some (.lst (o.ys.take o.n)) ∧ H0 o.p = none ∧ getP kvs (.inl (os.length : Int)) = some (.ref o.p)) ∧ (∀ u ∈ os, u.p ≠ o.p) ∧
    (∀ u, os.head? = some u → u.xs[u.n]? = some o.r ∧ u.ys[u.n]? = some (.tup o.ys)) ∧ Open H0 H kvs os
theorem Open.keep {H0 H H' : DH} {kvs kvs' : List (Key × DL.D)} : ∀ {os : List Op}, Open H0 H kvs os → (∀ o ∈ os, H' o.p = H o.p) → (∀ j : Nat, j < os.length → getP kvs' (.inl (j : Int)) = getP kvs (.inl (j : Int))) → Open H0 H' kvs' os
  | [], _, _, _ => trivial
  | o :: os, ⟨a, b, ⟨c1, c2, c3⟩, d, e, f⟩, hH, hk => ⟨a, b, ⟨(hH o (List.mem_cons_self ..)).trans c1, c2, (hk _ (Nat.lt_succ_self _)).trans c3⟩, d, e,
      Open.keep f (fun u hu => hH u (List.mem_cons_of_mem _ hu)) fun j hj => hk j (Nat.lt_succ_of_lt hj)⟩
def measB : List Op → Nat
  | [] => 0
  | o :: os => 1 + wts (o.ys.drop (o.n + 1)) + measB os
def meas : List Op → Nat
  | [] => 0
  | o :: os => 1 + wts (o.ys.drop o.n) + measB os
theorem wts_len (ys : List DL.D) : ys.length ≤ wts ys := by
  induction ys with
  | nil => simp [wts]
  | cons y ys ih =>
    have := wt_pos y
    simp [wts]
    omega
theorem wts_mem {ys : List DL.D} {i : Nat} {y : DL.D} (h : ys[i]? = some y) : wt y ≤ wts ys := by
  induction ys generalizing i with
  | nil => simp at h
  | cons z ys ih =>
    cases i with
    | zero =>
      simp at h
      subst h
      simp [wts]
    | succ i =>
      have := ih (i := i) (by simpa using h)
      simp [wts]
      omega
theorem getP_putP {kvs : List (Key × DL.D)} {k j : Key} {d : DL.D} : getP (putP kvs k d) j = if j = k then some d else getP kvs j := by
  unfold getP putP
  by_cases c : (kvs.any fun kv => decide (kv.1 = k)) = true
  · rw [if_pos c]
    induction kvs with
    | nil => simp at c
    | cons p kvs ih =>
      obtain ⟨q, v⟩ := p
      rw [List.map_cons]
      by_cases e : q = k
      · subst e
        by_cases e2 : j = q
        · subst e2
          simp
        · have ne : ¬ q = j := fun z => e2 z.symm
          simp only [if_pos, List.find?_cons, decide_eq_true_eq, ne, decide_false, if_neg e2]
          have nothing : ∀ l : List (Key × DL.D), Option.map (fun x => x.2) (List.find? (fun kv => decide (kv.1 = j)) (List.map (fun kv => if kv.1 = q then (kv.1, d) else kv) l)) = Option.map (fun x => x.2) (List.find? (fun kv => decide (kv.1 = j)) l) := by
            intro l
            induction l with
            | nil => rfl
            | cons p l ih =>
              obtain ⟨a, b⟩ := p
              rw [List.map_cons]
              by_cases h : a = q
              · have : ¬ a = j := fun z => e2 (z.symm.trans h)
                simp only [h, if_pos, List.find?_cons, ne, decide_false]
                exact ih
              · simp only [if_neg h, List.find?_cons]
                by_cases h2 : a = j
                · simp [h2]
                · simp only [h2, decide_false]
                  exact ih
          exact nothing kvs
      · have c2 : (kvs.any fun kv => decide (kv.1 = k)) = true := by simpa [e] using c
        have := ih c2
        simp only [if_neg e, List.find?_cons]
        by_cases h2 : q = j
        · subst h2
          simp [e]
        · simp only [h2, decide_false]
          exact this
  · rw [if_neg c]
    rw [List.find?_append]
    by_cases e : j = k
    · subst e
      have : kvs.find? (fun kv => decide (kv.1 = j)) = none := by
        rw [List.find?_eq_none]
        intro x hx
        have := fun z => c (List.any_eq_true.mpr ⟨x, hx, z⟩)
        exact this
      simp [this]
    · have ne : ¬ k = j := fun z => e z.symm
      simp [e, ne]
theorem putP_len {kvs : List (Key × DL.D)} {k : Key} {d : DL.D} : (putP kvs k d).length ≤ kvs.length + 1 := by
  unfold putP
  split
  · simp
  · simp
theorem atI_last {α : Type} {xs : List α} {x : α} : L2.atI (xs ++ [x]) ((xs.length : Int)) = some x := by
  have h : ixN (xs ++ [x]).length ((xs.length : Int)) = some xs.length := by
    unfold ixN
    simp
    omega
  unfold L2.atI
  rw [h]
  simp
theorem Items.len {H0 H : DH} {r : DL.D} {xs : List DL.D} {Q : DK} (h : Items H0 r xs) (s : Sub H0 H) (k : Q (.int xs.length) H) : dLen [r] H Q := by
  cases h with
  | tup => exact x_lenT k
  | fl => exact x_lenF k
  | lst a => exact x_lenL (s _ _ a) k
theorem Items.ix {H0 H : DH} {r d : DL.D} {xs : List DL.D} {i : Int} {Q : DK} (h : Items H0 r xs) (s : Sub H0 H) (e : L2.atI xs i = some d) (k : Q d H) : dIx r (.int i) H Q := by
  cases h with
  | tup => exact x_ixT e k
  | fl => exact x_ixF e k
  | lst a => exact x_ixL (s _ _ a) e k
theorem atI_nat {α : Type} {xs : List α} {i : Nat} {x : α} (e : xs[i]? = some x) : L2.atI xs (i : Int) = some x := by
  have hl : i < xs.length := (List.getElem?_eq_some_iff.mp e).1
  have h : ixN xs.length (i : Int) = some i := by
    unfold ixN
    simp
    omega
  unfold L2.atI
  rw [h]
  exact e
def FW (H0 : DH) (x0 : DL.D) (r pd : Addr) (ys : List DL.D) (m : Nat) (σ : DSt) (H : DH) : Prop := ∃ os kvs o3 o4 o5 o6, σ = [some x0, some (.ref r), some (.ref pd), o3, o4, o5, o6] ∧ m = meas os ∧ os ≠ [] ∧ H r = some (.lst (os.reverse.map Op.r)) ∧ H pd = some (.dct kvs) ∧ kvs.length + m ≤ 100001 ∧ os.length + m ≤ 100001 ∧ Open H0 H kvs os ∧
        (∀ o ∈ os, o.p ≠ r ∧ o.p ≠ pd) ∧ Sub H0 H ∧ (∀ o, os.getLast? = some o → o.ys = ys)
theorem ok_frozen (T : Txt P K mg) : DFn P w K mg base 6 T.f_frozen T.d_frozen ps_frozen sp_frozen := by
  refine fn_frozen (k := 3) T (ok_is_row T) (fun ds H Q E h => ?_) (fun ds H0 Q E h => ?_)
  · obtain ⟨x, y, rfl, _⟩ := h; rfl
  · obtain ⟨x, y, rfl, hx, hw, q⟩ := h
    unfold rd_frozen
    walk_at "dxs"
    rcases hx.row with ⟨hr, rfl⟩ | ⟨hr, ys, rfl⟩
    · refine ⟨y, false, rfl, hr, ?_⟩
      walk_at "dxs"
      exact x_endR (Sub.refl _) q
    · refine ⟨x, true, rfl, hr, ?_⟩
      walk_at "dxs"
      intro r fr
      walk_at "dxs"
      intro pd fd
      walk_at "dxs"
      intro p0 fp
      walk_at "dxs"
      have fr0 : H0 r = none := fr
      have nrd : pd ≠ r := fun e => by rw [e, put_same] at fd; cases fd
      have fd0 : H0 pd = none := by rw [put_ne nrd] at fd; exact fd
      have npd : p0 ≠ pd := fun e => by rw [e, put_same] at fp; cases fp
      have npr : p0 ≠ r := fun e => by rw [e, put_ne nrd.symm, put_same] at fp; cases fp
      have fp0 : H0 p0 = none := by rw [put_ne npd, put_ne npr] at fp; exact fp
      refine x_dputAt (kvs := []) (by rw [put_ne npd.symm, put_same]) rfl (by rw [sizeLine_eq]; decide) ?_
      obtain ⟨xs, hi, hs⟩ := hx.items
      have hwy : wts ys ≤ 99998 := by simp only [wt] at hw; omega
      refine x_while1 ⟨FW H0 x r pd ys, ⟨_, [⟨x, xs, ys, p0, 0⟩], putP [] (.inl 0) (.ref p0), none, none, none, none, rfl, rfl, by simp, ?_, put_same, ?_, ?_, ?_, ?_, ?_, ?_⟩, ?_⟩
      · rw [put_ne nrd.symm, put_ne npr.symm, put_ne nrd.symm, put_same]; rfl
      · have e1 : (putP ([] : List (Key × DL.D)) (.inl 0) (.ref p0)).length = 1 := rfl
        have e2 : meas [⟨x, xs, ys, p0, 0⟩] = 1 + wts ys + 0 := rfl
        rw [e1, e2]
        omega
      · have e2 : meas [⟨x, xs, ys, p0, 0⟩] = 1 + wts ys + 0 := rfl
        rw [e2]
        show 1 + _ ≤ _
        omega
      · refine ⟨⟨hi, hs, by show wts ys ≤ 100000; omega⟩, Nat.zero_le _, ⟨?_, fp0, ?_⟩, by simp, by simp, trivial⟩
        · rw [put_ne npd, put_same]; rfl
        · rw [getP_putP]; simp
      · simp [npr, npd]
      · intro a o e
        rw [put_ne (dne_of_none e fd0), put_ne (dne_of_none e fp0), put_ne (dne_of_none e fd0), put_ne (dne_of_none e fr0)]
        exact e
      · simp
      · rintro m σ H ⟨os, kvs, o3, o4, o5, o6, rfl, rfl, hne, hR, hD, hk, hl, hO, hN, hS, hY⟩
        cases os with
        | nil => exact absurd rfl hne
        | cons o os =>
          obtain ⟨⟨oi, oF, ow⟩, on, ⟨oH, o0, oK⟩, oD, oP, oO⟩ := hO
          have eR : (((o :: os).reverse.map Op.r)) = os.reverse.map Op.r ++ [o.r] := by simp
          rw [eR] at hR
          have eL : ((os.reverse.map Op.r ++ [o.r]).length : Int) - 1 = ((os.reverse.map Op.r).length : Int) := by simp
          have eM : ((os.reverse.map Op.r).length : Int) = (os.length : Int) := by simp
          walk_at "dxs"
          refine ⟨fun σ' H' => ∃ m', m' < meas (o :: os) ∧ FW H0 x r pd ys m' σ' H', fun _ _ h => h, ?_⟩
          walk_at "dxs"
          rw [eL]
          refine x_ixL hR atI_last ?_
          rw [eM]
          walk_at "dxs"
          have lenT : ((o.ys.take o.n).length : Int) = (o.n : Int) := by rw [List.length_take]; omega
          rw [lenT]
          refine oi.len hS (x_eqI ?_)
          rw [oF.len]
          walk_at "dxs"
          refine x_ite (fun c => ?_) fun c => ?_
          · have c : (o.n : Int) = o.ys.length := of_decide_eq_true c
            walk_at "dxs"
            refine x_pop (y := o.r) hR (by simp) ?_
            rw [List.dropLast_concat]
            walk_at "dxs"
            obtain ⟨nor, nop⟩ := hN o (List.mem_cons_self ..)
            walk_at "dxs"
            have eT : o.ys.take o.n = o.ys := by rw [List.take_of_length_le]; omega
            rw [eT]
            have S2 : ∀ u, Sub H0 (put H r u) := fun u a o' e => by rw [put_ne (dne_of_none e fr0)]; exact hS a o' e
            try refine x_eqI ?_
            walk_at "dxs"
            refine x_ite (fun z => ?_) fun z => ?_
            · have z : (os.length : Int) = 0 := of_decide_eq_true z
              have e0 : os = [] := List.length_eq_zero_iff.mp (by omega)
              subst e0
              walk_at "dxs"
              refine ⟨H0, S2 _, ?_⟩
              rw [hY o rfl]
              exact q
            · have z : ¬ (os.length : Int) = 0 := of_decide_eq_false z
              cases os with
              | nil => exact absurd rfl z
              | cons u os =>
                obtain ⟨⟨ui, uF, uw⟩, un, ⟨uH, u0, uK⟩, uD, uP, uO⟩ := oO
                obtain ⟨e1, e2⟩ := oP u rfl
                obtain ⟨nur, nup⟩ := hN u (by simp)
                have eK : (((u :: os).length : Int)) - 1 = (os.length : Int) := by simp
                walk_at "dxs"
                rw [eK]
                refine x_dgetAt ((put_ne nrd).trans hD) rfl uK ?_
                have uH' : put H r (.lst ((u :: os).reverse.map Op.r)) u.p = some (.lst (u.ys.take u.n)) := (put_ne nur).trans uH
                have hlen : (u.ys.take u.n).length < sizeLine := by
                  have := wts_len u.ys
                  rw [List.length_take, sizeLine_eq]
                  omega
                refine ⟨tyM_lst uH', ?_⟩
                walk_at "dxs"
                have hun : u.n < u.ys.length := (List.getElem?_eq_some_iff.mp e2).1
                have eU : u.ys.take u.n ++ [.tup o.ys] = u.ys.take (u.n + 1) := by rw [List.take_succ, e2]; rfl
                rw [eU]
                have dm : wts (u.ys.drop u.n) = wt (.tup o.ys) + wts (u.ys.drop (u.n + 1)) := wts_drop u.ys u.n _ e2
                have mE : meas (o :: u :: os) = 1 + wts (o.ys.drop o.n) + (1 + wts (u.ys.drop (u.n + 1)) + measB os) := rfl
                have mN : meas ({ u with n := u.n + 1 } :: os) = 1 + wts (u.ys.drop (u.n + 1)) + measB os := rfl
                refine ⟨_, ?_, { u with n := u.n + 1 } :: os, kvs, _, _, _, _, rfl, rfl, by simp, ?_, ?_, ?_, ?_, ?_, ?_, ?_, ?_⟩
                · rw [mE, mN]; omega
                · rw [put_ne nur.symm, put_same]; simp
                · rw [put_ne nup.symm, put_ne nrd]; exact hD
                · rw [mN]; omega
                · rw [mN]; simp only [List.length_cons] at hl ⊢; omega
                · refine ⟨⟨ui, uF, uw⟩, hun, ⟨put_same, u0, uK⟩, uD, uP, uO.keep (fun v hv => ?_) fun _ _ => rfl⟩
                  obtain ⟨nvr, _⟩ := hN v (by simp [hv])
                  rw [put_ne (uD v hv), put_ne nvr]
                · intro v hv
                  rcases List.mem_cons.mp hv with e | hv
                  · rw [e]; exact ⟨nur, nup⟩
                  · exact hN v (by simp [hv])
                · intro a o' e
                  rw [put_ne (dne_of_none e u0)]
                  exact S2 _ a o' e
                · intro v hv
                  cases os with
                  | nil =>
                    have ev : v = { u with n := u.n + 1 } := by simpa using hv.symm
                    rw [ev]
                    exact hY u rfl
                  | cons t os => exact hY v (by simpa using hv)
          · have c : ¬ (o.n : Int) = o.ys.length := of_decide_eq_false c
            have hon : o.n < o.ys.length := by omega
            obtain ⟨nor, nop⟩ := hN o (List.mem_cons_self ..)
            obtain ⟨z, hz⟩ : ∃ z, o.xs[o.n]? = some z := ⟨o.xs[o.n]'(by rw [oF.len]; exact hon), by simp⟩
            obtain ⟨y, hy, hF⟩ := oF.get hz
            have dm : wts (o.ys.drop o.n) = wt y + wts (o.ys.drop (o.n + 1)) := wts_drop o.ys o.n _ hy
            have wy : wt y ≤ wts o.ys := wts_mem hy
            have py := wt_pos y
            have mE : meas (o :: os) = 1 + wts (o.ys.drop o.n) + measB os := rfl
            walk_at "dxs"
            refine oi.ix hS (atI_nat hz) ?_
            walk_at "dxs"
            rcases hF.row with ⟨hr2, rfl⟩ | ⟨hr2, zs, rfl⟩
            · refine ⟨y, false, rfl, hr2.sub fun a xs e => hS _ _ e, ?_⟩
              walk_at "dxs"
              have hlen : (o.ys.take o.n).length < sizeLine := by
                have := wts_len o.ys
                rw [List.length_take, sizeLine_eq]
                omega
              walk_at "dxs"
              refine oi.ix hS (atI_nat hz) ?_
              walk_at "dxs"
              have eU : o.ys.take o.n ++ [y] = o.ys.take (o.n + 1) := by rw [List.take_succ, hy]; rfl
              rw [eU]
              have mN : meas ({ o with n := o.n + 1 } :: os) = 1 + wts (o.ys.drop (o.n + 1)) + measB os := rfl
              refine ⟨_, ?_, { o with n := o.n + 1 } :: os, kvs, _, _, _, _, rfl, rfl, by simp, ?_, ?_, ?_, ?_, ?_, ?_, ?_, ?_⟩
              · rw [mE, mN]; omega
              · rw [put_ne nor.symm, hR]; simp
              · rw [put_ne nop.symm]; exact hD
              · rw [mN]; omega
              · rw [mN]; simp only [List.length_cons] at hl ⊢; omega
              · exact ⟨⟨oi, oF, ow⟩, hon, ⟨put_same, o0, oK⟩, oD, oP, oO.keep (fun v hv => put_ne (oD v hv)) fun _ _ => rfl⟩
              · intro v hv
                rcases List.mem_cons.mp hv with e | hv
                · rw [e]; exact ⟨nor, nop⟩
                · exact hN v (by simp [hv])
              · intro a o' e
                rw [put_ne (dne_of_none e o0)]
                exact hS a o' e
              · intro v hv
                cases os with
                | nil =>
                  have ev : v = { o with n := o.n + 1 } := by simpa using hv.symm
                  rw [ev]
                  exact hY o rfl
                | cons t os => exact hY v (by simpa using hv)
            · refine ⟨z, true, rfl, hr2.sub fun a xs e => hS _ _ e, ?_⟩
              walk_at "dxs"
              refine oi.ix hS (atI_nat hz) ?_
              have hlen : (os.reverse.map Op.r ++ [o.r]).length < sizeLine := by
                simp only [List.length_append, List.length_map, List.length_reverse, List.length_cons, List.length_nil] at hl ⊢
                rw [sizeLine_eq]
                omega
              walk_at "dxs"
              intro p fp'
              have npr' : p ≠ r := fun e => by rw [e, put_same] at fp'; cases fp'
              have fpH : H p = none := by rw [put_ne npr'] at fp'; exact fp'
              have npd' : p ≠ pd := fun e => by rw [e, hD] at fpH; cases fpH
              have fpH0 : H0 p = none := hS.free fpH
              walk_at "dxs"
              refine x_dputAt (kvs := kvs) (by rw [put_ne npd'.symm, put_ne nrd]; exact hD) rfl (by rw [sizeLine_eq]; omega) ?_
              obtain ⟨xs', hi', hs'⟩ := hF.items
              have w2 : wt (.tup zs) = 2 + wts zs := by simp only [wt]
              have mN : meas (⟨z, xs', zs, p, 0⟩ :: o :: os) = 1 + wts zs + (1 + wts (o.ys.drop (o.n + 1)) + measB os) := rfl
              have kl := putP_len (kvs := kvs) (k := .inl ((os.length : Int) + 1)) (d := .ref p)
              have others : ∀ v : Op, v ∈ o :: os → v.p ≠ p := fun v hv e => by
                have key : ∀ (l : List Op), Open H0 H kvs l → v ∈ l → ∃ ds, H v.p = some (.lst ds) := by
                  intro l
                  induction l with
                  | nil => intro _ h; simp at h
                  | cons a l ih =>
                    rintro ⟨_, _, ⟨h, _⟩, _, _, t⟩ hm
                    rcases List.mem_cons.mp hm with e | hm
                    · rw [e]; exact ⟨_, h⟩
                    · exact ih t hm
                obtain ⟨ds, hd⟩ := key (o :: os) ⟨⟨oi, oF, ow⟩, on, ⟨oH, o0, oK⟩, oD, oP, oO⟩ hv
                rw [e, fpH] at hd
                cases hd
              have off : ∀ (v : Op) u1 u2 u3, v ∈ o :: os → put (put (put H r u1) p u2) pd u3 v.p = H v.p := fun v u1 u2 u3 hv => by
                obtain ⟨nvr, nvp⟩ := hN v hv
                rw [put_ne nvp, put_ne (others v hv), put_ne nvr]
              refine ⟨_, ?_, ⟨z, xs', zs, p, 0⟩ :: o :: os, _, _, _, _, _, rfl, rfl, by simp, ?_, put_same, ?_, ?_, ?_, ?_, ?_, ?_⟩
              · rw [mE, mN]; omega
              · rw [put_ne nrd.symm, put_ne npr'.symm, put_same]; simp
              · rw [mN]; omega
              · rw [mN]; simp only [List.length_cons] at hl ⊢; omega
              · refine ⟨⟨hi', hs', by show wts zs ≤ _; omega⟩, Nat.zero_le _, ⟨?_, fpH0, ?_⟩, others, ?_, ?_⟩
                · rw [put_ne npd', put_same]; rfl
                · rw [getP_putP, if_pos (by simp)]
                · intro u hu
                  have eu : u = o := by simpa using hu.symm
                  rw [eu]
                  exact ⟨hz, hy⟩
                · refine Open.keep (H := H) (kvs := kvs) ⟨⟨oi, oF, ow⟩, on, ⟨oH, o0, oK⟩, oD, oP, oO⟩ (fun v hv => off v _ _ _ hv) fun j hj => ?_
                  rw [getP_putP, if_neg]
                  intro e
                  have e : (j : Int) = (os.length : Int) + 1 := Sum.inl.inj e
                  simp only [List.length_cons] at hj
                  omega
              · intro v hv
                rcases List.mem_cons.mp hv with e | hv
                · rw [e]; exact ⟨npr', npd'⟩
                · exact hN v hv
              · intro a o' e
                rw [put_ne (dne_of_none e fd0), put_ne (dne_of_none e fpH0), put_ne (dne_of_none e fr0)]
                exact hS a o' e
              · intro v hv
                exact hY v (by simpa using hv)
end
end K02

namespace K02
open PySem PySem.Spec PyProof.Rows L2 DL
/-! ### kinds -/
def Kd (H : DH) (x : DL.D) (t : String) : Prop := kindD x = some t ∨ ∃ a xs, x = .ref a ∧ H a = some (.lst xs) ∧ t = "list"
theorem x_isiK {K : PySem.W.Frag} {H : DH} {x : DL.D} {t c : String} {Q : DK} (h : Kd H x t) (hc : c ∈ kinds.drop 1) (q : Q (.bl (isB t c)) H) : dIsi K [x, .ty c] H Q := by
  rcases h with h | ⟨a, xs, rfl, h, rfl⟩
  · exact x_isi h hc q
  · exact x_isiL h hc q
theorem x_isiTK {K : PySem.W.Frag} {H : DH} {x : DL.D} {t : String} {cs : List String} {Q : DK} (h : Kd H x t) (hc : ∀ c ∈ cs, c ∈ kinds.drop 1) (q : Q (.bl (cs.any fun c => isB t c)) H) : dIsiT K [x, .tup (cs.map D.ty)] H Q := by
  rcases h with h | ⟨a, xs, rfl, h, rfl⟩
  · exact x_isiT h hc q
  · exact x_isiTL h hc q
def isI : DL.D → Bool
  | .int _ => true
  | _ => false
def isS : DL.D → Bool
  | .str _ => true
  | _ => false
theorem isI_iff {x : DL.D} : isI x = true ↔ ∃ i, x = .int i := by
  cases x <;> simp [isI]
theorem isS_iff {x : DL.D} : isS x = true ↔ ∃ i, x = .str i := by
  cases x <;> simp [isS]
theorem Kd.int {H : DH} {x : DL.D} {t : String} (h : Kd H x t) : (isB t "int" && !isB t "bool") = isI x := by
  rcases h with h | ⟨a, xs, rfl, h, rfl⟩
  · cases x <;> (simp only [kindD] at h <;> cases h <;> rfl)
  · rfl
theorem Kd.str {H : DH} {x : DL.D} {t : String} (h : Kd H x t) : isB t "str" = isS x := by
  rcases h with h | ⟨a, xs, rfl, h, rfl⟩
  · cases x <;> (simp only [kindD] at h <;> cases h <;> rfl)
  · rfl
theorem Kd.sub {H H' : DH} {x : DL.D} {t : String} (h : Kd H x t) (s : ∀ a xs, H a = some (.lst xs) → ∃ ys, H' a = some (.lst ys)) : Kd H' x t := by
  rcases h with h | ⟨a, xs, rfl, h, rfl⟩
  · exact .inl h
  · obtain ⟨ys, e⟩ := s a xs h
    exact .inr ⟨a, ys, rfl, e, rfl⟩
/-- data without lists, with small texts -/
inductive Pure : DL.D → Prop
  | non : Pure .non
  | bl (b : Bool) : Pure (.bl b)
  | int (i : Int) : Pure (.int i)
  | str {z : Str} : z.length ≤ 1000 → Pure (.str z)
  | tup {xs : List DL.D} : (∀ x ∈ xs, Pure x) → Pure (.tup xs)
theorem Pure.kd {d : DL.D} (h : Pure d) (H : DH) : ∃ t, Kd H d t := by
  cases h with
  | non => exact ⟨_, .inl rfl⟩
  | bl b => exact ⟨_, .inl rfl⟩
  | int i => exact ⟨_, .inl rfl⟩
  | str h => exact ⟨_, .inl rfl⟩
  | tup h => exact ⟨_, .inl rfl⟩
theorem Pure.row {d : DL.D} (h : Pure d) (H : DH) : (RowIs H d false ∧ ∀ xs, d ≠ .tup xs) ∨ ∃ xs, d = .tup xs ∧ RowIs H d true ∧ ∀ x ∈ xs, Pure x := by
  cases h with
  | non => exact .inl ⟨.inl ⟨_, rfl, by decide⟩, fun xs z => by cases z⟩
  | bl b => exact .inl ⟨.inl ⟨_, rfl, by decide⟩, fun xs z => by cases z⟩
  | int i => exact .inl ⟨.inl ⟨_, rfl, by decide⟩, fun xs z => by cases z⟩
  | str h => exact .inl ⟨.inl ⟨_, rfl, by decide⟩, fun xs z => by cases z⟩
  | tup h => exact .inr ⟨_, rfl, .inl ⟨"tuple", rfl, by decide⟩, h⟩
def letters : Str := "abcdefghijklmnopqrstuvwxyz"
structure NameS (z : Str) : Prop where
  l1 : 1 ≤ z.length
  l8 : z.length ≤ 8
  all_ : ∀ c ∈ z.cps.toList, c ∈ letters.cps.toList
def NameP (x : DL.D) : Prop := ∃ z, x = .str z ∧ NameS z
def plB (n : Int) : DL.D → Bool
  | .int v => decide (0 ≤ v ∧ v < n)
  | _ => false
theorem at_int {ns : List Int} {j : Nat} {v : Int} (h : ns[j]? = some v) : L2.atI (ns.map D.int) (j : Int) = some (.int v) := atI_nat (by rw [List.getElem?_map, h]; rfl)
theorem lcStr {g : DTG} {tt : DTT} {te : DTE} {vs : List Nat} {p : Addr} {σ : DSt} {H1 : DH} {z : Str} {Qd : DH → Prop} (W : Nat → DH → Prop) (h0 : W 0 H1)
    (step : ∀ i c H, z.cps[i]? = some c → W i H → g (.str ⟨#[c]⟩) (wipeD σ vs) H fun σ2 H2 => tt EF σ2 H2 fun b H3 => if b = true then te EF σ2 H3 fun y H4 => ∃ acc, H4 p = some (.lst acc) ∧ acc.length < sizeLine ∧ W (i + 1) (put H4 p (.lst (acc ++ [y]))) else W (i + 1) H3)
    (hd : ∀ H, W z.cps.size H → Qd H) : LcGo (jStr z) g tt te vs p σ H1 Qd := by
  refine ⟨fun i m H => m = z.cps.size - i ∧ i ≤ z.cps.size ∧ W i H, ⟨_, rfl, Nat.zero_le _, h0⟩, ?_⟩
  rintro i m H ⟨rfl, hi, w⟩
  by_cases hlt : i < z.cps.size
  · exact .inr ⟨_, ⟨_, Array.getElem?_eq_getElem hlt, rfl⟩, W (i + 1), fun H' w' => ⟨z.cps.size - (i + 1), by omega, rfl, hlt, w'⟩, step i _ H (Array.getElem?_eq_getElem hlt) w⟩
  · have e : i = z.cps.size := by omega
    subst e
    exact .inl ⟨Nat.le_refl _, hd H w⟩
section
variable {P : Program} {w : World} {K : PySem.W.Frag} {mg : Str → Option Value} {base : Heap}
def sp_is_integer : DSp := fun ds H Q _ => ∃ x t, ds = [x] ∧ Kd H x t ∧ Q (.bl (isI x)) H
theorem ok_is_integer (T : Txt P K mg) : DFn P w K mg base 3 T.f_is_integer T.d_is_integer ps_is_integer sp_is_integer := by
  refine fn_is_integer (k := 0) T (fun ds H Q E h => ?_) (fun ds H Q E h => ?_)
  · obtain ⟨x, t, rfl, _⟩ := h; rfl
  · obtain ⟨x, t, rfl, hk, q⟩ := h
    have e := hk.int
    unfold rd_is_integer
    walk_at "dxs"
    refine x_isiK hk (by decide) ?_
    walk_at "dxs"
    cases c : isB t "int" with
    | true =>
      refine x_iteT rfl ?_
      walk_at "dxs"
      refine x_isiK hk (by decide) ?_
      walk_at "dxs"
      rw [c, Bool.true_and] at e
      rw [e]
      exact ⟨_, Sub.refl _, q⟩
    | false =>
      refine x_iteF rfl ?_
      rw [c, Bool.false_and] at e
      rw [e]
      exact ⟨_, Sub.refl _, q⟩
def sp_is_place : DSp := fun ds H Q _ => ∃ n x t, ds = [.int n, x] ∧ Kd H x t ∧ Q (.bl (plB n x)) H
theorem ok_is_place (T : Txt P K mg) : DFn P w K mg base 6 T.f_is_place T.d_is_place ps_is_place sp_is_place := by
  refine fn_is_place (k := 3) T (ok_is_integer T) (fun ds H Q E h => ?_) (fun ds H Q E h => ?_)
  · obtain ⟨n, x, t, rfl, _⟩ := h; rfl
  · obtain ⟨n, x, t, rfl, hk, q⟩ := h
    unfold rd_is_place
    walk_at "dxs"
    refine ⟨x, t, rfl, hk, ?_⟩
    walk_at "dxs"
    cases c : isI x with
    | true =>
      obtain ⟨v, rfl⟩ := isI_iff.mp c
      refine x_iteT rfl ?_
      walk_at "dxs"
      refine x_ite (fun d => ?_) fun d => ?_
      · have d : 0 ≤ v := of_decide_eq_true d
        walk_at "dxs"
        refine ⟨_, Sub.refl _, ?_⟩
        have e : plB n (.int v) = decide (v < n) := by simp [plB, d]
        rw [← e]
        exact q
      · have d : ¬ 0 ≤ v := of_decide_eq_false d
        refine ⟨_, Sub.refl _, ?_⟩
        have e : plB n (.int v) = false := by simp [plB, d]
        rw [← e]
        exact q
    | false =>
      refine x_iteF rfl ?_
      refine ⟨_, Sub.refl _, ?_⟩
      have e : plB n x = false := by cases x <;> simp_all [plB, isI]
      rw [← e]
      exact q
def sp_is_player : DSp := fun ds H Q _ => ∃ x t, ds = [x] ∧ Kd H x t ∧ Q (.bl (plB 2 x)) H
theorem ok_is_player (T : Txt P K mg) : DFn P w K mg base 6 T.f_is_player T.d_is_player ps_is_player sp_is_player := by
  refine fn_is_player (k := 3) T (ok_is_integer T) (fun ds H Q E h => ?_) (fun ds H Q E h => ?_)
  · obtain ⟨x, t, rfl, _⟩ := h; rfl
  · obtain ⟨x, t, rfl, hk, q⟩ := h
    unfold rd_is_player
    walk_at "dxs"
    refine ⟨x, t, rfl, hk, ?_⟩
    walk_at "dxs"
    cases c : isI x with
    | true =>
      obtain ⟨v, rfl⟩ := isI_iff.mp c
      refine x_iteT rfl ?_
      walk_at "dxs"
      refine x_ite (fun d => ?_) fun d => ?_
      · have d : 0 ≤ v := of_decide_eq_true d
        walk_at "dxs"
        refine ⟨_, Sub.refl _, ?_⟩
        have e : plB 2 (.int v) = decide (v ≤ 1) := by
          unfold plB
          rw [Bool.eq_iff_iff, decide_eq_true_iff, decide_eq_true_iff]
          omega
        rw [← e]
        exact q
      · have d : ¬ 0 ≤ v := of_decide_eq_false d
        refine ⟨_, Sub.refl _, ?_⟩
        have e : plB 2 (.int v) = false := by simp [plB, d]
        rw [← e]
        exact q
    | false =>
      refine x_iteF rfl ?_
      refine ⟨_, Sub.refl _, ?_⟩
      have e : plB 2 x = false := by cases x <;> simp_all [plB, isI]
      rw [← e]
      exact q
def sp_rank_allowed : DSp := fun ds H Q _ => ∃ x t, ds = [x] ∧ Kd H x t ∧ Q (.bl (plB 10 x)) H
theorem ok_rank_allowed (T : Txt P K mg) : DFn P w K mg base 6 T.f_rank_allowed T.d_rank_allowed ps_rank_allowed sp_rank_allowed := by
  refine fn_rank_allowed (k := 3) T (ok_is_integer T) (fun ds H Q E h => ?_) (fun ds H Q E h => ?_)
  · obtain ⟨x, t, rfl, _⟩ := h; rfl
  · obtain ⟨x, t, rfl, hk, q⟩ := h
    unfold rd_rank_allowed
    walk_at "dxs"
    refine ⟨x, t, rfl, hk, ?_⟩
    walk_at "dxs"
    cases c : isI x with
    | true =>
      obtain ⟨v, rfl⟩ := isI_iff.mp c
      refine x_iteT rfl ?_
      walk_at "dxs"
      refine x_ite (fun d => ?_) fun d => ?_
      · have d : 0 ≤ v := of_decide_eq_true d
        walk_at "dxs"
        refine ⟨_, Sub.refl _, ?_⟩
        have e : plB 10 (.int v) = decide (v ≤ 9) := by
          unfold plB
          rw [Bool.eq_iff_iff, decide_eq_true_iff, decide_eq_true_iff]
          omega
        rw [← e]
        exact q
      · have d : ¬ 0 ≤ v := of_decide_eq_false d
        refine ⟨_, Sub.refl _, ?_⟩
        have e : plB 10 (.int v) = false := by simp [plB, d]
        rw [← e]
        exact q
    | false =>
      refine x_iteF rfl ?_
      refine ⟨_, Sub.refl _, ?_⟩
      have e : plB 10 x = false := by cases x <;> simp_all [plB, isI]
      rw [← e]
      exact q
def sp_is_name : DSp := fun ds H Q _ => ∃ x t, ds = [x] ∧ Kd H x t ∧ (∀ z, x = .str z → z.length ≤ 1000) ∧ ∀ r, (r = true ↔ NameP x) → Q (.bl r) H
theorem ok_is_name (T : Txt P K mg) : DFn P w K mg base 3 T.f_is_name T.d_is_name ps_is_name sp_is_name := by
  refine fn_is_name (k := 0) T (fun ds H Q E h => ?_) (fun ds H Q E h => ?_)
  · obtain ⟨x, t, rfl, _⟩ := h; rfl
  · obtain ⟨x, t, rfl, hk, hl, q⟩ := h
    have no : ¬ NameP x → (endsOf Q E).rt (.bl false) H := fun z => ⟨_, Sub.refl _, q false ⟨fun z => (by cases z), fun y => absurd y z⟩⟩
    have e := hk.str
    unfold rd_is_name
    walk_at "dxs"
    refine x_isiK hk (by decide) ?_
    walk_at "dxs"
    rw [e]
    cases c : isS x with
    | false =>
      refine x_iteT rfl ?_
      walk_at "dxs"
      refine no fun ⟨z, e2, _⟩ => ?_
      subst e2
      cases c
    | true =>
      obtain ⟨z, rfl⟩ := isS_iff.mp c
      have zl := hl z rfl
      refine x_iteF rfl ?_
      walk_at "dxs"
      refine x_lenS (by rw [sizeLine_eq]; omega) ?_
      walk_at "dxs"
      have small : ¬ (1 ≤ z.length ∧ z.length ≤ 8) → (endsOf Q E).rt (.bl false) H := fun h => no fun ⟨z', e2, nm⟩ => by
        cases e2
        exact h ⟨nm.l1, nm.l8⟩
      refine x_ite (fun d1 => ?_) fun d1 => ?_
      · have d1 : (1 : Int) ≤ z.length := of_decide_eq_true d1
        walk_at "dxs"
        refine x_ite (fun d2 => ?_) fun d2 => ?_
        · walk_at "dxs"
          exact small fun h => by
            have h2 := h.2
            have : ((z.length : Nat) : Int) ≤ 8 := by omega
            simp [this] at d2
        · have d2 : (z.length : Int) ≤ 8 := of_decide_eq_true (by simpa using d2)
          walk_at "dxs"
          intro g hg
          refine lcStr (fun i H' => H' = put H g (.lst (((z.cps.toList.take i).map fun c => decide (c ∈ letters.cps.toList)).map D.bl))) rfl (fun i c H' hc hH => ?_) fun H' hH => ?_
          · subst hH
            walk_at "dxs"
            have hi := (Array.getElem?_eq_some_iff.mp hc).1
            have hzl : z.cps.size = z.length := rfl
            refine ⟨_, put_same, by rw [List.length_map, List.length_map, List.length_take, sizeLine_eq]; omega, ?_⟩
            have hl : z.cps.toList[i]? = some c := by rw [Array.getElem?_toList]; exact hc
            rw [put_put, List.take_add_one, hl, List.map_append, List.map_append]
            rfl
          · subst hH
            have e3 : z.cps.toList.take z.cps.size = z.cps.toList := List.take_of_length_le (by rw [Array.length_toList]; exact Nat.le_refl _)
            rw [e3]
            walk_at "dxs"
            refine x_any1 put_same ?_
            refine ⟨H, Sub.new hg, q _ ?_⟩
            rw [List.all_map, List.all_eq_true]
            constructor
            · intro h
              exact ⟨z, rfl, by omega, by omega, fun c hc => by have := h c hc; simpa using this⟩
            · rintro ⟨z', e2, nm⟩ c hc
              cases e2
              have := nm.all_ c hc
              simpa using this
      · have d1 : ¬ (1 : Int) ≤ z.length := of_decide_eq_false d1
        walk_at "dxs"
        exact small fun h => by have := h.1; omega
end
end K02

namespace K02
open PySem PySem.Spec PyProof.Rows L2 DL
/-! ### rows of truths -/
def Bits (P : Nat → Prop) (i : Nat) (bs : List Bool) : Prop := bs.length = i ∧ ∀ j b, bs[j]? = some b → (b = true ↔ P j)
theorem Bits.nil {P : Nat → Prop} : Bits P 0 [] := ⟨rfl, fun j b h => by simp at h⟩
theorem Bits.step {P : Nat → Prop} {i : Nat} {bs : List Bool} {b : Bool} (h : Bits P i bs) (hb : b = true ↔ P i) : Bits P (i + 1) (bs ++ [b]) := by
  obtain ⟨h1, h2⟩ := h
  refine ⟨by rw [List.length_append, h1]; rfl, fun j c e => ?_⟩
  by_cases cj : j < bs.length
  · rw [List.getElem?_append_left cj] at e
    exact h2 j c e
  · have lt := (List.getElem?_eq_some_iff.mp e).1
    rw [List.length_append] at lt
    have : j = bs.length := by simp at lt; omega
    subst this
    rw [List.getElem?_append_right (Nat.le_refl _), Nat.sub_self] at e
    cases e
    rw [h1]
    exact hb
theorem Bits.all {P : Nat → Prop} {i : Nat} {bs : List Bool} (h : Bits P i bs) : bs.all id = true ↔ ∀ j, j < i → P j := by
  obtain ⟨h1, h2⟩ := h
  rw [List.all_eq_true]
  constructor
  · intro g j hj
    have e : bs[j]? = some bs[j] := List.getElem?_eq_getElem (by omega)
    exact (h2 j _ e).mp (g _ (List.getElem_mem _))
  · intro g b hb
    obtain ⟨j, hj⟩ := List.mem_iff_getElem?.mp hb
    have := (List.getElem?_eq_some_iff.mp hj).1
    exact (h2 j b hj).mpr (g j (by omega))
theorem put_app {H : DH} {g : Addr} {bs : List Bool} {b : Bool} : put (put H g (.lst (bs.map D.bl))) g (.lst (bs.map D.bl ++ [.bl b])) = put H g (.lst ((bs ++ [b]).map D.bl)) := by
  rw [put_put, List.map_append]; rfl
structure MarksL (xs : List DL.D) : Prop where
  nm : ∀ (j : Nat) (x : DL.D), xs[j]? = some x → NameP x
  asc : ∀ (i : Nat) (a b : Str), xs[i]? = some (.str a) → xs[i + 1]? = some (.str b) → a.cps.toList < b.cps.toList
def MarksP (d : DL.D) : Prop := ∃ xs, d = .tup xs ∧ MarksL xs
def GainsP (w : Int) (d : DL.D) : Prop := ∃ xs, d = .tup xs ∧ (xs.length : Int) = w ∧ w ≤ 3 ∧ ∀ (j : Nat) (x : DL.D), xs[j]? = some x → ∃ v : Int, x = .int v ∧ -99 ≤ v ∧ v ≤ 99
section
variable {P : Program} {w : World} {K : PySem.W.Frag} {mg : Str → Option Value} {base : Heap}
def sp_marks_allowed : DSp := fun ds H Q _ => ∃ d, ds = [d] ∧ Pure d ∧ (∀ xs, d = .tup xs → xs.length ≤ 100000) ∧ ∀ r, (r = true ↔ MarksP d) → Q (.bl r) H
theorem ok_marks_allowed (T : Txt P K mg) : DFn P w K mg base 6 T.f_marks_allowed T.d_marks_allowed ps_marks_allowed sp_marks_allowed := by
  refine fn_marks_allowed (k := 3) T (ok_is_row T) (ok_is_name T) (fun ds H Q E h => ?_) (fun ds H Q E h => ?_)
  · obtain ⟨d, rfl, _⟩ := h; rfl
  · obtain ⟨d, rfl, hp, hl, q⟩ := h
    have no : ¬ MarksP d → ∀ G, DL.Sub H G → (endsOf Q E).rt (.bl false) G := fun z G s => ⟨_, s, q false ⟨fun z => (by cases z), fun y => absurd y z⟩⟩
    unfold rd_marks_allowed
    walk_at "dxs"
    rcases hp.row H with ⟨hr, hn⟩ | ⟨xs, rfl, hr, hx⟩
    · refine ⟨d, false, rfl, hr, ?_⟩
      walk_at "dxs"
      exact no (fun ⟨xs, e, _⟩ => hn xs e) _ (Sub.refl _)
    · have hl := hl xs rfl
      refine ⟨_, true, rfl, hr, ?_⟩
      walk_at "dxs"
      intro g hg
      refine lcSeq (fun i H' => ∃ bs, H' = put H g (.lst (bs.map D.bl)) ∧ Bits (fun j => ∀ x, xs[j]? = some x → NameP x) i bs) ⟨[], rfl, Bits.nil⟩ (fun i x H' hxi hH => ?_) fun H' hH => ?_
      · obtain ⟨bs, rfl, hb⟩ := hH
        have px := hx x (List.mem_of_getElem? hxi)
        obtain ⟨t, kd⟩ := px.kd (put H g (.lst (bs.map D.bl)))
        have li := (List.getElem?_eq_some_iff.mp hxi).1
        walk_at "dxs"
        refine ⟨x, t, rfl, kd, fun z e => by subst e; cases px; assumption, fun r hr => ?_⟩
        refine ⟨_, put_same, by rw [List.length_map, hb.1, sizeLine_eq]; omega, bs ++ [r], put_app, hb.step ?_⟩
        rw [hr]
        exact ⟨fun h y e => by rw [hxi] at e; cases e; exact h, fun h => h x hxi⟩
      · obtain ⟨bs, rfl, hb⟩ := hH
        have ha := hb.all
        walk_at "dxs"
        refine x_any1 put_same ?_
        walk_at "dxs"
        refine x_ite (fun d => ?_) fun d => ?_
        · walk_at "dxs"
          refine no (fun ⟨ys, e, m⟩ => ?_) _ (Sub.new hg)
          cases e
          have := ha.mpr fun j _ x hj => m.nm j x hj
          rw [this] at d
          cases d
        · have d : bs.all id = true := by simpa using d
          have nm := ha.mp d
          have nm : ∀ (j : Nat) (x : DL.D), xs[j]? = some x → NameP x := fun j x h => nm j (List.getElem?_eq_some_iff.mp h).1 x h
          clear ha hb d
          have s1 : DL.Sub H (put H g (.lst (bs.map D.bl))) := Sub.new hg
          generalize put H g (.lst (bs.map D.bl)) = G at s1 ⊢
          walk_at "dxs"
          refine ⟨by omega, by omega, ?_⟩
          have en : ((xs.length : Int) - 1).toNat = xs.length - 1 := by omega
          rw [en]
          intro g2 hg2
          refine lcRng (fun i H' => ∃ bs, H' = put G g2 (.lst (bs.map D.bl)) ∧ Bits (fun j => ∀ a b, xs[j]? = some (.str a) → xs[j + 1]? = some (.str b) → a.cps.toList < b.cps.toList) i bs) ⟨[], rfl, Bits.nil⟩ (fun i H' hi hH => ?_) fun H' hH => ?_
          · obtain ⟨bs, rfl, hb⟩ := hH
            have e0 : (0 : Int) + (i : Int) = (i : Int) := by omega
            rw [e0]
            obtain ⟨x, hx1⟩ : ∃ x, xs[i]? = some x := ⟨_, List.getElem?_eq_getElem (by omega)⟩
            obtain ⟨y, hy1⟩ : ∃ y, xs[i + 1]? = some y := ⟨_, List.getElem?_eq_getElem (by omega)⟩
            obtain ⟨a, rfl, _⟩ := nm _ _ hx1
            obtain ⟨b, rfl, _⟩ := nm _ _ hy1
            have ix := atI_nat hx1
            have iy : L2.atI xs ((i : Int) + 1) = some (.str b) := by
              rw [show ((i : Int) + 1) = ((i + 1 : Nat) : Int) by omega]
              exact atI_nat hy1
            walk_at "dxs"
            refine ⟨_, put_same, by rw [List.length_map, hb.1, sizeLine_eq]; omega, bs ++ [decide (a.cps.toList < b.cps.toList)], put_app, hb.step ?_⟩
            rw [decide_eq_true_iff]
            exact ⟨fun h a' b' e1 e2 => by rw [hx1] at e1; rw [hy1] at e2; cases e1; cases e2; exact h, fun h => h a b hx1 hy1⟩
          · obtain ⟨bs, rfl, hb⟩ := hH
            have ha := hb.all
            walk_at "dxs"
            refine x_any1 put_same ?_
            refine ⟨H, s1.trans (Sub.new hg2), q _ ?_⟩
            rw [ha]
            constructor
            · intro h
              exact ⟨xs, rfl, nm, fun i a b e1 e2 => h i (by have := (List.getElem?_eq_some_iff.mp e2).1; omega) a b e1 e2⟩
            · rintro ⟨ys, e, m⟩ j hj
              cases e
              exact m.asc j
def sp_gains_allowed : DSp := fun ds H Q _ => ∃ d n, ds = [d, .int n] ∧ Pure d ∧ (∀ xs, d = .tup xs → xs.length ≤ 100000) ∧ ∀ r, (r = true ↔ GainsP n d) → Q (.bl r) H
theorem ok_gains_allowed (T : Txt P K mg) : DFn P w K mg base 6 T.f_gains_allowed T.d_gains_allowed ps_gains_allowed sp_gains_allowed := by
  refine fn_gains_allowed (k := 3) T (ok_is_row T) (ok_is_integer T) (fun ds H Q E h => ?_) (fun ds H Q E h => ?_)
  · obtain ⟨d, n, rfl, _⟩ := h; rfl
  · obtain ⟨d, n, rfl, hp, hl, q⟩ := h
    have no : ¬ GainsP n d → ∀ G, DL.Sub H G → (endsOf Q E).rt (.bl false) G := fun z G s => ⟨_, s, q false ⟨fun z => (by cases z), fun y => absurd y z⟩⟩
    unfold rd_gains_allowed
    walk_at "dxs"
    rcases hp.row H with ⟨hr, hn⟩ | ⟨xs, rfl, hr, hx⟩
    · refine ⟨d, false, rfl, hr, ?_⟩
      walk_at "dxs"
      exact no (fun ⟨xs, e, _⟩ => hn xs e) _ (Sub.refl _)
    · have hl := hl xs rfl
      refine ⟨_, true, rfl, hr, ?_⟩
      walk_at "dxs"
      refine x_ite (fun d1 => ?_) fun d1 => ?_
      · walk_at "dxs"
        refine no (fun ⟨ys, e, l, _⟩ => ?_) _ (Sub.refl _)
        cases e
        simp [l] at d1
      have d1 : (xs.length : Int) = n := by simpa using d1
      walk_at "dxs"
      refine x_ite (fun d2 => ?_) fun d2 => ?_
      · walk_at "dxs"
        refine no (fun ⟨ys, e, l, l3, _⟩ => ?_) _ (Sub.refl _)
        have := of_decide_eq_true d2
        omega
      have d2 : ¬ 3 < n := of_decide_eq_false d2
      walk_at "dxs"
      intro g hg
      refine lcSeq (fun i H' => ∃ bs, H' = put H g (.lst (bs.map D.bl)) ∧ Bits (fun j => ∀ x, xs[j]? = some x → ∃ v : Int, x = .int v ∧ -99 ≤ v ∧ v ≤ 99) i bs) ⟨[], rfl, Bits.nil⟩ (fun i x H' hxi hH => ?_) fun H' hH => ?_
      · obtain ⟨bs, rfl, hb⟩ := hH
        have px := hx x (List.mem_of_getElem? hxi)
        obtain ⟨t, kd⟩ := px.kd (put H g (.lst (bs.map D.bl)))
        have li := (List.getElem?_eq_some_iff.mp hxi).1
        have fin : ∀ r : Bool, (r = true ↔ ∃ v : Int, x = .int v ∧ -99 ≤ v ∧ v ≤ 99) → ∃ acc, put H g (.lst (bs.map D.bl)) g = some (.lst acc) ∧ acc.length < sizeLine ∧ ∃ bs', put (put H g (.lst (bs.map D.bl))) g (.lst (acc ++ [.bl r])) = put H g (.lst (bs'.map D.bl)) ∧ Bits (fun j => ∀ x, xs[j]? = some x → ∃ v : Int, x = .int v ∧ -99 ≤ v ∧ v ≤ 99) (i + 1) bs' := fun r hr =>
          ⟨_, put_same, by rw [List.length_map, hb.1, sizeLine_eq]; omega, bs ++ [r], put_app, hb.step (by
            rw [hr]
            exact ⟨fun h y e => by rw [hxi] at e; cases e; exact h, fun h => h x hxi⟩)⟩
        walk_at "dxs"
        refine ⟨x, t, rfl, kd, ?_⟩
        walk_at "dxs"
        cases c : isI x with
        | false =>
          refine x_iteF rfl ?_
          refine fin false ⟨fun z => (by cases z), fun ⟨v, e, _⟩ => ?_⟩
          subst e
          cases c
        | true =>
          obtain ⟨v, rfl⟩ := isI_iff.mp c
          refine x_iteT rfl ?_
          walk_at "dxs"
          refine x_ite (fun d => ?_) fun d => ?_
          · have d : -99 ≤ v := of_decide_eq_true d
            walk_at "dxs"
            refine fin _ ?_
            rw [decide_eq_true_iff]
            exact ⟨fun h => ⟨v, rfl, d, h⟩, fun ⟨v', e, h1, h2⟩ => by cases e; exact h2⟩
          · have d : ¬ -99 ≤ v := of_decide_eq_false d
            refine fin false ⟨fun z => (by cases z), fun ⟨v', e, h1, _⟩ => ?_⟩
            cases e
            exact absurd h1 d
      · obtain ⟨bs, rfl, hb⟩ := hH
        have ha := hb.all
        walk_at "dxs"
        refine x_any1 put_same ?_
        refine ⟨H, Sub.new hg, q _ ?_⟩
        rw [ha]
        constructor
        · intro h
          exact ⟨xs, rfl, d1, by omega, fun j x hj => h j (List.getElem?_eq_some_iff.mp hj).1 x hj⟩
        · rintro ⟨ys, e, _, _, m⟩ j hj
          cases e
          exact m j
end
end K02

namespace K02
open PySem PySem.Spec PyProof.Rows L2 DL
structure MoveP (n w : Int) (xs : List DL.D) (j : Nat) (t : Int) (g : DL.D) : Prop where
  at_ : xs[j]? = some (.tup [.int t, g])
  t0 : 0 ≤ t
  t1 : t < n
  gp : GainsP w g
  asc : 0 < j → ∀ (t' : Int) (g' : DL.D), xs[j - 1]? = some (.tup [.int t', g']) → t' < t
def MovesP (n w : Int) (d : DL.D) : Prop := ∃ xs, d = .tup xs ∧ xs ≠ [] ∧ ∀ j, j < xs.length → ∃ t g, MoveP n w xs j t g
/-- the number of gains that the first move tells -/
def widthD : DL.D → Int
  | .tup (.tup [_, .tup g] :: _) => g.length
  | _ => -1
theorem pure2 {xs : List DL.D} (h : xs.length = 2) : ∃ a b, xs = [a, b] := by
  match xs, h with
  | [a, b], _ => exact ⟨a, b, rfl⟩
structure ShapeP (d0 d1 d2 d3 : DL.D) (n : Nat) (xs0 xs1 xs2 xs3 : List DL.D) : Prop where
  e0 : d0 = .tup xs0
  e1 : d1 = .tup xs1
  e2 : d2 = .tup xs2
  e3 : d3 = .tup xs3
  l0 : xs0.length = n
  l1 : xs1.length = n
  l2 : xs2.length = n
  l3 : xs3.length = 0 ∨ xs3.length = n
  n1 : 1 ≤ n
  n2 : n ≤ 400
def ShapeOk (d0 d1 d2 d3 : DL.D) : Prop := ∃ n xs0 xs1 xs2 xs3, ShapeP d0 d1 d2 d3 n xs0 xs1 xs2 xs3
section
variable {P : Program} {w : World} {K : PySem.W.Frag} {mg : Str → Option Value} {base : Heap}
def sp_moves_allowed : DSp := fun ds H Q _ => ∃ d n wd, ds = [d, .int n, .int wd] ∧ Pure d ∧ wt d ≤ 100000 ∧ ∀ r, (r = true ↔ MovesP n wd d) → Q (.bl r) H
theorem ok_moves_allowed (T : Txt P K mg) : DFn P w K mg base 9 T.f_moves_allowed T.d_moves_allowed ps_moves_allowed sp_moves_allowed := by
  refine fn_moves_allowed (k := 6) T ((ok_is_row T).mono (by decide)) (ok_is_place T) (ok_gains_allowed T) (fun ds H Q E h => ?_) (fun ds H Q E h => ?_)
  · obtain ⟨d, n, wd, rfl, _⟩ := h; rfl
  · obtain ⟨d, n, wd, rfl, hp, hw, q⟩ := h
    have no : ¬ MovesP n wd d → (endsOf Q E).rt (.bl false) H := fun z => ⟨_, Sub.refl _, q false ⟨fun z => (by cases z), fun y => absurd y z⟩⟩
    unfold rd_moves_allowed
    walk_at "dxs"
    rcases hp.row H with ⟨hr, hn⟩ | ⟨xs, rfl, hr, hx⟩
    · refine ⟨d, false, rfl, hr, ?_⟩
      walk_at "dxs"
      exact no (fun ⟨xs, e, _⟩ => hn xs e)
    · have hl : xs.length ≤ 100000 := by
        have := wts_len xs
        rw [wt] at hw
        omega
      refine ⟨_, true, rfl, hr, ?_⟩
      walk_at "dxs"
      refine x_ite (fun d1 => ?_) fun d1 => ?_
      · walk_at "dxs"
        refine no (fun ⟨ys, e, ne, _⟩ => ?_)
        cases e
        exact ne (List.length_eq_zero_iff.mp (by have := of_decide_eq_true d1; omega))
      have xne : xs ≠ [] := fun z => by subst z; simp at d1
      walk_at "dxs"
      refine forSeq (fun i σ H' => ∃ (o4 o5 o6 : Option DL.D) (bef : Int), σ = [some (.tup xs), some (.int n), some (.int wd), some (.int bef), o4, o5, o6] ∧ H' = H ∧ (i = 0 → bef = -1) ∧ (0 < i → ∃ g', xs[i - 1]? = some (.tup [.int bef, g'])) ∧ ∀ j, j < i → ∃ t g, MoveP n wd xs j t g) ?_ ?_ ?_
      · exact ⟨_, _, _, _, rfl, rfl, fun _ => rfl, fun h => absurd h (by omega), fun j hj => absurd hj (by omega)⟩
      · rintro i x σ H' hxi ⟨o4, o5, o6, bef, rfl, rfl, b0, b1, hok⟩
        have li := (List.getElem?_eq_some_iff.mp hxi).1
        have px := hx x (List.mem_of_getElem? hxi)
        have wx : wt x ≤ 100000 := by
          have := wts_mem hxi
          rw [wt] at hw
          omega
        have bad : (∀ t g, ¬ MoveP n wd xs i t g) → (endsOf Q E).rt (.bl false) H' := fun z => no fun ⟨ys, e, _, m⟩ => by
          cases e
          obtain ⟨t, g, mv⟩ := m i li
          exact z t g mv
        walk_at "dxs"
        rcases px.row H' with ⟨hr2, hn2⟩ | ⟨ms, rfl, hr2, hm⟩
        · refine ⟨x, false, rfl, hr2, ?_⟩
          walk_at "dxs"
          exact bad fun t g mv => by
            have := mv.at_
            rw [hxi] at this
            exact hn2 _ (Option.some.inj this)
        refine ⟨_, true, rfl, hr2, ?_⟩
        walk_at "dxs"
        refine x_ite (fun d2 => ?_) fun d2 => ?_
        · walk_at "dxs"
          exact bad fun t g mv => by
            have := mv.at_
            rw [hxi] at this
            cases this
            simp at d2
        have l2 : ms.length = 2 := by
          have : (ms.length : Int) = 2 := by simpa using d2
          omega
        obtain ⟨a, g, rfl⟩ := pure2 l2
        have pa := hm a (by simp)
        have pg := hm g (by simp)
        obtain ⟨t, kd⟩ := pa.kd H'
        have bad2 : (∀ t, ¬ MoveP n wd xs i t g) → (endsOf Q E).rt (.bl false) H' := fun z => bad fun t g' mv => by
          have := mv.at_
          rw [hxi] at this
          cases this
          exact z t mv
        walk_at "dxs"
        refine ⟨n, a, t, rfl, kd, ?_⟩
        walk_at "dxs"
        cases c : plB n a with
        | false =>
          refine x_iteT rfl ?_
          walk_at "dxs"
          exact bad2 fun t mv => by
            have := mv.at_
            rw [hxi] at this
            cases this
            simp [plB, mv.t0, mv.t1] at c
        | true =>
          have ha : ∃ v, a = .int v ∧ 0 ≤ v ∧ v < n := by
            cases a <;> simp_all [plB]
          obtain ⟨v, rfl, v0, v1⟩ := ha
          refine x_iteF rfl ?_
          walk_at "dxs"
          have hbef : bef < v ↔ (0 < i → ∀ (t' : Int) (g' : DL.D), xs[i - 1]? = some (.tup [.int t', g']) → t' < v) := by
            by_cases c0 : i = 0
            · have := b0 c0
              constructor
              · intro _ h; omega
              · intro _; omega
            · obtain ⟨g', eg⟩ := b1 (by omega)
              constructor
              · intro h _ t' g'' e
                rw [eg] at e
                cases e
                exact h
              · intro h
                exact h (by omega) _ _ eg
          refine x_ite (fun d3 => ?_) fun d3 => ?_
          · have d3 : v ≤ bef := of_decide_eq_true d3
            walk_at "dxs"
            exact bad2 fun t mv => by
              have := mv.at_
              rw [hxi] at this
              cases this
              have := hbef.mpr mv.asc
              omega
          have d3 : ¬ v ≤ bef := of_decide_eq_false d3
          walk_at "dxs"
          refine ⟨g, wd, rfl, pg, fun ys e => ?_, fun r hr => ?_⟩
          · subst e
            have h1 := wts_len ys
            have h2 : wt (.tup ys) ≤ wts [DL.D.int v, .tup ys] := wts_mem (i := 1) rfl
            rw [wt] at wx h2
            omega
          walk_at "dxs"
          cases r with
          | false =>
            refine x_iteT rfl ?_
            walk_at "dxs"
            exact bad2 fun t mv => by
              have := hr.mpr mv.gp
              cases this
          | true =>
            refine x_iteF rfl ?_
            walk_at "dxs"
            have mv : MoveP n wd xs i v g := ⟨hxi, v0, v1, hr.mp rfl, hbef.mp (by omega)⟩
            refine ⟨_, _, _, v, rfl, rfl, fun h => absurd h (by omega), fun _ => ⟨g, by simpa using hxi⟩, fun j hj => ?_⟩
            by_cases cj : j < i
            · exact hok j cj
            · have : j = i := by omega
              subst this
              exact ⟨v, g, mv⟩
      · rintro σ H' ⟨o4, o5, o6, bef, rfl, rfl, b0, b1, hok⟩
        walk_at "dxs"
        exact ⟨_, Sub.refl _, q true ⟨fun _ => ⟨xs, rfl, xne, hok⟩, fun _ => rfl⟩⟩
def sp_first_width : DSp := fun ds H Q _ => ∃ d, ds = [d] ∧ Pure d ∧ wt d ≤ 100000 ∧ Q (.int (widthD d)) H
theorem ok_first_width (T : Txt P K mg) : DFn P w K mg base 6 T.f_first_width T.d_first_width ps_first_width sp_first_width := by
  refine fn_first_width (k := 3) T (ok_is_row T) (fun ds H Q E h => ?_) (fun ds H Q E h => ?_)
  · obtain ⟨d, rfl, _⟩ := h; rfl
  · obtain ⟨d, rfl, hp, hw, q⟩ := h
    have no : widthD d = -1 → (endsOf Q E).rt (.int (-1)) H := fun z => ⟨_, Sub.refl _, by rw [z] at q; exact q⟩
    unfold rd_first_width
    walk_at "dxs"
    rcases hp.row H with ⟨hr, hn⟩ | ⟨xs, rfl, hr, hx⟩
    · refine ⟨d, false, rfl, hr, ?_⟩
      walk_at "dxs"
      refine no ?_
      cases d with
      | tup xs => exact absurd rfl (hn xs)
      | _ => rfl
    refine ⟨_, true, rfl, hr, ?_⟩
    walk_at "dxs"
    match xs, hx, hw, q, no with
    | [], hx, hw, q, no =>
      refine x_iteT rfl ?_
      walk_at "dxs"
      exact no rfl
    | m :: xs, hx, hw, q, no =>
      refine x_iteF (decide_eq_false (by rw [List.length_cons]; omega)) ?_
      have im : L2.atI (m :: xs) 0 = some m := atI_nat (i := 0) rfl
      walk_at "dxs"
      rcases (hx m (by simp)).row H with ⟨hr2, hn2⟩ | ⟨ms, rfl, hr2, hm⟩
      · refine ⟨m, false, rfl, hr2, ?_⟩
        walk_at "dxs"
        refine no ?_
        cases m with
        | tup xs => exact absurd rfl (hn2 xs)
        | _ => rfl
      refine ⟨_, true, rfl, hr2, ?_⟩
      walk_at "dxs"
      refine x_ite (fun d2 => ?_) fun d2 => ?_
      · walk_at "dxs"
        refine no ?_
        match ms, d2 with
        | [], _ => rfl
        | [_], _ => rfl
        | [_, _], d2 => simp at d2
        | _ :: _ :: _ :: _, _ => simp [widthD]
      have l2 : ms.length = 2 := by
        have : (ms.length : Int) = 2 := by simpa using d2
        omega
      obtain ⟨a, g, rfl⟩ := pure2 l2
      have ig : L2.atI [a, g] 1 = some g := rfl
      walk_at "dxs"
      rcases (hm g (by simp)).row H with ⟨hr3, hn3⟩ | ⟨gs, rfl, hr3, hg⟩
      · refine ⟨g, false, rfl, hr3, ?_⟩
        walk_at "dxs"
        refine no ?_
        cases g with
        | tup xs => exact absurd rfl (hn3 xs)
        | _ => rfl
      refine ⟨_, true, rfl, hr3, ?_⟩
      walk_at "dxs"
      exact ⟨_, Sub.refl _, q⟩
def sp_shape_allowed : DSp := fun ds H Q _ => ∃ d0 d1 d2 d3, ds = [d0, d1, d2, d3] ∧ Pure d0 ∧ Pure d1 ∧ Pure d2 ∧ Pure d3 ∧ ∀ r, (r = true ↔ ShapeOk d0 d1 d2 d3) → Q (.bl r) H
theorem ok_shape_allowed (T : Txt P K mg) : DFn P w K mg base 6 T.f_shape_allowed T.d_shape_allowed ps_shape_allowed sp_shape_allowed := by
  refine fn_shape_allowed (k := 3) T (ok_is_row T) (fun ds H Q E h => ?_) (fun ds H Q E h => ?_)
  · obtain ⟨d0, d1, d2, d3, rfl, _⟩ := h; rfl
  · obtain ⟨d0, d1, d2, d3, rfl, p0, p1, p2, p3, q⟩ := h
    have no : ¬ ShapeOk d0 d1 d2 d3 → (endsOf Q E).rt (.bl false) H := fun z => ⟨_, Sub.refl _, q false ⟨fun z => (by cases z), fun y => absurd y z⟩⟩
    unfold rd_shape_allowed
    walk_at "dxs"
    rcases p0.row H with ⟨hr, hn⟩ | ⟨xs0, rfl, hr0, _⟩
    · refine ⟨d0, false, rfl, hr, ?_⟩
      walk_at "dxs"
      exact no fun ⟨n, x0, x1, x2, x3, s⟩ => hn _ s.e0
    refine ⟨_, true, rfl, hr0, ?_⟩
    walk_at "dxs"
    rcases p1.row H with ⟨hr, hn⟩ | ⟨xs1, rfl, hr1, _⟩
    · refine ⟨d1, false, rfl, hr, ?_⟩
      walk_at "dxs"
      exact no fun ⟨n, x0, x1, x2, x3, s⟩ => hn _ s.e1
    refine ⟨_, true, rfl, hr1, ?_⟩
    walk_at "dxs"
    rcases p2.row H with ⟨hr, hn⟩ | ⟨xs2, rfl, hr2, _⟩
    · refine ⟨d2, false, rfl, hr, ?_⟩
      walk_at "dxs"
      exact no fun ⟨n, x0, x1, x2, x3, s⟩ => hn _ s.e2
    refine ⟨_, true, rfl, hr2, ?_⟩
    walk_at "dxs"
    rcases p3.row H with ⟨hr, hn⟩ | ⟨xs3, rfl, hr3, _⟩
    · refine ⟨d3, false, rfl, hr, ?_⟩
      walk_at "dxs"
      exact no fun ⟨n, x0, x1, x2, x3, s⟩ => hn _ s.e3
    refine ⟨_, true, rfl, hr3, ?_⟩
    walk_at "dxs"
    have no2 : ¬ (1 ≤ xs0.length ∧ xs0.length ≤ 400 ∧ xs1.length = xs0.length ∧ xs2.length = xs0.length) → (endsOf Q E).rt (.bl false) H := fun z => no fun ⟨n, x0, x1, x2, x3, s⟩ => z (by
      have h0 := s.e0; have h1 := s.e1; have h2 := s.e2
      cases h0; cases h1; cases h2
      have := s.l0; have := s.l1; have := s.l2; have := s.n1; have := s.n2
      omega)
    refine x_ite (fun c1 => ?_) fun c1 => ?_
    · have c1 : (1 : Int) ≤ xs0.length := of_decide_eq_true c1
      walk_at "dxs"
      refine x_ite (fun c2 => ?_) fun c2 => ?_
      · walk_at "dxs"
        refine no2 fun h => ?_
        have : (xs0.length : Int) ≤ 400 := by omega
        simp [this] at c2
      have c2 : (xs0.length : Int) ≤ 400 := of_decide_eq_true (by simpa using c2)
      walk_at "dxs"
      refine x_ite (fun c3 => ?_) fun c3 => ?_
      · walk_at "dxs"
        refine no2 fun h => ?_
        simp [h.2.2.1] at c3
      have c3 : (xs1.length : Int) = xs0.length := by simpa using c3
      walk_at "dxs"
      refine x_ite (fun c4 => ?_) fun c4 => ?_
      · walk_at "dxs"
        refine no2 fun h => ?_
        simp [h.2.2.2] at c4
      have c4 : (xs2.length : Int) = xs0.length := by simpa using c4
      walk_at "dxs"
      have fin : ∀ r : Bool, (r = true ↔ xs3.length = 0 ∨ xs3.length = xs0.length) → (endsOf Q E).rt (.bl r) H := fun r hr => ⟨_, Sub.refl _, q r (by
        rw [hr]
        constructor
        · intro h
          exact ⟨xs0.length, xs0, xs1, xs2, xs3, rfl, rfl, rfl, rfl, rfl, by omega, by omega, h, by omega, by omega⟩
        · rintro ⟨n, x0, x1, x2, x3, s⟩
          have h0 := s.e0; have h3 := s.e3
          cases h0; cases h3
          have := s.l0; have := s.l3
          omega)⟩
      refine x_ite (fun c5 => ?_) fun c5 => ?_
      · have c5 : (xs3.length : Int) = 0 := of_decide_eq_true c5
        walk_at "dxs"
        exact fin true ⟨fun _ => .inl (by omega), fun _ => rfl⟩
      · have c5 : ¬ (xs3.length : Int) = 0 := of_decide_eq_false c5
        walk_at "dxs"
        refine fin _ ?_
        rw [decide_eq_true_iff]
        omega
    · have c1 : ¬ (1 : Int) ≤ xs0.length := of_decide_eq_false c1
      walk_at "dxs"
      exact no2 fun h => by omega
end
end K02

namespace K02
open PySem PySem.Spec PyProof.Rows L2 DL
structure PlB (n : Nat) (xs0 xs1 xs2 xs3 : List DL.D) (p : Nat) : Prop where
  ow : ∀ o, xs0[p]? = some o → plB 2 o = true
  rk : ∀ r, xs1[p]? = some r → plB 10 r = true
  mv : ∀ m, xs2[p]? = some m → MovesP n (widthD (xs2.getD 0 .non)) m
  mks : ∀ k, xs3[p]? = some k → MarksP k
/-- what is wrong with four arguments -/
inductive FaultIs (d0 d1 d2 d3 : DL.D) : Option Int → Prop
  | shape : ¬ ShapeOk d0 d1 d2 d3 → FaultIs d0 d1 d2 d3 (some (-1))
  | place {n : Nat} {xs0 xs1 xs2 xs3 : List DL.D} (p : Nat) : ShapeP d0 d1 d2 d3 n xs0 xs1 xs2 xs3 → p < n → ¬ PlB n xs0 xs1 xs2 xs3 p → (∀ j, j < p → PlB n xs0 xs1 xs2 xs3 j) → FaultIs d0 d1 d2 d3 (some (p : Int))
  | ok {n : Nat} {xs0 xs1 xs2 xs3 : List DL.D} : ShapeP d0 d1 d2 d3 n xs0 xs1 xs2 xs3 → (∀ j, j < n → PlB n xs0 xs1 xs2 xs3 j) → FaultIs d0 d1 d2 d3 none
def lenD : DL.D → Nat
  | .tup xs => xs.length
  | _ => 0
/-- the marks as they are kept -/
def mkD (n : Nat) : DL.D → DL.D
  | .tup [] => .tup (List.replicate n (.tup []))
  | d => d
def fsB (d0 d1 d2 d3 : DL.D) : List (Str × DL.D) := [("owners", d0), ("ranks", d1), ("moves", d2), ("marks", d3)]
theorem flat1 {α : Type} (x : α) : ∀ n : Nat, (List.replicate n [x]).flatten = List.replicate n x
  | 0 => rfl
  | n + 1 => by rw [List.replicate_succ, List.replicate_succ, List.flatten_cons, flat1 x n]; rfl
theorem marks_none : MarksP (.tup []) := ⟨[], rfl, ⟨fun j x e => by simp at e, fun i a b e => by simp at e⟩⟩
section
variable {P : Program} {w : World} {K : PySem.W.Frag} {mg : Str → Option Value} {base : Heap}
def sp_Board_init (T : Txt P K mg) : DSp := fun ds H Q E => ∃ p x0 x1 x2 x3 d0 d1 d2 d3, ds = [.ref p, x0, x1, x2, x3] ∧ H p = some (.ins T.C_Board []) ∧ (Frz H x0 d0 ∧ Frz H x1 d1 ∧ Frz H x2 d2 ∧ Frz H x3 d3) ∧ (wt d0 ≤ 100000 ∧ wt d1 ≤ 100000 ∧ wt d2 ≤ 100000 ∧ wt d3 ≤ 100000) ∧ (Pure d0 ∧ Pure d1 ∧ Pure d2 ∧ Pure d3) ∧
  (FaultIs d0 d1 d2 d3 none → Q .non (put H p (.ins T.C_Board (fsB d0 d1 d2 (mkD (lenD d0) d3))))) ∧
  (∀ i : Int, FaultIs d0 d1 d2 d3 (some i) → ∀ d, H d = none → E T.C_InvalidBoard (some d) (put H d (.xd [("place", .int i)])))
theorem ok_Board_init (T : Txt P K mg) : DFn P w K mg base 12 T.f_Board_init T.d_Board_init ps_Board_init (sp_Board_init T) := by
  refine fn_Board_init (k := 9) T ((ok_frozen T).mono (by decide)) ((ok_shape_allowed T).mono (by decide)) ((ok_first_width T).mono (by decide)) ((ok_is_player T).mono (by decide)) ((ok_rank_allowed T).mono (by decide)) ((ok_marks_allowed T).mono (by decide)) (ok_moves_allowed T) (fun ds H Q E h => ?_) (fun ds H Q E h => ?_)
  · obtain ⟨p, x0, x1, x2, x3, d0, d1, d2, d3, rfl, _⟩ := h; rfl
  · obtain ⟨p, x0, x1, x2, x3, d0, d1, d2, d3, rfl, hp, ⟨f0, f1, f2, f3⟩, ⟨w0, w1, w2, w3⟩, ⟨p0, p1, p2, p3⟩, q, qe⟩ := h
    have cB := T.c_Board
    have nO := T.n_Board_owners
    have nR := T.n_Board_ranks
    have nM := T.n_Board_moves
    have nK := T.n_Board_marks
    unfold rd_Board_init
    walk_at "dxs"
    refine ⟨x0, d0, rfl, f0, w0, ?_⟩
    walk_at "dxs"
    refine ⟨x1, d1, rfl, f1, w1, ?_⟩
    walk_at "dxs"
    refine ⟨x2, d2, rfl, f2, w2, ?_⟩
    walk_at "dxs"
    refine ⟨x3, d3, rfl, f3, w3, ?_⟩
    walk_at "dxs"
    refine ⟨d0, d1, d2, d3, rfl, p0, p1, p2, p3, fun r hr => ?_⟩
    walk_at "dxs"
    cases r with
    | false =>
      refine x_iteT rfl ?_
      walk_at "dxs"
      intro e he
      exact ⟨_, Sub.refl _, qe _ (.shape fun z => by have := hr.mpr z; cases this) e he⟩
    | true =>
      obtain ⟨n, xs0, xs1, xs2, xs3, sh⟩ := hr.mp rfl
      have n1 := sh.n1
      have n2 := sh.n2
      have l0 := sh.l0
      have l1 := sh.l1
      have l2 := sh.l2
      have l3 := sh.l3
      have e0 := sh.e0
      have e1 := sh.e1
      have e2 := sh.e2
      have e3 := sh.e3
      subst e0 e1 e2 e3
      refine x_iteF rfl ?_
      walk_at "dxs"
      have hx0 : ∀ x ∈ xs0, Pure x := by cases p0; assumption
      have hx1 : ∀ x ∈ xs1, Pure x := by cases p1; assumption
      have hx2 : ∀ x ∈ xs2, Pure x := by cases p2; assumption
      have hx3 : ∀ x ∈ xs3, Pure x := by cases p3; assumption
      have wtm : ∀ {ys : List DL.D} {i : Nat} {y : DL.D}, wt (.tup ys) ≤ 100000 → ys[i]? = some y → wt y ≤ 100000 := fun {ys i y} h e => by
        have := wts_mem e
        rw [wt] at h
        omega
      -- the marks that are kept
      have tail : ∀ ks : List DL.D, ks.length = n → (∀ (j : Nat) (k : DL.D), ks[j]? = some k → Pure k ∧ wt k ≤ 100000) → (∀ j : Nat, j < n → ((∀ k, ks[j]? = some k → MarksP k) ↔ (∀ k, xs3[j]? = some k → MarksP k))) → DL.D.tup ks = mkD n (.tup xs3) →
          (dSeq (dSet (dCall sp_first_width [] (dCons (dOp dIx (dVar 3) (dC (.int 0))) dNil)) 6) (dSeq (dFor (wRng1 (dCons (dVar 5) dNil)) (gNm 7) (dSeq (dIfS (dOr (dNot (dTest (dCall sp_is_player [] (dCons (dOp dIx (dVar 1) (dVar 7)) dNil)))) (dNot (dTest (dCall sp_rank_allowed [] (dCons (dOp dIx (dVar 2) (dVar 7)) dNil))))) (dRaise (dMk T.C_InvalidBoard ["place"] (dCons (dVar 7) dNil))) dNext) (dIfS (dOr (dNot (dTest (dCall sp_marks_allowed [] (dCons (dOp dIx (dVar 4) (dVar 7)) dNil)))) (dNot (dTest (dCall sp_moves_allowed [] (dCons (dOp dIx (dVar 3) (dVar 7)) (dCons (dVar 5) (dCons (dVar 6) dNil))))))) (dRaise (dMk T.C_InvalidBoard ["place"] (dCons (dVar 7) dNil))) dNext))) (dSeq (dSetFld K (dVar 0) (dVar 1) "owners") (dSeq (dSetFld K (dVar 0) (dVar 2) "ranks") (dSeq (dSetFld K (dVar 0) (dVar 3) "moves") (dSetFld K (dVar 0) (dVar 4) "marks"))))))
          (endsOf Q E) [some (.ref p), some (.tup xs0), some (.tup xs1), some (.tup xs2), some (.tup ks), some (.int (n : Int)), none, none] H := by
        intro ks kl kp km ke
        obtain ⟨m0, hm0⟩ : ∃ m0, xs2[0]? = some m0 := ⟨_, List.getElem?_eq_getElem (by omega)⟩
        have i0 : L2.atI xs2 0 = some m0 := atI_nat (i := 0) hm0
        have hg0 : xs2.getD 0 .non = m0 := by rw [List.getD_eq_getElem?_getD, hm0]; rfl
        walk_at "dxs"
        refine ⟨m0, rfl, hx2 m0 (List.mem_of_getElem? hm0), wtm w2 hm0, ?_⟩
        walk_at "dxs"
        refine x_rng1At (n := n) rfl (by omega) ?_
        refine forRng (fun i σ H' => ∃ (o7 : Option DL.D), σ = [some (.ref p), some (.tup xs0), some (.tup xs1), some (.tup xs2), some (.tup ks), some (.int (n : Int)), some (.int (widthD m0)), o7] ∧ H' = H ∧ ∀ j, j < i → PlB n xs0 xs1 xs2 xs3 j) ?_ ?_ ?_
        · exact ⟨_, rfl, rfl, fun j hj => absurd hj (by omega)⟩
        · rintro i σ H' hi ⟨o7, rfl, rfl, hok⟩
          have ez : (0 : Int) + (i : Int) = (i : Int) := by omega
          rw [ez]
          obtain ⟨a, ha⟩ : ∃ a, xs0[i]? = some a := ⟨_, List.getElem?_eq_getElem (by omega)⟩
          obtain ⟨b, hb⟩ : ∃ a, xs1[i]? = some a := ⟨_, List.getElem?_eq_getElem (by omega)⟩
          obtain ⟨c, hc⟩ : ∃ a, xs2[i]? = some a := ⟨_, List.getElem?_eq_getElem (by omega)⟩
          obtain ⟨d, hd⟩ : ∃ a, ks[i]? = some a := ⟨_, List.getElem?_eq_getElem (by omega)⟩
          have ia := atI_nat ha
          have ib := atI_nat hb
          have ic := atI_nat hc
          have id := atI_nat hd
          obtain ⟨ta, ka⟩ := (hx0 a (List.mem_of_getElem? ha)).kd H'
          obtain ⟨tb, kb⟩ := (hx1 b (List.mem_of_getElem? hb)).kd H'
          have bad : ¬ PlB n xs0 xs1 xs2 xs3 i → ∀ e, H' e = none → (endsOf Q E).ex T.C_InvalidBoard (some e) [some (.ref p), some (.tup xs0), some (.tup xs1), some (.tup xs2), some (.tup ks), some (.int (n : Int)), some (.int (widthD m0)), some (.int (i : Int))] (put H' e (.xd [("place", .int (i : Int))])) := fun z e he => ⟨_, Sub.refl _, qe _ (.place i sh hi z hok) e he⟩
          walk_at "dxs"
          refine ⟨a, ta, rfl, ka, ?_⟩
          walk_at "dxs"
          cases c1 : plB 2 a with
          | false =>
            refine x_iteT rfl ?_
            walk_at "dxs"
            exact bad fun z => by have := z.ow a ha; rw [c1] at this; cases this
          | true =>
            refine x_iteF rfl ?_
            walk_at "dxs"
            refine ⟨b, tb, rfl, kb, ?_⟩
            walk_at "dxs"
            cases c2 : plB 10 b with
            | false =>
              refine x_iteT rfl ?_
              walk_at "dxs"
              exact bad fun z => by have := z.rk b hb; rw [c2] at this; cases this
            | true =>
              refine x_iteF rfl ?_
              walk_at "dxs"
              obtain ⟨pd, wd⟩ := kp i d hd
              refine ⟨d, rfl, pd, fun ys e => ?_, fun r hr => ?_⟩
              · subst e
                have := wts_len ys
                rw [wt] at wd
                omega
              walk_at "dxs"
              cases r with
              | false =>
                refine x_iteT rfl ?_
                walk_at "dxs"
                exact bad fun z => by
                  have := hr.mpr ((km i hi).mpr z.mks d hd)
                  cases this
              | true =>
                refine x_iteF rfl ?_
                walk_at "dxs"
                refine ⟨c, n, widthD m0, rfl, hx2 c (List.mem_of_getElem? hc), wtm w2 hc, fun r2 hr2 => ?_⟩
                walk_at "dxs"
                cases r2 with
                | false =>
                  refine x_iteT rfl ?_
                  walk_at "dxs"
                  exact bad fun z => by
                    have := z.mv c hc
                    rw [hg0] at this
                    have := hr2.mpr this
                    cases this
                | true =>
                  refine x_iteF rfl ?_
                  walk_at "dxs"
                  refine ⟨_, rfl, rfl, fun j hj => ?_⟩
                  by_cases cj : j < i
                  · exact hok j cj
                  · have : j = i := by omega
                    subst this
                    refine ⟨fun o e => by rw [ha] at e; cases e; exact c1, fun o e => by rw [hb] at e; cases e; exact c2, fun o e => ?_, (km j hi).mp fun k e => ?_⟩
                    · rw [hc] at e
                      cases e
                      rw [hg0]
                      exact hr2.mp rfl
                    · rw [hd] at e
                      cases e
                      exact hr.mp rfl
        · rintro σ H' ⟨o7, rfl, rfl, hok⟩
          walk_at "dxs"
          refine ⟨_, Sub.refl _, ?_⟩
          rw [put_put, put_put, put_put]
          have := q (.ok sh hok)
          rw [show lenD (.tup xs0) = n from l0, ← ke] at this
          exact this
      refine x_ite (fun c => ?_) fun c => ?_
      · have c : xs3 = [] := List.length_eq_zero_iff.mp (by have := of_decide_eq_true c; omega)
        walk_at "dxs"
        refine x_mulT (by omega) (by omega) (by simp) (by simp) ?_
        rw [flat1, Int.toNat_natCast, l0]
        subst c
        refine tail (List.replicate n (.tup [])) (by simp) (fun j k e => ?_) (fun j hj => ?_) rfl
        · have := List.eq_of_mem_replicate (List.mem_of_getElem? e)
          subst this
          exact ⟨.tup (by simp), by decide⟩
        · refine ⟨fun _ k e => by simp at e, fun _ k e => ?_⟩
          have := List.eq_of_mem_replicate (List.mem_of_getElem? e)
          subst this
          exact marks_none
      · have c : xs3 ≠ [] := fun z => by subst z; simp at c
        refine x_next ?_
        rw [l0]
        refine tail xs3 ?_ (fun j k e => ⟨hx3 k (List.mem_of_getElem? e), wtm w3 e⟩) (fun j hj => Iff.rfl) ?_
        · rcases l3 with h | h
          · exact absurd (List.length_eq_zero_iff.mp h) c
          · exact h
        · match xs3, c with
          | [], c => exact absurd rfl c
          | _ :: _, _ => rfl
end
end K02

namespace K02
open PySem PySem.Spec PyProof.Rows L2 DL
theorem RowIs.notup {H : DH} {xs : List DL.D} (h : RowIs H (.tup xs) false) : False := by
  rcases h with ⟨t, e, b⟩ | ⟨a, ys, e, _, b⟩
  · cases e
    exact absurd b (by decide)
  · cases b
/-- raw data and what it freezes to -/
theorem Frz.cases2 {H : DH} {x d : DL.D} (h : Frz H x d) : (RowIs H x false ∧ d = x ∧ ∀ ys, d ≠ .tup ys) ∨ ∃ xs ys, d = .tup ys ∧ Items H x xs ∧ Frzs H xs ys ∧ RowIs H x true := by
  rcases h.row with ⟨h1, h2⟩ | ⟨h1, ys, h2⟩
  · exact .inl ⟨h1, h2, fun ys e => by rw [h2] at e; subst e; exact h1.notup⟩
  · subst h2
    obtain ⟨xs, hi, hs⟩ := h.items
    exact .inr ⟨xs, ys, rfl, hi, hs, h1⟩
theorem Frz.kd {H : DH} {x d : DL.D} (h : Frz H x d) : ∃ t, Kd H x t := by
  cases h with
  | leaf l =>
    rcases l with ⟨t, e, b⟩ | ⟨a, xs, e, _, b⟩
    · exact ⟨t, .inl e⟩
    · cases b
  | tup h => exact ⟨_, .inl rfl⟩
  | fl h => exact ⟨_, .inl rfl⟩
  | lst a h => exact ⟨_, .inr ⟨_, _, rfl, a, rfl⟩⟩
theorem Frz.int {H : DH} {x d : DL.D} (h : Frz H x d) : isI x = isI d ∧ ∀ v, x = .int v → d = .int v := by
  cases h with
  | leaf l => exact ⟨rfl, fun v e => e⟩
  | tup h => exact ⟨rfl, fun v e => by cases e⟩
  | fl h => exact ⟨rfl, fun v e => by cases e⟩
  | lst a h => exact ⟨rfl, fun v e => by cases e⟩
theorem Frz.str {H : DH} {x d : DL.D} (h : Frz H x d) : ∀ v, x = .str v ↔ d = .str v := by
  cases h with
  | leaf l => exact fun v => Iff.rfl
  | tup h => exact fun v => ⟨fun e => (by cases e), fun e => (by cases e)⟩
  | fl h => exact fun v => ⟨fun e => (by cases e), fun e => (by cases e)⟩
  | lst a h => exact fun v => ⟨fun e => (by cases e), fun e => (by cases e)⟩
theorem Frz.name {H : DH} {x d : DL.D} (h : Frz H x d) : NameP x ↔ NameP d := by
  unfold NameP
  exact ⟨fun ⟨z, e, n⟩ => ⟨z, (h.str z).mp e, n⟩, fun ⟨z, e, n⟩ => ⟨z, (h.str z).mpr e, n⟩⟩
theorem Frzs.get2 {H : DH} {xs ys : List DL.D} {i : Nat} {y : DL.D} (h : Frzs H xs ys) (e : ys[i]? = some y) : ∃ x, xs[i]? = some x ∧ Frz H x y := by
  have l := h.len
  have hi := (List.getElem?_eq_some_iff.mp e).1
  obtain ⟨x, hx⟩ : ∃ x, xs[i]? = some x := ⟨_, List.getElem?_eq_getElem (by omega)⟩
  obtain ⟨y', e1, h1⟩ := h.get hx
  rw [e] at e1
  cases e1
  exact ⟨x, hx, h1⟩
/-- a for over a row -/
theorem forItems {x : DL.D} {xs : List DL.D} {g : DTG} {tb : DTS} {Z : DEnds} {nx : DSt → DH → Prop} {σ : DSt} {H1 : DH} (hi : Items H1 x xs) (W : Nat → DSt → DH → Prop) (h0 : W 0 σ H1) (st : ∀ i σ H, W i σ H → Items H x xs)
    (step : ∀ i y σ H, xs[i]? = some y → W i σ H → g y σ H fun σ2 H2 => tb { Z with nx := W (i + 1), ct := W (i + 1), bk := nx } σ2 H2) (hd : ∀ σ H, W xs.length σ H → nx σ H) : seqAt x H1 fun J H' => ForGo J g tb Z nx σ H' := by
  cases hi with
  | tup => exact forSeq W h0 step hd
  | fl => exact forSeq W h0 step hd
  | lst a => exact ⟨⟨_, a⟩, forLst W h0 (fun i σ H w => by cases st i σ H w; assumption) step hd⟩
section
variable {P : Program} {w : World} {K : PySem.W.Frag} {mg : Str → Option Value} {base : Heap}
theorem ok_lint (T : Txt P K mg) : DFn P w K mg base 3 T.f__law_is_int T.d__law_is_int ps__law_is_int sp_is_integer := by
  refine fn__law_is_int (k := 0) T (fun ds H Q E h => ?_) (fun ds H Q E h => ?_)
  · obtain ⟨x, t, rfl, _⟩ := h; rfl
  · obtain ⟨x, t, rfl, hk, q⟩ := h
    have e := hk.int
    unfold rd__law_is_int
    walk_at "dxs"
    refine x_isiK hk (by decide) ?_
    walk_at "dxs"
    cases c : isB t "int" with
    | true =>
      refine x_iteT rfl ?_
      walk_at "dxs"
      refine x_isiK hk (by decide) ?_
      walk_at "dxs"
      rw [c, Bool.true_and] at e
      rw [e]
      exact ⟨_, Sub.refl _, q⟩
    | false =>
      refine x_iteF rfl ?_
      rw [c, Bool.false_and] at e
      rw [e]
      exact ⟨_, Sub.refl _, q⟩
theorem ok_lrow (T : Txt P K mg) : DFn P w K mg base 3 T.f__law_is_row T.d__law_is_row ps__law_is_row sp_is_row := by
  refine fn__law_is_row (k := 0) T (fun ds H Q E h => ?_) (fun ds H Q E h => ?_)
  · obtain ⟨x, b, rfl, _⟩ := h; rfl
  · obtain ⟨x, b, rfl, hx, q⟩ := h
    unfold rd__law_is_row
    walk_at "dxs"
    rcases hx with ⟨t, ht, rfl⟩ | ⟨a, xs, rfl, ha, rfl⟩
    · refine x_isiT (cs := ["tuple", "list"]) ht (by decide) (x_endR (Sub.refl _) ?_)
      have : (["tuple", "list"].any fun c => isB t c) = (isB t "list" || isB t "tuple") := by simp [Bool.or_comm]
      rw [this]
      exact q
    · refine x_isiTL (cs := ["tuple", "list"]) ha (by decide) (x_endR (Sub.refl _) ?_)
      exact q
theorem ok_lname (T : Txt P K mg) : DFn P w K mg base 3 T.f__law_is_name T.d__law_is_name ps__law_is_name sp_is_name := by
  refine fn__law_is_name (k := 0) T (fun ds H Q E h => ?_) (fun ds H Q E h => ?_)
  · obtain ⟨x, t, rfl, _⟩ := h; rfl
  · obtain ⟨x, t, rfl, hk, hl, q⟩ := h
    have no : ¬ NameP x → (endsOf Q E).rt (.bl false) H := fun z => ⟨_, Sub.refl _, q false ⟨fun z => (by cases z), fun y => absurd y z⟩⟩
    have e := hk.str
    unfold rd__law_is_name
    walk_at "dxs"
    refine x_isiK hk (by decide) ?_
    walk_at "dxs"
    rw [e]
    cases c : isS x with
    | false =>
      refine x_iteT rfl ?_
      walk_at "dxs"
      refine no fun ⟨z, e2, _⟩ => ?_
      subst e2
      cases c
    | true =>
      obtain ⟨z, rfl⟩ := isS_iff.mp c
      have zl := hl z rfl
      have small : ¬ (1 ≤ z.length ∧ z.length ≤ 8) → (endsOf Q E).rt (.bl false) H := fun h => no fun ⟨z', e2, nm⟩ => by
        cases e2
        exact h ⟨nm.l1, nm.l8⟩
      refine x_iteF rfl ?_
      walk_at "dxs"
      refine x_lenS (by rw [sizeLine_eq]; omega) ?_
      walk_at "dxs"
      refine x_ite (fun d1 => ?_) fun d1 => ?_
      · walk_at "dxs"
        have := of_decide_eq_true d1
        exact small fun h => by omega
      have d1 := of_decide_eq_false d1
      walk_at "dxs"
      refine x_lenS (by rw [sizeLine_eq]; omega) ?_
      walk_at "dxs"
      refine x_ite (fun d2 => ?_) fun d2 => ?_
      · walk_at "dxs"
        have := of_decide_eq_true d2
        exact small fun h => by omega
      have d2 := of_decide_eq_false d2
      walk_at "dxs"
      refine forStr (fun i σ H' => ∃ (o1 : Option DL.D), σ = [some (.str z), o1] ∧ H' = H ∧ ∀ (j : Nat) (c : Nat), j < i → z.cps[j]? = some c → c ∈ letters.cps.toList) ?_ ?_ ?_
      · exact ⟨_, rfl, rfl, fun j c hj => absurd hj (by omega)⟩
      · rintro i c σ H' hc ⟨o1, rfl, rfl, hok⟩
        walk_at "dxs"
        refine x_ite (fun d3 => ?_) fun d3 => ?_
        · walk_at "dxs"
          refine no fun ⟨z', e2, nm⟩ => ?_
          cases e2
          have : c ∈ z.cps.toList := List.mem_of_getElem? (by rw [Array.getElem?_toList]; exact hc)
          have := nm.all_ c this
          have d3 := of_decide_eq_false (by simpa only [Bool.not_eq_true'] using d3)
          exact d3 this
        · have d3 := of_decide_eq_true (by simpa only [Bool.not_eq_false'] using d3)
          walk_at "dxs"
          refine ⟨_, rfl, rfl, fun j c' hj e => ?_⟩
          by_cases cj : j < i
          · exact hok j c' cj e
          · have : j = i := by omega
            subst this
            rw [hc] at e
            cases e
            exact d3
      · rintro σ H' ⟨o1, rfl, rfl, hok⟩
        walk_at "dxs"
        refine ⟨_, Sub.refl _, q true ⟨fun _ => ⟨z, rfl, by omega, by omega, fun c hc => ?_⟩, fun _ => rfl⟩⟩
        obtain ⟨j, hj⟩ := List.mem_iff_getElem?.mp hc
        rw [Array.getElem?_toList] at hj
        exact hok j c (Array.getElem?_eq_some_iff.mp hj).1 hj
def sp_bad_marks : DSp := fun ds H Q _ => ∃ x d, ds = [x] ∧ Frz H x d ∧ Pure d ∧ wt d ≤ 100000 ∧ ∀ r, (r = true ↔ ¬ MarksP d) → Q (.bl r) H
theorem ok_bad_marks (T : Txt P K mg) : DFn P w K mg base 6 T.f__law_bad_marks T.d__law_bad_marks ps__law_bad_marks sp_bad_marks := by
  refine fn__law_bad_marks (k := 3) T (ok_lrow T) (ok_lname T) (fun ds H Q E h => ?_) (fun ds H Q E h => ?_)
  · obtain ⟨x, d, rfl, _⟩ := h; rfl
  · obtain ⟨x, d, rfl, hf, hp, hw, q⟩ := h
    have yes : ¬ MarksP d → (endsOf Q E).rt (.bl true) H := fun z => ⟨_, Sub.refl _, q true ⟨fun _ => z, fun _ => rfl⟩⟩
    unfold rd__law_bad_marks
    walk_at "dxs"
    rcases hf.cases2 with ⟨hr, rfl, hn⟩ | ⟨xs, ys, rfl, hi, hs, hr⟩
    · refine ⟨d, false, rfl, hr, ?_⟩
      walk_at "dxs"
      exact yes fun ⟨xs, e, _⟩ => hn xs e
    have hl : ys.length ≤ 100000 := by
      have := wts_len ys
      rw [wt] at hw
      omega
    have ll := hs.len
    have py : ∀ y ∈ ys, Pure y := by cases hp; assumption
    refine ⟨_, true, rfl, hr, ?_⟩
    walk_at "dxs"
    refine hi.len (Sub.refl _) ?_
    walk_at "dxs"
    refine x_rng1At (n := xs.length) rfl (by omega) ?_
    refine forRng (fun i σ H' => ∃ (o1 : Option DL.D), σ = [some x, o1] ∧ H' = H ∧ (∀ (j : Nat) y, j < i → ys[j]? = some y → NameP y) ∧ ∀ (j : Nat) (a b : Str), j + 1 < i → ys[j]? = some (.str a) → ys[j + 1]? = some (.str b) → a.cps.toList < b.cps.toList) ?_ ?_ ?_
    · exact ⟨_, rfl, rfl, fun j y hj => absurd hj (by omega), fun j a b hj => absurd hj (by omega)⟩
    · rintro i σ H' hi' ⟨o1, rfl, rfl, h1, h2⟩
      have e0 : (0 : Int) + (i : Int) = (i : Int) := by omega
      rw [e0]
      obtain ⟨y, hy⟩ : ∃ y, ys[i]? = some y := ⟨_, List.getElem?_eq_getElem (by omega)⟩
      obtain ⟨v, hv, fv⟩ := hs.get2 hy
      obtain ⟨t, kv⟩ := fv.kd
      have pv := py y (List.mem_of_getElem? hy)
      walk_at "dxs"
      refine hi.ix (Sub.refl _) (atI_nat hv) ?_
      walk_at "dxs"
      refine ⟨v, t, rfl, kv, fun z e => ?_, fun r hr => ?_⟩
      · have := (fv.str z).mp e
        subst this
        cases pv
        assumption
      rw [fv.name] at hr
      walk_at "dxs"
      cases r with
      | false =>
        refine x_iteT rfl ?_
        walk_at "dxs"
        exact yes fun ⟨zs, e, m⟩ => by
          cases e
          have := hr.mpr (m.nm i y hy)
          cases this
      | true =>
        have hn := hr.mp rfl
        have next : (∀ a b, 0 < i → ys[i - 1]? = some (.str a) → ys[i]? = some (.str b) → a.cps.toList < b.cps.toList) → ∃ (o1' : Option DL.D), [some x, some (.int (i : Int))] = [some x, o1'] ∧ H' = H' ∧ (∀ (j : Nat) y, j < i + 1 → ys[j]? = some y → NameP y) ∧ ∀ (j : Nat) (a b : Str), j + 1 < i + 1 → ys[j]? = some (.str a) → ys[j + 1]? = some (.str b) → a.cps.toList < b.cps.toList := fun z => by
          refine ⟨_, rfl, rfl, fun j u hj e => ?_, fun j a b hj e1 e2 => ?_⟩
          · by_cases cj : j < i
            · exact h1 j u cj e
            · have : j = i := by omega
              subst this
              rw [hy] at e
              cases e
              exact hn
          · by_cases cj : j + 1 < i
            · exact h2 j a b cj e1 e2
            · have : i = j + 1 := by omega
              subst this
              exact z a b (by omega) (by simpa using e1) e2
        refine x_iteF rfl ?_
        walk_at "dxs"
        refine x_ite (fun d0 => ?_) fun d0 => ?_
        · have d0 : 0 < i := by have := of_decide_eq_true d0; omega
          obtain ⟨y', hy'⟩ : ∃ y, ys[i - 1]? = some y := ⟨_, List.getElem?_eq_getElem (by omega)⟩
          obtain ⟨v', hv', fv'⟩ := hs.get2 hy'
          obtain ⟨b, eb, _⟩ := hn
          obtain ⟨a, ea, _⟩ := h1 (i - 1) y' (by omega) hy'
          subst ea eb
          have e1 := (fv.str b).mpr rfl
          have e2 := (fv'.str a).mpr rfl
          subst e1 e2
          walk_at "dxs"
          refine hi.ix (Sub.refl _) (i := (i : Int) - 1) (by rw [show ((i : Int) - 1) = ((i - 1 : Nat) : Int) by omega]; exact atI_nat hv') ?_
          walk_at "dxs"
          refine hi.ix (Sub.refl _) (atI_nat hv) ?_
          walk_at "dxs"
          refine x_ite (fun d1 => ?_) fun d1 => ?_
          · have d1 := of_decide_eq_false (by simpa only [Bool.not_eq_true'] using d1)
            walk_at "dxs"
            exact yes fun ⟨zs, e, m⟩ => by
              cases e
              exact d1 (m.asc (i - 1) a b hy' (by rw [show i - 1 + 1 = i by omega]; exact hy))
          · have d1 := of_decide_eq_true (by simpa only [Bool.not_eq_false'] using d1)
            walk_at "dxs"
            refine next fun a' b' _ e1 e2 => ?_
            rw [hy'] at e1
            rw [hy] at e2
            cases e1
            cases e2
            exact d1
        · have d0 : ¬ 0 < i := by have := of_decide_eq_false d0; omega
          walk_at "dxs"
          exact next fun a b h => absurd h d0
    · rintro σ H' ⟨o1, rfl, rfl, h1, h2⟩
      walk_at "dxs"
      refine ⟨_, Sub.refl _, q false ⟨fun z => (by cases z), fun z => absurd ⟨ys, rfl, fun j y e => h1 j y ?_ e, fun j a b e1 e2 => h2 j a b ?_ e1 e2⟩ z⟩⟩
      · have := (List.getElem?_eq_some_iff.mp e).1; omega
      · have := (List.getElem?_eq_some_iff.mp e2).1; omega
end
end K02

namespace K02
open PySem PySem.Spec PyProof.Rows L2 DL
theorem len2 {xs : List DL.D} (h : (xs.length : Int) = 2) : ∃ a b, xs = [a, b] := pure2 (by omega)
section
variable {P : Program} {w : World} {K : PySem.W.Frag} {mg : Str → Option Value} {base : Heap}
def sp_bad_moves : DSp := fun ds H Q _ => ∃ x d n wd, ds = [x, .int n, .int wd] ∧ Frz H x d ∧ Pure d ∧ wt d ≤ 100000 ∧ ∀ r, (r = true ↔ ¬ MovesP n wd d) → Q (.bl r) H
theorem ok_bad_moves (T : Txt P K mg) : DFn P w K mg base 6 T.f__law_bad_moves T.d__law_bad_moves ps__law_bad_moves sp_bad_moves := by
  refine fn__law_bad_moves (k := 3) T (ok_lrow T) (ok_lint T) (fun ds H Q E h => ?_) (fun ds H Q E h => ?_)
  · obtain ⟨x, d, n, wd, rfl, _⟩ := h; rfl
  · obtain ⟨x, d, n, wd, rfl, hf, hp, hw, q⟩ := h
    have yes : ¬ MovesP n wd d → (endsOf Q E).rt (.bl true) H := fun z => ⟨_, Sub.refl _, q true ⟨fun _ => z, fun _ => rfl⟩⟩
    unfold rd__law_bad_moves
    walk_at "dxs"
    rcases hf.cases2 with ⟨hr, rfl, hn⟩ | ⟨xs, ys, rfl, hi, hs, hr⟩
    · refine ⟨d, false, rfl, hr, ?_⟩
      walk_at "dxs"
      exact yes fun ⟨xs, e, _⟩ => hn xs e
    have ll := hs.len
    have py : ∀ y ∈ ys, Pure y := by cases hp; assumption
    refine ⟨_, true, rfl, hr, ?_⟩
    walk_at "dxs"
    refine hi.len (Sub.refl _) ?_
    walk_at "dxs"
    have first : MovesP n wd (.tup ys) → 0 < ys.length ∧ 0 ≤ wd ∧ wd ≤ 3 := fun ⟨zs, e, ne, m⟩ => by
      cases e
      have h0 := List.length_pos_iff.mpr ne
      obtain ⟨t, g, mv⟩ := m 0 h0
      obtain ⟨gs, _, l, l3, _⟩ := mv.gp
      exact ⟨h0, by omega, l3⟩
    refine x_ite (fun d1 => ?_) fun d1 => ?_
    · walk_at "dxs"
      have d1 := of_decide_eq_true d1
      exact yes fun z => by have := first z; omega
    have d1 := of_decide_eq_false d1
    walk_at "dxs"
    refine x_ite (fun d2 => ?_) fun d2 => ?_
    · walk_at "dxs"
      have d2 := of_decide_eq_true d2
      exact yes fun z => by have := first z; omega
    have d2 := of_decide_eq_false d2
    walk_at "dxs"
    refine x_ite (fun d3 => ?_) fun d3 => ?_
    · walk_at "dxs"
      have d3 := of_decide_eq_true d3
      exact yes fun z => by have := first z; omega
    have d3 := of_decide_eq_false d3
    walk_at "dxs"
    refine forItems hi (fun i σ H' => ∃ (o4 o5 : Option DL.D) (bef : Int), σ = [some x, some (.int n), some (.int wd), some (.int bef), o4, o5] ∧ H' = H ∧ (i = 0 → bef = -1) ∧ (0 < i → ∃ g', ys[i - 1]? = some (.tup [.int bef, g'])) ∧ ∀ j, j < i → ∃ t g, MoveP n wd ys j t g) ?_ (fun i σ H' h => ?_) ?_ ?_
    · exact ⟨_, _, _, rfl, rfl, fun _ => rfl, fun h => absurd h (by omega), fun j hj => absurd hj (by omega)⟩
    · obtain ⟨_, _, _, _, rfl, _⟩ := h
      exact hi
    · rintro i v σ H' hv ⟨o4, o5, bef, rfl, rfl, b0, b1, hok⟩
      have li := (List.getElem?_eq_some_iff.mp hv).1
      obtain ⟨y, hy, fv⟩ := hs.get hv
      have pv := py y (List.mem_of_getElem? hy)
      have bad : (∀ t g, ¬ MoveP n wd ys i t g) → (endsOf Q E).rt (.bl true) H' := fun z => yes fun ⟨zs, e, _, m⟩ => by
        cases e
        obtain ⟨t, g, mv⟩ := m i (by omega)
        exact z t g mv
      walk_at "dxs"
      rcases fv.cases2 with ⟨hr2, rfl, hn2⟩ | ⟨ms, es, rfl, him, hsm, hr2⟩
      · refine ⟨y, false, rfl, hr2, ?_⟩
        walk_at "dxs"
        exact bad fun t g mv => by
          have := mv.at_
          rw [hy] at this
          exact hn2 _ (Option.some.inj this)
      have lm := hsm.len
      refine ⟨_, true, rfl, hr2, ?_⟩
      walk_at "dxs"
      refine him.len (Sub.refl _) ?_
      walk_at "dxs"
      refine x_ite (fun c1 => ?_) fun c1 => ?_
      · walk_at "dxs"
        exact bad fun t g mv => by
          have := mv.at_
          rw [hy] at this
          cases this
          simp at lm
          simp [lm] at c1
      obtain ⟨a, g, rfl⟩ := len2 (xs := ms) (by simpa using c1)
      obtain ⟨a', g', rfl⟩ := pure2 (xs := es) (by rw [← lm]; rfl)
      have fa : Frz H' a a' := by cases hsm; assumption
      have fg : Frz H' g g' := by
        cases hsm with
        | cons _ h => cases h; assumption
      have pm : ∀ e ∈ [a', g'], Pure e := by cases pv; assumption
      have pa := pm a' (by simp)
      have pg := pm g' (by simp)
      have bad2 : (∀ t, a' = .int t → ¬ MoveP n wd ys i t g') → (endsOf Q E).rt (.bl true) H' := fun z => bad fun t g'' mv => by
        have := mv.at_
        rw [hy] at this
        cases this
        exact z t rfl mv
      obtain ⟨ta, ka⟩ := fa.kd
      walk_at "dxs"
      refine him.ix (Sub.refl _) (i := 0) rfl ?_
      walk_at "dxs"
      refine ⟨a, ta, rfl, ka, ?_⟩
      walk_at "dxs"
      cases ci : isI a with
      | false =>
        refine x_iteT rfl ?_
        walk_at "dxs"
        exact bad2 fun t e mv => by
          rw [fa.int.1, e] at ci
          cases ci
      | true =>
        obtain ⟨t, rfl⟩ := isI_iff.mp ci
        have ea := fa.int.2 t rfl
        subst ea
        refine x_iteF rfl ?_
        walk_at "dxs"
        refine him.ix (Sub.refl _) (i := 1) rfl ?_
        walk_at "dxs"
        rcases fg.cases2 with ⟨hr3, e3, hn3⟩ | ⟨gs, gs', e3, hig, hsg, hr3⟩
        · subst e3
          refine ⟨g', false, rfl, hr3, ?_⟩
          walk_at "dxs"
          exact bad2 fun t e mv => by
            obtain ⟨zs, e, _⟩ := mv.gp
            exact hn3 _ e
        subst e3
        have lg := hsg.len
        have pgs : ∀ e ∈ gs', Pure e := by cases pg; assumption
        refine ⟨_, true, rfl, hr3, ?_⟩
        walk_at "dxs"
        refine him.ix (Sub.refl _) (i := 0) rfl ?_
        walk_at "dxs"
        have beft : bef < t → 0 ≤ t ∧ (0 < i → ∀ (t' : Int) (g' : DL.D), ys[i - 1]? = some (.tup [.int t', g']) → t' < t) := fun h => by
          by_cases c0 : i = 0
          · have := b0 c0
            exact ⟨by omega, fun h => absurd h (by omega)⟩
          · obtain ⟨g', eg⟩ := b1 (by omega)
            obtain ⟨t2, g2, mv⟩ := hok (i - 1) (by omega)
            have := mv.at_
            rw [eg] at this
            cases this
            have := mv.t0
            exact ⟨by omega, fun _ t' g'' e => by rw [eg] at e; cases e; exact h⟩
        have tbef : MoveP n wd ys i t (.tup gs') → bef < t := fun mv => by
          by_cases c0 : i = 0
          · have := b0 c0
            have := mv.t0
            omega
          · obtain ⟨g', eg⟩ := b1 (by omega)
            exact mv.asc (by omega) _ _ eg
        refine x_ite (fun c2 => ?_) fun c2 => ?_
        · walk_at "dxs"
          have c2 := of_decide_eq_true c2
          exact bad2 fun t' e mv => by
            cases e
            have := tbef mv
            omega
        have c2 := of_decide_eq_false c2
        walk_at "dxs"
        refine him.ix (Sub.refl _) (i := 0) rfl ?_
        walk_at "dxs"
        refine x_ite (fun c3 => ?_) fun c3 => ?_
        · walk_at "dxs"
          have c3 := of_decide_eq_true c3
          exact bad2 fun t' e mv => by
            cases e
            have := mv.t1
            omega
        have c3 := of_decide_eq_false c3
        walk_at "dxs"
        refine him.ix (Sub.refl _) (i := 1) rfl ?_
        walk_at "dxs"
        refine hig.len (Sub.refl _) ?_
        walk_at "dxs"
        refine x_ite (fun c4 => ?_) fun c4 => ?_
        · walk_at "dxs"
          exact bad2 fun t' e mv => by
            cases e
            obtain ⟨zs, e, l, _⟩ := mv.gp
            cases e
            simp [lg, l] at c4
        have c4 : (gs.length : Int) = wd := by simpa using c4
        walk_at "dxs"
        refine him.ix (Sub.refl _) (i := 0) rfl ?_
        walk_at "dxs"
        refine him.ix (Sub.refl _) (i := 1) rfl ?_
        refine forItems hig (fun k σ H2 => ∃ (o5 : Option DL.D), σ = [some x, some (.int n), some (.int wd), some (.int t), some v, o5] ∧ H2 = H' ∧ ∀ (j : Nat) e, j < k → gs'[j]? = some e → ∃ u : Int, e = .int u ∧ -99 ≤ u ∧ u ≤ 99) ?_ (fun k σ H2 h => ?_) ?_ ?_
        · exact ⟨_, rfl, rfl, fun j e hj => absurd hj (by omega)⟩
        · obtain ⟨_, rfl, rfl, _⟩ := h
          exact hig
        · rintro k u σ H2 hu ⟨o5, rfl, rfl, gok⟩
          obtain ⟨e, he, fe⟩ := hsg.get hu
          obtain ⟨te, ke⟩ := fe.kd
          have bad3 : (∀ z : Int, e = .int z → ¬ (-99 ≤ z ∧ z ≤ 99)) → (endsOf Q E).rt (.bl true) H2 := fun z => bad2 fun t' e mv => by
            obtain ⟨zs, e, _, _, m⟩ := mv.gp
            cases e
            obtain ⟨u', e, r⟩ := m k _ he
            exact z u' e r
          walk_at "dxs"
          refine ⟨u, te, rfl, ke, ?_⟩
          walk_at "dxs"
          cases cu : isI u with
          | false =>
            refine x_iteT rfl ?_
            walk_at "dxs"
            exact bad3 fun z e _ => by
              rw [fe.int.1, e] at cu
              cases cu
          | true =>
            obtain ⟨z, rfl⟩ := isI_iff.mp cu
            have ez := fe.int.2 z rfl
            subst ez
            refine x_iteF rfl ?_
            walk_at "dxs"
            refine x_ite (fun c5 => ?_) fun c5 => ?_
            · walk_at "dxs"
              have c5 := of_decide_eq_true c5
              exact bad3 fun z' e r => by cases e; omega
            have c5 := of_decide_eq_false c5
            walk_at "dxs"
            refine x_ite (fun c6 => ?_) fun c6 => ?_
            · walk_at "dxs"
              have c6 := of_decide_eq_true c6
              exact bad3 fun z' e r => by cases e; omega
            have c6 := of_decide_eq_false c6
            walk_at "dxs"
            refine ⟨_, rfl, rfl, fun j e hj e2 => ?_⟩
            by_cases cj : j < k
            · exact gok j e cj e2
            · have : j = k := by omega
              subst this
              rw [he] at e2
              cases e2
              exact ⟨z, rfl, by omega, by omega⟩
        · rintro σ H2 ⟨o5, rfl, rfl, gok⟩
          have b := beft (by omega)
          have gp : GainsP wd (.tup gs') := ⟨gs', rfl, by omega, by omega, fun j e he => gok j e (by have := (List.getElem?_eq_some_iff.mp he).1; omega) he⟩
          refine ⟨_, _, t, rfl, rfl, fun h => absurd h (by omega), fun _ => ⟨.tup gs', by simpa using hy⟩, fun j hj => ?_⟩
          by_cases cj : j < i
          · exact hok j cj
          · have : j = i := by omega
            subst this
            exact ⟨t, .tup gs', hy, b.1, by omega, gp, b.2⟩
    · rintro σ H' ⟨o4, o5, bef, rfl, rfl, b0, b1, hok⟩
      walk_at "dxs"
      refine ⟨_, Sub.refl _, q false ⟨fun z => (by cases z), fun z => absurd ⟨ys, rfl, fun e => ?_, fun j hj => hok j (by omega)⟩ z⟩⟩
      subst e
      have ll : xs.length = 0 := ll
      omega
def sp_lwidth : DSp := fun ds H Q _ => ∃ x d, ds = [x] ∧ Frz H x d ∧ Q (.int (widthD d)) H
theorem ok_lwidth (T : Txt P K mg) : DFn P w K mg base 6 T.f__law_width T.d__law_width ps__law_width sp_lwidth := by
  refine fn__law_width (k := 3) T (ok_lrow T) (fun ds H Q E h => ?_) (fun ds H Q E h => ?_)
  · obtain ⟨x, d, rfl, _⟩ := h; rfl
  · obtain ⟨x, d, rfl, hf, q⟩ := h
    have no : widthD d = -1 → (endsOf Q E).rt (.int (-1)) H := fun z => ⟨_, Sub.refl _, by rw [z] at q; exact q⟩
    unfold rd__law_width
    walk_at "dxs"
    rcases hf.cases2 with ⟨hr, rfl, hn⟩ | ⟨xs, ys, rfl, hi, hs, hr⟩
    · refine ⟨d, false, rfl, hr, ?_⟩
      walk_at "dxs"
      refine no ?_
      cases d with
      | tup xs => exact absurd rfl (hn xs)
      | _ => rfl
    have ll := hs.len
    refine ⟨_, true, rfl, hr, ?_⟩
    walk_at "dxs"
    refine hi.len (Sub.refl _) ?_
    walk_at "dxs"
    match xs, ys, hi, hs, ll, q, no with
    | [], [], hi, hs, ll, q, no =>
      refine x_iteT rfl ?_
      walk_at "dxs"
      exact no rfl
    | v :: xs, y :: ys, hi, hs, ll, q, no =>
      have fv : Frz H v y := by cases hs; assumption
      refine x_iteF (decide_eq_false (by rw [List.length_cons]; omega)) ?_
      walk_at "dxs"
      refine hi.ix (Sub.refl _) (atI_nat (i := 0) rfl) ?_
      walk_at "dxs"
      rcases fv.cases2 with ⟨hr2, rfl, hn2⟩ | ⟨ms, es, rfl, him, hsm, hr2⟩
      · refine ⟨y, false, rfl, hr2, ?_⟩
        walk_at "dxs"
        refine no ?_
        cases y with
        | tup xs => exact absurd rfl (hn2 xs)
        | _ => rfl
      have lm := hsm.len
      refine ⟨_, true, rfl, hr2, ?_⟩
      walk_at "dxs"
      refine hi.ix (Sub.refl _) (atI_nat (i := 0) rfl) ?_
      walk_at "dxs"
      refine him.len (Sub.refl _) ?_
      walk_at "dxs"
      refine x_ite (fun c1 => ?_) fun c1 => ?_
      · walk_at "dxs"
        refine no ?_
        match es, lm with
        | [], _ => rfl
        | [_], _ => rfl
        | [_, _], lm => rw [lm] at c1; simp at c1
        | _ :: _ :: _ :: _, _ => simp [widthD]
      obtain ⟨a, g, rfl⟩ := len2 (xs := ms) (by simpa using c1)
      obtain ⟨a', g', rfl⟩ := pure2 (xs := es) (by rw [← lm]; rfl)
      have fg : Frz H g g' := by
        cases hsm with
        | cons _ h => cases h; assumption
      walk_at "dxs"
      refine hi.ix (Sub.refl _) (atI_nat (i := 0) rfl) ?_
      walk_at "dxs"
      refine him.ix (Sub.refl _) (i := 1) rfl ?_
      walk_at "dxs"
      rcases fg.cases2 with ⟨hr3, e3, hn3⟩ | ⟨gs, gs', e3, hig, hsg, hr3⟩
      · subst e3
        refine ⟨g', false, rfl, hr3, ?_⟩
        walk_at "dxs"
        refine no ?_
        cases g' with
        | tup xs => exact absurd rfl (hn3 xs)
        | _ => rfl
      subst e3
      refine ⟨_, true, rfl, hr3, ?_⟩
      walk_at "dxs"
      refine hi.ix (Sub.refl _) (atI_nat (i := 0) rfl) ?_
      walk_at "dxs"
      refine him.ix (Sub.refl _) (i := 1) rfl ?_
      walk_at "dxs"
      refine hig.len (Sub.refl _) ?_
      rw [hsg.len]
      exact ⟨_, Sub.refl _, q⟩
end
end K02

namespace K02
open PySem PySem.Spec PyProof.Rows L2 DL
def Off (b : Addr) (H H' : DH) : Prop := ∀ a, a ≠ b → H' a = H a
theorem Off.refl {b : Addr} {H : DH} : Off b H H := fun _ _ => rfl
theorem Off.trans {b : Addr} {H H1 H2 : DH} (a : Off b H H1) (c : Off b H1 H2) : Off b H H2 := fun x h => (c x h).trans (a x h)
theorem Off.put {b : Addr} {H : DH} {o : DO} : Off b H (put H b o) := fun a h => put_ne h
theorem cut_map {α β : Type} (f : α → β) (xs : List α) (lo hi : Option Int) : ∃ ys : List α, DL.cut (xs.map f) lo hi = ys.map f ∧ ys.length ≤ xs.length ∧ ys.Sublist xs := by
  unfold DL.cut
  rw [← List.map_drop, ← List.map_take]
  refine ⟨_, rfl, ?_, (List.take_sublist _ _).trans (List.drop_sublist _ _)⟩
  rw [List.length_take, List.length_drop]
  omega
/-- the bag: what is left of the great cells, then a mixed sum; n draws are still good -/
structure BgV (H : DH) (b g : Addr) (gs : List Int) (ix rest seed cnt : Int) (n : Nat) : Prop where
  hb : H b = some (.lst [.ref g, .int ix, .int rest, .int seed, .int cnt])
  hg : H g = some (.lst (gs.map D.int))
  gs : ∀ x ∈ gs, 0 ≤ x
  ix : 0 ≤ ix
  r : 0 ≤ rest
  s0 : 0 ≤ seed
  s1 : seed < 2147483647
  c0 : 0 ≤ cnt
  c1 : cnt + n ≤ 1152921504606846976
def Bg (H : DH) (b g : Addr) (n : Nat) : Prop := ∃ gs ix rest seed cnt, BgV H b g gs ix rest seed cnt n
theorem BgV.ne {H : DH} {b g : Addr} {gs : List Int} {ix rest seed cnt : Int} {n : Nat} (h : BgV H b g gs ix rest seed cnt n) : g ≠ b := fun z => by
  have h1 := h.hb
  have h2 := h.hg
  rw [z, h1] at h2
  match gs, h2 with
  | [], h2 => simp at h2
  | x :: xs, h2 => simp at h2
theorem Bg.le {H : DH} {b g : Addr} {n m : Nat} (h : Bg H b g n) (l : m ≤ n) : Bg H b g m := by
  obtain ⟨gs, ix, rest, seed, cnt, v⟩ := h
  exact ⟨gs, ix, rest, seed, cnt, v.hb, v.hg, v.gs, v.ix, v.r, v.s0, v.s1, v.c0, by have := v.c1; omega⟩
theorem Bg.keep {H H' : DH} {b g : Addr} {n : Nat} (h : Bg H b g n) (e1 : H' b = H b) (e2 : H' g = H g) : Bg H' b g n := by
  obtain ⟨gs, ix, rest, seed, cnt, v⟩ := h
  exact ⟨gs, ix, rest, seed, cnt, e1.trans v.hb, e2.trans v.hg, v.gs, v.ix, v.r, v.s0, v.s1, v.c0, v.c1⟩
theorem Bg.put {H : DH} {b g a : Addr} {o : DO} {n : Nat} (h : Bg H b g n) (n1 : b ≠ a) (n2 : g ≠ a) : Bg (put H a o) b g n := h.keep (put_ne n1) (put_ne n2)
theorem Bg.to {H H' : DH} {b g : Addr} {n : Nat} (h : Bg H b g n) (s : ∀ a xs, H a = some (.lst xs) → H' a = some (.lst xs)) : Bg H' b g n := by
  obtain ⟨gs, ix, rest, seed, cnt, v⟩ := h
  exact ⟨gs, ix, rest, seed, cnt, s _ _ v.hb, s _ _ v.hg, v.gs, v.ix, v.r, v.s0, v.s1, v.c0, v.c1⟩
theorem Bg.there {H : DH} {b g : Addr} {n : Nat} (h : Bg H b g n) : ∃ u, H b = some u := by
  obtain ⟨gs, ix, rest, seed, cnt, v⟩ := h
  exact ⟨_, v.hb⟩
theorem Bg.there2 {H : DH} {b g : Addr} {n : Nat} (h : Bg H b g n) : ∃ u, H g = some u := by
  obtain ⟨gs, ix, rest, seed, cnt, v⟩ := h
  exact ⟨_, v.hg⟩
theorem Bg.fresh {H : DH} {b g a : Addr} {n : Nat} (h : Bg H b g n) (e : H a = none) : b ≠ a ∧ g ≠ a := by
  obtain ⟨_, e1⟩ := h.there
  obtain ⟨_, e2⟩ := h.there2
  exact ⟨dne_of_none e1 e, dne_of_none e2 e⟩
theorem sub_lst {H H' : DH} (s : Sub H H') : ∀ a xs, H a = some (.lst xs) → H' a = some (.lst xs) := fun a xs e => s _ _ e
section
variable {P : Program} {w : World} {K : PySem.W.Frag} {mg : Str → Option Value} {base : Heap}
def sp_take : DSp := fun ds H Q _ => ∃ b g m n, ds = [.ref b, .int m] ∧ Bg H b g (n + 1) ∧ 0 < m ∧ m < 1000000000 ∧ ∀ (z : Nat) H', (z : Int) < m → Off b H H' → Bg H' b g n → Q (.int (z : Int)) H'
theorem ok_take (T : Txt P K mg) : DFn P w K mg base 3 T.f__law_take T.d__law_take ps__law_take sp_take := by
  refine fn__law_take (k := 0) T (fun ds H Q E h => ?_) (fun ds H Q E h => ?_)
  · obtain ⟨b, g, m, n, rfl, _⟩ := h; rfl
  · obtain ⟨b, g, m, n, rfl, ⟨gs, ix, rest, seed, cnt, v⟩, m0, m1, q⟩ := h
    have q : ∀ (z : Int) H', 0 ≤ z → z < m → Off b H H' → Bg H' b g n → Q (.int z) H' := fun z H' z0 z1 => by
      obtain ⟨n, rfl⟩ := Int.eq_ofNat_of_zero_le z0
      exact q n H' z1
    have hb := v.hb
    have hg := v.hg
    have ne := v.ne
    -- what follows once the rest is looked at
    have tail : ∀ (G : DH) (ix' rest' : Int), Off b H G → BgV G b g gs ix' rest' seed cnt (n + 1) →
        (dSeq (dIfS (dTest (dOp (dI0 fun i j => .bl (decide (j < i))) (dOp dIx (dVar 0) (dC (.int 2))) (dC (.int 1)))) (dSeq (dSet (dOp (dI (fun _ j => 0 < j) fun i j => .int (i % j)) (dCB dInt (dCons (dOp dIx (dVar 0) (dC (.int 2))) dNil)) (dVar 1)) 4) (dSeq (dAsg (dOp (dI CDv fun i j => .int (i / j)) (dOp dIx (dVar 0) (dC (.int 2))) (dVar 1)) (gIx (dVar 0) (dC (.int 2)))) (dRet (dVar 4)))) dNext) (dSeq (dAsg (dOp dAdd (dOp dIx (dVar 0) (dC (.int 4))) (dC (.int 1))) (gIx (dVar 0) (dC (.int 4)))) (dSeq (dSet (dOp (dI (fun _ j => 0 < j) fun i j => .int (i % j)) (dCB dInt (dCons (dOp dMul (dOp dAdd (dOp dIx (dVar 0) (dC (.int 3))) (dOp dIx (dVar 0) (dC (.int 4)))) (dC (.int 48271))) dNil)) (dC (.int 2147483647))) 2) (dSeq (dAsg (dVar 2) (gIx (dVar 0) (dC (.int 3)))) (dSeq (dSet (dOp (dI (fun _ j => 0 < j) fun i j => .int (i % j)) (dCB dInt (dCons (dOp dMul (dOp dAdd (dOp (dI CDv fun i j => .int (i / j)) (dVar 2) (dC (.int 3))) (dOp dMul (dOp dIx (dVar 0) (dC (.int 4))) (dOp dIx (dVar 0) (dC (.int 4))))) (dC (.int 69621))) dNil)) (dC (.int 2147483629))) 3) (dRet (dOp (dI (fun _ j => 0 < j) fun i j => .int (i % j)) (dOp (dI CDv fun i j => .int (i / j)) (dVar 3) (dC (.int 16))) (dVar 1))))))))
        (endsOf Q E) (startD N__law_take [.ref b, .int m]) G := by
      intro G ix' rest' off v
      have hb := v.hb
      have hg := v.hg
      have c1 := v.c1
      have c0 := v.c0
      have s0 := v.s0
      walk_at "dxs"
      refine x_ite (fun d => ?_) fun d => ?_
      · have d := of_decide_eq_true d
        walk_at "dxs"
        refine x_i m0 ?_
        walk_at "dxs"
        refine x_i (.inl ⟨m0, by omega⟩) ?_
        walk_at "dxs"
        exact ⟨_, Sub.refl _, q _ _ (Int.emod_nonneg _ (by omega)) (Int.emod_lt_of_pos _ m0) (off.trans Off.put) ⟨gs, ix', rest' / m, seed, cnt, put_same, (put_ne ne).trans hg, v.gs, v.ix, Int.ediv_nonneg v.r (by omega), v.s0, v.s1, c0, by omega⟩⟩
      · walk_at "dxs"
        refine x_mulI (.inl (.inr ⟨by decide, by decide⟩)) ?_
        walk_at "dxs"
        refine x_i (by decide) ?_
        walk_at "dxs"
        generalize hf : (seed + (cnt + 1)) * 48271 % 2147483647 = f1
        have f0 : 0 ≤ f1 ∧ f1 < 2147483647 := by omega
        refine x_i (.inl ⟨by decide, by decide⟩) ?_
        walk_at "dxs"
        refine x_mulI (.inl (.inl ⟨by omega, by omega⟩)) ?_
        walk_at "dxs"
        refine x_mulI (.inl (.inr ⟨by decide, by decide⟩)) ?_
        walk_at "dxs"
        refine x_i (by decide) ?_
        walk_at "dxs"
        refine x_i (.inl ⟨by decide, by decide⟩) ?_
        walk_at "dxs"
        refine x_i m0 ?_
        refine ⟨_, Sub.refl _, q _ _ (Int.emod_nonneg _ (by omega)) (Int.emod_lt_of_pos _ m0) (off.trans (Off.put.trans Off.put)) ⟨gs, ix', rest', f1, cnt + 1, put_same, ?_, v.gs, v.ix, v.r, f0.1, f0.2, by omega, by omega⟩⟩
        rw [put_ne ne, put_ne ne]
        exact hg
    unfold rd__law_take
    walk_at "dxs"
    refine x_ite (fun d => ?_) fun d => ?_
    · walk_at "dxs"
      rw [List.length_map]
      refine x_ite (fun d2 => ?_) fun d2 => ?_
      · have d2 := of_decide_eq_true d2
        have vi := v.ix
        obtain ⟨j, rfl⟩ := Int.eq_ofNat_of_zero_le vi
        obtain ⟨u, hu⟩ : ∃ u, gs[j]? = some u := ⟨_, List.getElem?_eq_getElem (by omega)⟩
        have iu := at_int hu
        repeat (first | with_reducible refine tail _ ((j : Int) + 1) u ?off ?bag | walk_at "dx")
        case off => exact Off.put.trans Off.put
        refine ⟨put_same, ?_, v.gs, by omega, v.gs u (List.mem_of_getElem? hu), v.s0, v.s1, v.c0, v.c1⟩
        rw [put_ne ne, put_ne ne]
        exact hg
      · refine x_next ?_
        exact tail H ix rest Off.refl v
    · refine x_next ?_
      exact tail H ix rest Off.refl v
def sp_bag : DSp := fun ds H Q _ => ∃ (ns : List Int), ds = [.fl (ns.map D.int)] ∧ ns.length ≤ 63 ∧ ∀ b g H', H b = none → Sub H H' → Bg H' b g 1000000000000 → Q (.ref b) H'
theorem ok_bag (T : Txt P K mg) : DFn P w K mg base 3 T.f__law_bag T.d__law_bag ps__law_bag sp_bag := by
  refine fn__law_bag (k := 0) T (fun ds H Q E h => ?_) (fun ds H Q E h => ?_)
  · obtain ⟨ns, rfl, _⟩ := h; rfl
  · obtain ⟨ns, rfl, hn, q⟩ := h
    unfold rd__law_bag
    walk_at "dxs"
    intro g hg
    walk_at "dxs"
    obtain ⟨ms, em, ml, _⟩ := cut_map D.int ns none (some 63)
    intro c hc
    rw [em]
    have ngc : g ≠ c := dne_of_none put_same hc
    have hc0 : H c = none := by rw [put_ne (Ne.symm ngc)] at hc; exact hc
    walk_at "dxs"
    refine forLst (ds := ms.map D.int) (fun i σ H' => ∃ (o3 o4 : Option DL.D) (s : Int) (gs : List Int), σ = [some (.fl (ns.map D.int)), some (.ref g), some (.int s), o3, o4] ∧ H' = put (put H g (.lst (gs.map D.int))) c (.lst (ms.map D.int)) ∧ 0 ≤ s ∧ s < 2147483647 ∧ gs.length ≤ i ∧ ∀ x ∈ gs, 0 ≤ x) ?_ (fun i σ H' h => ?_) ?_ ?_
    · exact ⟨_, _, 24, [], rfl, rfl, by decide, by decide, by simp, by simp⟩
    · obtain ⟨_, _, _, _, _, rfl, _⟩ := h
      exact put_same
    · rintro i x σ H' hx ⟨o3, o4, s, gs, rfl, rfl, s0, s1, gl, g0⟩
      rw [List.getElem?_map] at hx
      obtain ⟨t, ht, rfl⟩ := Option.map_eq_some_iff.mp hx
      have hi := (List.getElem?_eq_some_iff.mp ht).1
      have hgg : put (put H g (.lst (gs.map D.int))) c (.lst (ms.map D.int)) g = some (.lst (gs.map D.int)) := (put_ne ngc).trans put_same
      have sw : ∀ u, put (put (put H g (.lst (gs.map D.int))) c (.lst (ms.map D.int))) g u = put (put H g u) c (.lst (ms.map D.int)) := fun u => by
        funext a
        unfold put
        by_cases e1 : a = g
        · subst e1; simp [ngc]
        · simp [e1]
      walk_at "dxs"
      refine x_i ⟨by decide, by decide, by decide⟩ ?_
      walk_at "dxs"
      refine x_i (by decide) ?_
      have u0 : 0 ≤ t % 10 ^ Int.toNat 60 := Int.emod_nonneg _ (by decide)
      generalize t % 10 ^ Int.toNat 60 = u at u0 ⊢
      walk_at "dxs"
      refine x_i ⟨by decide, by decide, by decide⟩ ?_
      walk_at "dxs"
      have hzz : (gs.map D.int).length < sizeLine := by rw [List.length_map, sizeLine_eq]; omega
      have fin : ∀ gs' : List Int, gs'.length ≤ i + 1 → (∀ x ∈ gs', 0 ≤ x) → ∃ (o3 o4 : Option DL.D) (s' : Int) (gs2 : List Int), [some (.fl (ns.map D.int)), some (.ref g), some (.int ((s * 48271 + u + 1) % 2147483647)), some (.int t), some (.int u)] = [some (.fl (ns.map D.int)), some (.ref g), some (.int s'), o3, o4] ∧ put (put H g (.lst (gs'.map D.int))) c (.lst (ms.map D.int)) = put (put H g (.lst (gs2.map D.int))) c (.lst (ms.map D.int)) ∧ 0 ≤ s' ∧ s' < 2147483647 ∧ gs2.length ≤ i + 1 ∧ ∀ x ∈ gs2, 0 ≤ x := fun gs' l h => ⟨_, _, _, gs', rfl, rfl, by omega, by omega, l, h⟩
      refine x_ite (fun d => ?_) fun d => ?_
      · walk_at "dxs"
        rw [sw]
        walk_at "dxs"
        refine x_mulI (.inl (.inr ⟨by decide, by decide⟩)) ?_
        walk_at "dxs"
        refine x_i (by decide) ?_
        have := fin (gs ++ [u]) (by rw [List.length_append]; simp; omega) (fun x hx => by
          rcases List.mem_append.mp hx with h | h
          · exact g0 x h
          · rw [List.mem_singleton] at h; omega)
        rw [List.map_append] at this
        exact this
      · walk_at "dxs"
        refine x_mulI (.inl (.inr ⟨by decide, by decide⟩)) ?_
        walk_at "dxs"
        refine x_i (by decide) ?_
        exact fin gs (by omega) g0
    · rintro σ H' ⟨o3, o4, s, gs, rfl, rfl, s0, s1, gl, g0⟩
      walk_at "dxs"
      intro b hb
      have hgg : put (put H g (.lst (gs.map D.int))) c (.lst (ms.map D.int)) g = some (.lst (gs.map D.int)) := (put_ne ngc).trans put_same
      have nbg : g ≠ b := dne_of_none hgg hb
      have nbc : c ≠ b := dne_of_none put_same hb
      have hb0 : H b = none := by rw [put_ne (Ne.symm nbc), put_ne (Ne.symm nbg)] at hb; exact hb
      refine ⟨_, Sub.refl _, q b g _ hb0 (fun a o e => ?_) ⟨gs, 0, 0, s, 0, put_same, put_old hgg hb, g0, by decide, by decide, s0, s1, by decide, by decide⟩⟩
      refine put_old (put_old ?_ (by rw [put_ne (Ne.symm ngc)]; exact hc0)) hb
      exact put_old e hg
end
end K02

namespace K02
open PySem PySem.Spec PyProof.Rows L2 DL
inductive Dep : Nat → DL.D → Prop
  | non (n : Nat) : Dep n .non
  | bl (n : Nat) (b : Bool) : Dep n (.bl b)
  | int (n : Nat) (i : Int) : Dep n (.int i)
  | str (n : Nat) (z : Str) : Dep n (.str z)
  | tup {n : Nat} {xs : List DL.D} : xs.length ≤ 100000 → (∀ x ∈ xs, Dep n x) → Dep (n + 1) (.tup xs)
theorem eqvB (a b : Bool) : PyData.eqv (.bool a) (.bool b) = (a == b) := by cases a <;> cases b <;> rfl
theorem x_neB {a b : Bool} {H : DH} {Q : DK} (q : Q (.bl (!(a == b))) H) : dNe (.bl a) (.bl b) H Q := ⟨.bool a, .bool b, .bl a, .bl b, (by show min 0 0 ≤ 64; decide), by rw [eqvB]; exact q⟩
theorem x_eqB {a b : Bool} {H : DH} {Q : DK} (q : Q (.bl (a == b)) H) : dEq (.bl a) (.bl b) H Q := ⟨.bool a, .bool b, .bl a, .bl b, (by show min 0 0 ≤ 64; decide), by rw [eqvB]; exact q⟩
theorem Dep.mono {n : Nat} {d : DL.D} (h : Dep n d) : ∀ {m : Nat}, n ≤ m → Dep m d := by
  induction h with
  | non n => exact fun _ => .non _
  | bl n b => exact fun _ => .bl _ _
  | int n i => exact fun _ => .int _ _
  | str n z => exact fun _ => .str _ _
  | @tup n xs hl hx ih =>
    intro m hm
    obtain ⟨k, rfl⟩ : ∃ k, m = k + 1 := ⟨m - 1, by omega⟩
    exact .tup hl fun x hx' => ih x hx' (by omega)
section
variable {P : Program} {w : World} {K : PySem.W.Frag} {mg : Str → Option Value} {base : Heap}
def sp_same (n : Nat) : DSp := fun ds H Q _ => ∃ d, ds = [d, d] ∧ Dep n d ∧ Q (.bl true) H
theorem same_step (T : Txt P K mg) {k : Nat} {sp : DSp} (F : DFn P w K mg base k T.f__law_same T.d__law_same ps__law_same sp) (n : Nat) (hs : ∀ (xs : List DL.D) (x : DL.D) H Q E, Dep n (.tup xs) → x ∈ xs → Q (.bl true) H → sp [x, x] H Q E) : DFn P w K mg base (k + 3) T.f__law_same T.d__law_same ps__law_same (sp_same n) := by
  refine fn__law_same T F (fun ds H Q E h => ?_) (fun ds H Q E h => ?_)
  · obtain ⟨d, rfl, _⟩ := h; rfl
  · obtain ⟨d, rfl, hd, q⟩ := h
    unfold rd__law_same
    walk_at "dxs"
    cases hd with
    | tup hl hx =>
      rename_i n xs
      refine x_isi (t := "tuple") rfl (by decide) ?_
      walk_at "dxs"
      refine x_isi (t := "tuple") rfl (by decide) ?_
      walk_at "dxs"
      refine x_iteF (by simp) ?_
      walk_at "dxs"
      refine x_rng1At (n := xs.length) rfl (by omega) ?_
      refine forRng (fun i σ H' => ∃ (o2 : Option DL.D), σ = [some (.tup xs), some (.tup xs), o2] ∧ H' = H) ?_ ?_ ?_
      · exact ⟨_, rfl, rfl⟩
      · rintro i σ H' hi ⟨o2, rfl, rfl⟩
        have e0 : (0 : Int) + (i : Int) = (i : Int) := by omega
        rw [e0]
        obtain ⟨x, hx1⟩ : ∃ x, xs[i]? = some x := ⟨_, List.getElem?_eq_getElem hi⟩
        have ix := atI_nat hx1
        walk_at "dxs"
        refine hs xs x _ _ _ (.tup hl hx) (List.mem_of_getElem? hx1) ?_
        walk_at "dxs"
        exact ⟨_, rfl, rfl⟩
      · rintro σ H' ⟨o2, rfl, rfl⟩
        walk_at "dxs"
        exact ⟨_, Sub.refl _, q⟩
    | non n =>
      refine x_isi (t := "NoneType") rfl (by decide) ?_
      walk_at "dxs"
      refine x_isi (t := "NoneType") rfl (by decide) ?_
      walk_at "dxs"
      exact ⟨_, Sub.refl _, q⟩
    | bl n b =>
      refine x_isi (t := "bool") rfl (by decide) ?_
      walk_at "dxs"
      refine x_isi (t := "bool") rfl (by decide) ?_
      walk_at "dxs"
      refine x_isi (t := "bool") rfl (by decide) ?_
      walk_at "dxs"
      refine x_isi (t := "bool") rfl (by decide) ?_
      walk_at "dxs"
      refine x_eqB ?_
      rw [show (b == b) = true by simp]
      exact ⟨_, Sub.refl _, q⟩
    | int n v =>
      refine x_isi (t := "int") rfl (by decide) ?_
      walk_at "dxs"
      refine x_isi (t := "int") rfl (by decide) ?_
      walk_at "dxs"
      refine x_isi (t := "int") rfl (by decide) ?_
      walk_at "dxs"
      refine x_isi (t := "int") rfl (by decide) ?_
      walk_at "dxs"
      refine x_isi (t := "int") rfl (by decide) ?_
      walk_at "dxs"
      rw [decide_eq_true rfl]
      exact ⟨_, Sub.refl _, q⟩
    | str n z =>
      refine x_isi (t := "str") rfl (by decide) ?_
      walk_at "dxs"
      refine x_isi (t := "str") rfl (by decide) ?_
      walk_at "dxs"
      refine x_isi (t := "str") rfl (by decide) ?_
      walk_at "dxs"
      refine x_eqD (.str 0 z) (.str 0 z) (by decide) fun c hc => ?_
      rw [hc.mpr rfl]
      exact ⟨_, Sub.refl _, q⟩
theorem ok_same (T : Txt P K mg) : ∀ n, DFn P w K mg base (3 * (n + 1)) T.f__law_same T.d__law_same ps__law_same (sp_same n)
  | 0 => same_step T (k := 0) (sp := spNo) dfn_no 0 fun xs x H Q E h => by cases h
  | n + 1 => same_step T (ok_same T n) (n + 1) fun xs x H Q E h hx q => by
    cases h with
    | tup _ h => exact ⟨x, rfl, h x hx, q⟩
/-- a board's four fields -/
structure DepB (d0 d1 d2 d3 : DL.D) : Prop where
  h0 : Dep 4 d0
  h1 : Dep 4 d1
  h2 : Dep 4 d2
  h3 : Dep 4 d3
def sp_is_board (T : Txt P K mg) : DSp := fun ds H Q _ => ∃ b d0 d1 d2 d3, ds = [.ref b, .tup [d0, d1, d2, d3]] ∧ H b = some (.ins T.C_Board (fsB d0 d1 d2 d3)) ∧ DepB d0 d1 d2 d3 ∧ Q (.bl true) H
theorem ok_is_board (T : Txt P K mg) : DFn P w K mg base 18 T.f__law_is_board T.d__law_is_board ps__law_is_board (sp_is_board T) := by
  refine fn__law_is_board (k := 15) T (ok_same T 4) (fun ds H Q E h => ?_) (fun ds H Q E h => ?_)
  · obtain ⟨b, d0, d1, d2, d3, rfl, _⟩ := h; rfl
  · obtain ⟨b, d0, d1, d2, d3, rfl, hb, dp, q⟩ := h
    have cB := T.c_Board
    have nO := T.n_Board_owners
    have nR := T.n_Board_ranks
    have nM := T.n_Board_moves
    have nK := T.n_Board_marks
    have i0 : L2.atI [d0, d1, d2, d3] 0 = some d0 := rfl
    have i1 : L2.atI [d0, d1, d2, d3] 1 = some d1 := rfl
    have i2 : L2.atI [d0, d1, d2, d3] 2 = some d2 := rfl
    have i3 : L2.atI [d0, d1, d2, d3] 3 = some d3 := rfl
    unfold rd__law_is_board
    walk_at "dxs"
    refine x_isiO hb T.o_Board kit_self ?_
    unfold fsB at hb
    walk_at "dxs"
    refine ⟨d0, rfl, dp.h0, ?_⟩
    walk_at "dxs"
    refine ⟨d1, rfl, dp.h1, ?_⟩
    walk_at "dxs"
    refine ⟨d2, rfl, dp.h2, ?_⟩
    walk_at "dxs"
    refine ⟨d3, rfl, dp.h3, ?_⟩
    exact ⟨_, Sub.refl _, q⟩
end
end K02

namespace K02
open PySem PySem.Spec PyProof.Rows L2 DL
def Keep (F : List Addr) (H H' : DH) : Prop := ∀ a o, a ∉ F → H a = some o → H' a = some o
theorem Keep.refl {F : List Addr} {H : DH} : Keep F H H := fun _ _ _ e => e
theorem Keep.trans {F : List Addr} {H H1 H2 : DH} (a : Keep F H H1) (b : Keep F H1 H2) : Keep F H H2 := fun x o n e => b x o n (a x o n e)
theorem Keep.mono {F G : List Addr} {H H1 : DH} (a : Keep F H H1) (s : ∀ x, x ∈ F → x ∈ G) : Keep G H H1 := fun x o n e => a x o (fun z => n (s x z)) e
theorem Keep.put {F : List Addr} {H : DH} {a : Addr} {o : DO} (h : a ∈ F) : Keep F H (put H a o) := fun x u n e => by
  rw [put_ne (fun z => n (by rw [z]; exact h))]; exact e
theorem Keep.new {F : List Addr} {H : DH} {a : Addr} {o : DO} (h : H a = none) : Keep F H (DL.put H a o) := fun x u n e => put_old e h
theorem Keep.sub {F : List Addr} {H H' : DH} (s : Sub H H') : Keep F H H' := fun x u n e => s x u e
theorem Keep.off {b : Addr} {H H' : DH} (o : Off b H H') : Keep [b] H H' := fun x u n e => by
  rw [o x (by simpa using n)]; exact e
theorem app_list (a b : Str) : (a ++ b).cps.toList = a.cps.toList ++ b.cps.toList := by
  show (a.cps ++ b.cps).toList = _
  simp
theorem app_len (a b : Str) : (a ++ b).length = a.length + b.length := by
  show (a.cps ++ b.cps).size = a.cps.size + b.cps.size
  simp
def abz : Str := "abz"
theorem letters_len : letters.cps.toList.length = 26 := by decide +kernel
theorem abz_len : abz.cps.toList.length = 3 := by decide +kernel
theorem abz_in : ∀ c ∈ abz.cps.toList, c ∈ letters.cps.toList := by decide +kernel
theorem sign_len (c : Nat) : (⟨#[c]⟩ : Str).length = 1 := rfl
theorem pysS {H : DH} : ∀ ns : List Str, Pys H (ns.map D.str) (ns.map PyData.str)
  | [] => .nil
  | n :: r => .cons (.str n) (pysS r)
theorem depthS : ∀ ns : List Str, PyData.depthAll (ns.map PyData.str) ≤ 1
  | [] => by simp [PyData.depthAll]
  | n :: r => by
    have h := depthS r
    simp only [List.map_cons, PyData.depthAll, PyData.depth]
    omega
theorem eqvS (i j : Str) : PyData.eqv (.str i) (.str j) = decide (i = j) := by
  simp [PyData.eqv]
  try rfl
theorem x_inLS {f : Bool → Bool} {p : Addr} {ns : List Str} {z : Str} {H : DH} {Q : DK} (h : H p = some (.lst (ns.map D.str))) (q : Q (.bl (f (decide (z ∈ ns)))) H) : dIn f (.str z) (.ref p) H Q := by
  refine ⟨.str z, ns.map PyData.str, .str z, .inl (.lst h (pysS ns)), ?_, ?_⟩
  · have := depthS ns
    omega
  · have e : (ns.map PyData.str).any (fun y => PyData.eqv y (.str z)) = decide (z ∈ ns) := by
      rw [Bool.eq_iff_iff, List.any_eq_true, decide_eq_true_iff]
      constructor
      · rintro ⟨y, hy, e⟩
        obtain ⟨u, hu, rfl⟩ := List.mem_map.mp hy
        rw [eqvS, decide_eq_true_iff] at e
        exact e ▸ hu
      · intro hz
        exact ⟨.str z, List.mem_map.mpr ⟨z, hz, rfl⟩, by rw [eqvS]; exact decide_eq_true rfl⟩
    rw [e]
    exact q
def LtS (a b : Str) : Prop := a.cps.toList < b.cps.toList
theorem Str.ext' {a b : Str} (h : a.cps.toList = b.cps.toList) : a = b := by
  cases a; cases b
  simp at h
  rw [h]
theorem rising_le : ∀ (r : List Str) (p : Str), risingS p r = true → (p :: r).Pairwise fun a b => ¬ LtS b a
  | [], p, _ => by simp
  | x :: r, p, h => by
    unfold risingS at h
    rw [Bool.and_eq_true, Bool.not_eq_true', PyProof.Rows.ltCps_eq, decide_eq_false_iff_not] at h
    have ih := rising_le r x h.2
    rw [List.pairwise_cons] at ih ⊢
    refine ⟨fun y hy => ?_, List.pairwise_cons.mpr ih⟩
    rcases List.mem_cons.mp hy with e | hy
    · subst e; exact h.1
    · have h1 : ¬ LtS x p := h.1
      have h2 : ¬ LtS y x := ih.1 y hy
      unfold LtS at *
      intro h3
      rw [List.not_lt] at h1 h2
      exact absurd h3 (List.not_lt.mpr (List.le_trans h1 h2))
theorem sorted_asc {ys : List Str} (h : sortedS ys = true) (nd : ys.Nodup) : ys.Pairwise LtS := by
  have hp : ys.Pairwise fun a b => ¬ LtS b a := by
    cases ys with
    | nil => simp
    | cons p r => exact rising_le r p h
  have hn := List.nodup_iff_pairwise_ne.mp nd
  refine (hp.and hn).imp fun {a b} ⟨h1, h2⟩ => ?_
  unfold LtS at *
  rw [List.not_lt] at h1
  rcases List.le_iff_lt_or_eq.mp h1 with h | h
  · exact h
  · exact absurd (Str.ext' h) h2
structure PoolS (ys : List Str) : Prop where
  nm : ∀ z ∈ ys, NameS z
  asc : ys.Pairwise LtS
  l4 : ys.length ≤ 4
section
variable {P : Program} {w : World} {K : PySem.W.Frag} {mg : Str → Option Value} {base : Heap}
def sp_name : DSp := fun ds H Q _ => ∃ b g m n, ds = [.ref b, .int m] ∧ 0 < m ∧ m ≤ 8 ∧ Bg H b g (n + 100) ∧ ∀ z H', NameS z → Off b H H' → Bg H' b g n → Q (.str z) H'
theorem ok_name (T : Txt P K mg) : DFn P w K mg base 6 T.f__law_name T.d__law_name ps__law_name sp_name := by
  refine fn__law_name (k := 3) T (ok_take T) (fun ds H Q E h => ?_) (fun ds H Q E h => ?_)
  · obtain ⟨b, g, m, n, rfl, _⟩ := h; rfl
  · obtain ⟨b, g, m, n, rfl, m0, m8, hb, q⟩ := h
    unfold rd__law_name
    walk_at "dxs"
    refine ⟨b, g, 2, n + 99, rfl, hb, by decide, by decide, fun wd H1 w1 off1 hb1 => ?_⟩
    walk_at "dxs"
    refine ⟨b, g, m, n + 98, rfl, hb1, by omega, by omega, fun u1 H2 u1' off2 hb2 => ?_⟩
    walk_at "dxs"
    refine ⟨b, g, _, n + 97, rfl, hb2, by omega, by omega, fun u2 H3 u2' off3 hb3 => ?_⟩
    have off : Off b H H3 := (off1.trans off2).trans off3
    clear off1 off2 off3 hb hb1 hb2
    walk_at "dxs"
    refine x_rng1At (n := 1 + u2) (by omega) (by omega) ?_
    refine forRng (fun i σ H' => ∃ (o5 : Option DL.D) (z : Str), σ = [some (.ref b), some (.int m), some (.str letters), some (.str z), some (.int (wd : Int)), o5] ∧ Off b H H' ∧ Bg H' b g (n + 97 - i) ∧ z.length = i ∧ ∀ c ∈ z.cps.toList, c ∈ letters.cps.toList) ?_ ?_ ?_
    · exact ⟨_, "", rfl, off, hb3, by decide +kernel, by decide +kernel⟩
    · rintro i σ H' hi ⟨o5, z, rfl, off, hb, zl, za⟩
      have grow : ∀ c, c ∈ letters.cps.toList → (z ++ (⟨#[c]⟩ : Str)).length = i + 1 ∧ ∀ c' ∈ (z ++ (⟨#[c]⟩ : Str)).cps.toList, c' ∈ letters.cps.toList := fun c hc => by
        refine ⟨by rw [app_len, zl]; rfl, fun c' h => ?_⟩
        rw [app_list] at h
        rcases List.mem_append.mp h with h | h
        · exact za c' h
        · have : c' = c := by simpa using h
          rw [this]; exact hc
      walk_at "dxs"
      refine x_ite (fun d => ?_) fun d => ?_
      · walk_at "dxs"
        refine ⟨b, g, 26, n + 97 - i - 1, rfl, hb.le (by omega), by decide, by decide, fun v H4 v1 off4 hb4 => ?_⟩
        obtain ⟨c, hc⟩ : ∃ c, letters.cps.toList[v]? = some c := ⟨_, List.getElem?_eq_getElem (by rw [letters_len]; omega)⟩
        have g := grow c (List.mem_of_getElem? hc)
        refine ⟨c, by decide +kernel, atI_nat hc, ?_⟩
        walk_at "dxs"
        refine x_addS (by rw [zl, sign_len, sizeLine_eq]; omega) ?_
        exact ⟨_, z ++ (⟨#[c]⟩ : Str), rfl, off.trans off4, by rw [show n + 97 - (i + 1) = n + 97 - i - 1 by omega]; exact hb4, g.1, g.2⟩
      · walk_at "dxs"
        refine ⟨b, g, 3, n + 97 - i - 1, rfl, hb.le (by omega), by decide, by decide, fun v H4 v1 off4 hb4 => ?_⟩
        obtain ⟨c, hc⟩ : ∃ c, abz.cps.toList[v]? = some c := ⟨_, List.getElem?_eq_getElem (by rw [abz_len]; omega)⟩
        have g := grow c (abz_in c (List.mem_of_getElem? hc))
        refine ⟨c, by decide +kernel, atI_nat hc, ?_⟩
        walk_at "dxs"
        refine x_addS (by rw [zl, sign_len, sizeLine_eq]; omega) ?_
        exact ⟨_, z ++ (⟨#[c]⟩ : Str), rfl, off.trans off4, by rw [show n + 97 - (i + 1) = n + 97 - i - 1 by omega]; exact hb4, g.1, g.2⟩
    · rintro σ H' ⟨o5, z, rfl, off, hb, zl, za⟩
      walk_at "dxs"
      exact ⟨_, Sub.refl _, q z _ ⟨by omega, by omega, za⟩ off (hb.le (by omega))⟩
def sp_pool : DSp := fun ds H Q _ => ∃ b g m n, ds = [.ref b, .int m] ∧ 0 < m ∧ m ≤ 8 ∧ Bg H b g (n + 1000) ∧ ∀ p ys H', H p = none → Keep [b] H H' → Bg H' b g n → H' p = some (.lst (ys.map D.str)) → PoolS ys → Q (.ref p) H'
theorem ok_pool (T : Txt P K mg) : DFn P w K mg base 9 T.f__law_pool T.d__law_pool ps__law_pool sp_pool := by
  refine fn__law_pool (k := 6) T ((ok_take T).mono (by decide)) (ok_name T) (fun ds H Q E h => ?_) (fun ds H Q E h => ?_)
  · obtain ⟨b, g, m, n, rfl, _⟩ := h; rfl
  · obtain ⟨b, g, m, n, rfl, m0, m8, hb, q⟩ := h
    unfold rd__law_pool
    walk_at "dxs"
    intro p hp
    obtain ⟨nbp, ngp⟩ := hb.fresh hp
    have hb1 : Bg (put H p (.lst [])) b g (n + 1000) := hb.to fun a xs e => put_old e hp
    walk_at "dxs"
    refine ⟨b, g, 5, n + 999, rfl, hb1, by decide, by decide, fun u H2 u1 off2 hb2 => ?_⟩
    have k2 : Keep [b] H H2 := (Keep.new hp).trans (Keep.off off2)
    have hp2 : H2 p = some (.lst ([] : List DL.D)) := (off2 p (Ne.symm nbp)).trans put_same
    clear off2 hb1
    walk_at "dxs"
    refine x_rng1At (n := u) rfl (by omega) ?_
    refine forRng (fun i σ H' => ∃ (o3 o4 : Option DL.D) (ns : List Str), σ = [some (.ref b), some (.int m), some (.ref p), o3, o4] ∧ Keep [b] H H' ∧ Bg H' b g (n + 999 - 100 * i) ∧ H' p = some (.lst (ns.map D.str)) ∧ ns.length ≤ i ∧ ns.Nodup ∧ ∀ z ∈ ns, NameS z) ?_ ?_ ?_
    · exact ⟨_, _, [], rfl, k2, hb2, hp2, by simp, by simp, by simp⟩
    · rintro i σ H' hi ⟨o3, o4, ns, rfl, kp, hb, hpl, nl, nd, na⟩
      walk_at "dxs"
      refine ⟨b, g, m, n + 999 - 100 * i - 100, rfl, m0, m8, hb.le (by omega), fun z H3 zn off3 hb3 => ?_⟩
      have hp3 : H3 p = some (.lst (ns.map D.str)) := (off3 p (Ne.symm nbp)).trans hpl
      have hb4 : Bg H3 b g (n + 999 - 100 * (i + 1)) := hb3.le (by omega)
      walk_at "dxs"
      refine x_inLS hp3 ?_
      walk_at "dxs"
      refine x_ite (fun d => ?_) fun d => ?_
      · have d : z ∉ ns := of_decide_eq_false (by simpa only [Bool.not_eq_true'] using d)
        have hzz : (ns.map D.str).length < sizeLine := by rw [List.length_map, sizeLine_eq]; omega
        walk_at "dxs"
        refine ⟨_, _, ns ++ [z], rfl, fun a o ha e => ?_, ?_, ?_, by rw [List.length_append]; simp; omega, ?_, fun y hy => ?_⟩
        · rw [put_ne (fun e2 => by rw [e2, hp] at e; cases e)]
          exact (Keep.off off3) a o ha (kp a o ha e)
        · exact hb4.put nbp ngp
        · rw [List.map_append]; exact put_same
        · rw [List.nodup_append]
          exact ⟨nd, by simp, fun a ha b hb => by rw [List.mem_singleton] at hb; subst hb; exact fun e => d (e ▸ ha)⟩
        · rcases List.mem_append.mp hy with h | h
          · exact na y h
          · rw [List.mem_singleton] at h; subst h; exact zn
      · walk_at "dxs"
        exact ⟨_, _, ns, rfl, kp.trans (Keep.off off3), hb4, hp3, by omega, nd, na⟩
    · rintro σ H' ⟨o3, o4, ns, rfl, kp, hb, hpl, nl, nd, na⟩
      walk_at "dxs"
      refine x_sortS hpl (by omega) fun ys r h1 h2 h3 => ?_
      have nr : H r = none := by
        cases e : H r with
        | none => rfl
        | some o =>
          by_cases c : r = b
          · obtain ⟨_, e2⟩ := hb.there
            rw [c, e2] at h3; cases h3
          · have := kp r o (by simpa using c) e
            rw [this] at h3; cases h3
      exact ⟨_, Sub.refl _, q r ys _ nr (kp.trans (Keep.new h3)) ((hb.to fun a xs e => put_old e h3).le (by omega)) put_same ⟨fun z hz => na z (h1.mem_iff.mp hz), sorted_asc h2 (h1.nodup_iff.mpr nd), by rw [h1.length_eq]; omega⟩⟩
end
end K02

namespace K02
open PySem PySem.Spec PyProof.Rows L2 DL
theorem PoolS.sub {ys zs : List Str} (h : PoolS ys) (s : zs.Sublist ys) : PoolS zs := ⟨fun z hz => h.nm z (s.subset hz), h.asc.sublist s, by have := s.length_le; have := h.l4; omega⟩
abbrev Mv := Int × List Int
def gD (gs : List Int) : DL.D := .tup (gs.map D.int)
def mvD (m : Mv) : DL.D := .tup [.int m.1, gD m.2]
def kD (ys : List Str) : DL.D := .tup (ys.map D.str)
structure GainsV (w : Nat) (gs : List Int) : Prop where
  l : gs.length = w
  r : ∀ x ∈ gs, -99 ≤ x ∧ x ≤ 99
structure RowV (n w : Nat) (row : List Mv) : Prop where
  ne : row ≠ []
  t : ∀ m ∈ row, 0 ≤ m.1 ∧ m.1 < n
  asc : row.Pairwise fun a b => a.1 < b.1
  g : ∀ m ∈ row, GainsV w m.2
section
variable {P : Program} {w : World} {K : PySem.W.Frag} {mg : Str → Option Value} {base : Heap}
def sp_marks : DSp := fun ds H Q _ => ∃ b g p ys n, ds = [.ref b, .ref p] ∧ Bg H b g (n + 10) ∧ b ≠ p ∧ H p = some (.lst (ys.map D.str)) ∧ PoolS ys ∧ ∀ zs H', Keep [b] H H' → Bg H' b g n → PoolS zs → Q (kD zs) H'
theorem ok_marks (T : Txt P K mg) : DFn P w K mg base 6 T.f__law_marks T.d__law_marks ps__law_marks sp_marks := by
  refine fn__law_marks (k := 3) T (ok_take T) (fun ds H Q E h => ?_) (fun ds H Q E h => ?_)
  · obtain ⟨b, g, p, ys, n, rfl, _⟩ := h; rfl
  · obtain ⟨b, g, p, ys, n, rfl, hb, hbp, hp, pool, q⟩ := h
    have l4 := pool.l4
    unfold rd__law_marks
    walk_at "dxs"
    intro c hc
    obtain ⟨nbc, ngc⟩ := hb.fresh hc
    have npc : p ≠ c := dne_of_none hp hc
    have hb1 := hb.put (o := .lst []) nbc ngc
    have hp1 := put_old (o := .lst []) hp hc
    walk_at "dxs"
    refine forLst (ds := ys.map D.str) (fun i σ H' => ∃ (o3 : Option DL.D) (zs : List Str), σ = [some (.ref b), some (.ref p), some (.ref c), o3] ∧ Keep [b] H H' ∧ Bg H' b g (n + 10 - i) ∧ H' p = some (.lst (ys.map D.str)) ∧ H' c = some (.lst (zs.map D.str)) ∧ zs.Sublist (ys.take i)) ?_ (fun i σ H' h => ?_) ?_ ?_
    · exact ⟨_, [], rfl, Keep.new hc, hb1, hp1, put_same, by simp⟩
    · obtain ⟨_, _, rfl, _, _, h, _⟩ := h
      exact h
    · rintro i x σ H' hx ⟨o3, zs, rfl, kp, hbi, hpi, hci, sl⟩
      rw [List.getElem?_map] at hx
      obtain ⟨y, hy, rfl⟩ := Option.map_eq_some_iff.mp hx
      have hi := (List.getElem?_eq_some_iff.mp hy).1
      have tk : ys.take (i + 1) = ys.take i ++ [y] := by rw [List.take_add_one, hy]; rfl
      walk_at "dxs"
      refine ⟨b, g, 3, n + 10 - i - 1, rfl, hbi.le (by omega), by decide, by decide, fun v H3 v1 off hb3 => ?_⟩
      have hp3 := (off p (Ne.symm hbp)).trans hpi
      have hc3 := (off c (Ne.symm nbc)).trans hci
      have hzz : (zs.map D.str).length < sizeLine := by
        have := sl.length_le
        rw [List.length_take] at this
        rw [List.length_map, sizeLine_eq]; omega
      walk_at "dxs"
      refine x_ite (fun d => ?_) fun d => ?_
      · walk_at "dxs"
        refine ⟨_, zs ++ [y], rfl, fun a o ha e => ?_, (hb3.put nbc ngc).le (by omega), (put_ne npc).trans hp3, by rw [List.map_append]; exact put_same, by rw [tk]; exact sl.append (List.Sublist.refl _)⟩
        rw [put_ne (fun e2 => by rw [e2, hc] at e; cases e)]
        exact (Keep.off off) a o ha (kp a o ha e)
      · walk_at "dxs"
        exact ⟨_, zs, rfl, kp.trans (Keep.off off), hb3.le (by omega), hp3, hc3, by rw [tk]; exact sl.trans (List.sublist_append_left _ _)⟩
    · rintro σ H' ⟨o3, zs, rfl, kp, hbi, hpi, hci, sl⟩
      walk_at "dxs"
      refine ⟨_, Sub.refl _, q zs _ kp (hbi.le ?_) (pool.sub (sl.trans (List.take_sublist _ _)))⟩
      rw [List.length_map]
      omega
def sp_gains : DSp := fun ds H Q _ => ∃ b g, ∃ (wd n : Nat) (far : Int), ds = [.ref b, .int (wd : Int), .int far] ∧ Bg H b g (n + 10) ∧ wd ≤ 3 ∧ ∀ gs H', Keep [b] H H' → Bg H' b g n → GainsV wd gs → Q (gD gs) H'
theorem ok_gains (T : Txt P K mg) : DFn P w K mg base 6 T.f__law_gains T.d__law_gains ps__law_gains sp_gains := by
  refine fn__law_gains (k := 3) T (ok_take T) (fun ds H Q E h => ?_) (fun ds H Q E h => ?_)
  · obtain ⟨b, g, wd, n, far, rfl, _⟩ := h; rfl
  · obtain ⟨b, g, wd, n, far, rfl, hb, hw, q⟩ := h
    -- one accumulating list
    let J : Addr → Nat → DH → Prop := fun p i H' => ∃ gs : List Int, H' p = some (.lst (gs.map D.int)) ∧ Keep [b] H H' ∧ Bg H' b g (n + 10 - i) ∧ gs.length = i ∧ ∀ x ∈ gs, -99 ≤ x ∧ x ≤ 99
    have start : ∀ p, H p = none → J p 0 (put H p (.lst [])) := fun p hp => by
      obtain ⟨n1, n2⟩ := hb.fresh hp
      exact ⟨[], put_same, Keep.new hp, hb.put n1 n2, rfl, by simp⟩
    have step : ∀ p i H' (v : Int), H p = none → (∃ gs : List Int, H' p = some (.lst (gs.map D.int)) ∧ Keep [b] H H' ∧ Bg H' b g (n + 10 - (i + 1)) ∧ gs.length = i ∧ ∀ x ∈ gs, -99 ≤ x ∧ x ≤ 99) → i < 4 → -99 ≤ v → v ≤ 99 → ∃ acc, H' p = some (.lst acc) ∧ acc.length < sizeLine ∧ J p (i + 1) (put H' p (.lst (acc ++ [.int v]))) := fun p i H' v hp ⟨gs, h1, h2, h3, h4, h5⟩ hi v0 v1 => by
      obtain ⟨n1, n2⟩ := hb.fresh hp
      refine ⟨_, h1, by rw [List.length_map, h4, sizeLine_eq]; omega, gs ++ [v], by rw [List.map_append]; exact put_same, fun a o ha e => ?_, h3.put n1 n2, by rw [List.length_append, h4]; rfl, fun x hx => ?_⟩
      · rw [put_ne (fun e2 => by rw [e2, hp] at e; cases e)]
        exact h2 a o ha e
      · rcases List.mem_append.mp hx with h | h
        · exact h5 x h
        · rw [List.mem_singleton] at h; omega
    have stop : ∀ p H', J p wd H' → ∃ gs : List Int, H' p = some (.lst (gs.map D.int)) ∧ (endsOf Q E).rt (gD gs) H' := fun p H' ⟨gs, h1, h2, h3, h4, h5⟩ => ⟨gs, h1, _, Sub.refl _, q gs H' h2 (h3.le (by omega)) ⟨h4, h5⟩⟩
    unfold rd__law_gains
    walk_at "dxs"
    refine x_ite (fun d => ?_) fun d => ?_
    · walk_at "dxs"
      refine x_rng1At (n := wd) rfl (by omega) ?_
      intro p hp
      refine lcRng (J p) (start p hp) (fun i H' hi hH => ?_) fun H' hH => ?_
      · obtain ⟨gs, h1, h2, h3, h4, h5⟩ := hH
        obtain ⟨n1, n2⟩ := hb.fresh hp
        walk_at "dxs"
        refine ⟨b, g, 199, n + 10 - (i + 1), rfl, h3.le (by omega), by decide, by decide, fun v H3 v1 off hb3 => ?_⟩
        walk_at "dxs"
        exact step p i H3 _ hp ⟨gs, (off p (Ne.symm n1)).trans h1, h2.trans (Keep.off off), hb3, h4, h5⟩ (by omega) (by omega) (by omega)
      · obtain ⟨gs, h1, h2⟩ := stop p H' hH
        walk_at "dxs"
        exact h2
    walk_at "dxs"
    refine x_ite (fun d => ?_) fun d => ?_
    · walk_at "dxs"
      refine x_rng1At (n := wd) rfl (by omega) ?_
      intro p hp
      refine lcRng (J p) (start p hp) (fun i H' hi hH => ?_) fun H' hH => ?_
      · obtain ⟨gs, h1, h2, h3, h4, h5⟩ := hH
        obtain ⟨n1, n2⟩ := hb.fresh hp
        walk_at "dxs"
        intro c hc
        obtain ⟨m1, m2⟩ := h3.fresh hc
        have npc : p ≠ c := dne_of_none h1 hc
        walk_at "dxs"
        refine ⟨b, g, 4, n + 10 - (i + 1), rfl, (h3.put m1 m2).le (by omega), by decide, by decide, fun v H3 v1 off hb3 => ?_⟩
        have hc3 : H3 c = some (.lst [.int (-99), .int 99, .int 0, .int 98]) := (off c (Ne.symm m1)).trans put_same
        have hv : ∃ u : Int, L2.atI [DL.D.int (-99), .int 99, .int 0, .int 98] (v : Int) = some (.int u) ∧ -99 ≤ u ∧ u ≤ 99 := by
          match v, v1 with
          | 0, _ => exact ⟨_, rfl, by decide, by decide⟩
          | 1, _ => exact ⟨_, rfl, by decide, by decide⟩
          | 2, _ => exact ⟨_, rfl, by decide, by decide⟩
          | 3, _ => exact ⟨_, rfl, by decide, by decide⟩
          | k + 4, h => omega
        obtain ⟨u, iu, u0, u1⟩ := hv
        walk_at "dxs"
        exact step p i H3 u hp ⟨gs, (off p (Ne.symm n1)).trans (put_old h1 hc), h2.trans ((Keep.new hc).trans (Keep.off off)), hb3, h4, h5⟩ (by omega) u0 u1
      · obtain ⟨gs, h1, h2⟩ := stop p H' hH
        walk_at "dxs"
        exact h2
    · walk_at "dxs"
      refine x_rng1At (n := wd) rfl (by omega) ?_
      intro p hp
      refine lcRng (J p) (start p hp) (fun i H' hi hH => ?_) fun H' hH => ?_
      · obtain ⟨gs, h1, h2, h3, h4, h5⟩ := hH
        obtain ⟨n1, n2⟩ := hb.fresh hp
        walk_at "dxs"
        refine ⟨b, g, 7, n + 10 - (i + 1), rfl, h3.le (by omega), by decide, by decide, fun v H3 v1 off hb3 => ?_⟩
        walk_at "dxs"
        exact step p i H3 _ hp ⟨gs, (off p (Ne.symm n1)).trans h1, h2.trans (Keep.off off), hb3, h4, h5⟩ (by omega) (by omega) (by omega)
      · obtain ⟨gs, h1, h2⟩ := stop p H' hH
        walk_at "dxs"
        exact h2
def sp_moves : DSp := fun ds H Q _ => ∃ b g, ∃ (pl wd n : Nat) (thin far : Int), ds = [.ref b, .int (pl : Int), .int (wd : Int), .int thin, .int far] ∧ Bg H b g (n + 1000) ∧ 1 ≤ pl ∧ pl ≤ 12 ∧ wd ≤ 3 ∧ 1 ≤ thin ∧ thin ≤ 100 ∧ ∀ r row H', H r = none → Keep [b] H H' → Bg H' b g n → H' r = some (.lst (row.map mvD)) → RowV pl wd row → row.length ≤ 12 → Q (.ref r) H'
theorem ok_moves (T : Txt P K mg) : DFn P w K mg base 9 T.f__law_moves T.d__law_moves ps__law_moves sp_moves := by
  refine fn__law_moves (k := 6) T ((ok_take T).mono (by decide)) (ok_gains T) (fun ds H Q E h => ?_) (fun ds H Q E h => ?_)
  · obtain ⟨b, g, pl, wd, n, thin, far, rfl, _⟩ := h; rfl
  · obtain ⟨b, g, pl, wd, n, thin, far, rfl, hb, p1, p12, hw, t1, t2, q⟩ := h
    unfold rd__law_moves
    walk_at "dxs"
    refine ⟨b, g, _, n + 999, rfl, hb, by omega, by omega, fun su H1 su1 off hb1 => ?_⟩
    have k1 : Keep [b] H H1 := Keep.off off
    walk_at "dxs"
    intro r hr
    obtain ⟨nbr, ngr⟩ := hb1.fresh hr
    have hr0 : H r = none := by
      cases e : H r with
      | none => rfl
      | some o => rw [k1 r o (by simpa using Ne.symm nbr) e] at hr; cases hr
    walk_at "dxs"
    refine x_rng1At (n := pl) rfl (by omega) ?_
    let J : Nat → DSt → DH → Prop := fun i σ H' => ∃ (o7 : Option DL.D) (row : List Mv), σ = [some (.ref b), some (.int (pl : Int)), some (.int (wd : Int)), some (.int thin), some (.int far), some (.int (su : Int)), some (.ref r), o7] ∧ Keep [b] H H' ∧ Bg H' b g (n + 999 - 20 * i) ∧ H' r = some (.lst (row.map mvD)) ∧ row.length ≤ i ∧ (su < i → row ≠ []) ∧ (∀ m ∈ row, 0 ≤ m.1 ∧ m.1 < (i : Int)) ∧ (row.Pairwise fun a b => a.1 < b.1) ∧ ∀ m ∈ row, GainsV wd m.2
    refine forRng J ?_ ?_ ?_
    · exact ⟨_, [], rfl, k1.trans (Keep.new hr), hb1.put nbr ngr, put_same, by simp, fun h => absurd h (by omega), by simp, by simp, by simp⟩
    · rintro i σ H' hi ⟨o7, row, rfl, kp, hbi, hri, rl, rne, rt, ra, rg⟩
      have e0 : (0 : Int) + (i : Int) = (i : Int) := by omega
      rw [e0]
      have hzz : (row.map mvD).length < sizeLine := by rw [List.length_map, sizeLine_eq]; omega
      have add : ∀ (H2 : DH) (gs : List Int), Keep [b] H H2 → Bg H2 b g (n + 999 - 20 * i - 15) → H2 r = some (.lst (row.map mvD)) → GainsV wd gs →
          J (i + 1) [some (.ref b), some (.int (pl : Int)), some (.int (wd : Int)), some (.int thin), some (.int far), some (.int (su : Int)), some (.ref r), some (.int (i : Int))] (put H2 r (.lst (row.map mvD ++ [mvD ((i : Int), gs)]))) := fun H2 gs kp2 hb2 hr2 hg => by
        refine ⟨_, row ++ [((i : Int), gs)], rfl, fun a o ha e => ?_, (hb2.put nbr ngr).le (by omega), by rw [List.map_append]; exact put_same, by rw [List.length_append]; simp; omega, fun _ => by simp, fun m hm => ?_, ?_, fun m hm => ?_⟩
        · rw [put_ne (fun e2 => by rw [e2, hr0] at e; cases e)]
          exact kp2 a o ha e
        · rcases List.mem_append.mp hm with h | h
          · have := rt m h; omega
          · rw [List.mem_singleton] at h; subst h; exact ⟨by show (0 : Int) ≤ i; omega, by show (i : Int) < _; omega⟩
        · rw [List.pairwise_append]
          exact ⟨ra, by simp, fun a ha c hc => by rw [List.mem_singleton] at hc; subst hc; exact (rt a ha).2⟩
        · rcases List.mem_append.mp hm with h | h
          · exact rg m h
          · rw [List.mem_singleton] at h; subst h; exact hg
      walk_at "dxs"
      refine x_ite (fun d => ?_) fun d => ?_
      · walk_at "dxs"
        refine ⟨b, g, wd, n + 999 - 20 * i - 15, far, rfl, hbi.le (by omega), hw, fun gs H3 k3 hb3 hg3 => ?_⟩
        have hr3 := k3 r _ (by simpa using Ne.symm nbr) hri
        walk_at "dxs"
        exact add H3 gs (kp.trans k3) hb3 hr3 hg3
      · have d := of_decide_eq_false d
        walk_at "dxs"
        refine ⟨b, g, thin, n + 999 - 20 * i - 1, rfl, hbi.le (by omega), by omega, by omega, fun v H2 v1 off2 hb2 => ?_⟩
        have k2 := kp.trans (Keep.off off2)
        have hr2 := (off2 r (Ne.symm nbr)).trans hri
        walk_at "dxs"
        refine x_ite (fun d2 => ?_) fun d2 => ?_
        · walk_at "dxs"
          refine ⟨b, g, wd, n + 999 - 20 * i - 15, far, rfl, hb2.le (by omega), hw, fun gs H3 k3 hb3 hg3 => ?_⟩
          have hr3 := k3 r _ (by simpa using Ne.symm nbr) hr2
          walk_at "dxs"
          exact add H3 gs (k2.trans k3) hb3 hr3 hg3
        · walk_at "dxs"
          exact ⟨_, row, rfl, k2, hb2.le (by omega), hr2, by omega, fun h => rne (by omega), fun m hm => by have := rt m hm; omega, ra, rg⟩
    · rintro σ H' ⟨o7, row, rfl, kp, hbi, hri, rl, rne, rt, ra, rg⟩
      walk_at "dxs"
      exact ⟨_, Sub.refl _, q r row H' hr0 kp (hbi.le (by omega)) hri ⟨rne (by omega), rt, ra, rg⟩ (by omega)⟩
def sp_size : DSp := fun ds H Q _ => ∃ b g n, ds = [.ref b] ∧ Bg H b g (n + 10) ∧ ∀ (z : Nat) H', 1 ≤ z → z ≤ 12 → Off b H H' → Bg H' b g n → Q (.int (z : Int)) H'
theorem ok_size (T : Txt P K mg) : DFn P w K mg base 6 T.f__law_size T.d__law_size ps__law_size sp_size := by
  refine fn__law_size (k := 3) T (ok_take T) (fun ds H Q E h => ?_) (fun ds H Q E h => ?_)
  · obtain ⟨b, g, n, rfl, _⟩ := h; rfl
  · obtain ⟨b, g, n, rfl, hb, q⟩ := h
    unfold rd__law_size
    walk_at "dxs"
    refine ⟨b, g, 8, n + 9, rfl, hb, by decide, by decide, fun v H1 v1 off hb1 => ?_⟩
    walk_at "dxs"
    refine x_ite (fun d => ?_) fun d => ?_
    · walk_at "dxs"
      exact ⟨_, Sub.refl _, q 1 H1 (by omega) (by omega) off (hb1.le (by omega))⟩
    walk_at "dxs"
    refine x_ite (fun d => ?_) fun d => ?_
    · walk_at "dxs"
      refine ⟨b, g, 12, n + 8, rfl, hb1, by decide, by decide, fun u H2 u1 off2 hb2 => ?_⟩
      walk_at "dxs"
      have := q (1 + u) H2 (by omega) (by omega) (off.trans off2) (hb2.le (by omega))
      rw [show ((1 + u : Nat) : Int) = 1 + (u : Int) by omega] at this
      exact ⟨_, Sub.refl _, this⟩
    · walk_at "dxs"
      refine ⟨b, g, 5, n + 8, rfl, hb1, by decide, by decide, fun u H2 u1 off2 hb2 => ?_⟩
      walk_at "dxs"
      have := q (2 + u) H2 (by omega) (by omega) (off.trans off2) (hb2.le (by omega))
      rw [show ((2 + u : Nat) : Int) = 2 + (u : Int) by omega] at this
      exact ⟨_, Sub.refl _, this⟩
end
end K02

namespace K02
open PySem PySem.Spec PyProof.Rows L2 DL
theorem none_sub {H H' : DH} {a : Addr} (s : DL.Sub H H') (h : H' a = none) : H a = none := by
  cases e : H a with
  | none => rfl
  | some o => rw [s _ _ e] at h; cases h
structure Gw (H0 H : DH) (L : List (Addr × DO)) : Prop where
  s : DL.Sub H0 H
  l : ∀ a o, (a, o) ∈ L → H a = some o
theorem Gw.nil {H : DH} : Gw H H [] := ⟨Sub.refl _, fun _ _ m => absurd m (by simp)⟩
theorem Gw.know {H0 H : DH} {L : List (Addr × DO)} (g : Gw H0 H L) {a : Addr} {o : DO} (h : H a = some o) : Gw H0 H ((a, o) :: L) :=
  ⟨g.s, fun x u m => by rcases List.mem_cons.mp m with e | m; cases e; exact h; exact g.l x u m⟩
theorem Gw.new {H0 H H' : DH} {L : List (Addr × DO)} (g : Gw H0 H L) {a : Addr} {o : DO} (n : H a = none) (e : put H a o = H') : Gw H0 H' ((a, o) :: L) := by
  subst e
  exact ⟨g.s.trans (Sub.new n), fun x u m => by rcases List.mem_cons.mp m with e | m; cases e; exact put_same; exact put_old (g.l x u m) n⟩
theorem Gw.sub {H0 H H' : DH} {L : List (Addr × DO)} (g : Gw H0 H L) (s : DL.Sub H H') : Gw H0 H' L := ⟨g.s.trans s, fun a o m => s _ _ (g.l a o m)⟩
theorem Gw.h0 {H0 H : DH} {L : List (Addr × DO)} {a0 : Addr} {o0 : DO} (g : Gw H0 H ((a0, o0) :: L)) : H a0 = some o0 := g.l _ _ (List.Mem.head _)
theorem Gw.h1 {H0 H : DH} {L : List (Addr × DO)} {a0 a1 : Addr} {o0 o1 : DO} (g : Gw H0 H ((a0, o0) :: (a1, o1) :: L)) : H a1 = some o1 := g.l _ _ (List.Mem.tail _ (List.Mem.head _))
theorem Gw.h2 {H0 H : DH} {L : List (Addr × DO)} {a0 a1 a2 : Addr} {o0 o1 o2 : DO} (g : Gw H0 H ((a0, o0) :: (a1, o1) :: (a2, o2) :: L)) : H a2 = some o2 := g.l _ _ (List.Mem.tail _ (List.Mem.tail _ (List.Mem.head _)))
theorem Gw.h3 {H0 H : DH} {L : List (Addr × DO)} {a0 a1 a2 a3 : Addr} {o0 o1 o2 o3 : DO} (g : Gw H0 H ((a0, o0) :: (a1, o1) :: (a2, o2) :: (a3, o3) :: L)) : H a3 = some o3 := g.l _ _ (List.Mem.tail _ (List.Mem.tail _ (List.Mem.tail _ (List.Mem.head _))))
theorem Gw.h4 {H0 H : DH} {L : List (Addr × DO)} {a0 a1 a2 a3 a4 : Addr} {o0 o1 o2 o3 o4 : DO} (g : Gw H0 H ((a0, o0) :: (a1, o1) :: (a2, o2) :: (a3, o3) :: (a4, o4) :: L)) : H a4 = some o4 := g.l _ _ (List.Mem.tail _ (List.Mem.tail _ (List.Mem.tail _ (List.Mem.tail _ (List.Mem.head _)))))
theorem Gw.h5 {H0 H : DH} {L : List (Addr × DO)} {a0 a1 a2 a3 a4 a5 : Addr} {o0 o1 o2 o3 o4 o5 : DO} (g : Gw H0 H ((a0, o0) :: (a1, o1) :: (a2, o2) :: (a3, o3) :: (a4, o4) :: (a5, o5) :: L)) : H a5 = some o5 := g.l _ _ (List.Mem.tail _ (List.Mem.tail _ (List.Mem.tail _ (List.Mem.tail _ (List.Mem.tail _ (List.Mem.head _))))))
theorem Gw.h6 {H0 H : DH} {L : List (Addr × DO)} {a0 a1 a2 a3 a4 a5 a6 : Addr} {o0 o1 o2 o3 o4 o5 o6 : DO} (g : Gw H0 H ((a0, o0) :: (a1, o1) :: (a2, o2) :: (a3, o3) :: (a4, o4) :: (a5, o5) :: (a6, o6) :: L)) : H a6 = some o6 := g.l _ _ (List.Mem.tail _ (List.Mem.tail _ (List.Mem.tail _ (List.Mem.tail _ (List.Mem.tail _ (List.Mem.tail _ (List.Mem.head _)))))))
structure Wd where
  ow : List Int
  rk : List Int
  mv : List (List Mv)
  ks : List (List Str)
structure AW where
  a0 : Addr
  a1 : Addr
  a2 : Addr
  a3 : Addr
  rs : List Addr
def AW.ft (A : AW) (w : Addr) : List Addr := w :: A.a0 :: A.a1 :: A.a2 :: A.a3 :: A.rs
structure WAt (H : DH) (w : Addr) (W : Wd) (A : AW) : Prop where
  hw : H w = some (.lst [.ref A.a0, .ref A.a1, .ref A.a2, .ref A.a3])
  h0 : H A.a0 = some (.lst (W.ow.map D.int))
  h1 : H A.a1 = some (.lst (W.rk.map D.int))
  h2 : H A.a2 = some (.lst (A.rs.map D.ref))
  h3 : H A.a3 = some (.lst (W.ks.map kD))
  len : A.rs.length = W.mv.length
  row : ∀ (i : Nat) (r : Addr) (row : List Mv), A.rs[i]? = some r → W.mv[i]? = some row → H r = some (.lst (row.map mvD))
  nd : (A.ft w).Nodup
structure NeW (w : Addr) (A : AW) : Prop where
  w0 : w ≠ A.a0
  w1 : w ≠ A.a1
  w2 : w ≠ A.a2
  w3 : w ≠ A.a3
  wr : ∀ r ∈ A.rs, r ≠ w
  n01 : A.a0 ≠ A.a1
  n02 : A.a0 ≠ A.a2
  n03 : A.a0 ≠ A.a3
  r0 : ∀ r ∈ A.rs, r ≠ A.a0
  n12 : A.a1 ≠ A.a2
  n13 : A.a1 ≠ A.a3
  r1 : ∀ r ∈ A.rs, r ≠ A.a1
  n23 : A.a2 ≠ A.a3
  r2 : ∀ r ∈ A.rs, r ≠ A.a2
  r3 : ∀ r ∈ A.rs, r ≠ A.a3
section
variable {H H' : DH} {w : Addr} {W : Wd} {A : AW}
theorem WAt.ne (h : WAt H w W A) : NeW w A := by
  have nd := h.nd
  unfold AW.ft at nd
  simp only [List.nodup_cons, List.mem_cons, not_or] at nd
  obtain ⟨⟨a1, a2, a3, a4, a5⟩, ⟨b1, b2, b3, b4⟩, ⟨c1, c2, c3⟩, ⟨d1, d2⟩, e, _⟩ := nd
  exact ⟨a1, a2, a3, a4, fun r h z => a5 (z ▸ h), b1, b2, b3, fun r h z => b4 (z ▸ h), c1, c2, fun r h z => c3 (z ▸ h), d1, fun r h z => d2 (z ▸ h), fun r h z => e (z ▸ h)⟩
theorem WAt.put0 (h : WAt H w W A) (xs : List Int) : WAt (put H A.a0 (.lst (xs.map D.int))) w { W with ow := xs } A := by
  have n := h.ne
  exact ⟨(put_ne n.w0).trans h.hw, put_same, (put_ne (Ne.symm n.n01)).trans h.h1, (put_ne (Ne.symm n.n02)).trans h.h2, (put_ne (Ne.symm n.n03)).trans h.h3, h.len, fun i r row e1 e2 => (put_ne (n.r0 r (List.mem_of_getElem? e1))).trans (h.row i r row e1 e2), h.nd⟩
theorem WAt.put1 (h : WAt H w W A) (xs : List Int) : WAt (put H A.a1 (.lst (xs.map D.int))) w { W with rk := xs } A := by
  have n := h.ne
  exact ⟨(put_ne n.w1).trans h.hw, (put_ne n.n01).trans h.h0, put_same, (put_ne (Ne.symm n.n12)).trans h.h2, (put_ne (Ne.symm n.n13)).trans h.h3, h.len, fun i r row e1 e2 => (put_ne (n.r1 r (List.mem_of_getElem? e1))).trans (h.row i r row e1 e2), h.nd⟩
theorem WAt.put3 (h : WAt H w W A) (xs : List (List Str)) : WAt (put H A.a3 (.lst (xs.map kD))) w { W with ks := xs } A := by
  have n := h.ne
  exact ⟨(put_ne n.w3).trans h.hw, (put_ne n.n03).trans h.h0, (put_ne n.n13).trans h.h1, (put_ne n.n23).trans h.h2, put_same, h.len, fun i r row e1 e2 => (put_ne (n.r3 r (List.mem_of_getElem? e1))).trans (h.row i r row e1 e2), h.nd⟩
theorem WAt.put2 (h : WAt H w W A) {r : Addr} {row : List Mv} (hr : H r = some (.lst (row.map mvD))) (nr : r ∉ A.ft w) : WAt (put H A.a2 (.lst ((A.rs ++ [r]).map D.ref))) w { W with mv := W.mv ++ [row] } { A with rs := A.rs ++ [r] } := by
  have n := h.ne
  have nr2 : r ≠ A.a2 := fun z => nr (by unfold AW.ft; simp [z])
  refine ⟨(put_ne n.w2).trans h.hw, (put_ne n.n02).trans h.h0, (put_ne n.n12).trans h.h1, put_same, (put_ne (Ne.symm n.n23)).trans h.h3, ?_, fun i r' row' e1 e2 => ?_, ?_⟩
  · show (A.rs ++ [r]).length = (W.mv ++ [row]).length
    rw [List.length_append, List.length_append, h.len]
    rfl
  · by_cases c : i < A.rs.length
    · have e1 : (A.rs ++ [r])[i]? = some r' := e1
      have e2 : (W.mv ++ [row])[i]? = some row' := e2
      rw [List.getElem?_append_left c] at e1
      rw [List.getElem?_append_left (by rw [← h.len]; exact c)] at e2
      exact (put_ne (n.r2 r' (List.mem_of_getElem? e1))).trans (h.row i r' row' e1 e2)
    · have e1 : (A.rs ++ [r])[i]? = some r' := e1
      have e2 : (W.mv ++ [row])[i]? = some row' := e2
      have li := (List.getElem?_eq_some_iff.mp e1).1
      rw [List.length_append] at li
      have : i = A.rs.length := by simp at li; omega
      subst this
      rw [List.getElem?_append_right (Nat.le_refl _), Nat.sub_self] at e1
      rw [h.len, List.getElem?_append_right (Nat.le_refl _), Nat.sub_self] at e2
      cases e1
      cases e2
      exact (put_ne nr2).trans hr
  · have nd := h.nd
    show (w :: A.a0 :: A.a1 :: A.a2 :: A.a3 :: (A.rs ++ [r])).Nodup
    have : (w :: A.a0 :: A.a1 :: A.a2 :: A.a3 :: (A.rs ++ [r])) = A.ft w ++ [r] := rfl
    rw [this, List.nodup_append]
    exact ⟨nd, by simp, fun a ha b hb e => by rw [List.mem_singleton] at hb; subst hb; exact nr (e ▸ ha)⟩
theorem WAt.there (h : WAt H w W A) {a : Addr} (ha : a ∈ A.ft w) : ∃ u, H a = some u := by
  unfold AW.ft at ha
  simp only [List.mem_cons] at ha
  rcases ha with e | e | e | e | e | e
  · subst e; exact ⟨_, h.hw⟩
  · subst e; exact ⟨_, h.h0⟩
  · subst e; exact ⟨_, h.h1⟩
  · subst e; exact ⟨_, h.h2⟩
  · subst e; exact ⟨_, h.h3⟩
  · obtain ⟨i, hi⟩ := List.mem_iff_getElem?.mp e
    have hl := (List.getElem?_eq_some_iff.mp hi).1
    obtain ⟨row, hr⟩ : ∃ row, W.mv[i]? = some row := ⟨_, List.getElem?_eq_getElem (by rw [← h.len]; exact hl)⟩
    exact ⟨_, h.row i a row hi hr⟩
theorem WAt.keep (h : WAt H w W A) {F : List Addr} (k : Keep F H H') (d : ∀ a ∈ A.ft w, a ∉ F) : WAt H' w W A := by
  have m : ∀ {a : Addr}, a ∈ A.ft w → a ∉ F := fun h => d _ h
  unfold AW.ft at m
  exact ⟨k _ _ (m (by simp)) h.hw, k _ _ (m (by simp)) h.h0, k _ _ (m (by simp)) h.h1, k _ _ (m (by simp)) h.h2, k _ _ (m (by simp)) h.h3, h.len, fun i r row e1 e2 => k _ _ (m (by simp [List.mem_of_getElem? e1])) (h.row i r row e1 e2), h.nd⟩
theorem WAt.fresh (h : WAt H w W A) {a : Addr} (e : H a = none) : a ∉ A.ft w := fun z => by
  obtain ⟨u, e2⟩ := h.there z
  rw [e] at e2; cases e2
end
structure WdP (n wd i : Nat) (W : Wd) : Prop where
  l0 : W.ow.length = i
  o : ∀ x ∈ W.ow, 0 ≤ x ∧ x ≤ 1
  l1 : W.rk.length = i
  r : ∀ x ∈ W.rk, 0 ≤ x ∧ x ≤ 9
  l2 : W.mv.length = i
  m : ∀ row ∈ W.mv, row.length ≤ 12 ∧ RowV n wd row
  l3 : W.ks.length = i
  k : ∀ ys ∈ W.ks, PoolS ys
/-- a world in the making: all of it new -/
structure WS (H0 H : DH) (b : Addr) (w : Addr) (A : AW) (W : Wd) : Prop where
  wa : WAt H w W A
  kp : Keep [b] H0 H
  fr : ∀ a ∈ A.ft w, H0 a = none
theorem none_keep {F : List Addr} {H0 H : DH} {a : Addr} (k : Keep F H0 H) (hF : ∀ x ∈ F, ∃ u, H x = some u) (e : H a = none) : H0 a = none := by
  cases h : H0 a with
  | none => rfl
  | some o =>
    by_cases c : a ∈ F
    · obtain ⟨u, e2⟩ := hF a c
      rw [e] at e2; cases e2
    · rw [k a o c h] at e; cases e
section
variable {H0 H H' : DH} {b g w : Addr} {W : Wd} {A : AW} {n : Nat}
theorem WS.keepP {a : Addr} {o : DO} (h : WS H0 H b w A W) (ha : a ∈ A.ft w) : Keep [b] H0 (put H a o) := fun x u n e => by
  rw [put_ne (fun z => by have := h.fr a ha; rw [← z, e] at this; cases this)]
  exact h.kp x u n e
theorem WS.put0 (h : WS H0 H b w A W) (xs : List Int) : WS H0 (put H A.a0 (.lst (xs.map D.int))) b w A { W with ow := xs } := ⟨h.wa.put0 xs, h.keepP (by unfold AW.ft; simp), h.fr⟩
theorem WS.put1 (h : WS H0 H b w A W) (xs : List Int) : WS H0 (put H A.a1 (.lst (xs.map D.int))) b w A { W with rk := xs } := ⟨h.wa.put1 xs, h.keepP (by unfold AW.ft; simp), h.fr⟩
theorem WS.put3 (h : WS H0 H b w A W) (xs : List (List Str)) : WS H0 (put H A.a3 (.lst (xs.map kD))) b w A { W with ks := xs } := ⟨h.wa.put3 xs, h.keepP (by unfold AW.ft; simp), h.fr⟩
theorem AW.mem_app {A : AW} {w r a : Addr} (h : a ∈ ({ A with rs := A.rs ++ [r] } : AW).ft w) : a ∈ A.ft w ∨ a = r := by
  unfold AW.ft at h ⊢
  simp only [List.mem_cons, List.mem_append, List.not_mem_nil, or_false] at h ⊢
  rcases h with h | h | h | h | h | h | h <;> simp [h]
theorem WS.put2 (h : WS H0 H b w A W) {r : Addr} {row : List Mv} (hr : H r = some (.lst (row.map mvD))) (nr : r ∉ A.ft w) (r0 : H0 r = none) : WS H0 (put H A.a2 (.lst ((A.rs ++ [r]).map D.ref))) b w { A with rs := A.rs ++ [r] } { W with mv := W.mv ++ [row] } := ⟨h.wa.put2 hr nr, h.keepP (by unfold AW.ft; simp), fun a ha => by
  rcases AW.mem_app ha with h2 | rfl
  · exact h.fr a h2
  · exact r0⟩
theorem WS.nb {m : Nat} (h : WS H0 H b w A W) (hb : Bg H0 b g m) : b ∉ A.ft w := fun z => by
  obtain ⟨u, e⟩ := hb.there
  rw [h.fr _ z] at e; cases e
theorem WS.step (h : WS H0 H b w A W) (k : Keep [b] H H') (nb : b ∉ A.ft w) : WS H0 H' b w A W := ⟨h.wa.keep k fun a ha z => nb (by rw [List.mem_singleton] at z; exact z ▸ ha), h.kp.trans k, h.fr⟩
end
section
variable {P : Program} {w : World} {K : PySem.W.Frag} {mg : Str → Option Value} {base : Heap}
def sp_world : DSp := fun ds H Q _ => ∃ b g, ∃ (pl wd n : Nat), ds = [.ref b, .int (pl : Int), .int (wd : Int), .int 8] ∧ Bg H b g (n + 100000) ∧ 1 ≤ pl ∧ pl ≤ 12 ∧ wd ≤ 3 ∧ ∀ w A W H', WS H H' b w A W → Bg H' b g n → WdP pl wd pl W → Q (.ref w) H'
theorem ok_world (T : Txt P K mg) : DFn P w K mg base 12 T.f__law_world T.d__law_world ps__law_world sp_world := by
  refine fn__law_world (k := 9) T (ok_pool T) ((ok_take T).mono (by decide)) (ok_moves T) ((ok_marks T).mono (by decide)) (fun ds H Q E h => ?_) (fun ds H Q E h => ?_)
  · obtain ⟨b, g, pl, wd, n, rfl, _⟩ := h; rfl
  · obtain ⟨b, g, pl, wd, n, rfl, hb, p1, p12, hw, q⟩ := h
    unfold rd__law_world
    walk_at "dxs"
    refine ⟨b, g, 8, n + 99000, rfl, by decide, by decide, hb, fun p ys H1 hp0 k1 hb1 hp1 pool => ?_⟩
    obtain ⟨nbp, ngp⟩ := hb.fresh hp0
    walk_at "dxs"
    refine ⟨b, g, 4, n + 98999, rfl, hb1, by decide, by decide, fun th H2 th1 off2 hb2 => ?_⟩
    walk_at "dxs"
    refine ⟨b, g, 4, n + 98998, rfl, hb2, by decide, by decide, fun fa H3 fa1 off3 hb3 => ?_⟩
    have k3 : Keep [b] H H3 := (k1.trans (Keep.off off2)).trans (Keep.off off3)
    have hp3 : H3 p = some (.lst (ys.map D.str)) := (off3 p (Ne.symm nbp)).trans ((off2 p (Ne.symm nbp)).trans hp1)
    clear off2 off3 hb1 hb2 k1 hp1
    have g0 := (Gw.nil (H := H3)).know hp3
    walk_at "dxs"
    intro a0 e0; generalize hG : put _ a0 _ = G1; have g1 := g0.new e0 hG; have hb4 := hG ▸ hb3.put (o := .lst []) (hb3.fresh e0).1 (hb3.fresh e0).2; clear hG
    walk_at "dxs"
    intro a1 e1; have n01 := dne_of_none g1.h0 e1; generalize hG : put _ a1 _ = G2; have g2 := g1.new e1 hG; have hb5 := hG ▸ hb4.put (o := .lst []) (hb4.fresh e1).1 (hb4.fresh e1).2; clear hG
    walk_at "dxs"
    intro a2 e2; have n02 := dne_of_none g2.h1 e2; have n12 := dne_of_none g2.h0 e2; generalize hG : put _ a2 _ = G3; have g3 := g2.new e2 hG; have hb6 := hG ▸ hb5.put (o := .lst []) (hb5.fresh e2).1 (hb5.fresh e2).2; clear hG
    walk_at "dxs"
    intro a3 e3; have n03 := dne_of_none g3.h2 e3; have n13 := dne_of_none g3.h1 e3; have n23 := dne_of_none g3.h0 e3; generalize hG : put _ a3 _ = G4; have g4 := g3.new e3 hG; have hb7 := hG ▸ hb6.put (o := .lst []) (hb6.fresh e3).1 (hb6.fresh e3).2; clear hG
    walk_at "dxs"
    intro wa ew; have m0 := dne_of_none g4.h3 ew; have m1 := dne_of_none g4.h2 ew; have m2 := dne_of_none g4.h1 ew; have m3 := dne_of_none g4.h0 ew; generalize hG : put _ wa _ = G5; have g5 := g4.new ew hG; have hb8 := hG ▸ hb7.put (o := .lst [.ref a0, .ref a1, .ref a2, .ref a3]) (hb7.fresh ew).1 (hb7.fresh ew).2; clear hG
    have hbx : ∀ {G : DH} {m : Nat}, Bg G b g m → ∀ x ∈ [b], ∃ u, G x = some u := fun h x hx => by rw [List.mem_singleton] at hx; rw [hx]; exact h.there
    have fr0 : ∀ a ∈ (⟨a0, a1, a2, a3, []⟩ : AW).ft wa, H a = none := fun a ha => by
      have back : ∀ {G : DH}, DL.Sub H3 G → G a = none → H a = none := fun s e => none_keep k3 (hbx hb3) (none_sub s e)
      unfold AW.ft at ha
      simp only [List.mem_cons, List.not_mem_nil, or_false] at ha
      rcases ha with e | e | e | e | e
      · subst e; exact back g4.s ew
      · subst e; exact back g0.s e0
      · subst e; exact back g1.s e1
      · subst e; exact back g2.s e2
      · subst e; exact back g3.s e3
    have ws0 : WS H G5 b wa ⟨a0, a1, a2, a3, []⟩ ⟨[], [], [], []⟩ := ⟨⟨g5.h0, g5.h4, g5.h3, g5.h2, g5.h1, rfl, fun i r row e => by simp at e, by
      unfold AW.ft
      simp only [List.nodup_cons, List.mem_cons, List.not_mem_nil, or_false, not_or, not_false_eq_true, List.nodup_nil, and_true]
      exact ⟨⟨Ne.symm m0, Ne.symm m1, Ne.symm m2, Ne.symm m3⟩, ⟨n01, n02, n03⟩, ⟨n12, n13⟩, n23⟩⟩, k3.trans (Keep.sub g5.s), fr0⟩
    have hp5 := g5.h5
    have hb9 : Bg G5 b g (n + 98000) := hb8.le (by omega)
    have np0 : p ∉ (⟨a0, a1, a2, a3, []⟩ : AW).ft wa := by
      have q0 := dne_of_none hp3 e0
      have q1 := dne_of_none g1.h1 e1
      have q2 := dne_of_none g2.h2 e2
      have q3 := dne_of_none g3.h3 e3
      have q4 := dne_of_none g4.h4 ew
      unfold AW.ft
      simp [q0, q1, q2, q3, q4]
    clear g0 g1 g2 g3 g4 g5 e0 e1 e2 e3 ew hb3 hb4 hb5 hb6 hb7 hb8 hp3 k3
    walk_at "dxs"
    refine x_rng1At (n := pl) rfl (by omega) ?_
    refine forRng (fun i σ H' => ∃ (o8 : Option DL.D) (A : AW) (W : Wd), σ = [some (.ref b), some (.int (pl : Int)), some (.int (wd : Int)), some (.int 8), some (.ref p), some (.int (2 + (th : Int))), some (.int (fa : Int)), some (.ref wa), o8] ∧ WS H H' b wa A W ∧ H' p = some (.lst (ys.map D.str)) ∧ Bg H' b g (n + 98000 - 1200 * i) ∧ p ∉ A.ft wa ∧ WdP pl wd i W) ?_ ?_ ?_
    · exact ⟨_, _, _, rfl, ws0, hp5, hb9, np0, ⟨rfl, by simp, rfl, by simp, rfl, by simp, rfl, by simp⟩⟩
    · rintro i σ H' hi ⟨o8, A, W, rfl, ws, hp, hbi, np, wv⟩
      have e0 : (0 : Int) + (i : Int) = (i : Int) := by omega
      rw [e0]
      obtain ⟨l0, o0, l1, r1, l2, m2, l3, k3⟩ := wv
      have nb := ws.nb hb
      have i0 : L2.atI [DL.D.ref A.a0, .ref A.a1, .ref A.a2, .ref A.a3] 0 = some (.ref A.a0) := rfl
      have i1 : L2.atI [DL.D.ref A.a0, .ref A.a1, .ref A.a2, .ref A.a3] 1 = some (.ref A.a1) := rfl
      have i2 : L2.atI [DL.D.ref A.a0, .ref A.a1, .ref A.a2, .ref A.a3] 2 = some (.ref A.a2) := rfl
      have i3 : L2.atI [DL.D.ref A.a0, .ref A.a1, .ref A.a2, .ref A.a3] 3 = some (.ref A.a3) := rfl
      have hww := ws.wa.hw
      walk_at "dxs"
      refine ⟨tyM_lst ws.wa.h0, ?_⟩
      walk_at "dxs"
      refine ⟨b, g, 2, n + 98000 - 1200 * i - 1, rfl, hbi.le (by omega), by decide, by decide, fun v H1 v1 off1 hb1 => ?_⟩
      have ws1 := ws.step (Keep.off off1) nb
      have hp1 := (off1 p (Ne.symm nbp)).trans hp
      have h0 := ws1.wa.h0
      have z0 : (W.ow.map D.int).length < sizeLine := by rw [List.length_map, l0, sizeLine_eq]; omega
      walk_at "dxs"
      have ws2 := ws1.put0 (W.ow ++ [(v : Int)])
      have m0 : A.a0 ∈ A.ft wa := by unfold AW.ft; simp
      have hb2 := hb1.put (o := .lst ((W.ow ++ [(v : Int)]).map D.int)) (hb.fresh (ws.fr _ m0)).1 (hb.fresh (ws.fr _ m0)).2
      have hp2 := (put_ne (Hd := H1) (o := .lst ((W.ow ++ [(v : Int)]).map D.int)) (fun z => np (z ▸ m0) : p ≠ A.a0)).trans hp1
      simp only [List.map_append, List.map_cons, List.map_nil] at ws2 hb2 hp2
      generalize hG : put H1 A.a0 _ = H2 at ws2 hb2 hp2 ⊢
      clear hG ws1 hb1 hp1 h0 off1
      refine x_ixL ws2.wa.hw i1 ?_
      refine ⟨tyM_lst ws2.wa.h1, ?_⟩
      walk_at "dxs"
      refine ⟨b, g, 10, n + 98000 - 1200 * i - 2, rfl, hb2.le (by omega), by decide, by decide, fun v' H3 v1' off3 hb3 => ?_⟩
      have ws3 := ws2.step (Keep.off off3) nb
      have hp3 := (off3 p (Ne.symm nbp)).trans hp2
      have h1 : H3 A.a1 = some (.lst (W.rk.map D.int)) := ws3.wa.h1
      have z1 : (W.rk.map D.int).length < sizeLine := by rw [List.length_map, l1, sizeLine_eq]; omega
      walk_at "dxs"
      have ws4 := ws3.put1 (W.rk ++ [(v' : Int)])
      have m1 : A.a1 ∈ A.ft wa := by unfold AW.ft; simp
      have hb4 := hb3.put (o := .lst ((W.rk ++ [(v' : Int)]).map D.int)) (hb.fresh (ws.fr _ m1)).1 (hb.fresh (ws.fr _ m1)).2
      have hp4 := (put_ne (Hd := H3) (o := .lst ((W.rk ++ [(v' : Int)]).map D.int)) (fun z => np (z ▸ m1) : p ≠ A.a1)).trans hp3
      simp only [List.map_append, List.map_cons, List.map_nil] at ws4 hb4 hp4
      generalize hG : put H3 A.a1 _ = H4 at ws4 hb4 hp4 ⊢
      clear hG ws2 hb2 hp2 ws3 hb3 hp3 h1 off3
      refine x_ixL ws4.wa.hw i2 ?_
      refine ⟨tyM_lst ws4.wa.h2, ?_⟩
      walk_at "dxs"
      refine ⟨b, g, pl, wd, n + 98000 - 1200 * i - 1010, 2 + (th : Int), (fa : Int), rfl, hb4.le (by omega), p1, p12, hw, by omega, by omega, fun r row H5 r4 k5 hb5 hr5 rv rl => ?_⟩
      have nr4 : b ≠ r ∧ g ≠ r := hb4.fresh r4
      have nr : r ∉ A.ft wa := ws4.wa.fresh r4
      have r0 : H r = none := none_keep ws4.kp (hbx hb4) r4
      have npr : p ≠ r := dne_of_none hp4 r4
      have ws5 := ws4.step k5 nb
      have hp5 := k5 p _ (by simpa using Ne.symm nbp) hp4
      have h2 : H5 A.a2 = some (.lst (A.rs.map D.ref)) := ws5.wa.h2
      have z2 : (A.rs.map D.ref).length < sizeLine := by rw [List.length_map, ws5.wa.len, l2, sizeLine_eq]; omega
      walk_at "dxs"
      have ws6 := ws5.put2 hr5 nr r0
      have m2' : A.a2 ∈ A.ft wa := by unfold AW.ft; simp
      have hb6 := hb5.put (o := .lst ((A.rs ++ [r]).map D.ref)) (hb.fresh (ws.fr _ m2')).1 (hb.fresh (ws.fr _ m2')).2
      have hp6 := (put_ne (Hd := H5) (o := .lst ((A.rs ++ [r]).map D.ref)) (fun z => np (z ▸ m2') : p ≠ A.a2)).trans hp5
      simp only [List.map_append, List.map_cons, List.map_nil] at ws6 hb6 hp6
      generalize hG : put H5 A.a2 _ = H6 at ws6 hb6 hp6 ⊢
      clear hG ws4 hb4 hp4 ws5 hb5 hp5 h2 k5 hr5
      refine x_ixL ws6.wa.hw i3 ?_
      refine ⟨tyM_lst ws6.wa.h3, ?_⟩
      walk_at "dxs"
      refine ⟨b, g, p, ys, n + 98000 - 1200 * i - 1050, rfl, hb6.le (by omega), nbp, hp6, pool, fun zs H7 k7 hb7 pz => ?_⟩
      have nb6 := ws6.nb hb
      have ws7 := ws6.step k7 nb6
      have hp7 := k7 p _ (by simpa using Ne.symm nbp) hp6
      have h3 : H7 A.a3 = some (.lst (W.ks.map kD)) := ws7.wa.h3
      have z3 : (W.ks.map kD).length < sizeLine := by rw [List.length_map, l3, sizeLine_eq]; omega
      walk_at "dxs"
      have ws8 := ws7.put3 (W.ks ++ [zs])
      have m3 : A.a3 ∈ A.ft wa := by unfold AW.ft; simp
      have hb8 := hb7.put (o := .lst ((W.ks ++ [zs]).map kD)) (hb.fresh (ws.fr _ m3)).1 (hb.fresh (ws.fr _ m3)).2
      have hp8 := (put_ne (Hd := H7) (o := .lst ((W.ks ++ [zs]).map kD)) (fun z => np (z ▸ m3) : p ≠ A.a3)).trans hp7
      simp only [List.map_append, List.map_cons, List.map_nil] at ws8 hb8 hp8
      refine ⟨_, _, _, rfl, ws8, hp8, hb8.le (by omega), fun z => ?_, ?_⟩
      · rcases AW.mem_app z with z | z
        · exact np z
        · exact npr z
      · refine ⟨by simp [l0], fun x hx => ?_, by simp [l1], fun x hx => ?_, by simp [l2], fun x hx => ?_, by simp [l3], fun x hx => ?_⟩
        · rcases List.mem_append.mp hx with h | h
          · exact o0 x h
          · rw [List.mem_singleton] at h; omega
        · rcases List.mem_append.mp hx with h | h
          · exact r1 x h
          · rw [List.mem_singleton] at h; omega
        · rcases List.mem_append.mp hx with h | h
          · exact m2 x h
          · rw [List.mem_singleton] at h; subst h; exact ⟨rl, rv⟩
        · rcases List.mem_append.mp hx with h | h
          · exact k3 x h
          · rw [List.mem_singleton] at h; subst h; exact pz
    · rintro σ H' ⟨o8, A, W, rfl, ws, hp, hbi, np, wv⟩
      walk_at "dxs"
      exact ⟨_, Sub.refl _, q wa A W H' ws (hbi.le (by omega)) wv⟩
end
end K02

namespace K02
open PySem PySem.Spec PyProof.Rows L2 DL
structure RowG (row : List Mv) : Prop where
  ne : row ≠ []
  l : row.length ≤ 13
  g : ∀ m ∈ row, m.2.length ≤ 3
structure WdG (n : Nat) (W : Wd) : Prop where
  l0 : W.ow.length = n
  l1 : W.rk.length = n
  l2 : W.mv.length = n
  m : ∀ row ∈ W.mv, RowG row
  l3 : W.ks.length = n
  k : ∀ ys ∈ W.ks, PoolS ys
theorem WdP.g {n wd : Nat} {W : Wd} (h : WdP n wd n W) (hw : wd ≤ 3) : WdG n W := ⟨h.l0, h.l1, h.l2, fun row hr => ⟨(h.m row hr).2.ne, by have := (h.m row hr).1; omega, fun m hm => by have := ((h.m row hr).2.g m hm).l; omega⟩, h.l3, h.k⟩
section
variable {P : Program} {w : World} {K : PySem.W.Frag} {mg : Str → Option Value} {base : Heap}
def sp_grow : DSp := fun ds H Q _ => ∃ w A W, ∃ (pl c : Nat), ds = [.ref w, .int (c : Int)] ∧ WAt H w W A ∧ WdG pl W ∧ (∀ row ∈ W.mv, row.length ≤ 12) ∧ 1 ≤ pl ∧ pl ≤ 12 ∧ 13 ≤ c ∧ c ≤ 401 ∧
  ∀ A' W' H', Keep (A.ft w) H H' → WAt H' w W' A' → WdG c W' → (∀ a ∈ A'.ft w, a ∈ A.ft w ∨ H a = none) → Q .non H'
theorem ok_grow (T : Txt P K mg) : DFn P w K mg base 3 T.f__law_grow T.d__law_grow ps__law_grow sp_grow := by
  refine fn__law_grow (k := 0) T (fun ds H Q E h => ?_) (fun ds H Q E h => ?_)
  · obtain ⟨w, A, W, pl, c, rfl, _⟩ := h; rfl
  · obtain ⟨w, A0, W0, pl, c, rfl, wa0, wg0, r12, p1, p12, c13, c401, q⟩ := h
    have j0 : ∀ A : AW, L2.atI [DL.D.ref A.a0, .ref A.a1, .ref A.a2, .ref A.a3] 0 = some (.ref A.a0) := fun _ => rfl
    have j1 : ∀ A : AW, L2.atI [DL.D.ref A.a0, .ref A.a1, .ref A.a2, .ref A.a3] 1 = some (.ref A.a1) := fun _ => rfl
    have j2 : ∀ A : AW, L2.atI [DL.D.ref A.a0, .ref A.a1, .ref A.a2, .ref A.a3] 2 = some (.ref A.a2) := fun _ => rfl
    have j3 : ∀ A : AW, L2.atI [DL.D.ref A.a0, .ref A.a1, .ref A.a2, .ref A.a3] 3 = some (.ref A.a3) := fun _ => rfl
    unfold rd__law_grow
    walk_at "dxs"
    refine x_ixL wa0.hw (j0 A0) ?_
    walk_at "dxs"
    refine x_lenL wa0.h0 ?_
    rw [List.length_map, wg0.l0]
    walk_at "dxs"
    refine x_rng2At (by omega) (by omega) ?_
    rw [show ((c : Int) - (pl : Int)).toNat = c - pl by omega]
    refine forRng (fun i σ H' => ∃ (o3 o4 : Option DL.D) (A : AW) (W : Wd), σ = [some (.ref w), some (.int (c : Int)), some (.int (pl : Int)), o3, o4] ∧ Keep (A0.ft w) H H' ∧ WAt H' w W A ∧ WdG (pl + i) W ∧ (∀ a ∈ A.ft w, a ∈ A0.ft w ∨ H a = none) ∧ ∃ ex, W.mv = W0.mv ++ ex) ?_ ?_ ?_
    · exact ⟨_, _, A0, W0, rfl, Keep.refl, wa0, wg0, fun a ha => .inl ha, [], by simp⟩
    · rintro i σ H' hi ⟨o3, o4, A, W, rfl, kp, wa, wg, fr, ex, hex⟩
      obtain ⟨bs, hbs⟩ : ∃ bs, bs = (pl + i) % pl := ⟨_, rfl⟩
      have eb : ((pl : Int) + (i : Int)) % (pl : Int) = (bs : Int) := by rw [hbs]; rfl
      have lb : bs < pl := by rw [hbs]; exact Nat.mod_lt _ (by omega)
      have p0 : (0 : Int) < (pl : Int) := by omega
      have ft0 : A.a0 ∈ A.ft w := by unfold AW.ft; simp
      have ft1 : A.a1 ∈ A.ft w := by unfold AW.ft; simp
      have ft2 : A.a2 ∈ A.ft w := by unfold AW.ft; simp
      have ft3 : A.a3 ∈ A.ft w := by unfold AW.ft; simp
      have kput : ∀ {H1 : DH} {a : Addr} {o : DO}, a ∈ A.ft w → Keep (A0.ft w) H H1 → Keep (A0.ft w) H (put H1 a o) := fun {H1 a o} ha k x u n e => by
        rw [put_ne (fun z => by rcases fr a ha with h | h; exact n (z ▸ h); rw [← z, e] at h; cases h)]
        exact k x u n e
      have mod : ∀ (q : DK), q (.int (bs : Int)) H' → dI (fun _ j => 0 < j) (fun i j => .int (i % j)) (.int ((pl : Int) + (i : Int))) (.int (pl : Int)) H' q := fun q h => ⟨p0, by show q (.int (((pl : Int) + (i : Int)) % (pl : Int))) H'; rw [eb]; exact h⟩
      -- what is read at the base
      obtain ⟨v0, hv0⟩ : ∃ v, W.ow[bs]? = some v := ⟨_, List.getElem?_eq_getElem (by rw [wg.l0]; omega)⟩
      obtain ⟨v1, hv1⟩ : ∃ v, W.rk[bs]? = some v := ⟨_, List.getElem?_eq_getElem (by rw [wg.l1]; omega)⟩
      obtain ⟨row, hrow⟩ : ∃ v, W.mv[bs]? = some v := ⟨_, List.getElem?_eq_getElem (by rw [wg.l2]; omega)⟩
      obtain ⟨r, hr⟩ : ∃ v, A.rs[bs]? = some v := ⟨_, List.getElem?_eq_getElem (by rw [wa.len, wg.l2]; omega)⟩
      obtain ⟨v3, hv3⟩ : ∃ v, W.ks[bs]? = some v := ⟨_, List.getElem?_eq_getElem (by rw [wg.l3]; omega)⟩
      have rg := wg.m row (List.mem_of_getElem? hrow)
      have rl : row.length ≤ 12 := by
        rw [hex, List.getElem?_append_left (by rw [wg0.l2]; exact lb)] at hrow
        exact r12 row (List.mem_of_getElem? hrow)
      have ftr : r ∈ A.ft w := by unfold AW.ft; simp [List.mem_of_getElem? hr]
      have x0 : L2.atI (W.ow.map D.int) (bs : Int) = some (.int v0) := at_int hv0
      have x1 : L2.atI (W.rk.map D.int) (bs : Int) = some (.int v1) := at_int hv1
      have x2 : L2.atI (A.rs.map D.ref) (bs : Int) = some (.ref r) := atI_nat (by rw [List.getElem?_map, hr]; rfl)
      have x3 : L2.atI (W.ks.map kD) (bs : Int) = some (kD v3) := atI_nat (by rw [List.getElem?_map, hv3]; rfl)
      have z0 : (W.ow.map D.int).length < sizeLine := by rw [List.length_map, wg.l0, sizeLine_eq]; omega
      have z1 : (W.rk.map D.int).length < sizeLine := by rw [List.length_map, wg.l1, sizeLine_eq]; omega
      have z2 : (A.rs.map D.ref).length < sizeLine := by rw [List.length_map, wa.len, wg.l2, sizeLine_eq]; omega
      have z3 : (W.ks.map kD).length < sizeLine := by rw [List.length_map, wg.l3, sizeLine_eq]; omega
      cases row with
      | nil => exact absurd rfl rg.ne
      | cons m0 rest =>
      have y0 : L2.atI ((m0 :: rest).map mvD) 0 = some (mvD m0) := atI_nat (i := 0) rfl
      have y1 : L2.atI [DL.D.int m0.1, gD m0.2] 1 = some (gD m0.2) := rfl
      walk_at "dxs"
      refine mod _ ?_
      walk_at "dxs"
      refine x_ixL wa.hw (j0 A) ?_
      refine ⟨tyM_lst wa.h0, ?_⟩
      walk_at "dxs"
      refine x_ixL wa.hw (j0 A) ?_
      walk_at "dxs"
      refine x_ixL wa.h0 x0 ?_
      walk_at "dxs"
      refine x_app wa.h0 z0 ?_
      have wb := wa.put0 (W.ow ++ [v0])
      have kb := kput ft0 (o := .lst ((W.ow ++ [v0]).map D.int)) kp
      simp only [List.map_append, List.map_cons, List.map_nil] at wb kb
      generalize hG : put H' A.a0 _ = H1 at wb kb ⊢
      clear hG
      walk_at "dxs"
      refine x_ixL wb.hw (j1 A) ?_
      refine ⟨tyM_lst wb.h1, ?_⟩
      walk_at "dxs"
      refine x_ixL wb.hw (j1 A) ?_
      walk_at "dxs"
      refine x_ixL wb.h1 x1 ?_
      walk_at "dxs"
      refine x_app wb.h1 z1 ?_
      have wc := wb.put1 (W.rk ++ [v1])
      have kc := kput ft1 (o := .lst ((W.rk ++ [v1]).map D.int)) kb
      simp only [List.map_append, List.map_cons, List.map_nil] at wc kc
      generalize hG : put H1 A.a1 _ = H2 at wc kc ⊢
      clear hG
      walk_at "dxs"
      refine x_ixL wc.hw (j2 A) ?_
      refine ⟨tyM_lst wc.h2, ?_⟩
      walk_at "dxs"
      refine x_ixL wc.hw (j2 A) ?_
      walk_at "dxs"
      refine x_ixL wc.h2 x2 ?_
      have hrw := wc.row bs r _ hr hrow
      walk_at "dxs"
      intro c1 e1
      have wd1 := wc.keep (F := []) (Keep.new (o := .lst ((m0 :: rest).map mvD)) e1) (by simp)
      have kd1 : Keep (A0.ft w) H _ := kc.trans (Keep.new (o := .lst ((m0 :: rest).map mvD)) e1)
      have g1 := Gw.nil.new (o := .lst ((m0 :: rest).map mvD)) e1 rfl
      generalize hG : put H2 c1 _ = G1 at g1 wd1 kd1 ⊢
      clear hG
      walk_at "dxs"
      refine x_ixL wd1.hw (j2 A) ?_
      walk_at "dxs"
      refine x_ixL wd1.h2 x2 ?_
      walk_at "dxs"
      refine x_ixL (wd1.row bs r _ hr hrow) y0 ?_
      walk_at "dxs"
      refine x_ixT (xs := [.int m0.1, gD m0.2]) y1 ?_
      walk_at "dxs"
      intro c2 e2
      have wd2 := wd1.keep (F := []) (Keep.new (o := .lst [.tup [.int ((pl : Int) + (i : Int)), gD m0.2]]) e2) (by simp)
      have kd2 : Keep (A0.ft w) H _ := kd1.trans (Keep.new (o := .lst [.tup [.int ((pl : Int) + (i : Int)), gD m0.2]]) e2)
      have g2 := g1.new (o := .lst [.tup [.int ((pl : Int) + (i : Int)), gD m0.2]]) e2 rfl
      generalize hG : put G1 c2 _ = G2 at g2 wd2 kd2 ⊢
      clear hG
      walk_at "dxs"
      refine x_addL g2.h1 g2.h0 (by rw [List.length_map, sizeLine_eq]; simp at rl ⊢; omega) fun c3 e3 => ?_
      have wd3 := wd2.keep (F := []) (Keep.new (o := .lst ((m0 :: rest).map mvD ++ [DL.D.tup [.int ((pl : Int) + (i : Int)), gD m0.2]])) e3) (by simp)
      have kd3 : Keep (A0.ft w) H _ := kd2.trans (Keep.new (o := .lst ((m0 :: rest).map mvD ++ [DL.D.tup [.int ((pl : Int) + (i : Int)), gD m0.2]])) e3)
      have g3 := g2.new (o := .lst ((m0 :: rest).map mvD ++ [DL.D.tup [.int ((pl : Int) + (i : Int)), gD m0.2]])) e3 rfl
      have nr : c3 ∉ A.ft w := wd2.fresh e3
      have fr3 : c3 ∈ A0.ft w ∨ H c3 = none := by
        by_cases z : c3 ∈ A0.ft w
        · exact .inl z
        · refine .inr ?_
          cases e : H c3 with
          | none => rfl
          | some o => rw [kd2 c3 o z e] at e3; cases e3
      generalize hG : put G2 c3 _ = G3 at g3 wd3 kd3 ⊢
      clear hG
      walk_at "dxs"
      refine x_app wd3.h2 z2 ?_
      have we := wd3.put2 (r := c3) (row := (m0 :: rest) ++ [((pl : Int) + (i : Int), m0.2)]) (by rw [List.map_append]; exact g3.h0) nr
      have ke := kput ft2 (o := .lst ((A.rs ++ [c3]).map D.ref)) kd3
      simp only [List.map_append, List.map_cons, List.map_nil] at we ke
      generalize hG : put G3 A.a2 _ = H3 at we ke ⊢
      clear hG
      walk_at "dxs"
      refine x_ixL we.hw (j3 A) ?_
      refine ⟨tyM_lst we.h3, ?_⟩
      walk_at "dxs"
      refine x_ixL we.hw (j3 A) ?_
      walk_at "dxs"
      refine x_ixL we.h3 x3 ?_
      walk_at "dxs"
      refine x_app we.h3 z3 ?_
      have wf := we.put3 (W.ks ++ [v3])
      have kf := kput ft3 (o := .lst ((W.ks ++ [v3]).map kD)) ke
      simp only [List.map_append, List.map_cons, List.map_nil] at wf kf
      refine ⟨_, _, _, _, rfl, kf, wf, ⟨?_, ?_, ?_, fun x hx => ?_, ?_, fun x hx => ?_⟩, fun a ha => ?_, ex ++ [(m0 :: rest) ++ [((pl : Int) + (i : Int), m0.2)]], ?_⟩
      · show (W.ow ++ [v0]).length = _
        rw [List.length_append, wg.l0]; simp; omega
      · show (W.rk ++ [v1]).length = _
        rw [List.length_append, wg.l1]; simp; omega
      · show (W.mv ++ [_]).length = _
        rw [List.length_append, wg.l2]; simp; omega
      · rcases List.mem_append.mp hx with h | h
        · exact wg.m x h
        · rw [List.mem_singleton] at h; subst h
          refine ⟨by simp, by simp at rl ⊢; omega, fun m hm => ?_⟩
          have : m ∈ (m0 :: rest) ∨ m = ((pl : Int) + (i : Int), m0.2) := by simpa [or_assoc] using hm
          rcases this with h | h
          · exact rg.g m h
          · subst h; exact rg.g m0 (by simp)
      · show (W.ks ++ [_]).length = _
        rw [List.length_append, wg.l3]; simp; omega
      · rcases List.mem_append.mp hx with h | h
        · exact wg.k x h
        · rw [List.mem_singleton] at h; subst h; exact wg.k _ (List.mem_of_getElem? hv3)
      · rcases AW.mem_app (A := A) ha with h | h
        · exact fr a h
        · subst h; exact fr3
      · show W.mv ++ [_] = _
        rw [hex, List.append_assoc]
    · rintro σ H' ⟨o3, o4, A, W, rfl, kp, wa, wg, fr, ex, hex⟩
      refine ⟨_, Sub.refl _, q A W H' kp wa ?_ fr⟩
      rw [show pl + (c - pl) = c by omega] at wg
      exact wg
end
end K02

namespace K02
open PySem PySem.Spec PyProof.Rows L2 DL
def optD : Option Int → DL.D
  | none => .non
  | some i => .int i
theorem FaultIs.uniq {d0 d1 d2 d3 : DL.D} {r s : Option Int} (h : FaultIs d0 d1 d2 d3 r) (k : FaultIs d0 d1 d2 d3 s) : r = s := by
  have same : ∀ {n m : Nat} {xs0 xs1 xs2 xs3 ys0 ys1 ys2 ys3 : List DL.D}, ShapeP d0 d1 d2 d3 n xs0 xs1 xs2 xs3 → ShapeP d0 d1 d2 d3 m ys0 ys1 ys2 ys3 → n = m ∧ xs0 = ys0 ∧ xs1 = ys1 ∧ xs2 = ys2 ∧ xs3 = ys3 := fun {n m xs0 xs1 xs2 xs3 ys0 ys1 ys2 ys3} a b => by
    have e0 := a.e0.symm.trans b.e0
    have e1 := a.e1.symm.trans b.e1
    have e2 := a.e2.symm.trans b.e2
    have e3 := a.e3.symm.trans b.e3
    cases e0; cases e1; cases e2; cases e3
    exact ⟨a.l0.symm.trans b.l0, rfl, rfl, rfl, rfl⟩
  cases h with
  | shape h =>
    cases k with
    | shape _ => rfl
    | place p sh _ _ _ => exact absurd ⟨_, _, _, _, _, sh⟩ h
    | ok sh _ => exact absurd ⟨_, _, _, _, _, sh⟩ h
  | place p sh hp hb hk =>
    cases k with
    | shape h => exact absurd ⟨_, _, _, _, _, sh⟩ h
    | place p' sh' hp' hb' hk' =>
      obtain ⟨rfl, rfl, rfl, rfl, rfl⟩ := same sh sh'
      have : p = p' := by
        by_cases c : p < p'
        · exact absurd (hk' p c) hb
        · by_cases c2 : p' < p
          · exact absurd (hk p' c2) hb'
          · omega
      rw [this]
    | ok sh' hk' =>
      obtain ⟨rfl, rfl, rfl, rfl, rfl⟩ := same sh sh'
      exact absurd (hk' p hp) hb
  | ok sh hk =>
    cases k with
    | shape h => exact absurd ⟨_, _, _, _, _, sh⟩ h
    | place p' sh' hp' hb' hk' =>
      obtain ⟨rfl, rfl, rfl, rfl, rfl⟩ := same sh sh'
      exact absurd (hk p' hp') hb'
    | ok _ _ => rfl
theorem plB_iff {n : Int} {x : DL.D} : plB n x = true ↔ ∃ v : Int, x = .int v ∧ 0 ≤ v ∧ v < n := by
  cases x <;> simp [plB]
section
variable {P : Program} {w : World} {K : PySem.W.Frag} {mg : Str → Option Value} {base : Heap}
def sp_fault : DSp := fun ds H Q _ => ∃ gv x0 x1 x2 x3 d0 d1 d2 d3, ds = [.ref gv] ∧ H gv = some (.lst [x0, x1, x2, x3]) ∧ (Frz H x0 d0 ∧ Frz H x1 d1 ∧ Frz H x2 d2 ∧ Frz H x3 d3) ∧ (wt d0 ≤ 100000 ∧ wt d1 ≤ 100000 ∧ wt d2 ≤ 100000 ∧ wt d3 ≤ 100000) ∧ (Pure d0 ∧ Pure d1 ∧ Pure d2 ∧ Pure d3) ∧ ∀ r, FaultIs d0 d1 d2 d3 r → Q (optD r) H
theorem ok_fault (T : Txt P K mg) : DFn P w K mg base 9 T.f__law_fault T.d__law_fault ps__law_fault sp_fault := by
  refine fn__law_fault (k := 6) T ((ok_lrow T).mono (by decide)) (ok_lwidth T) ((ok_lint T).mono (by decide)) (ok_bad_moves T) (ok_bad_marks T) (fun ds H Q E h => ?_) (fun ds H Q E h => ?_)
  · obtain ⟨gv, x0, x1, x2, x3, d0, d1, d2, d3, rfl, _⟩ := h; rfl
  · obtain ⟨gv, x0, x1, x2, x3, d0, d1, d2, d3, rfl, hg, ⟨f0, f1, f2, f3⟩, ⟨w0, w1, w2, w3⟩, ⟨p0, p1, p2, p3⟩, q⟩ := h
    have no : ¬ ShapeOk d0 d1 d2 d3 → (endsOf Q E).rt (.int (-1)) H := fun z => ⟨_, Sub.refl _, q _ (.shape z)⟩
    unfold rd__law_fault
    walk_at "dxs"
    refine x_rng1At (n := 4) rfl (by decide) ?_
    refine forRng (fun i σ H' => ∃ (o1 : Option DL.D), σ = [some (.ref gv), o1, none, none, none, none, none] ∧ H' = H ∧ ∀ j, j < i → ∃ ys, [d0, d1, d2, d3][j]? = some (.tup ys)) ?_ ?_ ?_
    · exact ⟨_, rfl, rfl, fun j hj => absurd hj (by omega)⟩
    · rintro i σ H' hi ⟨o1, rfl, rfl, hok⟩
      have e0 : (0 : Int) + (i : Int) = (i : Int) := by omega
      rw [e0]
      obtain ⟨x, d, hx, hd, f⟩ : ∃ x d, [x0, x1, x2, x3][i]? = some x ∧ [d0, d1, d2, d3][i]? = some d ∧ Frz H' x d := by
        match i, hi with
        | 0, _ => exact ⟨_, _, rfl, rfl, f0⟩
        | 1, _ => exact ⟨_, _, rfl, rfl, f1⟩
        | 2, _ => exact ⟨_, _, rfl, rfl, f2⟩
        | 3, _ => exact ⟨_, _, rfl, rfl, f3⟩
        | k + 4, h => omega
      have ix := atI_nat hx
      walk_at "dxs"
      rcases f.cases2 with ⟨hr, rfl, hn⟩ | ⟨xs, ys, rfl, hi', hs, hr⟩
      · refine ⟨d, false, rfl, hr, ?_⟩
        walk_at "dxs"
        refine no fun ⟨n, a, b, c, e, sh⟩ => ?_
        have : ∃ ys, [d0, d1, d2, d3][i]? = some (.tup ys) := by
          match i, hi with
          | 0, _ => exact ⟨_, congrArg some sh.e0⟩
          | 1, _ => exact ⟨_, congrArg some sh.e1⟩
          | 2, _ => exact ⟨_, congrArg some sh.e2⟩
          | 3, _ => exact ⟨_, congrArg some sh.e3⟩
          | k + 4, h => omega
        obtain ⟨ys, hy⟩ := this
        rw [hd] at hy
        exact hn ys (Option.some.inj hy)
      · refine ⟨x, true, rfl, hr, ?_⟩
        walk_at "dxs"
        refine ⟨_, rfl, rfl, fun j hj => ?_⟩
        by_cases cj : j < i
        · exact hok j cj
        · have : j = i := by omega
          subst this
          exact ⟨ys, hd⟩
    · rintro σ H' ⟨o1, rfl, rfl, hok⟩
      obtain ⟨ys0, h0⟩ := hok 0 (by decide)
      obtain ⟨ys1, h1⟩ := hok 1 (by decide)
      obtain ⟨ys2, h2⟩ := hok 2 (by decide)
      obtain ⟨ys3, h3⟩ := hok 3 (by decide)
      have t0 : d0 = .tup ys0 := Option.some.inj h0
      have t1 : d1 = .tup ys1 := Option.some.inj h1
      have t2 : d2 = .tup ys2 := Option.some.inj h2
      have t3 : d3 = .tup ys3 := Option.some.inj h3
      subst t0 t1 t2 t3
      clear hok
      obtain ⟨xs0, i0, s0⟩ := f0.items
      obtain ⟨xs1, i1, s1⟩ := f1.items
      obtain ⟨xs2, i2, s2⟩ := f2.items
      obtain ⟨xs3, i3, s3⟩ := f3.items
      have l0 := s0.len
      have l1 := s1.len
      have l2 := s2.len
      have l3 := s3.len
      have k0 : L2.atI [x0, x1, x2, x3] 0 = some x0 := rfl
      have k1 : L2.atI [x0, x1, x2, x3] 1 = some x1 := rfl
      have k2 : L2.atI [x0, x1, x2, x3] 2 = some x2 := rfl
      have k3 : L2.atI [x0, x1, x2, x3] 3 = some x3 := rfl
      have shp : ∀ {n a b c e}, ShapeP (.tup ys0) (.tup ys1) (.tup ys2) (.tup ys3) n a b c e → 1 ≤ n ∧ n ≤ 400 ∧ ys0.length = n ∧ ys1.length = n ∧ ys2.length = n ∧ (ys3.length = 0 ∨ ys3.length = n) := fun {n a b c e} sh => by
        obtain ⟨e0, e1, e2, e3, l0, l1, l2, l3, n1, n2⟩ := sh
        cases e0; cases e1; cases e2; cases e3
        exact ⟨n1, n2, l0, l1, l2, l3⟩
      have py2 : ∀ y ∈ ys2, Pure y := by cases p2; assumption
      have py3 : ∀ y ∈ ys3, Pure y := by cases p3; assumption
      have wtm : ∀ {ys : List DL.D} {i : Nat} {y : DL.D}, wt (.tup ys) ≤ 100000 → ys[i]? = some y → wt y ≤ 100000 := fun {ys i y} h e => by
        have := wts_mem e
        rw [wt] at h
        omega
      -- the places
      have tail : xs1.length = xs0.length → xs2.length = xs0.length → (xs3.length = 0 ∨ xs3.length = xs0.length) → 1 ≤ xs0.length → xs0.length ≤ 400 →
          (dSeq (dSet (dCall sp_lwidth [] (dCons (dOp dIx (dOp dIx (dVar 0) (dC (.int 2))) (dC (.int 0))) dNil)) 3) (dSeq (dFor (wRng1 (dCons (dVar 2) dNil)) (gNm 4) (dSeq (dSet (dOp dIx (dOp dIx (dVar 0) (dC (.int 0))) (dVar 4)) 5) (dSeq (dSet (dOp dIx (dOp dIx (dVar 0) (dC (.int 1))) (dVar 4)) 6) (dSeq (dIfS (dOr (dNot (dTest (dCall sp_is_integer [] (dCons (dVar 5) dNil)))) (dOr (dTest (dOp (dI0 fun i j => .bl (decide (i < j))) (dVar 5) (dC (.int 0)))) (dTest (dOp (dI0 fun i j => .bl (decide (j < i))) (dVar 5) (dC (.int 1)))))) (dRet (dVar 4)) dNext) (dSeq (dIfS (dOr (dNot (dTest (dCall sp_is_integer [] (dCons (dVar 6) dNil)))) (dOr (dTest (dOp (dI0 fun i j => .bl (decide (i < j))) (dVar 6) (dC (.int 0)))) (dTest (dOp (dI0 fun i j => .bl (decide (j < i))) (dVar 6) (dC (.int 9)))))) (dRet (dVar 4)) dNext) (dSeq (dIfS (dTest (dCall sp_bad_moves [] (dCons (dOp dIx (dOp dIx (dVar 0) (dC (.int 2))) (dVar 4)) (dCons (dVar 2) (dCons (dVar 3) dNil))))) (dRet (dVar 4)) dNext) (dIfS (dAnd (dTest (dOp (dI0 fun i j => .bl (decide (j < i))) (dCB dLen (dCons (dOp dIx (dVar 0) (dC (.int 3))) dNil)) (dC (.int 0)))) (dTest (dCall sp_bad_marks [] (dCons (dOp dIx (dOp dIx (dVar 0) (dC (.int 3))) (dVar 4)) dNil)))) (dRet (dVar 4)) dNext))))))) (dRet (dC .non)))) (endsOf Q E) [some (.ref gv), o1, some (.int (xs0.length : Int)), none, none, none, none] H' := by
        intro c3 c4 c5 c1 c2
        obtain ⟨m0, hm0⟩ : ∃ m0, ys2[0]? = some m0 := ⟨_, List.getElem?_eq_getElem (by omega)⟩
        obtain ⟨u0, hu0, fu0⟩ := s2.get2 hm0
        have hg0 : ys2.getD 0 .non = m0 := by rw [List.getD_eq_getElem?_getD, hm0]; rfl
        have sh : ShapeP (.tup ys0) (.tup ys1) (.tup ys2) (.tup ys3) xs0.length ys0 ys1 ys2 ys3 := ⟨rfl, rfl, rfl, rfl, by omega, by omega, by omega, by omega, c1, c2⟩
        walk_at "dxs"
        refine i2.ix (Sub.refl _) (atI_nat (i := 0) hu0) ?_
        walk_at "dxs"
        refine ⟨u0, m0, rfl, fu0, ?_⟩
        walk_at "dxs"
        refine x_rng1At (n := xs0.length) rfl (by omega) ?_
        refine forRng (fun i σ H'' => ∃ (o4 o5 o6 : Option DL.D), σ = [some (.ref gv), o1, some (.int (xs0.length : Int)), some (.int (widthD m0)), o4, o5, o6] ∧ H'' = H' ∧ ∀ j, j < i → PlB xs0.length ys0 ys1 ys2 ys3 j) ?_ ?_ ?_
        · exact ⟨_, _, _, rfl, rfl, fun j hj => absurd hj (by omega)⟩
        · rintro i σ H'' hi ⟨o4, o5, o6, rfl, rfl, hok⟩
          have ez : (0 : Int) + (i : Int) = (i : Int) := by omega
          rw [ez]
          obtain ⟨a, ha⟩ : ∃ a, ys0[i]? = some a := ⟨_, List.getElem?_eq_getElem (by omega)⟩
          obtain ⟨b, hb⟩ : ∃ a, ys1[i]? = some a := ⟨_, List.getElem?_eq_getElem (by omega)⟩
          obtain ⟨c, hc⟩ : ∃ a, ys2[i]? = some a := ⟨_, List.getElem?_eq_getElem (by omega)⟩
          obtain ⟨ua, hua, fa⟩ := s0.get2 ha
          obtain ⟨ub, hub, fb⟩ := s1.get2 hb
          obtain ⟨uc, huc, fc⟩ := s2.get2 hc
          obtain ⟨ta, ka⟩ := fa.kd
          obtain ⟨tb, kb⟩ := fb.kd
          have bad : ¬ PlB xs0.length ys0 ys1 ys2 ys3 i → (endsOf Q E).rt (.int (i : Int)) H'' := fun z => ⟨_, Sub.refl _, q _ (.place i sh hi z hok)⟩
          walk_at "dxs"
          refine i0.ix (Sub.refl _) (atI_nat hua) ?_
          walk_at "dxs"
          refine i1.ix (Sub.refl _) (atI_nat hub) ?_
          walk_at "dxs"
          refine ⟨ua, ta, rfl, ka, ?_⟩
          walk_at "dxs"
          cases c7 : isI ua with
          | false =>
            refine x_iteT rfl ?_
            walk_at "dxs"
            exact bad fun z => by
              obtain ⟨v, rfl, _⟩ := plB_iff.mp (z.ow a ha)
              have e := fa.int.1
              rw [c7] at e; cases e
          | true =>
          obtain ⟨v, rfl⟩ := isI_iff.mp c7
          have ea := fa.int.2 v rfl
          subst ea
          refine x_iteF rfl ?_
          walk_at "dxs"
          refine x_ite (fun c8 => ?_) fun c8 => ?_
          · have c8 := of_decide_eq_true c8
            walk_at "dxs"
            exact bad fun z => by
              obtain ⟨v', e, z1, z2⟩ := plB_iff.mp (z.ow _ ha)
              cases e; omega
          have c8 := of_decide_eq_false c8
          walk_at "dxs"
          refine x_ite (fun c9 => ?_) fun c9 => ?_
          · have c9 := of_decide_eq_true c9
            walk_at "dxs"
            exact bad fun z => by
              obtain ⟨v', e, z1, z2⟩ := plB_iff.mp (z.ow _ ha)
              cases e; omega
          have c9 := of_decide_eq_false c9
          walk_at "dxs"
          refine ⟨ub, tb, rfl, kb, ?_⟩
          walk_at "dxs"
          cases c10 : isI ub with
          | false =>
            refine x_iteT rfl ?_
            walk_at "dxs"
            exact bad fun z => by
              obtain ⟨v, rfl, _⟩ := plB_iff.mp (z.rk b hb)
              have e := fb.int.1
              rw [c10] at e; cases e
          | true =>
          obtain ⟨v', rfl⟩ := isI_iff.mp c10
          have eb := fb.int.2 v' rfl
          subst eb
          refine x_iteF rfl ?_
          walk_at "dxs"
          refine x_ite (fun c11 => ?_) fun c11 => ?_
          · have c11 := of_decide_eq_true c11
            walk_at "dxs"
            exact bad fun z => by
              obtain ⟨_, e, z1, z2⟩ := plB_iff.mp (z.rk _ hb)
              cases e; omega
          have c11 := of_decide_eq_false c11
          walk_at "dxs"
          refine x_ite (fun c12 => ?_) fun c12 => ?_
          · have c12 := of_decide_eq_true c12
            walk_at "dxs"
            exact bad fun z => by
              obtain ⟨_, e, z1, z2⟩ := plB_iff.mp (z.rk _ hb)
              cases e; omega
          have c12 := of_decide_eq_false c12
          have okow : ∀ o, ys0[i]? = some o → plB 2 o = true := fun o e => by rw [ha] at e; cases e; exact plB_iff.mpr ⟨v, rfl, by omega, by omega⟩
          have okrk : ∀ o, ys1[i]? = some o → plB 10 o = true := fun o e => by rw [hb] at e; cases e; exact plB_iff.mpr ⟨v', rfl, by omega, by omega⟩
          walk_at "dxs"
          refine i2.ix (Sub.refl _) (atI_nat huc) ?_
          walk_at "dxs"
          refine ⟨uc, c, xs0.length, widthD m0, rfl, fc, py2 c (List.mem_of_getElem? hc), wtm w2 hc, fun r hr => ?_⟩
          walk_at "dxs"
          cases r with
          | true =>
            refine x_iteT rfl ?_
            walk_at "dxs"
            exact bad fun z => hr.mp rfl (by rw [← hg0]; exact z.mv c hc)
          | false =>
          refine x_iteF rfl ?_
          have okmv : ∀ o, ys2[i]? = some o → MovesP xs0.length (widthD (ys2.getD 0 .non)) o := fun o e => by
            rw [hc] at e; cases e
            rw [hg0]
            by_cases z : MovesP xs0.length (widthD m0) c
            · exact z
            · have := hr.mpr z; cases this
          have next : (∀ k, ys3[i]? = some k → MarksP k) → ∃ (o4 o5 o6 : Option DL.D), [some (.ref gv), o1, some (.int (xs0.length : Int)), some (.int (widthD m0)), some (.int (i : Int)), some (.int v), some (.int v')] = [some (.ref gv), o1, some (.int (xs0.length : Int)), some (.int (widthD m0)), o4, o5, o6] ∧ H'' = H'' ∧ ∀ j, j < i + 1 → PlB xs0.length ys0 ys1 ys2 ys3 j := fun z => by
            refine ⟨_, _, _, rfl, rfl, fun j hj => ?_⟩
            by_cases cj : j < i
            · exact hok j cj
            · have : j = i := by omega
              subst this
              exact ⟨okow, okrk, okmv, z⟩
          walk_at "dxs"
          refine i3.len (Sub.refl _) ?_
          walk_at "dxs"
          refine x_ite (fun c13 => ?_) fun c13 => ?_
          · have c13 := of_decide_eq_true c13
            obtain ⟨d, hd⟩ : ∃ a, ys3[i]? = some a := ⟨_, List.getElem?_eq_getElem (by omega)⟩
            obtain ⟨ud, hud, fd⟩ := s3.get2 hd
            walk_at "dxs"
            refine i3.ix (Sub.refl _) (atI_nat hud) ?_
            walk_at "dxs"
            refine ⟨ud, d, rfl, fd, py3 d (List.mem_of_getElem? hd), wtm w3 hd, fun r hr => ?_⟩
            walk_at "dxs"
            cases r with
            | true =>
              refine x_iteT rfl ?_
              walk_at "dxs"
              exact bad fun z => hr.mp rfl (z.mks d hd)
            | false =>
              refine x_iteF rfl ?_
              walk_at "dxs"
              exact next fun k e => by
                rw [hd] at e; cases e
                by_cases z : MarksP d
                · exact z
                · have := hr.mpr z; cases this
          · have c13 := of_decide_eq_false c13
            walk_at "dxs"
            exact next fun k e => by
              have := (List.getElem?_eq_some_iff.mp e).1
              omega
        · rintro σ H'' ⟨o4, o5, o6, rfl, rfl, hok⟩
          walk_at "dxs"
          exact ⟨_, Sub.refl _, q _ (.ok sh hok)⟩
      walk_at "dxs"
      refine i0.len (Sub.refl _) ?_
      walk_at "dxs"
      refine x_ite (fun c => ?_) fun c => ?_
      · have c := of_decide_eq_true c
        walk_at "dxs"
        exact no fun ⟨n, _, _, _, _, sh⟩ => by have := shp sh; omega
      have c1 := of_decide_eq_false c
      walk_at "dxs"
      refine x_ite (fun c => ?_) fun c => ?_
      · have c := of_decide_eq_true c
        walk_at "dxs"
        exact no fun ⟨n, _, _, _, _, sh⟩ => by have := shp sh; omega
      have c2 := of_decide_eq_false c
      walk_at "dxs"
      refine i1.len (Sub.refl _) ?_
      walk_at "dxs"
      refine x_ite (fun c => ?_) fun c => ?_
      · walk_at "dxs"
        exact no fun ⟨n, _, _, _, _, sh⟩ => by have := shp sh; simp at c; omega
      have c3 : xs1.length = xs0.length := by simp at c; omega
      walk_at "dxs"
      refine i2.len (Sub.refl _) ?_
      walk_at "dxs"
      refine x_ite (fun c => ?_) fun c => ?_
      · walk_at "dxs"
        exact no fun ⟨n, _, _, _, _, sh⟩ => by have := shp sh; simp at c; omega
      have c4 : xs2.length = xs0.length := by simp at c; omega
      walk_at "dxs"
      refine i3.len (Sub.refl _) ?_
      walk_at "dxs"
      refine x_ite (fun c5 => ?_) fun c5 => ?_
      · walk_at "dxs"
        refine i3.len (Sub.refl _) ?_
        walk_at "dxs"
        refine x_ite (fun c6 => ?_) fun c6 => ?_
        · walk_at "dxs"
          have c5' : xs3.length ≠ 0 := fun z => by rw [z] at c5; simp at c5
          exact no fun ⟨n, _, _, _, _, sh⟩ => by have := shp sh; simp at c6; omega
        · refine x_next ?_
          exact tail c3 c4 (.inr (by simp at c6; omega)) (by omega) (by omega)
      · refine x_next ?_
        exact tail c3 c4 (.inl (by simpa using c5)) (by omega) (by omega)
end
end K02

namespace K02
open PySem PySem.Spec PyProof.Rows L2 DL
/-- a comprehension over a row, its results told by a relation -/
theorem lcRel {x : DL.D} {xs : List DL.D} {g : DTG} {te : DTE} {vs : List Nat} {σ : DSt} {H1 : DH} {Q : Addr → DH → Prop} (hi : Items H1 x xs) (l : xs.length ≤ 100000)
    (R : Addr → List DL.D → DH → Prop) (r0 : ∀ p, H1 p = none → R p [] (put H1 p (.lst []))) (stab : ∀ p zs H H', R p zs H → (∀ a o, a ≠ p → H a = some o → H' a = some o) → R p zs H')
    (step : ∀ p, H1 p = none → ∀ (i : Nat) (y : DL.D) (zs : List DL.D) (H : DH) (K : DK), xs[i]? = some y → zs.length = i → H p = some (.lst zs) → R p zs H → DL.Sub H1 H → (∀ z H4, DL.Sub H H4 → R p (zs ++ [z]) H4 → K z H4) → g y (wipeD σ vs) H fun σ2 H2 => te EF σ2 H2 K)
    (hd : ∀ p zs H, H1 p = none → zs.length = xs.length → DL.Sub H1 H → H p = some (.lst zs) → R p zs H → Q p H) :
    seqAt x H1 fun J H' => ∀ p, H' p = none → LcGo J g dYes te vs p σ (put H' p (.lst [])) (Q p) := by
  have W : ∀ p, H1 p = none → ∀ i, ∀ y, xs[i]? = some y → ∀ H, (∃ zs : List DL.D, zs.length = i ∧ H p = some (.lst zs) ∧ R p zs H ∧ DL.Sub H1 H) →
      g y (wipeD σ vs) H fun σ2 H2 => dYes EF σ2 H2 fun b H3 => if b = true then te EF σ2 H3 fun y H4 => ∃ acc, H4 p = some (.lst acc) ∧ acc.length < sizeLine ∧ (fun i H => ∃ zs : List DL.D, zs.length = i ∧ H p = some (.lst zs) ∧ R p zs H ∧ DL.Sub H1 H) (i + 1) (put H4 p (.lst (acc ++ [y]))) else (fun i H => ∃ zs : List DL.D, zs.length = i ∧ H p = some (.lst zs) ∧ R p zs H ∧ DL.Sub H1 H) (i + 1) H3 := fun p hp i y hy H ⟨zs, zl, hz, hr, hs⟩ => by
    have hi' := (List.getElem?_eq_some_iff.mp hy).1
    have := step p hp i y zs H (fun y H4 => ∃ acc, H4 p = some (.lst acc) ∧ acc.length < sizeLine ∧ (fun i H => ∃ zs : List DL.D, zs.length = i ∧ H p = some (.lst zs) ∧ R p zs H ∧ DL.Sub H1 H) (i + 1) (put H4 p (.lst (acc ++ [y])))) hy zl hz hr hs fun z H4 s4 r4 => ⟨zs, s4 _ _ hz, by rw [sizeLine_eq]; omega, zs ++ [z], by simp [zl], put_same, stab _ _ _ _ r4 (fun a o ne e => by rw [put_ne ne]; exact e), fun a o e => by rw [put_ne (dne_of_none e hp)]; exact s4 _ _ (hs _ _ e)⟩
    have e : (fun σ2 H2 => te EF σ2 H2 fun y H4 => ∃ acc, H4 p = some (.lst acc) ∧ acc.length < sizeLine ∧ (fun i H => ∃ zs : List DL.D, zs.length = i ∧ H p = some (.lst zs) ∧ R p zs H ∧ DL.Sub H1 H) (i + 1) (put H4 p (.lst (acc ++ [y])))) = (fun σ2 H2 => dYes EF σ2 H2 fun b H3 => if b = true then te EF σ2 H3 fun y H4 => ∃ acc, H4 p = some (.lst acc) ∧ acc.length < sizeLine ∧ (fun i H => ∃ zs : List DL.D, zs.length = i ∧ H p = some (.lst zs) ∧ R p zs H ∧ DL.Sub H1 H) (i + 1) (put H4 p (.lst (acc ++ [y]))) else (fun i H => ∃ zs : List DL.D, zs.length = i ∧ H p = some (.lst zs) ∧ R p zs H ∧ DL.Sub H1 H) (i + 1) H3) := by
      funext σ2 H2
      rfl
    rw [← e]
    exact this
  have st : ∀ p, H1 p = none → ∃ zs : List DL.D, zs.length = 0 ∧ put H1 p (.lst []) p = some (.lst zs) ∧ R p zs (put H1 p (.lst [])) ∧ DL.Sub H1 (put H1 p (.lst [])) := fun p hp => ⟨[], rfl, put_same, r0 p hp, Sub.new hp⟩
  have fin : ∀ p, H1 p = none → ∀ H, (∃ zs : List DL.D, zs.length = xs.length ∧ H p = some (.lst zs) ∧ R p zs H ∧ DL.Sub H1 H) → Q p H := fun p hp H ⟨zs, zl, hz, hr, hs⟩ => hd p zs H hp zl hs hz hr
  cases hi with
  | tup => exact fun p hp => lcSeq (fun i H => ∃ zs : List DL.D, zs.length = i ∧ H p = some (.lst zs) ∧ R p zs H ∧ DL.Sub H1 H) (st p hp) (fun i y H hy w => W p hp i y hy H w) (fin p hp)
  | fl => exact fun p hp => lcSeq (fun i H => ∃ zs : List DL.D, zs.length = i ∧ H p = some (.lst zs) ∧ R p zs H ∧ DL.Sub H1 H) (st p hp) (fun i y H hy w => W p hp i y hy H w) (fin p hp)
  | lst ha => exact ⟨⟨_, ha⟩, fun p hp => lcLst (fun i H => ∃ zs : List DL.D, zs.length = i ∧ H p = some (.lst zs) ∧ R p zs H ∧ DL.Sub H1 H) (st p hp) (fun i H ⟨_, _, _, _, hs⟩ => hs _ _ ha) (fun i y H hy w => W p hp i y hy H w) (fin p hp)⟩
/-- a comprehension over a row with results that are known ahead -/
theorem lcMap {x : DL.D} {xs zs : List DL.D} {g : DTG} {te : DTE} {vs : List Nat} {σ : DSt} {H1 : DH} {Q : Addr → DH → Prop} (hi : Items H1 x xs) (l : xs.length ≤ 100000) (lz : zs.length = xs.length)
    (step : ∀ (i : Nat) (y z : DL.D) (H : DH) (K : DK), xs[i]? = some y → zs[i]? = some z → DL.Sub H1 H → (∀ H4, DL.Sub H H4 → K z H4) → g y (wipeD σ vs) H fun σ2 H2 => te EF σ2 H2 K)
    (hd : ∀ p H, H1 p = none → DL.Sub H1 H → H p = some (.lst zs) → Q p H) :
    seqAt x H1 fun J H' => ∀ p, H' p = none → LcGo J g dYes te vs p σ (put H' p (.lst [])) (Q p) := by
  refine lcRel hi l (fun p us H => us = zs.take us.length) (fun p hp => rfl) (fun p us H H' h _ => h) (fun p hp i y us H K hy ul hp2 hr hs k => ?_) fun p us H hp ul hs hz hr => ?_
  · obtain ⟨z, hz⟩ : ∃ z, zs[i]? = some z := ⟨_, List.getElem?_eq_getElem (by rw [lz]; exact (List.getElem?_eq_some_iff.mp hy).1)⟩
    refine step i y z H K hy hz hs fun H4 s4 => k z H4 s4 ?_
    rw [List.length_append, ul, show [z].length = 1 from rfl, List.take_add_one, hz, ← ul, ← hr]
    rfl
  · have e : us = zs := by rw [hr, List.take_of_length_le]; omega
    rw [e] at hz
    exact hd p H hp hs hz
theorem Items.sub {H H' : DH} {x : DL.D} {xs : List DL.D} (h : Items H x xs) (s : DL.Sub H H') : Items H' x xs := by
  cases h with
  | tup => exact .tup
  | fl => exact .fl
  | lst a => exact .lst (s _ _ a)
theorem Items.tup_ {H : DH} {x : DL.D} {xs : List DL.D} {Q : DK} (h : Items H x xs) (q : Q (.tup xs) H) : dTupleOf [x] H Q := by
  cases h with
  | tup => exact x_tupT q
  | fl => exact x_tupF q
  | lst a => exact x_tupL a q
mutual
theorem Frz.sub {H H' : DH} (s : DL.Sub H H') : ∀ {x d : DL.D}, Frz H x d → Frz H' x d
  | _, _, .leaf l => .leaf (l.sub fun a xs e => s _ _ e)
  | _, _, .tup h => .tup (Frzs.sub s h)
  | _, _, .fl h => .fl (Frzs.sub s h)
  | _, _, .lst a h => .lst (s _ _ a) (Frzs.sub s h)
theorem Frzs.sub {H H' : DH} (s : DL.Sub H H') : ∀ {xs ds : List DL.D}, Frzs H xs ds → Frzs H' xs ds
  | _, _, .nil => .nil
  | _, _, .cons a b => .cons (Frz.sub s a) (Frzs.sub s b)
end
theorem Frz.flat {H : DH} {x d : DL.D} (h : Frz H x d) (n : ∀ ys, d ≠ .tup ys) : x = d := by
  rcases h.cases2 with ⟨_, e, _⟩ | ⟨xs, ys, e, _⟩
  · exact e.symm
  · exact absurd e (n ys)
theorem Frzs.flat {H : DH} : ∀ {xs ds : List DL.D}, Frzs H xs ds → (∀ d ∈ ds, ∀ ys, d ≠ .tup ys) → xs = ds
  | _, _, .nil, _ => rfl
  | _, _, .cons a b, n => by rw [a.flat (n _ (by simp)), Frzs.flat b fun d hd => n d (by simp [hd])]
end K02

namespace K02
open PySem PySem.Spec PyProof.Rows L2 DL
section
variable {P : Program} {w : World} {K : PySem.W.Frag} {mg : Str → Option Value} {base : Heap}
def sp_lfrozen : DSp := fun ds H Q _ => ∃ gv x0 x1 x2 x3 d0 d1 d2 d3, ds = [.ref gv] ∧ H gv = some (.lst [x0, x1, x2, x3]) ∧ (Frz H x0 d0 ∧ Frz H x1 d1 ∧ Frz H x2 d2 ∧ Frz H x3 d3) ∧ (wt d0 ≤ 100000 ∧ wt d1 ≤ 100000 ∧ wt d2 ≤ 100000 ∧ wt d3 ≤ 100000) ∧ FaultIs d0 d1 d2 d3 none ∧ Q (.tup [d0, d1, d2, mkD (lenD d0) d3]) H
theorem ok_lfrozen (T : Txt P K mg) : DFn P w K mg base 3 T.f__law_frozen T.d__law_frozen ps__law_frozen sp_lfrozen := by
  refine fn__law_frozen (k := 0) T (fun ds H Q E h => ?_) (fun ds H Q E h => ?_)
  · obtain ⟨gv, x0, x1, x2, x3, d0, d1, d2, d3, rfl, _⟩ := h; rfl
  · obtain ⟨gv, x0, x1, x2, x3, d0, d1, d2, d3, rfl, hg, ⟨f0, f1, f2, f3⟩, ⟨w0, w1, w2, w3⟩, hf, q⟩ := h
    cases hf with
    | @ok n ys0 ys1 ys2 ys3 sh hok =>
    obtain ⟨rfl, rfl, rfl, rfl, m0, m1, m2, m3, n1, n2⟩ := sh
    obtain ⟨xs0, i0, s0⟩ := f0.items
    obtain ⟨xs1, i1, s1⟩ := f1.items
    obtain ⟨xs2, i2, s2⟩ := f2.items
    obtain ⟨xs3, i3, s3⟩ := f3.items
    have l0 := s0.len
    have l1 := s1.len
    have l2 := s2.len
    have l3 := s3.len
    have wl : ∀ {ys : List DL.D}, wt (.tup ys) ≤ 100000 → ys.length ≤ 100000 := fun {ys} h => by
      have := wts_len ys
      rw [wt] at h
      omega
    have wtm : ∀ {ys : List DL.D} {i : Nat} {y : DL.D}, wt (.tup ys) ≤ 100000 → ys[i]? = some y → wt y ≤ 100000 := fun {ys i y} h e => by
      have := wts_mem e
      rw [wt] at h
      omega
    have e0 : xs0 = ys0 := s0.flat fun d hd ys e => by
      obtain ⟨i, hi⟩ := List.mem_iff_getElem?.mp hd
      have := (hok i (by have := (List.getElem?_eq_some_iff.mp hi).1; omega)).ow d hi
      subst e; cases this
    have e1 : xs1 = ys1 := s1.flat fun d hd ys e => by
      obtain ⟨i, hi⟩ := List.mem_iff_getElem?.mp hd
      have := (hok i (by have := (List.getElem?_eq_some_iff.mp hi).1; omega)).rk d hi
      subst e; cases this
    subst e0 e1
    have k0 : L2.atI [x0, x1, x2, x3] 0 = some x0 := rfl
    have k1 : L2.atI [x0, x1, x2, x3] 1 = some x1 := rfl
    have k2 : L2.atI [x0, x1, x2, x3] 2 = some x2 := rfl
    have k3 : L2.atI [x0, x1, x2, x3] 3 = some x3 := rfl
    unfold rd__law_frozen
    walk_at "dxs"
    refine i0.len (Sub.refl _) ?_
    walk_at "dxs"
    intro r hr
    have g1 := put_old (o := .lst []) hg hr
    walk_at "dxs"
    refine forItems (i2.sub (Sub.new hr)) (fun i σ H' => ∃ (o3 : Option DL.D), σ = [some (.ref gv), some (.int (xs0.length : Int)), some (.ref r), o3, none, none, none] ∧ DL.Sub H H' ∧ H' r = some (.lst (ys2.take i))) ?_ (fun i σ H' h => ?_) ?_ ?_
    · exact ⟨_, rfl, Sub.new hr, put_same⟩
    · obtain ⟨_, _, s, _⟩ := h
      exact i2.sub s
    · rintro i row σ H' hrow ⟨o3, rfl, hs, hrl⟩
      have hi := (List.getElem?_eq_some_iff.mp hrow).1
      obtain ⟨c, hc⟩ : ∃ c, ys2[i]? = some c := ⟨_, List.getElem?_eq_getElem (by omega)⟩
      obtain ⟨row', hrow', fr⟩ := s2.get2 hc
      rw [hrow] at hrow'; cases hrow'
      obtain ⟨ms, rfl, mne, mok⟩ := (hok i (by omega)).mv c hc
      obtain ⟨rs, ir, sr⟩ := fr.items
      have wms := wl (wtm w2 hc)
      have hzz : (ys2.take i).length < sizeLine := by
        have := wl w2
        rw [List.length_take, sizeLine_eq]; omega
      walk_at "dxs"
      refine lcMap (zs := ms) (ir.sub hs) (by rw [sr.len]; exact wms) sr.len.symm (fun j m z H4 K4 hm hz hs4 k4 => ?_) fun p H4 hp hs4 hp4 => ?_
      · obtain ⟨m', hm', fm⟩ := sr.get2 hz
        rw [hm] at hm'; cases hm'
        obtain ⟨t, g, mp⟩ := mok j (List.getElem?_eq_some_iff.mp hz).1
        have := mp.at_
        rw [hz] at this
        cases this
        obtain ⟨gs, rfl, gl, g3, gi⟩ := mp.gp
        obtain ⟨us, iu, su⟩ := fm.items
        have s4 : DL.Sub H H4 := hs.trans hs4
        obtain ⟨a, ha, fa⟩ := su.get2 (i := 0) rfl
        obtain ⟨b, hb, fb⟩ := su.get2 (i := 1) rfl
        have ea := fa.flat (fun ys e => by cases e)
        subst ea
        obtain ⟨vs, ib, sv⟩ := fb.items
        have ev : vs = gs := sv.flat fun d hd ys e => by
          obtain ⟨k, hk⟩ := List.mem_iff_getElem?.mp hd
          obtain ⟨v, e2, _⟩ := gi k d hk
          rw [e2] at e; cases e
        subst ev
        walk_at "dxs"
        refine (iu.sub s4).ix (Sub.refl _) (atI_nat (i := 0) ha) ?_
        walk_at "dxs"
        refine (iu.sub s4).ix (Sub.refl _) (atI_nat (i := 1) hb) ?_
        walk_at "dxs"
        refine (ib.sub s4).tup_ ?_
        walk_at "dxs"
        exact k4 _ (Sub.refl _)
      · have hrl4 := hs4 _ _ hrl
        walk_at "dxs"
        refine ⟨_, rfl, fun a o e => ?_, ?_⟩
        · rw [put_ne (dne_of_none e hr)]
          exact hs4 _ _ (hs _ _ e)
        · rw [put_same, List.take_add_one, hc]
          rfl
    · rintro σ H' ⟨o3, rfl, hs, hrl⟩
      have hgg := hs _ _ hg
      walk_at "dxs"
      refine lcMap (zs := ys3) (i3.sub hs) (by rw [s3.len]; exact wl w3) s3.len.symm (fun j m z H4 K4 hm hz hs4 k4 => ?_) fun p H4 hp hs4 hp4 => ?_
      · have s4 : DL.Sub H H4 := hs.trans hs4
        obtain ⟨m', hm', fm⟩ := s3.get2 hz
        rw [hm] at hm'; cases hm'
        have hj := (List.getElem?_eq_some_iff.mp hz).1
        obtain ⟨zs, rfl, mz⟩ := (hok j (by omega)).mks z hz
        obtain ⟨us, iu, su⟩ := fm.items
        have eu : us = zs := su.flat fun d hd ys e => by
          obtain ⟨k, hk⟩ := List.mem_iff_getElem?.mp hd
          obtain ⟨v, e2, _⟩ := mz.nm k d hk
          rw [e2] at e; cases e
        subst eu
        walk_at "dxs"
        refine (iu.sub s4).tup_ ?_
        exact k4 _ (Sub.refl _)
      · have s4 : DL.Sub H H4 := hs.trans hs4
        have hg4 := s4 _ _ hg
        have hr4 : H4 r = some (.lst ys2) := by
          have := hs4 _ _ hrl
          rw [List.take_of_length_le (by omega)] at this
          exact this
        have fin : ∀ ks, DL.D.tup ks = mkD xs0.length (.tup ys3) → (endsOf Q E).rt (.tup [.tup xs0, .tup xs1, .tup ys2, .tup ks]) H4 := fun ks e => ⟨H, s4, by rw [e]; exact q⟩
        walk_at "dxs"
        refine x_ite (fun c => ?_) fun c => ?_
        · have c : ys3 = [] := List.length_eq_zero_iff.mp (by have := of_decide_eq_true c; omega)
          walk_at "dxs"
          refine x_mulT (by omega) (by omega) (by simp) (by simp) ?_
          rw [flat1, Int.toNat_natCast]
          walk_at "dxs"
          refine (i0.sub s4).tup_ ?_
          walk_at "dxs"
          refine (i1.sub s4).tup_ ?_
          walk_at "dxs"
          exact fin _ (by rw [c]; rfl)
        · have c : ys3 ≠ [] := fun z => by subst z; simp at c
          refine x_next ?_
          walk_at "dxs"
          refine (i0.sub s4).tup_ ?_
          walk_at "dxs"
          refine (i1.sub s4).tup_ ?_
          walk_at "dxs"
          exact fin _ (by
            match ys3, c with
            | [], c => exact absurd rfl c
            | _ :: _, _ => rfl)
end
end K02

namespace K02
open PySem PySem.Spec PyProof.Rows L2 DL
section
variable {P : Program} {w : World} {K : PySem.W.Frag} {mg : Str → Option Value} {base : Heap}
def sp_told (T : Txt P K mg) : DSp := fun ds H Q _ => ∃ gv x0 x1 x2 x3 d0 d1 d2 d3, ∃ sh : Bool, ds = [.ref gv, .bl sh] ∧ H gv = some (.lst [x0, x1, x2, x3]) ∧ (Frz H x0 d0 ∧ Frz H x1 d1 ∧ Frz H x2 d2 ∧ Frz H x3 d3) ∧ (wt d0 ≤ 100000 ∧ wt d1 ≤ 100000 ∧ wt d2 ≤ 100000 ∧ wt d3 ≤ 100000) ∧ (Pure d0 ∧ Pure d1 ∧ Pure d2 ∧ Pure d3) ∧
  (sh = true → d3 = .tup []) ∧
  (FaultIs d0 d1 d2 d3 none → ∀ bd, H bd = none → Q (.tup [.str "board", .ref bd]) (put H bd (.ins T.C_Board (fsB d0 d1 d2 (mkD (lenD d0) d3))))) ∧
  (∀ i : Int, FaultIs d0 d1 d2 d3 (some i) → Q (.tup [.str "place", .int i]) H)
theorem ok_told (T : Txt P K mg) : DFn P w K mg base 15 T.f__law_told T.d__law_told ps__law_told (sp_told T) := by
  refine fn__law_told (k := 12) T (ok_Board_init T) (fun ds H Q E h => ?_) (fun ds H Q E h => ?_)
  · obtain ⟨gv, x0, x1, x2, x3, d0, d1, d2, d3, sh, rfl, _⟩ := h; rfl
  · obtain ⟨gv, x0, x1, x2, x3, d0, d1, d2, d3, sh, rfl, hg, ⟨f0, f1, f2, f3⟩, ⟨w0, w1, w2, w3⟩, ⟨p0, p1, p2, p3⟩, hsh, q, qe⟩ := h
    have k0 : L2.atI [x0, x1, x2, x3] 0 = some x0 := rfl
    have k1 : L2.atI [x0, x1, x2, x3] 1 = some x1 := rfl
    have k2 : L2.atI [x0, x1, x2, x3] 2 = some x2 := rfl
    have k3 : L2.atI [x0, x1, x2, x3] 3 = some x3 := rfl
    unfold rd__law_told
    walk_at "dxs"
    cases sh with
    | true =>
      refine x_iteT rfl ?_
      have e3 := hsh rfl
      subst e3
      walk_at "dxs"
      intro p hp
      refine ⟨p, x0, x1, x2, .tup [], d0, d1, d2, .tup [], rfl, put_same, ⟨f0.sub (Sub.new hp), f1.sub (Sub.new hp), f2.sub (Sub.new hp), .tup .nil⟩, ⟨w0, w1, w2, w3⟩, ⟨p0, p1, p2, p3⟩, fun hf => ?_, fun i hf d hd => ?_⟩
      · rw [put_put]
        refine ⟨rfl, ?_⟩
        walk_at "dxs"
        exact ⟨_, Sub.refl _, q hf p hp⟩
      · refine ⟨true, T.ex_InvalidBoard_EverplayError, fun _ a ha => ?_, fun z => by cases z⟩
        walk_at "dxs"
        refine x_isE put_same (.ty _) T.kv_InvalidBoard ?_
        walk_at "dxs"
        refine x_isE put_same (.own _) T.kt_InvalidBoard_InvalidBoard ?_
        walk_at "dxs"
        refine ⟨rfl, rfl, d, _, _, rfl, put_same, rfl, ?_⟩
        walk_at "dxs"
        exact ⟨H, (Sub.new hp).trans (Sub.new hd), qe i hf⟩
    | false =>
      refine x_iteF rfl ?_
      walk_at "dxs"
      intro p hp
      refine ⟨p, x0, x1, x2, x3, d0, d1, d2, d3, rfl, put_same, ⟨f0.sub (Sub.new hp), f1.sub (Sub.new hp), f2.sub (Sub.new hp), f3.sub (Sub.new hp)⟩, ⟨w0, w1, w2, w3⟩, ⟨p0, p1, p2, p3⟩, fun hf => ?_, fun i hf d hd => ?_⟩
      · rw [put_put]
        refine ⟨rfl, ?_⟩
        walk_at "dxs"
        exact ⟨_, Sub.refl _, q hf p hp⟩
      · refine ⟨true, T.ex_InvalidBoard_EverplayError, fun _ a ha => ?_, fun z => by cases z⟩
        walk_at "dxs"
        refine x_isE put_same (.ty _) T.kv_InvalidBoard ?_
        walk_at "dxs"
        refine x_isE put_same (.own _) T.kt_InvalidBoard_InvalidBoard ?_
        walk_at "dxs"
        refine ⟨rfl, rfl, d, _, _, rfl, put_same, rfl, ?_⟩
        walk_at "dxs"
        exact ⟨H, (Sub.new hp).trans (Sub.new hd), qe i hf⟩
end
end K02

namespace K02
open PySem PySem.Spec PyProof.Rows L2 DL
def All2 (R : DL.D → DL.D → Prop) (xs ds : List DL.D) : Prop := xs.length = ds.length ∧ ∀ (i : Nat) (x d : DL.D), xs[i]? = some x → ds[i]? = some d → R x d
theorem All2.nil {R : DL.D → DL.D → Prop} : All2 R [] [] := ⟨rfl, fun i x d e => by simp at e⟩
theorem All2.imp {R S : DL.D → DL.D → Prop} {xs ds : List DL.D} (h : All2 R xs ds) (f : ∀ x d, R x d → S x d) : All2 S xs ds := ⟨h.1, fun i x d e1 e2 => f _ _ (h.2 i x d e1 e2)⟩
theorem All2.snoc {R : DL.D → DL.D → Prop} {xs ds : List DL.D} {x d : DL.D} (h : All2 R xs ds) (r : R x d) : All2 R (xs ++ [x]) (ds ++ [d]) := by
  refine ⟨by simp [h.1], fun i y e h1 h2 => ?_⟩
  by_cases c : i < xs.length
  · rw [List.getElem?_append_left c] at h1
    rw [List.getElem?_append_left (by rw [← h.1]; exact c)] at h2
    exact h.2 i y e h1 h2
  · have li := (List.getElem?_eq_some_iff.mp h1).1
    rw [List.length_append] at li
    have : i = xs.length := by simp at li; omega
    subst this
    rw [List.getElem?_append_right (Nat.le_refl _), Nat.sub_self] at h1
    rw [h.1, List.getElem?_append_right (Nat.le_refl _), Nat.sub_self] at h2
    cases h1; cases h2
    exact r
theorem All2.set {R : DL.D → DL.D → Prop} {xs ds : List DL.D} {x d : DL.D} (h : All2 R xs ds) (k : Nat) (r : R x d) : All2 R (xs.set k x) (ds.set k d) := by
  refine ⟨by simp [h.1], fun i y e h1 h2 => ?_⟩
  by_cases c : k = i
  · subst c
    have l1 := (List.getElem?_eq_some_iff.mp h1).1
    have l2 := (List.getElem?_eq_some_iff.mp h2).1
    rw [List.length_set] at l1 l2
    rw [List.getElem?_set_self l1] at h1
    rw [List.getElem?_set_self l2] at h2
    cases h1; cases h2
    exact r
  · rw [List.getElem?_set_ne c] at h1 h2
    exact h.2 i y e h1 h2
theorem All2.cut {R : DL.D → DL.D → Prop} {xs ds : List DL.D} (h : All2 R xs ds) (lo hi : Option Int) : All2 R (DL.cut xs lo hi) (DL.cut ds lo hi) := by
  unfold DL.cut
  rw [h.1]
  refine ⟨by simp [h.1], fun i y e h1 h2 => ?_⟩
  rw [List.getElem?_take] at h1 h2
  split at h1
  · rename_i c
    rw [if_pos c] at h2
    rw [List.getElem?_drop] at h1 h2
    exact h.2 _ y e h1 h2
  · cases h1
theorem All2.app {R : DL.D → DL.D → Prop} {xs ds ys es : List DL.D} (h : All2 R xs ds) (k : All2 R ys es) : All2 R (xs ++ ys) (ds ++ es) := by
  refine ⟨by simp [h.1, k.1], fun i y e h1 h2 => ?_⟩
  by_cases c : i < xs.length
  · rw [List.getElem?_append_left c] at h1
    rw [List.getElem?_append_left (by rw [← h.1]; exact c)] at h2
    exact h.2 i y e h1 h2
  · rw [List.getElem?_append_right (by omega)] at h1
    rw [List.getElem?_append_right (by rw [← h.1]; omega), ← h.1] at h2
    exact k.2 _ y e h1 h2
theorem All2.same {R : DL.D → DL.D → Prop} {xs : List DL.D} (h : ∀ x ∈ xs, R x x) : All2 R xs xs := ⟨rfl, fun i x d e1 e2 => by rw [e1] at e2; cases e2; exact h x (List.mem_of_getElem? e1)⟩
theorem All2.frz {H : DH} : ∀ {xs ds : List DL.D}, All2 (Frz H) xs ds → Frzs H xs ds
  | [], [], _ => .nil
  | [], d :: ds, h => by have := h.1; simp at this
  | x :: xs, [], h => by have := h.1; simp at this
  | x :: xs, d :: ds, h => .cons (h.2 0 x d rfl rfl) (All2.frz (xs := xs) (ds := ds) ⟨by have := h.1; simpa using this, fun i y e h1 h2 => h.2 (i + 1) y e (by simpa using h1) (by simpa using h2)⟩)
mutual
theorem Pure.frz {H : DH} : ∀ {d : DL.D}, Pure d → Frz H d d
  | .non, _ => .leaf (.inl ⟨_, rfl, by decide⟩)
  | .bl _, _ => .leaf (.inl ⟨_, rfl, by decide⟩)
  | .int _, _ => .leaf (.inl ⟨_, rfl, by decide⟩)
  | .str _, _ => .leaf (.inl ⟨_, rfl, by decide⟩)
  | .tup xs, h => .tup (Pure.frzs (fun x hx => by cases h; rename_i h; exact h x hx))
theorem Pure.frzs {H : DH} : ∀ {xs : List DL.D}, (∀ x ∈ xs, Pure x) → Frzs H xs xs
  | [], _ => .nil
  | x :: xs, h => .cons (Pure.frz (h x (by simp))) (Pure.frzs fun y hy => h y (by simp [hy]))
end
end K02

namespace K02
open PySem PySem.Spec PyProof.Rows L2 DL
/-! ### what is handed in: tags tell what a new list is for: 1 the whole, 10.. the four parts, 2 a row, 3 a move, 4 gains -/
def MvOk (tg : Addr → Nat) (H : DH) (m e : DL.D) : Prop := (m = e ∧ Pure e) ∨ ∃ (c g : Addr) (t : Int) (gs : List Int), m = .ref c ∧ e = .tup [.int t, .tup (gs.map D.int)] ∧ H c = some (.lst [.int t, .ref g]) ∧ H g = some (.lst (gs.map D.int)) ∧ tg c = 3 ∧ tg g = 4 ∧ gs.length ≤ 3
def ElOk (tg : Addr → Nat) (H : DH) (x d : DL.D) : Prop := wt d ≤ 240 ∧ ((x = d ∧ Pure d) ∨ ∃ r ms es, x = .ref r ∧ d = .tup es ∧ H r = some (.lst ms) ∧ tg r = 2 ∧ All2 (MvOk tg H) ms es)
def TopL (tg : Addr → Nat) (H : DH) (k : Nat) (x d : DL.D) : Prop := ∃ g xs ds, x = .ref g ∧ d = .tup ds ∧ H g = some (.lst xs) ∧ tg g = 10 + k ∧ xs.length ≤ 410 ∧ All2 (ElOk tg H) xs ds
def TopOk (tg : Addr → Nat) (H : DH) (k : Nat) (x d : DL.D) : Prop := (k < 3 ∧ x = d ∧ Pure d ∧ wt d ≤ 240 ∧ ∀ xs, d ≠ .tup xs) ∨ (∃ xs ds, x = .tup xs ∧ d = .tup ds ∧ xs.length ≤ 410 ∧ All2 (ElOk tg H) xs ds) ∨ TopL tg H k x d
structure GvP (R : Nat → DL.D → DL.D → Prop) (tg : Addr → Nat) (H : DH) (gv : Addr) (xs ds : List DL.D) : Prop where
  hg : H gv = some (.lst xs)
  tv : tg gv = 1
  lx : xs.length = 4
  ld : ds.length = 4
  t : ∀ (k : Nat) (x d : DL.D), xs[k]? = some x → ds[k]? = some d → R k x d
theorem wts_all {ds : List DL.D} {n : Nat} (h : ∀ d ∈ ds, wt d ≤ n) : wts ds ≤ ds.length * n := by
  induction ds with
  | nil => simp [wts]
  | cons d ds ih =>
    have h1 := h d (by simp)
    have h2 := ih fun e he => h e (by simp [he])
    rw [wts, List.length_cons, Nat.succ_mul]
    omega
section
variable {tg tg' : Addr → Nat} {H H' : DH} {x d m e : DL.D} {k : Nat}
theorem pure_ints (gs : List Int) : ∀ x ∈ gs.map D.int, Pure x := fun x hx => by
  obtain ⟨v, _, rfl⟩ := List.mem_map.mp hx
  exact .int v
theorem MvOk.frz (h : MvOk tg H m e) : Frz H m e ∧ Pure e := by
  rcases h with ⟨rfl, p⟩ | ⟨c, g, t, gs, rfl, rfl, hc, hg, _, _, _⟩
  · exact ⟨p.frz, p⟩
  · refine ⟨.lst hc (.cons (Pure.int t).frz (.cons (.lst hg (Pure.frzs (pure_ints gs))) .nil)), .tup fun x hx => ?_⟩
    simp only [List.mem_cons, List.not_mem_nil, or_false] at hx
    rcases hx with rfl | rfl
    · exact .int t
    · exact .tup (pure_ints gs)
theorem All2.pure {R : DL.D → DL.D → Prop} {xs ds : List DL.D} (h : All2 R xs ds) (f : ∀ x d, R x d → Pure d) : ∀ d ∈ ds, Pure d := fun d hd => by
  obtain ⟨i, hi⟩ := List.mem_iff_getElem?.mp hd
  obtain ⟨x, hx⟩ : ∃ x, xs[i]? = some x := ⟨_, List.getElem?_eq_getElem (by rw [h.1]; exact (List.getElem?_eq_some_iff.mp hi).1)⟩
  exact f x d (h.2 i x d hx hi)
theorem ElOk.frz (h : ElOk tg H x d) : Frz H x d ∧ Pure d := by
  obtain ⟨_, ⟨rfl, p⟩ | ⟨r, ms, es, rfl, rfl, hr, _, a⟩⟩ := h
  · exact ⟨p.frz, p⟩
  · exact ⟨.lst hr (a.imp fun x d h => h.frz.1).frz, .tup (a.pure fun x d h => h.frz.2)⟩
theorem All2.wt {xs ds : List DL.D} (h : All2 (ElOk tg H) xs ds) (l : xs.length ≤ 410) : wt (.tup ds) ≤ 100000 := by
  have := wts_all (ds := ds) (n := 240) fun d hd => by
    obtain ⟨i, hi⟩ := List.mem_iff_getElem?.mp hd
    obtain ⟨x, hx⟩ : ∃ x, xs[i]? = some x := ⟨_, List.getElem?_eq_getElem (by rw [h.1]; exact (List.getElem?_eq_some_iff.mp hi).1)⟩
    exact (h.2 i x d hx hi).1
  have l2 := h.1
  have : ds.length * 240 ≤ 410 * 240 := Nat.mul_le_mul_right _ (by omega)
  rw [K02.wt]
  omega
theorem TopOk.frz (h : TopOk tg H k x d) : Frz H x d ∧ Pure d ∧ K02.wt d ≤ 100000 := by
  rcases h with ⟨_, rfl, p, w, _⟩ | ⟨xs, ds, rfl, rfl, l, a⟩ | ⟨g, xs, ds, rfl, rfl, hg, _, l, a⟩
  · exact ⟨p.frz, p, by omega⟩
  · exact ⟨.tup (a.imp fun x d h => h.frz.1).frz, .tup (a.pure fun x d h => h.frz.2), a.wt l⟩
  · exact ⟨.lst hg (a.imp fun x d h => h.frz.1).frz, .tup (a.pure fun x d h => h.frz.2), a.wt l⟩
/-- the elements stay -/
def ExtE (tg tg' : Addr → Nat) (H H' : DH) : Prop := ∀ a o, H a = some o → 2 ≤ tg a → tg a ≤ 4 → H' a = some o ∧ tg' a = tg a
theorem MvOk.ext (h : MvOk tg H m e) (s : ExtE tg tg' H H') : MvOk tg' H' m e := by
  rcases h with ⟨rfl, p⟩ | ⟨c, g, t, gs, rfl, rfl, hc, hg, tc, tgg, l⟩
  · exact .inl ⟨rfl, p⟩
  · obtain ⟨c1, c2⟩ := s c _ hc (by omega) (by omega)
    obtain ⟨g1, g2⟩ := s g _ hg (by omega) (by omega)
    exact .inr ⟨c, g, t, gs, rfl, rfl, c1, g1, by omega, by omega, l⟩
theorem ElOk.ext (h : ElOk tg H x d) (s : ExtE tg tg' H H') : ElOk tg' H' x d := by
  obtain ⟨w, ⟨rfl, p⟩ | ⟨r, ms, es, rfl, rfl, hr, t, a⟩⟩ := h
  · exact ⟨w, .inl ⟨rfl, p⟩⟩
  · obtain ⟨r1, r2⟩ := s r _ hr (by omega) (by omega)
    exact ⟨w, .inr ⟨r, ms, es, rfl, rfl, r1, by omega, a.imp fun x d h => h.ext s⟩⟩
/-- all that has a tag stays, but for the whole -/
def ExtA (tg tg' : Addr → Nat) (H H' : DH) : Prop := ∀ a o, H a = some o → 2 ≤ tg a → H' a = some o ∧ tg' a = tg a
theorem ExtA.toE (s : ExtA tg tg' H H') : ExtE tg tg' H H' := fun a o e l _ => s a o e l
theorem TopL.ext (h : TopL tg H k x d) (s : ExtA tg tg' H H') : TopL tg' H' k x d := by
  obtain ⟨g, xs, ds, rfl, rfl, hg, t, l, a⟩ := h
  obtain ⟨g1, g2⟩ := s g _ hg (by omega)
  exact ⟨g, xs, ds, rfl, rfl, g1, by omega, l, a.imp fun x d h => h.ext s.toE⟩
theorem TopOk.ext (h : TopOk tg H k x d) (s : ExtA tg tg' H H') : TopOk tg' H' k x d := by
  rcases h with ⟨k3, rfl, p, w, n⟩ | ⟨xs, ds, rfl, rfl, l, a⟩ | h
  · exact .inl ⟨k3, rfl, p, w, n⟩
  · exact .inr (.inl ⟨xs, ds, rfl, rfl, l, a.imp fun x d h => h.ext s.toE⟩)
  · exact .inr (.inr (h.ext s))
theorem GvP.four {R : Nat → DL.D → DL.D → Prop} {gv : Addr} {xs ds : List DL.D} (h : GvP R tg H gv xs ds) : ∃ x0 x1 x2 x3 d0 d1 d2 d3, xs = [x0, x1, x2, x3] ∧ ds = [d0, d1, d2, d3] ∧ R 0 x0 d0 ∧ R 1 x1 d1 ∧ R 2 x2 d2 ∧ R 3 x3 d3 := by
  have lx := h.lx
  have ld := h.ld
  have t := h.t
  match xs, ds, lx, ld, t with
  | [x0, x1, x2, x3], [d0, d1, d2, d3], _, _, t => exact ⟨_, _, _, _, _, _, _, _, rfl, rfl, t 0 _ _ rfl rfl, t 1 _ _ rfl rfl, t 2 _ _ rfl rfl, t 3 _ _ rfl rfl⟩
/-- a new tag -/
def tag (tg : Addr → Nat) (a : Addr) (n : Nat) : Addr → Nat := fun b => if b = a then n else tg b
theorem tag_same {a : Addr} {n : Nat} : tag tg a n a = n := if_pos rfl
theorem tag_ne {a b : Addr} {n : Nat} (h : b ≠ a) : tag tg a n b = tg b := if_neg h
theorem ExtA.new {a : Addr} {o : DO} {n : Nat} (h : H a = none) : ExtA tg (tag tg a n) H (put H a o) := fun b u e _ => ⟨put_old e h, tag_ne (dne_of_none e h)⟩
theorem ExtA.new0 {a : Addr} {o : DO} (h : H a = none) : ExtA tg tg H (put H a o) := fun b u e _ => ⟨put_old e h, rfl⟩
theorem ExtA.sub (s : DL.Sub H H') : ExtA tg tg H H' := fun b u e _ => ⟨s _ _ e, rfl⟩
theorem ExtA.trans {tg'' : Addr → Nat} {H'' : DH} (a : ExtA tg tg' H H') (b : ExtA tg' tg'' H' H'') : ExtA tg tg'' H H'' := fun x u e l => by
  obtain ⟨e1, t1⟩ := a x u e l
  obtain ⟨e2, t2⟩ := b x u e1 (by omega)
  exact ⟨e2, by omega⟩
end
end K02

namespace K02
open PySem PySem.Spec PyProof.Rows L2 DL
def TopB (n : Nat) (tg : Addr → Nat) (H : DH) (k : Nat) (x d : DL.D) : Prop := ∃ g xs ds, x = .ref g ∧ d = .tup ds ∧ H g = some (.lst xs) ∧ tg g = 10 + k ∧ (xs.length = n ∨ (k = 3 ∧ xs.length = 0)) ∧ All2 (ElOk tg H) xs ds
def Tgs (H0 : DH) (tg : Addr → Nat) : Prop := ∀ a, tg a ≠ 0 → H0 a = none
theorem lcMapL {a : Addr} {xs zs : List DL.D} {g : DTG} {te : DTE} {vs : List Nat} {σ : DSt} {H1 : DH} {Q : Addr → DH → Prop} (ha : H1 a = some (.lst xs)) (l : xs.length ≤ 100000) (lz : zs.length = xs.length)
    (step : ∀ (i : Nat) (y z : DL.D) (H : DH) (K : DK), xs[i]? = some y → zs[i]? = some z → DL.Sub H1 H → (∀ H4, DL.Sub H H4 → K z H4) → g y (wipeD σ vs) H fun σ2 H2 => te EF σ2 H2 K)
    (hd : ∀ p H, H1 p = none → DL.Sub H1 H → H p = some (.lst zs) → Q p H) : ∀ p, H1 p = none → LcGo (jLst a) g dYes te vs p σ (put H1 p (.lst [])) (Q p) :=
  (lcMap (x := .ref a) (.lst ha) l lz step hd).2
theorem lcRelL {a : Addr} {xs : List DL.D} {g : DTG} {te : DTE} {vs : List Nat} {σ : DSt} {H1 : DH} {Q : Addr → DH → Prop} (ha : H1 a = some (.lst xs)) (l : xs.length ≤ 100000)
    (R : Addr → List DL.D → DH → Prop) (r0 : ∀ p, H1 p = none → R p [] (put H1 p (.lst []))) (stab : ∀ p zs H H', R p zs H → (∀ a o, a ≠ p → H a = some o → H' a = some o) → R p zs H')
    (step : ∀ p, H1 p = none → ∀ (i : Nat) (y : DL.D) (zs : List DL.D) (H : DH) (K : DK), xs[i]? = some y → zs.length = i → H p = some (.lst zs) → R p zs H → DL.Sub H1 H → (∀ z H4, DL.Sub H H4 → R p (zs ++ [z]) H4 → K z H4) → g y (wipeD σ vs) H fun σ2 H2 => te EF σ2 H2 K)
    (hd : ∀ p zs H, H1 p = none → zs.length = xs.length → DL.Sub H1 H → H p = some (.lst zs) → R p zs H → Q p H) : ∀ p, H1 p = none → LcGo (jLst a) g dYes te vs p σ (put H1 p (.lst [])) (Q p) :=
  (lcRel (x := .ref a) (.lst ha) l R r0 stab step hd).2
def tg0 : Addr → Nat := fun _ => 0
def rowD (row : List Mv) : DL.D := .tup (row.map mvD)
section
variable {tg tg' : Addr → Nat} {H0 H H' H'' : DH} {x d m e : DL.D} {k n : Nat} {a : Addr}
theorem TopB.l (h : TopB n tg H k x d) (l : n ≤ 410) : TopL tg H k x d := by
  obtain ⟨g, xs, ds, rfl, rfl, hg, t, l2, al⟩ := h
  exact ⟨g, xs, ds, rfl, rfl, hg, t, by omega, al⟩
theorem TopB.ext (h : TopB n tg H k x d) (s : ExtA tg tg' H H') : TopB n tg' H' k x d := by
  obtain ⟨g, xs, ds, rfl, rfl, hg, t, l, al⟩ := h
  obtain ⟨g1, g2⟩ := s g _ hg (by omega)
  exact ⟨g, xs, ds, rfl, rfl, g1, by omega, l, al.imp fun x d h => h.ext s.toE⟩
theorem Tgs.zero : Tgs H0 tg0 := fun a h => absurd rfl h
theorem Tgs.tag (h : Tgs H0 tg) (e : H0 a = none) : Tgs H0 (tag tg a n) := fun b hb => by
  unfold K02.tag at hb
  by_cases c : b = a
  · rw [c]; exact e
  · rw [if_neg c] at hb; exact h b hb
theorem ExtA.subnew (hp : H a = none) (s : DL.Sub H H') : ExtA tg (tag tg a n) H H' := fun b u e _ => ⟨s _ _ e, tag_ne (dne_of_none e hp)⟩
theorem ExtE.put (n : ¬ (2 ≤ tg a ∧ tg a ≤ 4)) {o : DO} : ExtE tg tg H (put H a o) := fun b u e l1 l2 => ⟨by rw [put_ne (fun z => n (by rw [z] at l1 l2; exact ⟨l1, l2⟩))]; exact e, rfl⟩
theorem ExtE.trans {tg'' : Addr → Nat} (a : ExtE tg tg' H H') (b : ExtE tg' tg'' H' H'') : ExtE tg tg'' H H'' := fun x u e l l2 => by
  obtain ⟨e1, t1⟩ := a x u e l l2
  obtain ⟨e2, t2⟩ := b x u e1 (by omega) (by omega)
  exact ⟨e2, by omega⟩
theorem All2.ext {xs ds : List DL.D} (h : All2 (ElOk tg H) xs ds) (s : ExtE tg tg' H H') : All2 (ElOk tg' H') xs ds := h.imp fun _ _ h => h.ext s
theorem All2.extM {xs ds : List DL.D} (h : All2 (MvOk tg H) xs ds) (s : ExtE tg tg' H H') : All2 (MvOk tg' H') xs ds := h.imp fun _ _ h => h.ext s
/-- moves and gains stay -/
def ExtM (tg tg' : Addr → Nat) (H H' : DH) : Prop := ∀ a o, H a = some o → 3 ≤ tg a → tg a ≤ 4 → H' a = some o ∧ tg' a = tg a
theorem MvOk.extm (h : MvOk tg H m e) (s : ExtM tg tg' H H') : MvOk tg' H' m e := by
  rcases h with ⟨rfl, p⟩ | ⟨c, g, t, gs, rfl, rfl, hc, hg, tc, tgg, l⟩
  · exact .inl ⟨rfl, p⟩
  · obtain ⟨c1, c2⟩ := s c _ hc (by omega) (by omega)
    obtain ⟨g1, g2⟩ := s g _ hg (by omega) (by omega)
    exact .inr ⟨c, g, t, gs, rfl, rfl, c1, g1, by omega, by omega, l⟩
theorem wts_ints (gs : List Int) : wts (gs.map D.int) = gs.length := by
  induction gs with
  | nil => rfl
  | cons g gs ih => rw [List.map_cons, wts, ih, List.length_cons]; simp only [wt]; omega
theorem wt_mv {m : Mv} (h : m.2.length ≤ 3) : wt (mvD m) ≤ 8 := by
  unfold mvD gD
  simp only [wt, wts, wts_ints]
  omega
theorem wt_row {row : List Mv} (h : RowG row) : wt (rowD row) ≤ 240 := by
  have := wts_all (ds := row.map mvD) (n := 8) fun d hd => by
    obtain ⟨m, hm, rfl⟩ := List.mem_map.mp hd
    exact wt_mv (h.g m hm)
  have l := h.l
  rw [List.length_map] at this
  unfold rowD
  rw [wt]
  omega
theorem wts_strs (gs : List Str) : wts (gs.map D.str) = gs.length := by
  induction gs with
  | nil => rfl
  | cons g gs ih => rw [List.map_cons, wts, ih, List.length_cons]; simp only [wt]; omega
theorem wt_kD {ys : List Str} (h : PoolS ys) : wt (kD ys) ≤ 240 := by
  have := h.l4
  unfold kD
  rw [wt, wts_strs]
  omega
theorem pure_mv (m : Mv) : Pure (mvD m) := by
  refine .tup fun x hx => ?_
  simp only [List.mem_cons, List.not_mem_nil, or_false] at hx
  rcases hx with rfl | rfl
  · exact .int _
  · exact .tup (pure_ints _)
theorem pure_row (row : List Mv) : Pure (rowD row) := .tup fun x hx => by
  obtain ⟨m, _, rfl⟩ := List.mem_map.mp hx
  exact pure_mv m
theorem pure_kD {ys : List Str} (h : PoolS ys) : Pure (kD ys) := .tup fun x hx => by
  obtain ⟨z, hz, rfl⟩ := List.mem_map.mp hx
  have := (h.nm z hz).l8
  exact .str (by omega)
theorem el_int (v : Int) : ElOk tg H (.int v) (.int v) := ⟨by simp [wt], .inl ⟨rfl, .int v⟩⟩
theorem els_ints (gs : List Int) : All2 (ElOk tg H) (gs.map D.int) (gs.map D.int) := All2.same fun x hx => by
  obtain ⟨v, _, rfl⟩ := List.mem_map.mp hx
  exact el_int v
theorem els_rows {mv : List (List Mv)} (h : ∀ row ∈ mv, RowG row) : All2 (ElOk tg H) (mv.map rowD) (mv.map rowD) := All2.same fun x hx => by
  obtain ⟨row, hr, rfl⟩ := List.mem_map.mp hx
  exact ⟨wt_row (h row hr), .inl ⟨rfl, pure_row row⟩⟩
theorem els_ks {ks : List (List Str)} (h : ∀ ys ∈ ks, PoolS ys) : All2 (ElOk tg H) (ks.map kD) (ks.map kD) := All2.same fun x hx => by
  obtain ⟨ys, hr, rfl⟩ := List.mem_map.mp hx
  exact ⟨wt_kD (h ys hr), .inl ⟨rfl, pure_kD (h ys hr)⟩⟩
theorem gv_fin {n : Nat} {G : DH} {c0 c1 c2 c3 gv : Addr} {xs0 xs1 xs2 xs3 ds0 ds1 ds2 ds3 : List DL.D} {tg : Addr → Nat} (ev : G gv = none)
    (t : tg c0 = 10 ∧ tg c1 = 11 ∧ tg c2 = 12 ∧ tg c3 = 13) (h0 : G c0 = some (.lst xs0)) (h1 : G c1 = some (.lst xs1)) (h2 : G c2 = some (.lst xs2)) (h3 : G c3 = some (.lst xs3))
    (l : xs0.length = n ∧ xs1.length = n ∧ xs2.length = n ∧ xs3.length = n) (a0 : All2 (ElOk tg G) xs0 ds0) (a1 : All2 (ElOk tg G) xs1 ds1) (a2 : All2 (ElOk tg G) xs2 ds2) (a3 : All2 (ElOk tg G) xs3 ds3) :
    GvP (TopB n (tag tg gv 1) (put G gv (.lst [.ref c0, .ref c1, .ref c2, .ref c3]))) (tag tg gv 1) (put G gv (.lst [.ref c0, .ref c1, .ref c2, .ref c3])) gv [.ref c0, .ref c1, .ref c2, .ref c3] [.tup ds0, .tup ds1, .tup ds2, .tup ds3] := by
  refine ⟨put_same, tag_same, rfl, rfl, fun k x d e1 e2 => ?_⟩
  refine TopB.ext (tg := tg) (H := G) ?_ (ExtA.new ev)
  match k, e1, e2 with
  | 0, e1, e2 => cases e1; cases e2; exact ⟨c0, xs0, ds0, rfl, rfl, h0, t.1, .inl l.1, a0⟩
  | 1, e1, e2 => cases e1; cases e2; exact ⟨c1, xs1, ds1, rfl, rfl, h1, t.2.1, .inl l.2.1, a1⟩
  | 2, e1, e2 => cases e1; cases e2; exact ⟨c2, xs2, ds2, rfl, rfl, h2, t.2.2.1, .inl l.2.2.1, a2⟩
  | 3, e1, e2 => cases e1; cases e2; exact ⟨c3, xs3, ds3, rfl, rfl, h3, t.2.2.2, .inl l.2.2.2, a3⟩
  | k + 4, e1, e2 => simp at e1
end
section
variable {P : Program} {w : World} {K : PySem.W.Frag} {mg : Str → Option Value} {base : Heap}
def sp_given : DSp := fun ds H Q _ => ∃ w A W n, ∃ li : Int, ds = [.ref w, .int li] ∧ WAt H w W A ∧ WdG n W ∧ n ≤ 401 ∧ ∀ gv tg xs ds H', DL.Sub H H' → Tgs H tg → GvP (TopB n tg H') tg H' gv xs ds → Q (.ref gv) H'
theorem ok_given (T : Txt P K mg) : DFn P w K mg base 3 T.f__law_given T.d__law_given ps__law_given sp_given := by
  refine fn__law_given (k := 0) T (fun ds H Q E h => ?_) (fun ds H Q E h => ?_)
  · obtain ⟨w, A, W, n, li, rfl, _⟩ := h; rfl
  · obtain ⟨w, A, W, n, li, rfl, wa, wg, n401, q⟩ := h
    obtain ⟨hw, h0, h1, h2, h3, al, hrow, nd⟩ := wa
    obtain ⟨l0, l1, l2, gm, l3, gk⟩ := wg
    have j0 : L2.atI [DL.D.ref A.a0, .ref A.a1, .ref A.a2, .ref A.a3] 0 = some (.ref A.a0) := rfl
    have j1 : L2.atI [DL.D.ref A.a0, .ref A.a1, .ref A.a2, .ref A.a3] 1 = some (.ref A.a1) := rfl
    have j2 : L2.atI [DL.D.ref A.a0, .ref A.a1, .ref A.a2, .ref A.a3] 2 = some (.ref A.a2) := rfl
    have j3 : L2.atI [DL.D.ref A.a0, .ref A.a1, .ref A.a2, .ref A.a3] 3 = some (.ref A.a3) := rfl
    unfold rd__law_given
    walk_at "dxs"
    refine x_ite (fun c => ?_) fun c => ?_
    · walk_at "dxs"
      intro c0 e0
      have s0 := Sub.new (o := .lst (W.ow.map D.int)) e0
      generalize hG0 : put H c0 _ = G0 at s0 ⊢
      have g0 : G0 c0 = some (.lst (W.ow.map D.int)) := by rw [← hG0]; exact put_same
      have hw0 := s0 _ _ hw
      have h10 := s0 _ _ h1
      walk_at "dxs"
      intro c1 e1
      have s1 := Sub.new (o := .lst (W.rk.map D.int)) e1
      generalize hG1 : put G0 c1 _ = G1 at s1 ⊢
      have g1 : G1 c1 = some (.lst (W.rk.map D.int)) := by rw [← hG1]; exact put_same
      have hw1 := s1 _ _ hw0
      have h21 := s1 _ _ (s0 _ _ h2)
      walk_at "dxs"
      refine lcMapL (zs := W.mv.map rowD) h21 (by rw [List.length_map, al, l2]; omega) (by rw [List.length_map, List.length_map, al]) (fun i y z H4 K4 hy hz hs4 k4 => ?_) fun p G3 hp s3 gp => ?_
      · rw [List.getElem?_map] at hy hz
        obtain ⟨r, hr, rfl⟩ := Option.map_eq_some_iff.mp hy
        obtain ⟨row, hrw, rfl⟩ := Option.map_eq_some_iff.mp hz
        have hr4 := hs4 _ _ (s1 _ _ (s0 _ _ (hrow i r row hr hrw)))
        walk_at "dxs"
        exact k4 _ (Sub.refl _)
      · have hw3 := s3 _ _ hw1
        have h33 := s3 _ _ (s1 _ _ (s0 _ _ h3))
        walk_at "dxs"
        intro c3 e3
        have s4 := Sub.new (o := .lst (W.ks.map kD)) e3
        generalize hG4 : put G3 c3 _ = G4 at s4 ⊢
        have g4 : G4 c3 = some (.lst (W.ks.map kD)) := by rw [← hG4]; exact put_same
        walk_at "dxs"
        intro gv ev
        have d01 := dne_of_none g0 e1
        have d02 := dne_of_none (s1 _ _ g0) hp
        have d12 := dne_of_none g1 hp
        have d03 := dne_of_none (s3 _ _ (s1 _ _ g0)) e3
        have d13 := dne_of_none (s3 _ _ g1) e3
        have d23 := dne_of_none gp e3
        have S1 : DL.Sub H G1 := s0.trans s1
        have S3 : DL.Sub H G3 := S1.trans s3
        have S4 : DL.Sub H G4 := S3.trans s4
        have tgs : Tgs H (tag (tag (tag (tag tg0 c0 10) c1 11) p 12) c3 13) := (((Tgs.zero.tag e0).tag (s0.free e1)).tag (S1.free hp)).tag (S3.free e3)
        refine ⟨_, Sub.refl _, q gv _ _ _ _ (S4.trans (Sub.new ev)) (tgs.tag (S4.free ev)) (gv_fin (n := n) ev ⟨?_, ?_, ?_, tag_same⟩ (s4 _ _ (s3 _ _ (s1 _ _ g0))) (s4 _ _ (s3 _ _ g1)) (s4 _ _ gp) g4 ⟨by rw [List.length_map, l0], by rw [List.length_map, l1], by rw [List.length_map, l2], by rw [List.length_map, l3]⟩ (els_ints _) (els_ints _) (els_rows gm) (els_ks gk))⟩
        · rw [tag_ne d03, tag_ne d02, tag_ne d01, tag_same]
        · rw [tag_ne d13, tag_ne d12, tag_same]
        · rw [tag_ne d23, tag_same]
    · walk_at "dxs"
      intro r hr
      have sr := Sub.new (o := .lst []) hr
      generalize hGr : put H r _ = Gr at sr ⊢
      have gr : Gr r = some (.lst []) := by rw [← hGr]; exact put_same
      have hwr := sr _ _ hw
      have h2r := sr _ _ h2
      walk_at "dxs"
      refine forLst (ds := A.rs.map D.ref) (fun i σ H' => ∃ (o3 : Option DL.D) (tg : Addr → Nat) (xs : List DL.D), σ = [some (.ref w), some (.int li), some (.ref r), o3, none, none] ∧ DL.Sub H H' ∧ Tgs H tg ∧ tg r = 12 ∧ H' r = some (.lst xs) ∧ xs.length = i ∧ All2 (ElOk tg H') xs ((W.mv.map rowD).take i)) ?_ (fun i σ H' h => ?_) ?_ ?_
      · exact ⟨_, tag tg0 r 12, [], rfl, sr, Tgs.zero.tag hr, tag_same, gr, rfl, All2.nil⟩
      · obtain ⟨_, _, _, _, s, _⟩ := h
        exact s _ _ h2
      · rintro i y σ H' hy ⟨o3, tg, xs, rfl, hs, ts, tr, hrl, xl, ael⟩
        rw [List.getElem?_map] at hy
        obtain ⟨ri, hri, rfl⟩ := Option.map_eq_some_iff.mp hy
        have hi := (List.getElem?_eq_some_iff.mp hri).1
        obtain ⟨row, hrw⟩ : ∃ v, W.mv[i]? = some v := ⟨_, List.getElem?_eq_getElem (by rw [← al]; exact hi)⟩
        have S : DL.Sub H H' := hs
        have hr' := S _ _ (hrow i ri row hri hrw)
        have rg := gm row (List.mem_of_getElem? hrw)
        walk_at "dxs"
        refine lcRelL hr' (by rw [List.length_map]; have := rg.l; omega) (fun p zs G => ∃ tg', H' p = none ∧ ExtA tg tg' H' G ∧ Tgs H tg' ∧ tg' p = 2 ∧ All2 (MvOk tg' G) zs ((row.map mvD).take zs.length)) (fun p hp => ?_) (fun p zs G G' h hk => ?_) (fun p hp j m zs G K4 hm zl hpz h hs4 k4 => ?_) fun p zs G hp zl hs4 hpz h => ?_
        · exact ⟨tag tg p 2, hp, ExtA.new hp, ts.tag (S.free hp), tag_same, All2.nil⟩
        · obtain ⟨tg', hp, ex, ts', tp, al2⟩ := h
          refine ⟨tg', hp, fun a o e l => ?_, ts', tp, al2.imp fun m e h => h.extm fun a o e l1 l2 => ⟨hk a o (fun z => by subst z; omega) e, rfl⟩⟩
          obtain ⟨e1, t1⟩ := ex a o e l
          exact ⟨hk a o (dne_of_none e hp) e1, t1⟩
        · obtain ⟨tg', hp', ex, ts', tp, al2⟩ := h
          rw [List.getElem?_map] at hm
          obtain ⟨mv, hmv, rfl⟩ := Option.map_eq_some_iff.mp hm
          have S4 : DL.Sub H G := S.trans hs4
          have em : mvD mv = .tup [.int mv.1, .tup (mv.2.map D.int)] := rfl
          have y0 : L2.atI [DL.D.int mv.1, .tup (mv.2.map D.int)] 0 = some (.int mv.1) := rfl
          have y1 : L2.atI [DL.D.int mv.1, .tup (mv.2.map D.int)] 1 = some (.tup (mv.2.map D.int)) := rfl
          rw [em]
          walk_at "dxs"
          intro g hg
          have sg := Sub.new (o := .lst (mv.2.map D.int)) hg
          have exg := ExtA.new (tg := tg') (o := .lst (mv.2.map D.int)) (n := 4) hg
          generalize hGg : put G g _ = Gg at sg exg ⊢
          have gg : Gg g = some (.lst (mv.2.map D.int)) := by rw [← hGg]; exact put_same
          clear hGg
          walk_at "dxs"
          intro c hc
          have ncg := dne_of_none gg hc
          have ncp := dne_of_none (sg _ _ hpz) hc
          have ngp := dne_of_none hpz hg
          have exc := ExtA.new (tg := tag tg' g 4) (o := .lst [.int mv.1, .ref g]) (n := 3) hc
          refine k4 (.ref c) _ (sg.trans (Sub.new hc)) ⟨tag (tag tg' g 4) c 3, hp', (ex.trans exg).trans exc, (ts'.tag (S4.free hg)).tag ((S4.trans sg).free hc), by rw [tag_ne ncp, tag_ne ngp, tp], ?_⟩
          have hz : (row.map mvD)[zs.length]? = some (mvD mv) := by rw [zl, List.getElem?_map, hmv]; rfl
          rw [List.length_append, show [D.ref c].length = 1 from rfl, List.take_add_one, hz]
          refine (al2.extM ((exg.trans exc).toE)).snoc (.inr ⟨c, g, mv.1, mv.2, rfl, rfl, put_same, put_old gg hc, tag_same, by rw [tag_ne ncg, tag_same], rg.g mv (List.mem_of_getElem? hmv)⟩)
        · obtain ⟨tg', hp', ex, ts', tp, al2⟩ := h
          rw [List.take_of_length_le (by omega)] at al2
          have hrG := hs4 _ _ hrl
          have zz : xs.length < sizeLine := by rw [sizeLine_eq]; omega
          have tr' := (ex _ _ hrl (by omega)).2
          walk_at "dxs"
          have hz : (W.mv.map rowD)[i]? = some (rowD row) := by rw [List.getElem?_map, hrw]; rfl
          have exr : ExtE tg' tg' G (put G r (.lst (xs ++ [.ref p]))) := ExtE.put (by omega)
          refine ⟨_, tg', xs ++ [.ref p], rfl, fun a o e => ?_, ts', by omega, put_same, by simp [xl], ?_⟩
          · rw [put_ne (dne_of_none e hr)]
            exact hs4 _ _ (hs _ _ e)
          · rw [List.take_add_one, hz]
            exact ((ael.ext ex.toE).ext exr).snoc (ElOk.ext ⟨wt_row rg, .inr ⟨p, zs, row.map mvD, rfl, rfl, hpz, tp, al2⟩⟩ exr)
      · rintro σ H' ⟨o3, tg, xs, rfl, hs, ts, tr, hrl, xl, ael⟩
        have hw1 := hs _ _ hw
        have h01 := hs _ _ h0
        walk_at "dxs"
        intro c0 e0
        have s0 := Sub.new (o := .lst (W.ow.map D.int)) e0
        have ex0 := ExtA.new (tg := tg) (o := .lst (W.ow.map D.int)) (n := 10) e0
        have n0 := dne_of_none hrl e0
        generalize hG0 : put H' c0 _ = G0 at s0 ex0 ⊢
        have g0 : G0 c0 = some (.lst (W.ow.map D.int)) := by rw [← hG0]; exact put_same
        have hw0 := s0 _ _ hw1
        have h10 := s0 _ _ (hs _ _ h1)
        walk_at "dxs"
        intro c1 e1
        have s1 := Sub.new (o := .lst (W.rk.map D.int)) e1
        have ex1 := ExtA.new (tg := tag tg c0 10) (o := .lst (W.rk.map D.int)) (n := 11) e1
        have n1 := dne_of_none (s0 _ _ hrl) e1
        have d01 := dne_of_none g0 e1
        generalize hG1 : put G0 c1 _ = G1 at s1 ex1 ⊢
        have g1 : G1 c1 = some (.lst (W.rk.map D.int)) := by rw [← hG1]; exact put_same
        have hw2 := s1 _ _ hw0
        have h31 := s1 _ _ (s0 _ _ (hs _ _ h3))
        have S1 : DL.Sub H G1 := (hs.trans s0).trans s1
        have tgs1 : Tgs H (tag (tag tg c0 10) c1 11) := (ts.tag (hs.free e0)).tag ((hs.trans s0).free e1)
        walk_at "dxs"
        refine lcRelL h31 (by rw [List.length_map, l3]; omega) (fun p zs G => ∃ tg', G1 p = none ∧ ExtA (tag (tag tg c0 10) c1 11) tg' G1 G ∧ Tgs H tg' ∧ tg' p = 13 ∧ All2 (ElOk tg' G) zs ((W.ks.map kD).take zs.length)) (fun p hp => ?_) (fun p zs G G' h hk => ?_) (fun p hp j m zs G K4 hm zl hpz h hs4 k4 => ?_) fun p zs G hp zl hs4 hpz h => ?_
        · exact ⟨tag _ p 13, hp, ExtA.new hp, tgs1.tag (S1.free hp), tag_same, All2.nil⟩
        · obtain ⟨tg', hp, ex, ts', tp, al2⟩ := h
          refine ⟨tg', hp, fun a o e l => ?_, ts', tp, al2.imp fun m e h => h.ext fun a o e l1 l2 => ⟨hk a o (fun z => by subst z; omega) e, rfl⟩⟩
          obtain ⟨e1, t1⟩ := ex a o e l
          exact ⟨hk a o (dne_of_none e hp) e1, t1⟩
        · obtain ⟨tg', hp', ex, ts', tp, al2⟩ := h
          rw [List.getElem?_map] at hm
          obtain ⟨ys, hys, rfl⟩ := Option.map_eq_some_iff.mp hm
          have S4 : DL.Sub H G := S1.trans hs4
          have pk := gk ys (List.mem_of_getElem? hys)
          have em : kD ys = .tup (ys.map D.str) := rfl
          rw [em]
          walk_at "dxs"
          intro g hg
          have exg := ExtA.new (tg := tg') (o := .lst (ys.map D.str)) (n := 2) hg
          have ngp := dne_of_none hpz hg
          refine k4 (.ref g) _ (Sub.new hg) ⟨tag tg' g 2, hp', ex.trans exg, ts'.tag (S4.free hg), by rw [tag_ne ngp, tp], ?_⟩
          have hz : (W.ks.map kD)[zs.length]? = some (kD ys) := by rw [zl, List.getElem?_map, hys]; rfl
          rw [List.length_append, show [D.ref g].length = 1 from rfl, List.take_add_one, hz]
          exact (al2.ext exg.toE).snoc ⟨wt_kD pk, .inr ⟨g, ys.map D.str, ys.map D.str, rfl, rfl, put_same, tag_same, All2.same fun x hx => by
            have h := pure_kD pk
            unfold kD at h
            cases h
            rename_i h
            exact .inl ⟨rfl, h x hx⟩⟩⟩
        · obtain ⟨tg', hp', ex, ts', tp, al2⟩ := h
          rw [List.take_of_length_le (by simp [zl])] at al2
          walk_at "dxs"
          intro gv ev
          have S4 : DL.Sub H G := S1.trans hs4
          have x0 := ex _ _ (s1 _ _ g0) (by rw [tag_ne d01, tag_same]; omega)
          have x1 := ex _ _ g1 (by rw [tag_same]; omega)
          have xr := ex _ _ (s1 _ _ (s0 _ _ hrl)) (by rw [tag_ne n1, tag_ne n0, tr]; omega)
          rw [tag_ne d01, tag_same] at x0
          rw [tag_same] at x1
          rw [tag_ne n1, tag_ne n0, tr] at xr
          rw [List.take_of_length_le (by rw [List.length_map, List.length_map]; omega)] at ael
          exact ⟨_, Sub.refl _, q gv _ _ _ _ (S4.trans (Sub.new ev)) (ts'.tag (S4.free ev)) (gv_fin (n := n) ev ⟨x0.2, x1.2, xr.2, tp⟩ x0.1 x1.1 xr.1 hpz ⟨by rw [List.length_map, l0], by rw [List.length_map, l1], by rw [xl, List.length_map, al, l2], by rw [zl, List.length_map, l3]⟩ (els_ints _) (els_ints _) (ael.ext ((ex0.trans ex1).trans ex).toE) al2)⟩
end
end K02

namespace K02
open PySem PySem.Spec PyProof.Rows L2 DL
theorem cut_len {xs : List DL.D} {lo hi : Option Int} : (DL.cut xs lo hi).length ≤ xs.length := by
  unfold DL.cut
  rw [List.length_take, List.length_drop]
  omega
theorem wts_app (xs ys : List DL.D) : wts (xs ++ ys) = wts xs + wts ys := by
  induction xs with
  | nil => simp [wts]
  | cons x xs ih => rw [List.cons_append, wts, wts, ih]; omega
section
variable {P : Program} {w : World} {K : PySem.W.Frag} {mg : Str → Option Value} {base : Heap}
def sp_bent_gains : DSp := fun ds H Q _ => ∃ b g, ∃ (t way : Int) (gs : List Int) (n : Nat), ds = [.ref b, .int t, .tup (gs.map D.int), .int way] ∧ Bg H b g (n + 10) ∧ gs.length ≤ 3 ∧ ∀ e H', Pure e → wt e ≤ 20 → Keep [b] H H' → Bg H' b g n → Q e H'
theorem ok_bent_gains (T : Txt P K mg) : DFn P w K mg base 6 T.f__law_bent_gains T.d__law_bent_gains ps__law_bent_gains sp_bent_gains := by
  refine fn__law_bent_gains (k := 3) T (ok_take T) (fun ds H Q E h => ?_) (fun ds H Q E h => ?_)
  · obtain ⟨b, g, t, way, gs, n, rfl, _⟩ := h; rfl
  · obtain ⟨b, g, t, way, gs, n, rfl, hb, gl, q⟩ := h
    have put_ : ∀ {xs : List DL.D} {H' : DH}, (∀ x ∈ xs, Pure x) → wts xs ≤ 12 → Keep [b] H H' → Bg H' b g n → (endsOf Q E).rt (.tup [.int t, .tup xs]) H' := fun {xs H'} hp hw kp hbg => by
      refine ⟨_, Sub.refl _, q _ _ (.tup fun x hx => ?_) (by simp only [wt, wts]; omega) kp hbg⟩
      simp only [List.mem_cons, List.not_mem_nil, or_false] at hx
      rcases hx with rfl | rfl
      · exact .int t
      · exact .tup hp
    have ml : (gs.map D.int).length = gs.length := List.length_map ..
    unfold rd__law_bent_gains
    walk_at "dxs"
    refine x_ite (fun c => ?_) fun c => ?_
    · walk_at "dxs"
      refine x_addT (by rw [ml, sizeLine_eq]; simp; omega) ?_
      walk_at "dxs"
      refine put_ (fun x hx => ?_) ?_ Keep.refl (hb.le (by omega))
      · rcases List.mem_append.mp hx with h | h
        · exact pure_ints gs x h
        · rw [List.mem_singleton] at h; subst h; exact .int 0
      · have : gs.map D.int ++ [D.int 0] = (gs ++ [0]).map D.int := by rw [List.map_append]; rfl
        rw [this, wts_ints, List.length_append]; simp; omega
    walk_at "dxs"
    refine x_ite (fun c => ?_) fun c => ?_
    · walk_at "dxs"
      obtain ⟨ys, e, l, _⟩ := cut_map D.int gs (some 1) none
      rw [e]
      exact put_ (pure_ints ys) (by rw [wts_ints]; omega) Keep.refl (hb.le (by omega))
    walk_at "dxs"
    refine x_ite (fun c => ?_) fun c => ?_
    · walk_at "dxs"
      refine ⟨_, Sub.refl _, q _ _ (.tup fun x hx => ?_) (by simp [wt, wts]) Keep.refl (hb.le (by omega))⟩
      simp only [List.mem_cons, List.not_mem_nil, or_false] at hx
      rcases hx with rfl | rfl
      · exact .int t
      · exact .non
    have c : gs.length ≠ 0 := by rw [ml] at c; have := of_decide_eq_false c; omega
    walk_at "dxs"
    rw [ml]
    refine ⟨b, g, gs.length, n + 9, rfl, hb, by omega, by omega, fun at_ H1 a1 off1 hb1 => ?_⟩
    walk_at "dxs"
    refine (show ∀ q : DK, CPow 10 30 → q (.int (10 ^ 30)) H1 → dI CPow (fun i j => D.int (i ^ j.toNat)) (.int 10) (.int 30) H1 q from fun q h1 h2 => ⟨h1, h2⟩) _ ⟨by decide, by decide, by decide⟩ ?_
    walk_at "dxs"
    intro c hc
    obtain ⟨nbc, ngc⟩ := hb1.fresh hc
    have hb2 := hb1.put (o := .lst [.int 100, .int (-100), .bl true, .non, .int (10 ^ 30)]) nbc ngc
    walk_at "dxs"
    refine ⟨b, g, 5, n + 8, rfl, hb2, by decide, by decide, fun v H3 v1 off3 hb3 => ?_⟩
    have hc3 : H3 c = some (.lst [.int 100, .int (-100), .bl true, .non, .int (10 ^ 30)]) := (off3 c (Ne.symm nbc)).trans put_same
    obtain ⟨u, hu, pu, wu⟩ : ∃ u, [D.int 100, .int (-100), .bl true, .non, .int (10 ^ 30)][v]? = some u ∧ Pure u ∧ wt u ≤ 1 := by
      match v, v1 with
      | 0, _ => exact ⟨_, rfl, .int _, by simp [wt]⟩
      | 1, _ => exact ⟨_, rfl, .int _, by simp [wt]⟩
      | 2, _ => exact ⟨_, rfl, .bl _, by simp [wt]⟩
      | 3, _ => exact ⟨_, rfl, .non, by simp [wt]⟩
      | 4, _ => exact ⟨_, rfl, .int _, by simp [wt]⟩
      | k + 5, h => omega
    walk_at "dxs"
    refine x_ixL hc3 (atI_nat hu) ?_
    obtain ⟨ys, ey, ly, _⟩ := cut_map D.int gs none (some (at_ : Int))
    obtain ⟨zs, ez, lz, _⟩ := cut_map D.int gs (some ((at_ : Int) + 1)) none
    rw [ey]
    walk_at "dxs"
    refine x_addT (by rw [List.length_map, sizeLine_eq]; simp; omega) ?_
    walk_at "dxs"
    rw [ez]
    refine x_addT (by rw [List.length_append, List.length_map, List.length_map, sizeLine_eq]; simp; omega) ?_
    walk_at "dxs"
    refine put_ (fun x hx => ?_) ?_ ((Keep.off off1).trans ((Keep.new hc).trans (Keep.off off3))) (hb3.le (by omega))
    · rcases List.mem_append.mp hx with h | h
      · rcases List.mem_append.mp h with h | h
        · exact pure_ints ys x h
        · rw [List.mem_singleton] at h; subst h; exact pu
      · exact pure_ints zs x h
    · rw [wts_app, wts_app, wts_ints, wts_ints]
      simp only [wts]
      omega
end
end K02

namespace K02
open PySem PySem.Spec PyProof.Rows L2 DL
/-- a bent row: a leaf, or a new list of plain things -/
def RowRes (H H' : DH) (v : DL.D) : Prop := (Pure v ∧ wt v ≤ 200) ∨ ∃ r ms, v = .ref r ∧ H r = none ∧ H' r = some (.lst ms) ∧ (∀ m ∈ ms, Pure m) ∧ wt (.tup ms) ≤ 240
section
variable {P : Program} {w : World} {K : PySem.W.Frag} {mg : Str → Option Value} {base : Heap}
def sp_bent_row : DSp := fun ds H Q _ => ∃ b g rl row, ∃ (many : Int) (n : Nat), ds = [.ref b, .ref rl, .int many] ∧ Bg H b g (n + 100) ∧ b ≠ rl ∧ H rl = some (.lst (row.map mvD)) ∧ RowG row ∧ ∀ v H', Keep [b] H H' → Bg H' b g n → RowRes H H' v → Q v H'
theorem ok_bent_row (T : Txt P K mg) : DFn P w K mg base 9 T.f__law_bent_row T.d__law_bent_row ps__law_bent_row sp_bent_row := by
  refine fn__law_bent_row (k := 6) T ((ok_take T).mono (by decide)) (ok_bent_gains T) (fun ds H Q E h => ?_) (fun ds H Q E h => ?_)
  · obtain ⟨b, g, rl, row, many, n, rfl, _⟩ := h; rfl
  · obtain ⟨b, g, rl, row, many, n, rfl, hb, nb, hr, rg, q⟩ := h
    have lr := rg.l
    have lr0 : 0 < row.length := List.length_pos_iff.mpr rg.ne
    have ml : (row.map mvD).length = row.length := List.length_map ..
    have bx : ∀ {G : DH} {m : Nat}, Bg G b g m → ∀ x ∈ [b], ∃ u, G x = some u := fun h x hx => by rw [List.mem_singleton] at hx; rw [hx]; exact h.there
    have pm : ∀ ys : List Mv, ∀ x ∈ ys.map mvD, Pure x := fun ys x hx => by
      obtain ⟨m, _, rfl⟩ := List.mem_map.mp hx
      exact pure_mv m
    have wm : ∀ ys : List Mv, ys.Sublist row → wts (ys.map mvD) ≤ ys.length * 8 := fun ys hs => by
      have := wts_all (ds := ys.map mvD) (n := 8) fun d hd => by
        obtain ⟨m, hm, rfl⟩ := List.mem_map.mp hd
        exact wt_mv (rg.g m (hs.subset hm))
      rw [List.length_map] at this
      exact this
    -- a new list is handed back
    have fin : ∀ (H1 : DH) (r : Addr) (ms : List DL.D), H1 r = none → Keep [b] H H1 → Bg H1 b g n → (∀ m ∈ ms, Pure m) → wts ms ≤ 238 → (endsOf Q E).rt (.ref r) (put H1 r (.lst ms)) := fun H1 r ms r0 k1 hb1 p w1 => by
      obtain ⟨n1, n2⟩ := hb1.fresh r0
      exact ⟨_, Sub.refl _, q _ _ (k1.trans (Keep.new r0)) (hb1.put n1 n2) (.inr ⟨r, ms, rfl, none_keep k1 (bx hb1) r0, put_same, p, by rw [wt]; omega⟩)⟩
    unfold rd__law_bent_row
    generalize h8 : dRet (dOp dAdd (dOp dAdd _ _) _) = R8
    generalize h7 : dSeq (dIfS (dTest (dOp (dI0 _) (dVar 3) (dC (.int 8)))) _ _) R8 = R7
    generalize h6 : dSeq (dIfS (dTest (dOp dEq (dVar 3) (dC (.int 7)))) _ _) R7 = R6
    generalize h5 : dSeq (dIfS (dTest (dOp dEq (dVar 3) (dC (.int 6)))) _ _) R6 = R5
    generalize h4 : dSeq (dIfS (dTest (dOp dEq (dVar 3) (dC (.int 5)))) _ _) R5 = R4
    generalize h3 : dSeq (dIfS (dTest (dOp dEq (dVar 3) (dC (.int 4)))) _ _) R4 = R3
    generalize h2 : dSeq (dIfS (dTest (dOp dEq (dVar 3) (dC (.int 3)))) _ _) R3 = R2
    walk_at "dxs"
    refine ⟨b, g, 12, n + 99, rfl, hb, by decide, by decide, fun way H1 w1 off1 hb1 => ?_⟩
    have hr1 := (off1 rl (Ne.symm nb)).trans hr
    walk_at "dxs"
    rw [ml]
    refine ⟨b, g, row.length, n + 98, rfl, hb1, by omega, by omega, fun at_ H2 a1 off2 hb2 => ?_⟩
    have hr2 := (off2 rl (Ne.symm nb)).trans hr1
    have k2 : Keep [b] H H2 := (Keep.off off1).trans (Keep.off off2)
    clear off1 off2 hb1 hr1
    obtain ⟨mv, hmv⟩ : ∃ m, row[at_]? = some m := ⟨_, List.getElem?_eq_getElem (by omega)⟩
    have gl := rg.g mv (List.mem_of_getElem? hmv)
    have ia : L2.atI (row.map mvD) (at_ : Int) = some (.tup [.int mv.1, .tup (mv.2.map D.int)]) := atI_nat (by rw [List.getElem?_map, hmv]; rfl)
    have y0 : L2.atI [DL.D.int mv.1, .tup (mv.2.map D.int)] 0 = some (.int mv.1) := rfl
    have y1 : L2.atI [DL.D.int mv.1, .tup (mv.2.map D.int)] 1 = some (.tup (mv.2.map D.int)) := rfl
    have t8 : ∀ H1 m, Pure m → wt m ≤ 20 → Keep [b] H H1 → Bg H1 b g n → H1 rl = some (.lst (row.map mvD)) → R8 (endsOf Q E) [some (.ref b), some (.ref rl), some (.int many), some (.int (way : Int)), some (.int (at_ : Int)), some (.int mv.1), some (.tup (mv.2.map D.int)), some m] H1 := by
      intro H1 m pm1 wm1 k1 hb1 hr1
      subst h8
      obtain ⟨ys, ey, ly, sy⟩ := cut_map mvD row none (some (at_ : Int))
      obtain ⟨zs, ez, lz, sz⟩ := cut_map mvD row (some ((at_ : Int) + 1)) none
      have wy := wm ys sy
      have wz := wm zs sz
      walk_at "dxs"
      rw [ey]
      intro c1 e1
      have g1 := (Gw.nil (H := H1)).know hr1 |>.new (o := .lst (ys.map mvD)) e1 rfl
      generalize hG : put H1 c1 _ = G1 at g1 ⊢
      clear hG
      walk_at "dxs"
      intro c2 e2
      have g2 := g1.new (o := .lst [m]) e2 rfl
      generalize hG : put G1 c2 _ = G2 at g2 ⊢
      clear hG
      walk_at "dxs"
      refine x_addL g2.h1 g2.h0 (by rw [List.length_map, sizeLine_eq]; simp; omega) fun c3 e3 => ?_
      have g3 := g2.new (o := .lst (ys.map mvD ++ [m])) e3 rfl
      generalize hG : put G2 c3 _ = G3 at g3 ⊢
      clear hG
      have hr3 := g3.h3
      walk_at "dxs"
      rw [ez]
      intro c4 e4
      have g4 := g3.new (o := .lst (zs.map mvD)) e4 rfl
      generalize hG : put G3 c4 _ = G4 at g4 ⊢
      clear hG
      walk_at "dxs"
      refine x_addL g4.h1 g4.h0 (by rw [List.length_append, List.length_map, List.length_map, sizeLine_eq]; simp; omega) fun c5 e5 => ?_
      refine fin G4 c5 _ e5 (k1.trans (Keep.sub g4.s)) (hb1.to fun a xs e => g4.s _ _ e) (fun x hx => ?_) ?_
      · rcases List.mem_append.mp hx with h | h
        · rcases List.mem_append.mp h with h | h
          · exact pm ys x h
          · rw [List.mem_singleton] at h; subst h; exact pm1
        · exact pm zs x h
      · rw [wts_app, wts_app]
        simp only [wts]
        omega
    have pt : ∀ x : DL.D, Pure x → Pure (.tup [x, .tup (mv.2.map D.int)]) := fun x hx => .tup fun y hy => by
      simp only [List.mem_cons, List.not_mem_nil, or_false] at hy
      rcases hy with rfl | rfl
      · exact hx
      · exact .tup (pure_ints _)
    have wp : ∀ x : DL.D, wt x ≤ 1 → wt (.tup [x, .tup (mv.2.map D.int)]) ≤ 20 := fun x hx => by
      simp only [wt, wts, wts_ints]
      omega
    have t7 : ∀ H1 m, Pure m → wt m ≤ 20 → Keep [b] H H1 → Bg H1 b g (n + 10) → H1 rl = some (.lst (row.map mvD)) → R7 (endsOf Q E) [some (.ref b), some (.ref rl), some (.int many), some (.int (way : Int)), some (.int (at_ : Int)), some (.int mv.1), some (.tup (mv.2.map D.int)), some m] H1 := by
      intro H1 m pm1 wm1 k1 hb1 hr1
      subst h7
      walk_at "dxs"
      refine x_ite (fun c => ?_) fun c => ?_
      · walk_at "dxs"
        refine ⟨b, g, mv.1, (way : Int), mv.2, n, rfl, hb1, gl, fun e H2 pe we k2 hb2 => ?_⟩
        exact t8 H2 e pe we (k1.trans k2) hb2 (k2 _ _ (by simpa using Ne.symm nb) hr1)
      · refine x_next ?_
        exact t8 H1 m pm1 wm1 k1 (hb1.le (by omega)) hr1
    have t6 : ∀ H1 m, Pure m → wt m ≤ 20 → Keep [b] H H1 → Bg H1 b g (n + 10) → H1 rl = some (.lst (row.map mvD)) → R6 (endsOf Q E) [some (.ref b), some (.ref rl), some (.int many), some (.int (way : Int)), some (.int (at_ : Int)), some (.int mv.1), some (.tup (mv.2.map D.int)), some m] H1 := by
      intro H1 m pm1 wm1 k1 hb1 hr1
      subst h6
      walk_at "dxs"
      refine x_ite (fun c => ?_) fun c => ?_
      · walk_at "dxs"
        refine t7 H1 _ (.tup fun y hy => ?_) ?_ k1 hb1 hr1
        · simp only [List.mem_cons, List.not_mem_nil, or_false] at hy
          rcases hy with rfl | rfl | rfl
          · exact .int _
          · exact .tup (pure_ints _)
          · exact .int _
        · simp only [wt, wts, wts_ints]; omega
      · refine x_next ?_
        exact t7 H1 m pm1 wm1 k1 hb1 hr1
    have t5 : ∀ H1 m, Pure m → wt m ≤ 20 → Keep [b] H H1 → Bg H1 b g (n + 10) → H1 rl = some (.lst (row.map mvD)) → R5 (endsOf Q E) [some (.ref b), some (.ref rl), some (.int many), some (.int (way : Int)), some (.int (at_ : Int)), some (.int mv.1), some (.tup (mv.2.map D.int)), some m] H1 := by
      intro H1 m pm1 wm1 k1 hb1 hr1
      subst h5
      walk_at "dxs"
      refine x_ite (fun c => ?_) fun c => ?_
      · walk_at "dxs"
        refine t6 H1 _ (.tup fun y hy => ?_) ?_ k1 hb1 hr1
        · simp only [List.mem_cons, List.not_mem_nil, or_false] at hy
          subst hy
          exact .int _
        · simp only [wt, wts]; omega
      · refine x_next ?_
        exact t6 H1 m pm1 wm1 k1 hb1 hr1
    have t4 : ∀ H1 m, Pure m → wt m ≤ 20 → Keep [b] H H1 → Bg H1 b g (n + 11) → H1 rl = some (.lst (row.map mvD)) → R4 (endsOf Q E) [some (.ref b), some (.ref rl), some (.int many), some (.int (way : Int)), some (.int (at_ : Int)), some (.int mv.1), some (.tup (mv.2.map D.int)), some m] H1 := by
      intro H1 m pm1 wm1 k1 hb1 hr1
      subst h4
      walk_at "dxs"
      refine x_ite (fun c => ?_) fun c => ?_
      · walk_at "dxs"
        intro c1 e1
        obtain ⟨nbc, ngc⟩ := hb1.fresh e1
        have hb2 := hb1.put (o := .lst [.bl true, .non, .str "0"]) nbc ngc
        have hr2 := put_old (o := .lst [.bl true, .non, .str "0"]) hr1 e1
        walk_at "dxs"
        refine ⟨b, g, 3, n + 10, rfl, hb2, by decide, by decide, fun v H3 v1 off3 hb3 => ?_⟩
        have hc3 : H3 c1 = some (.lst [.bl true, .non, .str "0"]) := (off3 c1 (Ne.symm nbc)).trans put_same
        obtain ⟨u, hu, pu, wu⟩ : ∃ u, [D.bl true, .non, .str "0"][v]? = some u ∧ Pure u ∧ wt u ≤ 1 := by
          match v, v1 with
          | 0, _ => exact ⟨_, rfl, .bl _, by simp [wt]⟩
          | 1, _ => exact ⟨_, rfl, .non, by simp [wt]⟩
          | 2, _ => exact ⟨_, rfl, .str (by decide), by simp [wt]⟩
          | k + 3, h => omega
        walk_at "dxs"
        refine x_ixL hc3 (atI_nat hu) ?_
        walk_at "dxs"
        exact t5 H3 _ (pt u pu) (wp u wu) (k1.trans ((Keep.new e1).trans (Keep.off off3))) hb3 ((off3 rl (Ne.symm nb)).trans hr2)
      · refine x_next ?_
        exact t5 H1 m pm1 wm1 k1 (hb1.le (by omega)) hr1
    have t3 : ∀ H1 m, Pure m → wt m ≤ 20 → Keep [b] H H1 → Bg H1 b g (n + 11) → H1 rl = some (.lst (row.map mvD)) → R3 (endsOf Q E) [some (.ref b), some (.ref rl), some (.int many), some (.int (way : Int)), some (.int (at_ : Int)), some (.int mv.1), some (.tup (mv.2.map D.int)), some m] H1 := by
      intro H1 m pm1 wm1 k1 hb1 hr1
      subst h3
      walk_at "dxs"
      refine x_ite (fun c => ?_) fun c => ?_
      · walk_at "dxs"
        exact t4 H1 _ (pt _ (.int _)) (wp _ (by simp [wt])) k1 hb1 hr1
      · refine x_next ?_
        exact t4 H1 m pm1 wm1 k1 hb1 hr1
    have t2 : ∀ H1 m, Pure m → wt m ≤ 20 → Keep [b] H H1 → Bg H1 b g (n + 12) → H1 rl = some (.lst (row.map mvD)) → R2 (endsOf Q E) [some (.ref b), some (.ref rl), some (.int many), some (.int (way : Int)), some (.int (at_ : Int)), some (.int mv.1), some (.tup (mv.2.map D.int)), some m] H1 := by
      intro H1 m pm1 wm1 k1 hb1 hr1
      subst h2
      walk_at "dxs"
      refine x_ite (fun c => ?_) fun c => ?_
      · walk_at "dxs"
        refine ⟨b, g, 2, n + 11, rfl, hb1, by decide, by decide, fun v H3 v1 off3 hb3 => ?_⟩
        walk_at "dxs"
        exact t3 H3 _ (pt _ (.int _)) (wp _ (by simp [wt])) (k1.trans (Keep.off off3)) hb3 ((off3 rl (Ne.symm nb)).trans hr1)
      · refine x_next ?_
        exact t3 H1 m pm1 wm1 k1 (hb1.le (by omega)) hr1
    walk_at "dxs"
    refine x_ite (fun c => ?_) fun c => ?_
    · walk_at "dxs"
      intro c1 e1
      obtain ⟨nbc, ngc⟩ := hb2.fresh e1
      have hb3 := hb2.put (o := .lst [.tup [], .non, .int 7]) nbc ngc
      walk_at "dxs"
      refine ⟨b, g, 3, n + 97, rfl, hb3, by decide, by decide, fun v H3 v1 off3 hb4 => ?_⟩
      have hc3 : H3 c1 = some (.lst [.tup [], .non, .int 7]) := (off3 c1 (Ne.symm nbc)).trans put_same
      obtain ⟨u, hu, pu, wu⟩ : ∃ u, [D.tup [], .non, .int 7][v]? = some u ∧ Pure u ∧ wt u ≤ 200 := by
        match v, v1 with
        | 0, _ => exact ⟨_, rfl, .tup (by simp), by simp [wt, wts]⟩
        | 1, _ => exact ⟨_, rfl, .non, by simp [wt]⟩
        | 2, _ => exact ⟨_, rfl, .int _, by simp [wt]⟩
        | k + 3, h => omega
      walk_at "dxs"
      refine x_ixL hc3 (atI_nat hu) ?_
      exact ⟨_, Sub.refl _, q _ _ (k2.trans ((Keep.new e1).trans (Keep.off off3))) (hb4.le (by omega)) (.inl ⟨pu, wu⟩)⟩
    walk_at "dxs"
    refine x_ite (fun c => ?_) fun c => ?_
    · walk_at "dxs"
      intro c1 e1
      have g1 := (Gw.nil (H := H2)).know hr2 |>.new (o := .lst [mvD mv]) e1 rfl
      walk_at "dxs"
      refine x_addL g1.h1 g1.h0 (by rw [List.length_map, sizeLine_eq]; simp; omega) fun c2 e2 => ?_
      refine fin _ c2 _ e2 (k2.trans (Keep.sub g1.s)) ((hb2.to fun a xs e => g1.s _ _ e).le (by omega)) (fun x hx => ?_) ?_
      · rcases List.mem_append.mp hx with h | h
        · exact pm row x h
        · rw [List.mem_singleton] at h; subst h; exact pure_mv mv
      · rw [wts_app]
        have := wm row (List.Sublist.refl _)
        have := wt_mv gl
        simp only [wts]
        omega
    walk_at "dxs"
    refine x_ite (fun c => ?_) fun c => ?_
    · walk_at "dxs"
      intro c2 e2
      rw [← List.map_reverse]
      refine fin _ c2 _ e2 k2 (hb2.le (by omega)) (pm _) ?_
      have := wts_all (ds := row.reverse.map mvD) (n := 8) fun d hd => by
        obtain ⟨m, hm, rfl⟩ := List.mem_map.mp hd
        exact wt_mv (rg.g m (by simpa using hm))
      rw [List.length_map, List.length_reverse] at this
      omega
    walk_at "dxs"
    exact t2 H2 _ (.int _) (by simp [wt]) k2 (hb2.le (by omega)) hr2
end
end K02

namespace K02
open PySem PySem.Spec PyProof.Rows L2 DL
/-- the world, the bag and what is handed in, all apart -/
structure St (G0 H : DH) (b g w gv : Addr) (A : AW) (W : Wd) (nn m : Nat) (tg : Addr → Nat) (xs ds : List DL.D) : Prop where
  wa : WAt G0 w W A
  wg : WdG nn W
  n1 : 1 ≤ nn
  n2 : nn ≤ 401
  kp : Keep [b] G0 H
  nb : b ∉ A.ft w
  b0 : ∃ u, G0 b = some u
  g0 : ∃ u, G0 g = some u
  tgs : Tgs G0 tg
  bg : Bg H b g m
  gv : GvP (TopB nn tg H) tg H gv xs ds
theorem Tgs.old {G0 : DH} {tg : Addr → Nat} (t : Tgs G0 tg) {a : Addr} (h : ∃ u, G0 a = some u) : tg a = 0 := by
  by_cases c : tg a = 0
  · exact c
  · obtain ⟨u, e⟩ := h
    rw [t a c] at e; cases e
section
variable {G0 H H' : DH} {b g w gv : Addr} {A : AW} {W : Wd} {nn m m' : Nat} {tg tg' : Addr → Nat} {xs ds : List DL.D}
theorem St.le (h : St G0 H b g w gv A W nn m tg xs ds) (l : m' ≤ m) : St G0 H b g w gv A W nn m' tg xs ds := { h with bg := h.bg.le l }
theorem St.wh (h : St G0 H b g w gv A W nn m tg xs ds) : WAt H w W A := h.wa.keep h.kp fun a ha z => h.nb (by rw [List.mem_singleton] at z; exact z ▸ ha)
theorem St.ne (h : St G0 H b g w gv A W nn m tg xs ds) {a : Addr} (t : tg a ≠ 0) : b ≠ a ∧ g ≠ a := by
  have e := h.tgs a t
  refine ⟨fun z => ?_, fun z => ?_⟩
  · obtain ⟨u, e2⟩ := h.b0; rw [z, e] at e2; cases e2
  · obtain ⟨u, e2⟩ := h.g0; rw [z, e] at e2; cases e2
/-- what stays away from the bag keeps all -/
theorem St.keep (h : St G0 H b g w gv A W nn m tg xs ds) (k : Keep [b] H H') (hb : Bg H' b g m') : St G0 H' b g w gv A W nn m' tg xs ds := by
  have tb := h.tgs.old h.b0
  have ex : ∀ a o, H a = some o → 1 ≤ tg a → H' a = some o := fun a o e l => k a o (fun z => by rw [List.mem_singleton] at z; subst z; omega) e
  refine { h with kp := h.kp.trans k, bg := hb, gv := ⟨ex _ _ h.gv.hg (by have := h.gv.tv; omega), h.gv.tv, h.gv.lx, h.gv.ld, fun k x d e1 e2 => (h.gv.t k x d e1 e2).ext fun a o e l => ⟨ex a o e (by omega), rfl⟩⟩ }
/-- a new thing with a tag -/
theorem St.tag (h : St G0 H b g w gv A W nn m tg xs ds) {a : Addr} {t : Nat} (e : G0 a = none) (ex : ∀ c o, H c = some o → 1 ≤ tg c → c ≠ a) : St G0 H b g w gv A W nn m (K02.tag tg a t) xs ds := by
  refine { h with tgs := h.tgs.tag e, gv := ⟨h.gv.hg, ?_, h.gv.lx, h.gv.ld, fun k x d e1 e2 => (h.gv.t k x d e1 e2).ext fun c o e l => ⟨e, tag_ne (ex c o e (by omega))⟩⟩ }
  rw [tag_ne (ex gv _ h.gv.hg (by rw [h.gv.tv]; exact Nat.le_refl _))]
  exact h.gv.tv
/-- one entry of one part is set -/
theorem St.set (h : St G0 H b g w gv A W nn m tg xs ds) {k p : Nat} {gk : Addr} {ys es : List DL.D} {v d : DL.D} (hx : xs[k]? = some (.ref gk)) (hd : ds[k]? = some (.tup es)) (hy : H gk = some (.lst ys)) (tk : tg gk = 10 + k)
    (hl : ys.length = nn ∨ (k = 3 ∧ ys.length = 0)) (ha : All2 (ElOk tg H) ys es) (hv : ElOk tg H v d) : St G0 (put H gk (.lst (ys.set p v))) b g w gv A W nn m tg xs (ds.set k (.tup (es.set p d))) := by
  have ng := h.ne (a := gk) (by omega)
  have exE : ExtE tg tg H (put H gk (.lst (ys.set p v))) := ExtE.put (by omega)
  refine { h with kp := fun a o n e => ?_, bg := h.bg.put ng.1 ng.2, gv := ⟨?_, h.gv.tv, h.gv.lx, by rw [List.length_set]; exact h.gv.ld, fun j x e hxj hdj => ?_⟩ }
  · rw [put_ne (dne_of_none e (h.tgs gk (by omega)))]
    exact h.kp a o n e
  · rw [put_ne (fun z => by have := h.gv.tv; rw [z] at this; omega)]
    exact h.gv.hg
  · by_cases c : k = j
    · subst c
      rw [hx] at hxj
      cases hxj
      rw [List.getElem?_set_self (by rw [h.gv.ld]; have := (List.getElem?_eq_some_iff.mp hx).1; rw [h.gv.lx] at this; exact this)] at hdj
      cases hdj
      exact ⟨gk, _, _, rfl, rfl, put_same, tk, by rw [List.length_set]; exact hl, (ha.imp fun _ _ h => h.ext exE).set p (hv.ext exE)⟩
    · rw [List.getElem?_set_ne c] at hdj
      obtain ⟨gj, xj, dj, rfl, rfl, hg, t, l, al⟩ := h.gv.t j x e hxj hdj
      exact ⟨gj, xj, dj, rfl, rfl, by rw [put_ne (fun z => by rw [z] at t; omega)]; exact hg, t, l, al.imp fun _ _ h => h.ext exE⟩
theorem GvP.refs (h : GvP (TopB nn tg H) tg H gv xs ds) : ∃ g0 g1 g2 g3 y0 y1 y2 y3 e0 e1 e2 e3, xs = [.ref g0, .ref g1, .ref g2, .ref g3] ∧ ds = [.tup e0, .tup e1, .tup e2, .tup e3] ∧ (H g0 = some (.lst y0) ∧ H g1 = some (.lst y1) ∧ H g2 = some (.lst y2) ∧ H g3 = some (.lst y3)) ∧
    (tg g0 = 10 ∧ tg g1 = 11 ∧ tg g2 = 12 ∧ tg g3 = 13) ∧ (y0.length = nn ∧ y1.length = nn ∧ y2.length = nn ∧ (y3.length = nn ∨ y3.length = 0)) ∧ (All2 (ElOk tg H) y0 e0 ∧ All2 (ElOk tg H) y1 e1 ∧ All2 (ElOk tg H) y2 e2 ∧ All2 (ElOk tg H) y3 e3) := by
  obtain ⟨x0, x1, x2, x3, d0, d1, d2, d3, rfl, rfl, ⟨g0, y0, e0, rfl, rfl, h0, t0, l0, a0⟩, ⟨g1, y1, e1, rfl, rfl, h1, t1, l1, a1⟩, ⟨g2, y2, e2, rfl, rfl, h2, t2, l2, a2⟩, ⟨g3, y3, e3, rfl, rfl, h3, t3, l3, a3⟩⟩ := h.four
  exact ⟨g0, g1, g2, g3, y0, y1, y2, y3, e0, e1, e2, e3, rfl, rfl, ⟨h0, h1, h2, h3⟩, ⟨by omega, by omega, by omega, by omega⟩, ⟨by omega, by omega, by omega, by omega⟩, a0, a1, a2, a3⟩
theorem GvP.same {g0 g1 g2 g3 : Addr} {e0 e1 e2 e3 : List DL.D} (h : GvP (TopB nn tg H) tg H gv [.ref g0, .ref g1, .ref g2, .ref g3] [.tup e0, .tup e1, .tup e2, .tup e3]) : ∃ y0 y1 y2 y3, (H g0 = some (.lst y0) ∧ H g1 = some (.lst y1) ∧ H g2 = some (.lst y2) ∧ H g3 = some (.lst y3)) ∧
    (tg g0 = 10 ∧ tg g1 = 11 ∧ tg g2 = 12 ∧ tg g3 = 13) ∧ (y0.length = nn ∧ y1.length = nn ∧ y2.length = nn ∧ (y3.length = nn ∨ y3.length = 0)) ∧ (All2 (ElOk tg H) y0 e0 ∧ All2 (ElOk tg H) y1 e1 ∧ All2 (ElOk tg H) y2 e2 ∧ All2 (ElOk tg H) y3 e3) := by
  obtain ⟨_, _, _, _, y0, y1, y2, y3, _, _, _, _, ex, ed, r⟩ := h.refs
  cases ex; cases ed
  exact ⟨y0, y1, y2, y3, r⟩
end
theorem ixN_nat {l i : Nat} (h : i < l) : ixN l (i : Int) = some i := by
  unfold ixN
  simp
  omega
section
variable {P : Program} {w : World} {K : PySem.W.Frag} {mg : Str → Option Value} {base : Heap}
def sp_bend : DSp := fun ds H Q _ => ∃ G0 b g w gv A W nn n tg xs es, ds = [.ref b, .ref gv, .ref w] ∧ St G0 H b g w gv A W nn (n + 200) tg xs es ∧ ∀ tg' es' H', St G0 H' b g w gv A W nn n tg' xs es' → Q .non H'
theorem ok_bend (T : Txt P K mg) : DFn P w K mg base 12 T.f__law_bend T.d__law_bend ps__law_bend sp_bend := by
  refine fn__law_bend (k := 9) T ((ok_take T).mono (by decide)) (ok_bent_row T) (fun ds H Q E h => ?_) (fun ds H Q E h => ?_)
  · obtain ⟨G0, b, g, w, gv, A, W, nn, n, tg, xs, es, rfl, _⟩ := h; rfl
  · obtain ⟨G0, b, g, w, gv, A, W, nn, n, tg, xs, es, rfl, st, q⟩ := h
    have n1 := st.n1
    have n2 := st.n2
    have wl := st.wg.l0
    have ml : (W.ow.map D.int).length = nn := by rw [List.length_map, wl]
    have wh := st.wh
    have hw := wh.hw
    have wo := wh.h0
    have j0 : L2.atI [DL.D.ref A.a0, .ref A.a1, .ref A.a2, .ref A.a3] 0 = some (.ref A.a0) := rfl
    have j2 : L2.atI [DL.D.ref A.a0, .ref A.a1, .ref A.a2, .ref A.a3] 2 = some (.ref A.a2) := rfl
    unfold rd__law_bend
    generalize hA : dAsg _ (gIx (dOp dIx (dVar 1) (dC (.int 0))) (dVar 4)) = RA
    generalize hB : dIfS (dTest (dOp dEq (dVar 5) (dC (.int 1)))) _ _ = RB
    walk_at "dxs"
    rw [ml]
    refine ⟨b, g, nn, n + 199, rfl, st.bg, by omega, by omega, fun pl H1 pl1 off1 hb1 => ?_⟩
    walk_at "dxs"
    refine ⟨b, g, 6, n + 198, rfl, hb1, by decide, by decide, fun pa H2 pa1 off2 hb2 => ?_⟩
    have st2 := st.keep ((Keep.off off1).trans (Keep.off off2)) hb2
    clear off1 off2 hb1 st wh hw wo
    obtain ⟨g0, g1, g2, g3, y0, y1, y2, y3, e0, e1, e2, e3, rfl, rfl, ⟨h0, h1, h2, h3⟩, ⟨t0, t1, t2, t3⟩, ⟨l0, l1, l2, l3⟩, ⟨a0, a1, a2, a3⟩⟩ := st2.gv.refs
    have hg := st2.gv.hg
    have i0 : L2.atI [DL.D.ref g0, .ref g1, .ref g2, .ref g3] 0 = some (.ref g0) := rfl
    have i1 : L2.atI [DL.D.ref g0, .ref g1, .ref g2, .ref g3] 1 = some (.ref g1) := rfl
    have i2 : L2.atI [DL.D.ref g0, .ref g1, .ref g2, .ref g3] 2 = some (.ref g2) := rfl
    have i3 : L2.atI [DL.D.ref g0, .ref g1, .ref g2, .ref g3] 3 = some (.ref g3) := rfl
    -- a value is taken from a list of plain things
    have pick : ∀ (HB : DH), DL.Sub H2 HB → ∀ (us : List DL.D), us.length ≤ 50 → us ≠ [] → (∀ u ∈ us, Pure u ∧ wt u ≤ 200) → ∀ (k : DK) (c : Addr), HB c = none →
        (∀ u H4, Pure u → wt u ≤ 200 → St G0 H4 b g w gv A W nn n tg [.ref g0, .ref g1, .ref g2, .ref g3] [.tup e0, .tup e1, .tup e2, .tup e3] → k u H4) →
        sp_take [.ref b, .int (us.length : Int)] (put HB c (.lst us)) (fun v H4 => dIx (.ref c) v H4 k) (fun _ _ _ => False) := fun HB sB us ul une up k c hc kk => by
      have hbB : Bg HB b g (n + 198) := hb2.to fun a xs e => sB _ _ e
      obtain ⟨nbc, ngc⟩ := hbB.fresh hc
      have hb3 := hbB.put (o := .lst us) nbc ngc
      have u0 := List.length_pos_iff.mpr une
      refine ⟨b, g, us.length, n + 197, rfl, hb3, by omega, by omega, fun v H4 v1 off3 hb4 => ?_⟩
      have hc4 : H4 c = some (.lst us) := (off3 c (Ne.symm nbc)).trans put_same
      obtain ⟨u, hu⟩ : ∃ u, us[v]? = some u := ⟨_, List.getElem?_eq_getElem (by omega)⟩
      obtain ⟨pu, wu⟩ := up u (List.mem_of_getElem? hu)
      refine x_ixL hc4 (atI_nat hu) ?_
      exact kk u H4 pu wu (st2.keep ((Keep.sub sB).trans ((Keep.new hc).trans (Keep.off off3))) (hb4.le (by omega)))
    have fin : ∀ {H4 : DH} {tg' : Addr → Nat} {k p : Nat} {gk : Addr} {ys es' : List DL.D} {v d : DL.D} {σ : DSt}, St G0 H4 b g w gv A W nn n tg' [.ref g0, .ref g1, .ref g2, .ref g3] [.tup e0, .tup e1, .tup e2, .tup e3] → [D.ref g0, .ref g1, .ref g2, .ref g3][k]? = some (.ref gk) → [D.tup e0, .tup e1, .tup e2, .tup e3][k]? = some (.tup es') → H4 gk = some (.lst ys) → tg' gk = 10 + k → (ys.length = nn ∨ (k = 3 ∧ ys.length = 0)) → ys.length = nn → p < nn → All2 (ElOk tg' H4) ys es' → ElOk tg' H4 v d →
        dSetIx (.ref gk) (.int (p : Int)) v H4 fun H5 => (endsOf Q E).nx σ H5 := fun {H4 tg' k p gk ys es' v d σ} st4 e1 e2 hy tk hl hn hp al hv =>
      x_setIx hy (ixN_nat (by omega)) ⟨_, Sub.refl _, q _ _ _ (st4.set e1 e2 hy tk hl al hv)⟩
    have tA : RA (endsOf Q E) [some (.ref b), some (.ref gv), some (.ref w), some (.int (nn : Int)), some (.int (pl : Int)), some (.int (pa : Int)), none] H2 := by
      subst hA
      walk_at "dxs"
      intro c hc
      walk_at "dxs"
      refine pick H2 (Sub.refl _) [.int 2, .int (-1), .bl true, .non, .str "0"] (by simp) (by simp) (fun u hu => ?_) _ c hc fun u H4 pu wu st4 => ?_
      · simp only [List.mem_cons, List.not_mem_nil, or_false] at hu
        rcases hu with rfl | rfl | rfl | rfl | rfl
        · exact ⟨.int _, by simp [wt]⟩
        · exact ⟨.int _, by simp [wt]⟩
        · exact ⟨.bl _, by simp [wt]⟩
        · exact ⟨.non, by simp [wt]⟩
        · exact ⟨.str (by decide), by simp [wt]⟩
      · have hg4 := st4.gv.hg
        obtain ⟨z0, z1, z2, z3, ⟨h0, h1, h2, h3⟩, ⟨t0, t1, t2, t3⟩, ⟨l0, l1, l2, l3⟩, ⟨a0, a1, a2, a3⟩⟩ := st4.gv.same
        walk_at "dxs"
        exact fin (k := 0) st4 rfl rfl h0 t0 (.inl l0) l0 (by omega) a0 ⟨by omega, .inl ⟨rfl, pu⟩⟩
    have tB : (pa = 2 → y3.length ≠ 0) → RB (endsOf Q E) [some (.ref b), some (.ref gv), some (.ref w), some (.int (nn : Int)), some (.int (pl : Int)), some (.int (pa : Int)), none] H2 := by
      intro hp2
      subst hB
      walk_at "dxs"
      refine x_ite (fun c => ?_) fun c => ?_
      · walk_at "dxs"
        intro c hc
        walk_at "dxs"
        refine pick H2 (Sub.refl _) [.int (-1), .int 10, .bl true, .non, .tup [.int 3]] (by simp) (by simp) (fun u hu => ?_) _ c hc fun u H4 pu wu st4 => ?_
        · simp only [List.mem_cons, List.not_mem_nil, or_false] at hu
          rcases hu with rfl | rfl | rfl | rfl | rfl
          · exact ⟨.int _, by simp [wt]⟩
          · exact ⟨.int _, by simp [wt]⟩
          · exact ⟨.bl _, by simp [wt]⟩
          · exact ⟨.non, by simp [wt]⟩
          · exact ⟨.tup (fun x hx => by rw [List.mem_singleton] at hx; subst hx; exact .int _), by simp [wt, wts]⟩
        · have hg4 := st4.gv.hg
          obtain ⟨z0, z1, z2, z3, ⟨h0, h1, h2, h3⟩, ⟨t0, t1, t2, t3⟩, ⟨l0, l1, l2, l3⟩, ⟨a0, a1, a2, a3⟩⟩ := st4.gv.same
          walk_at "dxs"
          exact fin (k := 1) st4 rfl rfl h1 t1 (.inl l1) l1 (by omega) a1 ⟨by omega, .inl ⟨rfl, pu⟩⟩
      walk_at "dxs"
      refine x_ite (fun c2 => ?_) fun c2 => ?_
      · have cpa : pa = 2 := by have := of_decide_eq_true c2; omega
        have le3 : e3.length = nn := by have := a3.1; have := hp2 cpa; omega
        have ps : ∀ zs : List Str, (∀ z ∈ zs, z.length ≤ 1000) → zs.length ≤ 9 → Pure (.tup (zs.map D.str)) ∧ wt (.tup (zs.map D.str)) ≤ 200 := fun zs h l => ⟨.tup fun x hx => by
          obtain ⟨z, hz, rfl⟩ := List.mem_map.mp hx
          exact .str (h z hz), by rw [wt, wts_strs]; omega⟩
        walk_at "dxs"
        intro c1 e1
        have q1 := (Gw.nil (H := H2)).new (o := .lst [.tup [.str "b", .str "a"], .tup [.str "a", .str "a"], .tup [.str "abcdefghi"], .tup [.str ""], .tup [.str "A"], .tup [.str "a", .str "b1"], .tup [.int 1], .tup [.str "a", .non]]) e1 rfl
        generalize hG : put H2 c1 _ = G1 at q1 ⊢
        clear hG
        walk_at "dxs"
        intro c2 e2
        have q2 := q1.new (o := .lst [.tup [.tup [.str "a"]], .non, .int 5]) e2 rfl
        generalize hG : put G1 c2 _ = G2 at q2 ⊢
        clear hG
        walk_at "dxs"
        refine x_addL q2.h1 q2.h0 (by rw [sizeLine_eq]; simp) fun c3 e3 => ?_
        have hgg := put_old (o := .lst ([DL.D.tup [.str "b", .str "a"], .tup [.str "a", .str "a"], .tup [.str "abcdefghi"], .tup [.str ""], .tup [.str "A"], .tup [.str "a", .str "b1"], .tup [.int 1], .tup [.str "a", .non]] ++ [.tup [.tup [.str "a"]], .non, .int 5])) (q2.s _ _ hg) e3
        walk_at "dxs"
        refine pick G2 q2.s ([DL.D.tup [.str "b", .str "a"], .tup [.str "a", .str "a"], .tup [.str "abcdefghi"], .tup [.str ""], .tup [.str "A"], .tup [.str "a", .str "b1"], .tup [.int 1], .tup [.str "a", .non]] ++ [.tup [.tup [.str "a"]], .non, .int 5]) (by simp) (by simp) (fun u hu => ?_) _ c3 e3 fun u H4 pu wu st4 => ?_
        · simp only [List.cons_append, List.nil_append, List.mem_cons, List.not_mem_nil, or_false] at hu
          rcases hu with rfl | rfl | rfl | rfl | rfl | rfl | rfl | rfl | rfl | rfl | rfl
          · exact ps ["b", "a"] (by decide) (by decide)
          · exact ps ["a", "a"] (by decide) (by decide)
          · exact ps ["abcdefghi"] (by decide) (by decide)
          · exact ps [""] (by decide) (by decide)
          · exact ps ["A"] (by decide) (by decide)
          · exact ps ["a", "b1"] (by decide) (by decide)
          · exact ⟨.tup fun x hx => by rw [List.mem_singleton] at hx; subst hx; exact .int _, by simp [wt, wts]⟩
          · exact ⟨.tup fun x hx => by
              simp only [List.mem_cons, List.not_mem_nil, or_false] at hx
              rcases hx with rfl | rfl
              · exact .str (by decide)
              · exact .non, by simp [wt, wts]⟩
          · exact ⟨.tup fun x hx => by rw [List.mem_singleton] at hx; subst hx; exact (ps ["a"] (by decide) (by decide)).1, by simp [wt, wts]⟩
          · exact ⟨.non, by simp [wt]⟩
          · exact ⟨.int _, by simp [wt]⟩
        · have hg4 := st4.gv.hg
          obtain ⟨z0, z1, z2, z3, ⟨h0, h1, h2, h3⟩, ⟨t0, t1, t2, t3⟩, ⟨l0, l1, l2, l3'⟩, ⟨a0, a1, a2, a3⟩⟩ := st4.gv.same
          walk_at "dxs"
          have lz : z3.length = nn := by rw [a3.1]; exact le3
          exact fin (k := 3) st4 rfl rfl h3 t3 (.inl lz) lz (by omega) a3 ⟨by omega, .inl ⟨rfl, pu⟩⟩
      · have wh := st2.wh
        have hw := wh.hw
        have wr := wh.h2
        obtain ⟨row, hrw⟩ : ∃ v, W.mv[pl]? = some v := ⟨_, List.getElem?_eq_getElem (by rw [st2.wg.l2]; omega)⟩
        obtain ⟨ri, hri⟩ : ∃ v, A.rs[pl]? = some v := ⟨_, List.getElem?_eq_getElem (by rw [wh.len, st2.wg.l2]; omega)⟩
        have ix : L2.atI (A.rs.map D.ref) (pl : Int) = some (.ref ri) := atI_nat (by rw [List.getElem?_map, hri]; rfl)
        have hrr := wh.row pl ri row hri hrw
        have rg := st2.wg.m row (List.mem_of_getElem? hrw)
        walk_at "dxs"
        intro c hc
        obtain ⟨nbc, ngc⟩ := hb2.fresh hc
        have hb3 := hb2.put (o := .lst (row.map mvD)) nbc ngc
        have st3 := st2.keep (Keep.new (o := .lst (row.map mvD)) hc) hb3
        walk_at "dxs"
        refine ⟨b, g, c, row, (nn : Int), n + 98, rfl, hb3, nbc, put_same, rg, fun v H4 k4 hb4 res => ?_⟩
        rcases res with ⟨pv, wv⟩ | ⟨r, ms, rfl, r0, hr4, pm, wm⟩
        · have st4 := st3.keep k4 (hb4.le (show n ≤ n + 98 by omega))
          have hg4 := st4.gv.hg
          obtain ⟨z0, z1, z2, z3, ⟨h0, h1, h2, h3⟩, ⟨t0, t1, t2, t3⟩, ⟨l0, l1, l2, l3⟩, ⟨a0, a1, a2, a3⟩⟩ := st4.gv.same
          walk_at "dxs"
          exact fin (k := 2) st4 rfl rfl h2 t2 (.inl l2) l2 (by omega) a2 ⟨by omega, .inl ⟨rfl, pv⟩⟩
        · have gr : G0 r = none := none_keep st3.kp (fun x hx => by rw [List.mem_singleton] at hx; rw [hx]; exact hb3.there) r0
          have st4 := (st3.tag (t := 2) gr fun c o e _ => dne_of_none e r0).keep k4 (hb4.le (show n ≤ n + 98 by omega))
          have hg4 := st4.gv.hg
          obtain ⟨z0, z1, z2, z3, ⟨h0, h1, h2, h3⟩, ⟨t0, t1, t2, t3⟩, ⟨l0, l1, l2, l3⟩, ⟨a0, a1, a2, a3⟩⟩ := st4.gv.same
          walk_at "dxs"
          exact fin (k := 2) st4 rfl rfl h2 t2 (.inl l2) l2 (by omega) a2 ⟨wm, .inr ⟨r, ms, ms, rfl, rfl, hr4, tag_same, All2.same fun x hx => .inl ⟨rfl, pm x hx⟩⟩⟩
    walk_at "dxs"
    refine x_ite (fun c => ?_) fun c => ?_
    · exact tA
    walk_at "dxs"
    refine x_ite (fun c2 => ?_) fun c2 => ?_
    · have c2 : pa = 2 := by have := of_decide_eq_true c2; omega
      walk_at "dxs"
      refine x_ite (fun c3 => ?_) fun c3 => ?_
      · exact tA
      · exact tB fun _ => by have := of_decide_eq_false c3; omega
    · exact tB fun z => by have := of_decide_eq_false c2; omega
end
end K02

namespace K02
open PySem PySem.Spec PyProof.Rows L2 DL
section
variable {G0 H H' : DH} {b gv : Addr} {tg tg' : Addr → Nat} {xs ds : List DL.D}
/-- what is handed in, and what stood before it -/
structure Sw (R : (Addr → Nat) → DH → Nat → DL.D → DL.D → Prop) (G0 H : DH) (b gv : Addr) (tg : Addr → Nat) (xs ds : List DL.D) : Prop where
  kp : Keep [b] G0 H
  b1 : ∃ u, H b = some u
  tgs : Tgs G0 tg
  gv : GvP (R tg H) tg H gv xs ds
theorem ExtA.put {a : Addr} {o : DO} (t : tg a < 2) : ExtA tg tg H (put H a o) := fun c u e l => ⟨by rw [put_ne (fun z => by rw [z] at l; omega)]; exact e, rfl⟩
theorem Sw.set {R : (Addr → Nat) → DH → Nat → DL.D → DL.D → Prop} (h : Sw R G0 H b gv tg xs ds) (ext : ∀ {tg tg' : Addr → Nat} {H H' : DH} {k : Nat} {x d : DL.D}, R tg H k x d → ExtA tg tg' H H' → R tg' H' k x d) {k : Nat} {x d : DL.D} (hx : R tg H k x d) :
    Sw R G0 (put H gv (.lst (xs.set k x))) b gv tg (xs.set k x) (ds.set k d) := by
  have t1 := h.gv.tv
  have ex : ExtA tg tg H (DL.put H gv (.lst (xs.set k x))) := ExtA.put (by omega)
  refine ⟨fun a o n e => ?_, ?_, h.tgs, ⟨put_same, t1, by rw [List.length_set]; exact h.gv.lx, by rw [List.length_set]; exact h.gv.ld, fun j y e h1 h2 => ?_⟩⟩
  · rw [put_ne (dne_of_none e (h.tgs gv (by omega)))]
    exact h.kp a o n e
  · by_cases c : b = gv
    · rw [c]; exact ⟨_, put_same⟩
    · rw [put_ne c]; exact h.b1
  · by_cases c : k = j
    · subst c
      have l1 := (List.getElem?_eq_some_iff.mp h1).1
      have l2 := (List.getElem?_eq_some_iff.mp h2).1
      rw [List.length_set] at l1 l2
      rw [List.getElem?_set_self l1] at h1
      rw [List.getElem?_set_self l2] at h2
      cases h1; cases h2
      exact ext hx ex
    · rw [List.getElem?_set_ne c] at h1 h2
      exact ext (h.gv.t j y e h1 h2) ex
theorem Sw.new {R : (Addr → Nat) → DH → Nat → DL.D → DL.D → Prop} (h : Sw R G0 H b gv tg xs ds) (ext : ∀ {tg tg' : Addr → Nat} {H H' : DH} {k : Nat} {x d : DL.D}, R tg H k x d → ExtA tg tg' H H' → R tg' H' k x d) {c : Addr} {o : DO} {t : Nat} (hc : H c = none) :
    Sw R G0 (put H c o) b gv (tag tg c t) xs ds := by
  have gc : G0 c = none := none_keep h.kp (fun x hx => by rw [List.mem_singleton] at hx; rw [hx]; exact h.b1) hc
  have ng := dne_of_none h.gv.hg hc
  refine ⟨h.kp.trans (Keep.new hc), ?_, h.tgs.tag gc, ⟨put_old h.gv.hg hc, by rw [tag_ne ng]; exact h.gv.tv, h.gv.lx, h.gv.ld, fun j y e h1 h2 => ext (h.gv.t j y e h1 h2) (ExtA.new hc)⟩⟩
  obtain ⟨u, e⟩ := h.b1
  exact ⟨u, put_old e hc⟩
theorem Sw.sub {R : (Addr → Nat) → DH → Nat → DL.D → DL.D → Prop} (h : Sw R G0 H b gv tg xs ds) (ext : ∀ {tg tg' : Addr → Nat} {H H' : DH} {k : Nat} {x d : DL.D}, R tg H k x d → ExtA tg tg' H H' → R tg' H' k x d) (s : DL.Sub H H') : Sw R G0 H' b gv tg xs ds := by
  obtain ⟨u, e⟩ := h.b1
  exact ⟨h.kp.trans (Keep.sub s), ⟨u, s _ _ e⟩, h.tgs, ⟨s _ _ h.gv.hg, h.gv.tv, h.gv.lx, h.gv.ld, fun j y e h1 h2 => ext (h.gv.t j y e h1 h2) (ExtA.sub s)⟩⟩
theorem Sw.ok (h : Sw TopL G0 H b gv tg xs ds) : Sw TopOk G0 H b gv tg xs ds := ⟨h.kp, h.b1, h.tgs, ⟨h.gv.hg, h.gv.tv, h.gv.lx, h.gv.ld, fun k x d e1 e2 => .inr (.inr (h.gv.t k x d e1 e2))⟩⟩
theorem St.w {g w : Addr} {A : AW} {W : Wd} {nn m : Nat} (h : St G0 H b g w gv A W nn m tg xs ds) : Sw TopL G0 H b gv tg xs ds := ⟨h.kp, h.bg.there, h.tgs, ⟨h.gv.hg, h.gv.tv, h.gv.lx, h.gv.ld, fun k x d e1 e2 => (h.gv.t k x d e1 e2).l (by have := h.n2; omega)⟩⟩
end
section
variable {P : Program} {w : World} {K : PySem.W.Frag} {mg : Str → Option Value} {base : Heap}
def sp_bend_whole : DSp := fun ds H Q _ => ∃ G0 b g w gv A W nn n tg xs es, ds = [.ref b, .ref gv] ∧ St G0 H b g w gv A W nn (n + 20) tg xs es ∧ ∀ tg' xs' es' H', Sw TopOk G0 H' b gv tg' xs' es' → Q .non H'
theorem ok_bend_whole (T : Txt P K mg) : DFn P w K mg base 6 T.f__law_bend_whole T.d__law_bend_whole ps__law_bend_whole sp_bend_whole := by
  refine fn__law_bend_whole (k := 3) T (ok_take T) (fun ds H Q E h => ?_) (fun ds H Q E h => ?_)
  · obtain ⟨G0, b, g, w, gv, A, W, nn, n, tg, xs, es, rfl, _⟩ := h; rfl
  · obtain ⟨G0, b, g, w, gv, A, W, nn, n, tg, xs, es, rfl, st, q⟩ := h
    unfold rd__law_bend_whole
    generalize hB : dIfS (dTest (dOp dEq (dVar 3) (dC (.int 1)))) _ _ = RB
    walk_at "dxs"
    refine ⟨b, g, 4, n + 19, rfl, st.bg, by omega, by omega, fun part H1 p1 off1 hb1 => ?_⟩
    walk_at "dxs"
    refine ⟨b, g, 4, n + 18, rfl, hb1, by decide, by decide, fun way H2 w1 off2 hb2 => ?_⟩
    have st2 := st.keep ((Keep.off off1).trans (Keep.off off2)) hb2
    clear off1 off2 hb1 st
    have sw := st2.w
    have hg := sw.gv.hg
    have lx := sw.gv.lx
    have ld := sw.gv.ld
    have li : ∀ k : Nat, k < 4 → ixN xs.length (k : Int) = some k := fun k hk => ixN_nat (by omega)
    -- a part
    have part_ : ∀ {H3 : DH} {tg' : Addr → Nat} {xs' es' : List DL.D} (k : Nat), k < 4 → Sw TopL G0 H3 b gv tg' xs' es' → ∃ gk ys es'', L2.atI xs' (k : Int) = some (.ref gk) ∧ H3 gk = some (.lst ys) ∧ tg' gk = 10 + k ∧ ys.length ≤ 410 ∧ All2 (ElOk tg' H3) ys es'' := fun {H3 tg' xs' es'} k hk s => by
      obtain ⟨x, hx⟩ : ∃ x, xs'[k]? = some x := ⟨_, List.getElem?_eq_getElem (by rw [s.gv.lx]; exact hk)⟩
      obtain ⟨d, hd⟩ : ∃ x, es'[k]? = some x := ⟨_, List.getElem?_eq_getElem (by rw [s.gv.ld]; exact hk)⟩
      obtain ⟨gk, ys, e'', rfl, rfl, h1, h2, h3, h4⟩ := s.gv.t k x d hx hd
      exact ⟨gk, ys, e'', atI_nat hx, h1, h2, h3, h4⟩
    have cutin : ∀ {H3 : DH} {tg' : Addr → Nat} {xs' es' ys es'' : List DL.D} {k : Nat} {c : Addr} (lo hi : Option Int), Sw TopL G0 H3 b gv tg' xs' es' → H3 c = none → ys.length ≤ 410 → All2 (ElOk tg' H3) ys es'' →
        Sw TopL G0 (put (put H3 c (.lst (DL.cut ys lo hi))) gv (.lst (xs'.set k (.ref c)))) b gv (tag tg' c (10 + k)) (xs'.set k (.ref c)) (es'.set k (.tup (DL.cut es'' lo hi))) := fun {H3 tg' xs' es' ys es'' k c} lo hi s hc hl ha =>
      (s.new (t := 10 + k) TopL.ext hc).set TopL.ext ⟨c, _, _, rfl, rfl, put_same, tag_same, by have := cut_len (xs := ys) (lo := lo) (hi := hi); omega, (ha.ext (ExtA.new hc).toE).cut lo hi⟩
    have hp4 : part < 4 := by omega
    have tB : RB (endsOf Q E) [some (.ref b), some (.ref gv), some (.int (part : Int)), some (.int (way : Int)), none] H2 := by
      subst hB
      obtain ⟨x, hx⟩ : ∃ x, xs[part]? = some x := ⟨_, List.getElem?_eq_getElem (by omega)⟩
      obtain ⟨d, hd⟩ : ∃ x, es[part]? = some x := ⟨_, List.getElem?_eq_getElem (by omega)⟩
      obtain ⟨gk, ys, e'', rfl, rfl, hy, tk, yl0, al⟩ := st2.gv.t part x d hx hd
      have ix := atI_nat hx
      have n2 := st2.n2
      have yl : ys.length ≤ 410 := by omega
      have yl1 : ys.length ≤ 401 := by omega
      walk_at "dxs"
      refine x_ite (fun c => ?_) fun c => ?_
      · walk_at "dxs"
        intro c hc
        have hgg := put_old (o := .lst (DL.cut ys none (some (-1)))) hg hc
        walk_at "dxs"
        refine x_setIx hgg (li part hp4) ⟨_, Sub.refl _, q _ _ _ _ (cutin none (some (-1)) sw hc yl al).ok⟩
      walk_at "dxs"
      refine x_ite (fun c => ?_) fun c => ?_
      · walk_at "dxs"
        intro c hc
        have q1 := ((Gw.nil (H := H2)).know hy).new (o := .lst (DL.cut ys none (some 1))) hc rfl
        have s1 := sw.sub TopL.ext (Sub.new (o := .lst (DL.cut ys none (some 1))) hc)
        have al1 := al.ext (ExtA.new0 (tg := tg) (o := .lst (DL.cut ys none (some 1))) hc).toE
        generalize hG : put H2 c _ = G1 at q1 s1 al1 ⊢
        clear hG
        have cl := cut_len (xs := ys) (lo := none) (hi := some 1)
        have cl1 : (DL.cut ys none (some 1)).length ≤ 1 := by
          unfold DL.cut HT.sIx
          rw [List.length_take]
          simp
          omega
        walk_at "dxs"
        refine x_addL q1.h1 q1.h0 (by rw [sizeLine_eq]; omega) fun c2 hc2 => ?_
        have hgg := put_old (o := .lst (ys ++ DL.cut ys none (some 1))) (q1.s _ _ hg) hc2
        walk_at "dxs"
        refine x_setIx hgg (li part hp4) ⟨_, Sub.refl _, q _ _ _ _ ((s1.new (t := 10 + part) TopL.ext hc2).set (x := .ref c2) (d := .tup (e'' ++ DL.cut e'' none (some 1))) TopL.ext ⟨c2, _, _, rfl, rfl, put_same, tag_same, ?_, ?_⟩).ok⟩
        · rw [List.length_append]
          omega
        · exact (al1.app (al1.cut none (some 1))).ext (ExtA.new hc2).toE
      walk_at "dxs"
      refine x_ite (fun c => ?_) fun c => ?_
      · walk_at "dxs"
        refine x_rng1At (n := 4) rfl (by decide) ?_
        refine forRng (fun i σ H' => ∃ (o4 : Option DL.D) (tg' : Addr → Nat) (xs' es' : List DL.D), σ = [some (.ref b), some (.ref gv), some (.int (part : Int)), some (.int (way : Int)), o4] ∧ Sw TopL G0 H' b gv tg' xs' es') ?_ ?_ ?_
        · exact ⟨_, _, _, _, rfl, sw⟩
        · rintro i σ H' hi ⟨o4, tg', xs', es', rfl, s⟩
          have e0 : (0 : Int) + (i : Int) = (i : Int) := by omega
          rw [e0]
          obtain ⟨gk, ys, e'', ix, hy, tk, yl, al⟩ := part_ i hi s
          have hg := s.gv.hg
          walk_at "dxs"
          intro c hc
          have hgg := put_old (o := .lst (DL.cut ys none (some 0))) hg hc
          walk_at "dxs"
          refine x_setIx hgg (ixN_nat (by rw [s.gv.lx]; exact hi)) ⟨_, _, _, _, rfl, cutin none (some 0) s hc yl al⟩
        · rintro σ H' ⟨o4, tg', xs', es', rfl, s⟩
          exact ⟨_, Sub.refl _, q _ _ _ _ s.ok⟩
      · walk_at "dxs"
        exact ⟨_, Sub.refl _, q _ _ _ _ sw.ok⟩
    walk_at "dxs"
    refine x_ite (fun c => ?_) fun c => ?_
    · walk_at "dxs"
      refine x_ite (fun c3 => ?_) fun c3 => ?_
      · have c3 : part < 3 := by have := of_decide_eq_true c3; omega
        walk_at "dxs"
        intro c hc
        obtain ⟨nbc, ngc⟩ := hb2.fresh hc
        have hb3 := hb2.put (o := .lst [.non, .int 7]) nbc ngc
        walk_at "dxs"
        refine ⟨b, g, 2, n + 17, rfl, hb3, by decide, by decide, fun v H4 v1 off3 hb4 => ?_⟩
        have hc4 : H4 c = some (.lst [.non, .int 7]) := (off3 c (Ne.symm nbc)).trans put_same
        obtain ⟨u, hu, pu, wu, nu⟩ : ∃ u, [D.non, .int 7][v]? = some u ∧ Pure u ∧ wt u ≤ 240 ∧ ∀ xs, u ≠ .tup xs := by
          match v, v1 with
          | 0, _ => exact ⟨_, rfl, .non, by simp [wt], fun xs e => by cases e⟩
          | 1, _ => exact ⟨_, rfl, .int _, by simp [wt], fun xs e => by cases e⟩
          | k + 2, h => omega
        have s4 := (st2.keep ((Keep.new hc).trans (Keep.off off3)) hb4).w.ok
        have hg4 := s4.gv.hg
        walk_at "dxs"
        refine x_ixL hc4 (atI_nat hu) ?_
        walk_at "dxs"
        refine x_setIx hg4 (li part hp4) ⟨_, Sub.refl _, q _ _ _ _ (s4.set (k := part) TopOk.ext (.inl ⟨c3, rfl, pu, wu, nu⟩))⟩
      · exact tB
    · exact tB
end
end K02

namespace K02
open PySem PySem.Spec PyProof.Rows L2 DL
def NoL (x : DL.D) : Prop := ∃ t, kindD x = some t ∧ isB t "list" = false
theorem Pure.nol {d : DL.D} (h : Pure d) : NoL d := by
  cases h with
  | non => exact ⟨_, rfl, by decide⟩
  | bl b => exact ⟨_, rfl, by decide⟩
  | int i => exact ⟨_, rfl, by decide⟩
  | str h => exact ⟨_, rfl, by decide⟩
  | tup h => exact ⟨_, rfl, by decide⟩
def SpM (tg : Addr → Nat) (L : Nat) (H : DH) (m : DL.D) : Prop := NoL m ∨ ∃ c g t rest zs, m = .ref c ∧ H c = some (.lst (t :: .ref g :: rest)) ∧ H g = some (.lst zs) ∧ tg c = 3 ∧ tg g = 4 ∧ rest.length + 2 ≤ L ∧ zs.length ≤ L
def SpR (tg : Addr → Nat) (K L : Nat) (H : DH) (x : DL.D) : Prop := NoL x ∨ ∃ r ms, x = .ref r ∧ H r = some (.lst ms) ∧ tg r = 2 ∧ ms.length ≤ K ∧ ∀ m ∈ ms, SpM tg L H m
def zer (j : Nat) : List DL.D := List.replicate j (.int 0)
/-- lists with the tags 2, 3, 4 may grow by zeros -/
structure Grow (tg : Addr → Nat) (k n : Nat) (H H' : DH) : Prop where
  a : ∀ a o, H a = some o → tg a < 2 ∨ 4 < tg a → H' a = some o
  b : ∀ a xs, H a = some (.lst xs) → ∃ j, H' a = some (.lst (xs ++ zer j)) ∧ (tg a = 2 → j ≤ k) ∧ (tg a ≠ 2 → j ≤ n)
  c : ∀ a o, H a = some o → (∀ xs, o ≠ .lst xs) → H' a = some o
section
variable {tg : Addr → Nat} {k n k' n' K L : Nat} {H H' H'' : DH} {x m : DL.D}
theorem zer_app (i j : Nat) : zer i ++ zer j = zer (i + j) := by unfold zer; rw [List.replicate_append_replicate]
theorem Grow.refl : Grow tg 0 0 H H := ⟨fun _ _ e _ => e, fun a xs e => ⟨0, by rw [e]; simp [zer], fun _ => Nat.le_refl _, fun _ => Nat.le_refl _⟩, fun _ _ e _ => e⟩
theorem Grow.trans (h : Grow tg k n H H') (h' : Grow tg k' n' H' H'') : Grow tg (k + k') (n + n') H H'' := by
  refine ⟨fun a o e t => h'.a a o (h.a a o e t) t, fun a xs e => ?_, fun a o e t => h'.c a o (h.c a o e t) t⟩
  obtain ⟨i, e1, b1, c1⟩ := h.b a xs e
  obtain ⟨j, e2, b2, c2⟩ := h'.b a _ e1
  rw [List.append_assoc, zer_app] at e2
  exact ⟨i + j, e2, fun t => by have := b1 t; have := b2 t; omega, fun t => by have := c1 t; have := c2 t; omega⟩
theorem Grow.mono (h : Grow tg k n H H') (l : k ≤ k') (l2 : n ≤ n') : Grow tg k' n' H H' := ⟨h.a, fun a xs e => by
  obtain ⟨i, e1, b1, c1⟩ := h.b a xs e
  exact ⟨i, e1, fun t => by have := b1 t; omega, fun t => by have := c1 t; omega⟩, h.c⟩
theorem Grow.put {a : Addr} {ys : List DL.D} (e : H a = some (.lst ys)) (t2 : 2 ≤ tg a) (t4 : tg a ≤ 4) : Grow tg (if tg a = 2 then 1 else 0) (if tg a = 2 then 0 else 1) H (put H a (.lst (ys ++ [.int 0]))) := by
  refine ⟨fun c o h t => ?_, fun c xs h => ?_, fun c o h t => ?_⟩
  · rw [put_ne (fun z => by rw [z] at t; omega)]; exact h
  · by_cases z : c = a
    · subst z
      rw [e] at h; cases h
      refine ⟨1, put_same, fun t => by rw [if_pos t]; exact Nat.le_refl _, fun t => by rw [if_neg t]; exact Nat.le_refl _⟩
    · refine ⟨0, by rw [put_ne z, h]; simp [zer], fun t => Nat.zero_le _, fun t => Nat.zero_le _⟩
  · rw [put_ne (fun z => by rw [z, e] at h; cases h; exact t _ rfl)]; exact h
theorem SpM.grow (h : SpM tg L H m) (g : Grow tg k n H H') : SpM tg (L + n) H' m := by
  rcases h with h | ⟨c, gg, t, rest, zs, rfl, hc, hg, tc, tgg, l1, l2⟩
  · exact .inl h
  · obtain ⟨i, e1, _, c1⟩ := g.b c _ hc
    obtain ⟨j, e2, _, c2⟩ := g.b gg _ hg
    have := c1 (by omega)
    have := c2 (by omega)
    refine .inr ⟨c, gg, t, rest ++ zer i, zs ++ zer j, rfl, e1, e2, tc, tgg, ?_, ?_⟩
    · rw [List.length_append, zer, List.length_replicate]; omega
    · rw [List.length_append, zer, List.length_replicate]; omega
theorem SpR.grow (h : SpR tg K L H x) (g : Grow tg k n H H') : SpR tg (K + k) (L + n) H' x := by
  rcases h with h | ⟨r, ms, rfl, hr, tr, l, al⟩
  · exact .inl h
  · obtain ⟨i, e1, b1, _⟩ := g.b r _ hr
    have := b1 tr
    refine .inr ⟨r, ms ++ zer i, rfl, e1, tr, by rw [List.length_append, zer, List.length_replicate]; omega, fun m hm => ?_⟩
    rcases List.mem_append.mp hm with h | h
    · exact (al m h).grow g
    · have := List.eq_of_mem_replicate h
      subst this
      exact .inl (Pure.int 0).nol
theorem SpM.put10 {a : Addr} {o : DO} (h : SpM tg L H m) (t : 4 < tg a) : SpM tg L (put H a o) m := by
  rcases h with h | ⟨c, gg, t', rest, zs, rfl, hc, hg, tc, tgg, l1, l2⟩
  · exact .inl h
  · exact .inr ⟨c, gg, t', rest, zs, rfl, by rw [put_ne (fun z => by rw [z] at tc; omega)]; exact hc, by rw [put_ne (fun z => by rw [z] at tgg; omega)]; exact hg, tc, tgg, l1, l2⟩
theorem SpR.put10 {a : Addr} {o : DO} (h : SpR tg K L H x) (t : 4 < tg a) : SpR tg K L (put H a o) x := by
  rcases h with h | ⟨r, ms, rfl, hr, tr, l, al⟩
  · exact .inl h
  · exact .inr ⟨r, ms, rfl, by rw [put_ne (fun z => by rw [z] at tr; omega)]; exact hr, tr, l, fun m hm => (al m hm).put10 t⟩
theorem MvOk.sp {e : DL.D} (h : MvOk tg H m e) : SpM tg 3 H m := by
  rcases h with ⟨rfl, p⟩ | ⟨c, g, t, gs, rfl, rfl, hc, hg, tc, tgg, l⟩
  · exact .inl p.nol
  · exact .inr ⟨c, g, _, [], _, rfl, hc, hg, tc, tgg, by simp, by rw [List.length_map]; exact l⟩
theorem ElOk.sp {d : DL.D} (h : ElOk tg H x d) : SpR tg 240 3 H x := by
  obtain ⟨w, ⟨rfl, p⟩ | ⟨r, ms, es, rfl, rfl, hr, t, a⟩⟩ := h
  · exact .inl p.nol
  · refine .inr ⟨r, ms, rfl, hr, t, ?_, fun m hm => ?_⟩
    · have := wts_len es
      rw [wt] at w
      have := a.1
      omega
    · obtain ⟨i, hi⟩ := List.mem_iff_getElem?.mp hm
      obtain ⟨e, he⟩ : ∃ e, es[i]? = some e := ⟨_, List.getElem?_eq_getElem (by rw [← a.1]; exact (List.getElem?_eq_some_iff.mp hi).1)⟩
      exact (a.2 i m e hi he).sp
end
section
variable {P : Program} {w : World} {K : PySem.W.Frag} {mg : Str → Option Value} {base : Heap}
def sp_spoil_row : DSp := fun ds H Q _ => ∃ r tg ms k L, ds = [.ref r] ∧ H r = some (.lst ms) ∧ tg r = 2 ∧ ms.length ≤ k ∧ (∀ m ∈ ms, SpM tg L H m) ∧ k ≤ 10000 ∧ L ≤ 10000000 ∧ ∀ H', Grow tg 1 (2 * k) H H' → Q .non H'
theorem ok_spoil_row (T : Txt P K mg) : DFn P w K mg base 3 T.f__law_spoil_row T.d__law_spoil_row ps__law_spoil_row sp_spoil_row := by
  refine fn__law_spoil_row (k := 0) T (fun ds H Q E h => ?_) (fun ds H Q E h => ?_)
  · obtain ⟨r, tg, ms, k, L, rfl, _⟩ := h; rfl
  · obtain ⟨r, tg, ms, k, L, rfl, hr, tr, lk, al, k1, l1, q⟩ := h
    unfold rd__law_spoil_row
    walk_at "dxs"
    refine forLst (ds := ms) (fun i σ H' => ∃ (o1 : Option DL.D), σ = [some (.ref r), o1] ∧ Grow tg 0 (2 * i) H H') ?_ (fun i σ H' h => ?_) ?_ ?_
    · exact ⟨_, rfl, Grow.refl⟩
    · obtain ⟨_, _, g⟩ := h
      obtain ⟨j, e, b, _⟩ := g.b r ms hr
      have := b tr
      have : j = 0 := by omega
      subst this
      simpa [zer] using e
    · rintro i m σ H' hm ⟨o1, rfl, g⟩
      have hi := (List.getElem?_eq_some_iff.mp hm).1
      have sm := (al m (List.mem_of_getElem? hm)).grow g
      walk_at "dxs"
      rcases sm with ⟨t, ht, hb⟩ | ⟨c, gg, t, rest, zs, rfl, hc, hg, tc, tgg, l2, l3⟩
      · refine x_isi ht (by decide) ?_
        walk_at "dxs"
        rw [hb]
        refine x_iteF rfl ?_
        walk_at "dxs"
        exact ⟨_, rfl, g.mono (Nat.le_refl _) (by omega)⟩
      · refine x_isiL hc (by decide) ?_
        have i1 : L2.atI (t :: .ref gg :: rest) 1 = some (.ref gg) := atI_nat (i := 1) rfl
        have z1 : zs.length < sizeLine := by rw [sizeLine_eq]; omega
        have z2 : (t :: .ref gg :: rest).length < sizeLine := by rw [sizeLine_eq]; simp; omega
        walk_at "dxs"
        have ncg : c ≠ gg := fun z => by rw [z] at tc; omega
        have g1 := Grow.put (tg := tg) hg (by omega) (by omega)
        rw [if_neg (by omega), if_neg (by omega)] at g1
        have hc1 := (put_ne (Hd := H') (o := .lst (zs ++ [.int 0])) ncg).trans hc
        generalize hG : put H' gg _ = G1 at g1 hc1 ⊢
        clear hG
        refine ⟨tyM_lst hc1, ?_⟩
        walk_at "dxs"
        have g2 := Grow.put (tg := tg) hc1 (by omega) (by omega)
        rw [if_neg (by omega), if_neg (by omega)] at g2
        exact ⟨_, rfl, ((g.trans g1).trans g2).mono (by omega) (by omega)⟩
    · rintro σ H' ⟨o1, rfl, g⟩
      have hr' : H' r = some (.lst ms) := by
        obtain ⟨j, e, b, _⟩ := g.b r ms hr
        have := b tr
        have : j = 0 := by omega
        subst this
        simpa [zer] using e
      have z1 : ms.length < sizeLine := by rw [sizeLine_eq]; omega
      walk_at "dxs"
      have g1 := Grow.put (tg := tg) hr' (by omega) (by omega)
      rw [if_pos tr, if_pos tr] at g1
      exact ⟨_, Sub.refl _, q _ ((g.trans g1).mono (by omega) (by omega))⟩
end
end K02

namespace K02
open PySem PySem.Spec PyProof.Rows L2 DL
theorem SpR.le {tg : Addr → Nat} {K L K' L' : Nat} {H : DH} {x : DL.D} (h : SpR tg K L H x) (k : K ≤ K') (l : L ≤ L') : SpR tg K' L' H x := by
  rcases h with h | ⟨r, ms, rfl, hr, tr, l1, al⟩
  · exact .inl h
  · refine .inr ⟨r, ms, rfl, hr, tr, by omega, fun m hm => ?_⟩
    rcases al m hm with h | ⟨c, gg, t, rest, zs, rfl, hc, hg, tc, tgg, l1, l2⟩
    · exact .inl h
    · exact .inr ⟨c, gg, t, rest, zs, rfl, hc, hg, tc, tgg, by omega, by omega⟩
section
variable {P : Program} {w : World} {K : PySem.W.Frag} {mg : Str → Option Value} {base : Heap}
def sp_spoil : DSp := fun ds H Q _ => ∃ gv tg xs es, ds = [.ref gv] ∧ GvP (TopOk tg H) tg H gv xs es ∧ ∀ H', (∀ a o, H a = some o → tg a = 0 → H' a = some o) → (∀ a o, H a = some o → (∀ xs, o ≠ .lst xs) → H' a = some o) → Q .non H'
theorem ok_spoil (T : Txt P K mg) : DFn P w K mg base 6 T.f__law_spoil T.d__law_spoil ps__law_spoil sp_spoil := by
  refine fn__law_spoil (k := 3) T (ok_spoil_row T) (fun ds H Q E h => ?_) (fun ds H Q E h => ?_)
  · obtain ⟨gv, tg, xs, es, rfl, _⟩ := h; rfl
  · obtain ⟨gv, tg, xs, es, rfl, gvp, q⟩ := h
    have lx := gvp.lx
    have tv := gvp.tv
    unfold rd__law_spoil
    walk_at "dxs"
    refine x_rng1At (n := 4) rfl (by decide) ?_
    refine forRng (fun i σ H' => ∃ (o1 o2 : Option DL.D), σ = [some (.ref gv), o1, o2] ∧ H' gv = some (.lst xs) ∧ (∀ a o, H a = some o → 10 + i ≤ tg a → H' a = some o) ∧ (∀ y, SpR tg 240 3 H y → SpR tg (240 + 410 * i) (3 + 1640000 * i) H' y) ∧ (∀ a o, H a = some o → tg a = 0 → H' a = some o) ∧ (∀ a o, H a = some o → (∀ xs, o ≠ .lst xs) → H' a = some o)) ?_ ?_ ?_
    · exact ⟨_, _, rfl, gvp.hg, fun _ _ e _ => e, fun _ h => h, fun _ _ e _ => e, fun _ _ e _ => e⟩
    · rintro i σ H' hi ⟨o1, o2, rfl, hg, hk, hs, hz, hn⟩
      have e0 : (0 : Int) + (i : Int) = (i : Int) := by omega
      rw [e0]
      obtain ⟨x, hx⟩ : ∃ x, xs[i]? = some x := ⟨_, List.getElem?_eq_getElem (by rw [lx]; exact hi)⟩
      obtain ⟨d, hd⟩ : ∃ x, es[i]? = some x := ⟨_, List.getElem?_eq_getElem (by rw [gvp.ld]; exact hi)⟩
      have ix := atI_nat hx
      have up : ∀ {H1 : DH} y, SpR tg (240 + 410 * i) (3 + 1640000 * i) H1 y → SpR tg (240 + 410 * (i + 1)) (3 + 1640000 * (i + 1)) H1 y := fun {H1} y h => h.le (by omega) (by omega)
      have skip : ∃ (o1' o2' : Option DL.D), [some (.ref gv), some (.int (i : Int)), o2] = [some (.ref gv), o1', o2'] ∧ H' gv = some (.lst xs) ∧ (∀ a o, H a = some o → 10 + (i + 1) ≤ tg a → H' a = some o) ∧ (∀ y, SpR tg 240 3 H y → SpR tg (240 + 410 * (i + 1)) (3 + 1640000 * (i + 1)) H' y) ∧ (∀ a o, H a = some o → tg a = 0 → H' a = some o) ∧ (∀ a o, H a = some o → (∀ xs, o ≠ .lst xs) → H' a = some o) :=
        ⟨_, _, rfl, hg, fun a o e l => hk a o e (by omega), fun y h => up y (hs y h), hz, hn⟩
      have top := gvp.t i x d hx hd
      walk_at "dxs"
      rcases top with ⟨_, rfl, p, _, _⟩ | ⟨ys, ds', rfl, rfl, _, _⟩ | ⟨g, ys, ds', rfl, rfl, hgg, tgg, yl, al⟩
      · obtain ⟨t, ht, hb⟩ := p.nol
        refine x_isi ht (by decide) ?_
        walk_at "dxs"
        rw [hb]
        refine x_iteF rfl ?_
        walk_at "dxs"
        exact skip
      · refine x_isi (t := "tuple") rfl (by decide) ?_
        walk_at "dxs"
        exact skip
      · have hgl := hk g _ hgg (by omega)
        refine x_isiL hgl (by decide) ?_
        walk_at "dxs"
        refine forLst (ds := ys) (fun j σ H'' => ∃ (o2' : Option DL.D), σ = [some (.ref gv), some (.int (i : Int)), o2'] ∧ Grow tg j (4000 * j) H' H'') ?_ (fun j σ H'' h => ?_) ?_ ?_
        · exact ⟨_, rfl, Grow.refl⟩
        · obtain ⟨_, _, gr⟩ := h
          exact gr.a g _ hgl (.inr (by omega))
        · rintro j y σ H'' hy ⟨o2', rfl, gr⟩
          have hj := (List.getElem?_eq_some_iff.mp hy).1
          obtain ⟨e, he⟩ : ∃ e, ds'[j]? = some e := ⟨_, List.getElem?_eq_getElem (by rw [← al.1]; exact hj)⟩
          have sp := (hs y (al.2 j y e hy he).sp).grow gr
          walk_at "dxs"
          rcases sp with ⟨t, ht, hb⟩ | ⟨r, ms, rfl, hr, tr, lm, am⟩
          · refine x_isi ht (by decide) ?_
            walk_at "dxs"
            rw [hb]
            refine x_iteF rfl ?_
            walk_at "dxs"
            exact ⟨_, rfl, gr.mono (by omega) (by omega)⟩
          · refine x_isiL hr (by decide) ?_
            walk_at "dxs"
            refine ⟨r, tg, ms, _, _, rfl, hr, tr, lm, am, by omega, by omega, fun H3 g3 => ?_⟩
            walk_at "dxs"
            exact ⟨_, rfl, (gr.trans g3).mono (by omega) (by omega)⟩
        · rintro σ H'' ⟨o2', rfl, gr⟩
          have hg2 := gr.a gv _ hg (.inl (by omega))
          have hgl2 := gr.a g _ hgl (.inr (by omega))
          have z1 : ys.length < sizeLine := by rw [sizeLine_eq]; omega
          have nvg : gv ≠ g := fun z => by rw [z] at tv; omega
          walk_at "dxs"
          refine ⟨_, _, rfl, (put_ne nvg).trans hg2, fun a o e l => ?_, fun y h => ?_, fun a o e l => ?_, fun a o e l => ?_⟩
          · rw [put_ne (fun z => by rw [z] at l; omega)]
            exact gr.a a o (hk a o e (by omega)) (.inr (by omega))
          · exact (((hs y h).grow gr).put10 (by omega)).le (by omega) (by omega)
          · rw [put_ne (fun z => by rw [z] at l; omega)]
            exact gr.a a o (hz a o e l) (.inl (by omega))
          · rw [put_ne (fun z => by rw [z, hgg] at e; cases e; exact l _ rfl)]
            exact gr.c a o (hn a o e l) l
    · rintro σ H' ⟨o1, o2, rfl, hg, hk, hs, hz, hn⟩
      exact ⟨_, Sub.refl _, q H' hz hn⟩
end
end K02

namespace K02
open PySem PySem.Spec PyProof.Rows L2 DL
theorem depB_ok {d0 d1 d2 d3 : DL.D} (h : FaultIs d0 d1 d2 d3 none) (w2 : wt d2 ≤ 100000) (w3 : wt d3 ≤ 100000) : DepB d0 d1 d2 (mkD (lenD d0) d3) ∧ ∃ n xs0 t gs ms rs, d0 = .tup xs0 ∧ d2 = .tup (.tup (.tup [.int t, .tup gs] :: ms) :: rs) ∧ n = gs.length ∧ gs.length ≤ 3 := by
  cases h with
  | @ok n ys0 ys1 ys2 ys3 sh hok =>
  obtain ⟨rfl, rfl, rfl, rfl, m0, m1, m2, m3, n1, n2⟩ := sh
  have wl : ∀ {ys : List DL.D}, wt (.tup ys) ≤ 100000 → ys.length ≤ 100000 := fun {ys} h => by
    have := wts_len ys
    rw [wt] at h
    omega
  have wtm : ∀ {ys : List DL.D} {i : Nat} {y : DL.D}, wt (.tup ys) ≤ 100000 → ys[i]? = some y → wt y ≤ 100000 := fun {ys i y} h e => by
    have := wts_mem e
    rw [wt] at h
    omega
  have dg : ∀ {wd : Int} {g : DL.D}, GainsP wd g → Dep 1 g := fun {wd g} ⟨gs, e, l, l3, gi⟩ => by
    subst e
    refine .tup (by omega) fun x hx => ?_
    obtain ⟨i, hi⟩ := List.mem_iff_getElem?.mp hx
    obtain ⟨v, e, _⟩ := gi i x hi
    subst e
    exact .int _ _
  have i0 : ∀ x ∈ ys0, Dep 3 x := fun x hx => by
    obtain ⟨i, hi⟩ := List.mem_iff_getElem?.mp hx
    obtain ⟨v, rfl, _⟩ := plB_iff.mp ((hok i (by have := (List.getElem?_eq_some_iff.mp hi).1; omega)).ow x hi)
    exact .int _ _
  have i1 : ∀ x ∈ ys1, Dep 3 x := fun x hx => by
    obtain ⟨i, hi⟩ := List.mem_iff_getElem?.mp hx
    obtain ⟨v, rfl, _⟩ := plB_iff.mp ((hok i (by have := (List.getElem?_eq_some_iff.mp hi).1; omega)).rk x hi)
    exact .int _ _
  have i2 : ∀ x ∈ ys2, Dep 3 x := fun x hx => by
    obtain ⟨i, hi⟩ := List.mem_iff_getElem?.mp hx
    obtain ⟨ms, rfl, _, mok⟩ := (hok i (by have := (List.getElem?_eq_some_iff.mp hi).1; omega)).mv x hi
    refine .tup (wl (wtm w2 hi)) fun m hm => ?_
    obtain ⟨j, hj⟩ := List.mem_iff_getElem?.mp hm
    obtain ⟨t, g, mp⟩ := mok j (List.getElem?_eq_some_iff.mp hj).1
    have := mp.at_
    rw [hj] at this
    cases this
    refine .tup (by simp) fun u hu => ?_
    simp only [List.mem_cons, List.not_mem_nil, or_false] at hu
    rcases hu with rfl | rfl
    · exact .int _ _
    · exact dg mp.gp
  have im : ∀ {k : DL.D}, MarksP k → wt k ≤ 100000 → Dep 3 k := fun {k} ⟨zs, e, mz⟩ wk => by
    subst e
    refine .tup (wl wk) fun z hz => ?_
    obtain ⟨j, hj⟩ := List.mem_iff_getElem?.mp hz
    obtain ⟨s, rfl, _⟩ := mz.nm j z hj
    exact .str _ _
  refine ⟨⟨.tup (by omega) i0, .tup (by omega) i1, .tup (by omega) i2, ?_⟩, ?_⟩
  · have key : ∀ ks : List DL.D, ks.length ≤ 100000 → (∀ k ∈ ks, Dep 3 k) → Dep 4 (.tup ks) := fun ks l h => .tup l h
    cases ys3 with
    | nil =>
      show Dep 4 (.tup (List.replicate (lenD (.tup ys0)) (.tup [])))
      refine key _ ?_ fun k hk => ?_
      · rw [List.length_replicate]
        show ys0.length ≤ _
        omega
      · have := List.eq_of_mem_replicate hk
        subst this
        exact .tup (by simp) (by simp)
    | cons y ys =>
      show Dep 4 (.tup (y :: ys))
      refine key _ (wl w3) fun k hk => ?_
      obtain ⟨i, hi⟩ := List.mem_iff_getElem?.mp hk
      have li := (List.getElem?_eq_some_iff.mp hi).1
      exact im ((hok i (by simp only [List.length_cons] at m3 li; omega)).mks k hi) (wtm w3 hi)
  · obtain ⟨m, hm⟩ : ∃ m, ys2[0]? = some m := ⟨_, List.getElem?_eq_getElem (by omega)⟩
    obtain ⟨ms, rfl, mne, mok⟩ := (hok 0 (by omega)).mv m hm
    obtain ⟨t, g, mp⟩ := mok 0 (List.length_pos_iff.mpr mne)
    have := mp.at_
    obtain ⟨gs, rfl, gl, g3, _⟩ := mp.gp
    cases ms with
    | nil => exact absurd rfl mne
    | cons m1 ms =>
      simp at this
      subst this
      cases ys2 with
      | nil => simp at hm
      | cons r rs =>
        simp at hm
        subst hm
        exact ⟨_, ys0, t, gs, ms, rs, rfl, rfl, rfl, by omega⟩
section
variable {P : Program} {w : World} {K : PySem.W.Frag} {mg : Str → Option Value} {base : Heap}
def sp_width (T : Txt P K mg) : DSp := fun ds H Q _ => ∃ bd d0 d1 d3 t gs ms rs, ds = [.ref bd] ∧ H bd = some (.ins T.C_Board (fsB d0 d1 (.tup (.tup (.tup [.int t, .tup gs] :: ms) :: rs)) d3)) ∧ Q (.int (gs.length : Int)) H
theorem ok_width (T : Txt P K mg) : DFn P w K mg base 3 T.f_Board_width T.d_Board_width ps_Board_width (sp_width T) := by
  refine fn_Board_width (k := 0) T (fun ds H Q E h => ?_) (fun ds H Q E h => ?_)
  · obtain ⟨bd, d0, d1, d3, t, gs, ms, rs, rfl, _⟩ := h; rfl
  · obtain ⟨bd, d0, d1, d3, t, gs, ms, rs, rfl, hb, q⟩ := h
    have cB := T.c_Board
    have nM := T.n_Board_moves
    unfold fsB at hb
    have i1 : L2.atI ((DL.D.tup (.tup [.int t, .tup gs] :: ms)) :: rs) 0 = some (.tup (.tup [.int t, .tup gs] :: ms)) := atI_nat (i := 0) rfl
    have i2 : L2.atI ((DL.D.tup [.int t, .tup gs]) :: ms) 0 = some (.tup [.int t, .tup gs]) := atI_nat (i := 0) rfl
    have i3 : L2.atI [DL.D.int t, .tup gs] 1 = some (.tup gs) := rfl
    unfold rd_Board_width
    walk_at "dxs"
    exact ⟨_, Sub.refl _, q⟩
end
end K02

namespace K02
open PySem PySem.Spec PyProof.Rows L2 DL
theorem GvP.setx {tg : Addr → Nat} {H : DH} {gv : Addr} {xs es : List DL.D} (h : GvP (TopOk tg H) tg H gv xs es) {k : Nat} {x d : DL.D} (hd : es[k]? = some d) (hx : TopOk tg H k x d) : GvP (TopOk tg (put H gv (.lst (xs.set k x)))) tg (put H gv (.lst (xs.set k x))) gv (xs.set k x) es := by
  have s : Sw TopOk (fun _ => none) H gv gv tg xs es := ⟨fun a o _ e => (by cases e), ⟨_, h.hg⟩, fun a _ => rfl, h⟩
  have := (s.set (k := k) TopOk.ext hx).gv
  have e : es.set k d = es := by
    apply List.ext_getElem?
    intro j
    by_cases c : k = j
    · subst c
      rw [List.getElem?_set_self (List.getElem?_eq_some_iff.mp hd).1, hd]
    · rw [List.getElem?_set_ne c]
  rw [e] at this
  exact this
section
variable {P : Program} {w : World} {K : PySem.W.Frag} {mg : Str → Option Value} {base : Heap}
def sp_right : DSp := fun ds H Q _ => ∃ gv tg xs es, ∃ (li sh : Int), ds = [.ref gv, .int li, .int sh] ∧ GvP (TopOk tg H) tg H gv xs es ∧ ∀ H', (∀ a o, H a = some o → tg a = 0 → H' a = some o) → Q (.bl true) H'
theorem ok_right (T : Txt P K mg) : DFn P w K mg base 21 T.f__law_right T.d__law_right ps__law_right sp_right := by
  refine fn__law_right (k := 18) T ((ok_fault T).mono (by decide)) ((ok_lfrozen T).mono (by decide)) ((ok_told T).mono (by decide)) ((ok_same T 0).mono (by decide)) (ok_is_board T) ((ok_spoil T).mono (by decide)) ((ok_width T).mono (by decide)) (fun ds H Q E h => ?_) (fun ds H Q E h => ?_)
  · obtain ⟨gv, tg, xs, es, li, sh, rfl, _⟩ := h; rfl
  · obtain ⟨gv, tg, xs, es, li, sh, rfl, gvp, q⟩ := h
    have tv := gvp.tv
    unfold rd__law_right
    generalize hT : dSeq (dSet (dCall (sp_told T) _ _) 5) _ = RT
    generalize hR : dSeq (dSet (dC .non) 4) _ = R1
    walk_at "dxs"
    obtain ⟨x0, x1, x2, x3, d0, d1, d2, d3, rfl, rfl, t0, t1, t2, t3⟩ := gvp.four
    refine ⟨gv, x0, x1, x2, x3, d0, d1, d2, d3, rfl, gvp.hg, ⟨t0.frz.1, t1.frz.1, t2.frz.1, t3.frz.1⟩, ⟨t0.frz.2.2, t1.frz.2.2, t2.frz.2.2, t3.frz.2.2⟩, ⟨t0.frz.2.1, t1.frz.2.1, t2.frz.2.1, t3.frz.2.1⟩, fun r hr => ?_⟩
    clear t0 t1 t2 t3
    -- the rest
    have tail : ∀ (H1 : DH) (xs : List DL.D) (o6 : Option DL.D), GvP (TopOk tg H1) tg H1 gv xs [d0, d1, d2, d3] → (∀ a o, H a = some o → tg a = 0 → H1 a = some o) → R1 (endsOf Q E) [some (.ref gv), some (.int li), some (.int sh), some (optD r), none, none, o6] H1 := by
      intro H1 xs o6 gvp kp
      subst hR
      obtain ⟨x0, x1, x2, x3, _, _, _, _, rfl, ee, t0, t1, t2, t3⟩ := gvp.four
      cases ee
      have hg := gvp.hg
      have k3 : L2.atI [x0, x1, x2, x3] 3 = some x3 := rfl
      have fz := And.intro t0.frz.1 (And.intro t1.frz.1 (And.intro t2.frz.1 t3.frz.1))
      have wz := And.intro t0.frz.2.2 (And.intro t1.frz.2.2 (And.intro t2.frz.2.2 t3.frz.2.2))
      have pz := And.intro t0.frz.2.1 (And.intro t1.frz.2.1 (And.intro t2.frz.2.1 t3.frz.2.1))
      obtain ⟨us, ds3, iu, e3, lu⟩ : ∃ us ds3, Items H1 x3 us ∧ d3 = .tup ds3 ∧ us.length = ds3.length := by
        rcases t3 with ⟨z, _⟩ | ⟨ys, ds', rfl, rfl, _, al⟩ | ⟨g, ys, ds', rfl, rfl, hgg, _, _, al⟩
        · omega
        · exact ⟨_, _, .tup, rfl, al.1⟩
        · exact ⟨_, _, .lst hgg, rfl, al.1⟩
      have tt : ∀ fD : DL.D, (r = none → fD = .tup [d0, d1, d2, mkD (lenD d0) d3]) → RT (endsOf Q E) [some (.ref gv), some (.int li), some (.int sh), some (optD r), some fD, none, o6] H1 := by
        intro fD hfD
        subst hT
        have told : ∀ (bs : Bool) (k : DK) (E' : DX), (bs = true → d3 = .tup []) → (∀ bd, H1 bd = none → r = none → k (.tup [.str "board", .ref bd]) (put H1 bd (.ins T.C_Board (fsB d0 d1 d2 (mkD (lenD d0) d3))))) → (∀ i, r = some i → k (.tup [.str "place", .int i]) H1) → sp_told T [.ref gv, .bl bs] H1 k E' := fun bs k E' hbs k1 k2 =>
          ⟨gv, x0, x1, x2, x3, d0, d1, d2, d3, bs, rfl, hg, fz, wz, pz, hbs, fun hf bd hbd => k1 bd hbd (hr.uniq hf), fun i hf => k2 i (hr.uniq hf)⟩
        generalize hU : dSeq (dIfS (dTest (dOp dNotN (dVar 3) _)) _ _) _ = RU
        have tu1 : ∀ bd, H1 bd = none → r = none → RU (endsOf Q E) [some (.ref gv), some (.int li), some (.int sh), some (optD r), some fD, some (.tup [.str "board", .ref bd]), o6] (put H1 bd (.ins T.C_Board (fsB d0 d1 d2 (mkD (lenD d0) d3)))) := by
          intro bd hbd er
          subst er
          have := hfD rfl
          subst this
          subst hU
          have y0 : L2.atI [DL.D.str "board", .ref bd] 0 = some (.str "board") := rfl
          have y1 : L2.atI [DL.D.str "board", .ref bd] 1 = some (.ref bd) := rfl
          obtain ⟨dp, n, xs0, t, gs, ms, rs, _, e2, _, gl⟩ := depB_ok hr wz.2.2.1 wz.2.2.2
          have gv2 : GvP (TopOk tg (put H1 bd (.ins T.C_Board (fsB d0 d1 d2 (mkD (lenD d0) d3))))) tg (put H1 bd (.ins T.C_Board (fsB d0 d1 d2 (mkD (lenD d0) d3)))) gv [x0, x1, x2, x3] [d0, d1, d2, d3] := ⟨put_old hg hbd, tv, rfl, rfl, fun k x d e1 e2 => (gvp.t k x d e1 e2).ext (ExtA.new0 hbd)⟩
          have kp2 : ∀ a o, H a = some o → tg a = 0 → put H1 bd (.ins T.C_Board (fsB d0 d1 d2 (mkD (lenD d0) d3))) a = some o := fun a o e t => put_old (kp a o e t) hbd
          have hbb : put H1 bd (.ins T.C_Board (fsB d0 d1 d2 (mkD (lenD d0) d3))) bd = some (.ins T.C_Board (fsB d0 d1 d2 (mkD (lenD d0) d3))) := put_same
          generalize hG : put H1 bd _ = G1 at gv2 kp2 hbb ⊢
          clear hG
          walk_at "dxs"
          refine x_neD (.str 0 _) (.str 0 _) (by decide) fun c hc => ?_
          rw [hc.mpr rfl]
          refine ⟨_, rfl, ?_⟩
          refine x_iteF rfl ?_
          walk_at "dxs"
          refine ⟨bd, d0, d1, d2, _, rfl, hbb, dp, ?_⟩
          walk_at "dxs"
          refine ⟨gv, tg, _, _, rfl, gv2, fun H3 hz hn => ?_⟩
          have hb3 := hn bd _ hbb fun xs z => by cases z
          walk_at "dxs"
          refine ⟨bd, d0, d1, d2, _, rfl, hb3, dp, ?_⟩
          subst e2
          have i2 : L2.atI [d0, d1, DL.D.tup (.tup (.tup [.int t, .tup gs] :: ms) :: rs), mkD (lenD d0) d3] 2 = some (.tup (.tup (.tup [.int t, .tup gs] :: ms) :: rs)) := rfl
          have i3 : L2.atI (DL.D.tup (.tup [.int t, .tup gs] :: ms) :: rs) 0 = some (.tup (.tup [.int t, .tup gs] :: ms)) := atI_nat (i := 0) rfl
          have i4 : L2.atI (DL.D.tup [.int t, .tup gs] :: ms) 0 = some (.tup [.int t, .tup gs]) := atI_nat (i := 0) rfl
          have i5 : L2.atI [DL.D.int t, .tup gs] 1 = some (.tup gs) := rfl
          walk_at "dxs"
          refine ⟨bd, d0, d1, _, t, gs, ms, rs, rfl, hb3, ?_⟩
          walk_at "dxs"
          refine ⟨_, rfl, .int _ _, ?_⟩
          exact ⟨_, Sub.refl _, q H3 fun a o e t => hz a o (kp2 a o e t) t⟩
        have tu2 : ∀ i, r = some i → RU (endsOf Q E) [some (.ref gv), some (.int li), some (.int sh), some (optD r), some fD, some (.tup [.str "place", .int i]), o6] H1 := by
          intro i er
          subst er
          subst hU
          have y0 : L2.atI [DL.D.str "place", .int i] 0 = some (.str "place") := rfl
          have y1 : L2.atI [DL.D.str "place", .int i] 1 = some (.int i) := rfl
          walk_at "dxs"
          refine x_eqD (.str 0 _) (.str 0 _) (by decide) fun c hc => ?_
          rw [hc.mpr rfl]
          refine ⟨_, rfl, ?_⟩
          refine x_iteT rfl ?_
          walk_at "dxs"
          refine ⟨.int i, rfl, .int _ _, ?_⟩
          exact ⟨_, Sub.refl _, q H1 kp⟩
        walk_at "dxs"
        refine x_ite (fun c => ?_) fun c => ?_
        · walk_at "dxs"
          refine iu.len (Sub.refl _) ?_
          walk_at "dxs"
          refine told (decide ((us.length : Int) = 0)) _ _ (fun z => ?_) ?_ ?_
          · have := of_decide_eq_true z
            rw [e3, List.length_eq_zero_iff.mp (show ds3.length = 0 by omega)]
          · exact tu1
          · exact tu2
        · walk_at "dxs"
          refine told false _ _ (fun z => ?_) ?_ ?_
          · cases z
          · exact tu1
          · exact tu2
      walk_at "dxs"
      cases r with
      | none =>
        refine x_iteT rfl ?_
        walk_at "dxs"
        refine ⟨gv, x0, x1, x2, x3, d0, d1, d2, d3, rfl, hg, fz, wz, hr, ?_⟩
        exact tt _ fun _ => rfl
      | some i =>
        refine x_iteF rfl ?_
        refine x_next ?_
        exact tt _ fun z => by cases z
    walk_at "dxs"
    refine x_ite (fun c => ?_) fun c => ?_
    · walk_at "dxs"
      refine x_rng1At (n := 4) rfl (by decide) ?_
      refine forRng (fun i σ H' => ∃ (o6 : Option DL.D) (xs : List DL.D), σ = [some (.ref gv), some (.int li), some (.int sh), some (optD r), none, none, o6] ∧ GvP (TopOk tg H') tg H' gv xs [d0, d1, d2, d3] ∧ (∀ a o, H a = some o → tg a = 0 → H' a = some o)) ?_ ?_ ?_
      · exact ⟨_, _, rfl, gvp, fun _ _ e _ => e⟩
      · rintro i σ H' hi ⟨o6, xs, rfl, gp, kp⟩
        have e0 : (0 : Int) + (i : Int) = (i : Int) := by omega
        rw [e0]
        obtain ⟨x, hx⟩ : ∃ x, xs[i]? = some x := ⟨_, List.getElem?_eq_getElem (by rw [gp.lx]; exact hi)⟩
        obtain ⟨d, hd⟩ : ∃ x, [d0, d1, d2, d3][i]? = some x := ⟨_, List.getElem?_eq_getElem hi⟩
        have ix := atI_nat hx
        have hg := gp.hg
        have top := gp.t i x d hx hd
        walk_at "dxs"
        rcases top with ⟨_, rfl, p, _, _⟩ | ⟨ys, ds', rfl, rfl, _, _⟩ | ⟨g, ys, ds', rfl, rfl, hgg, tgg, yl, al⟩
        · obtain ⟨t, ht, hb⟩ := p.nol
          refine x_isi ht (by decide) ?_
          walk_at "dxs"
          rw [hb]
          refine x_iteF rfl ?_
          walk_at "dxs"
          exact ⟨_, _, rfl, gp, kp⟩
        · refine x_isi (t := "tuple") rfl (by decide) ?_
          walk_at "dxs"
          exact ⟨_, _, rfl, gp, kp⟩
        · refine x_isiL hgg (by decide) ?_
          walk_at "dxs"
          refine x_setIx hg (ixN_nat (by rw [gp.lx]; exact hi)) ⟨_, _, rfl, gp.setx hd (.inr (.inl ⟨ys, ds', rfl, rfl, yl, al⟩)), fun a o e t => ?_⟩
          rw [put_ne (fun z => by rw [z] at t; omega)]
          exact kp a o e t
      · rintro σ H' ⟨o6, xs, rfl, gp, kp⟩
        exact tail H' xs o6 gp kp
    · refine x_next ?_
      exact tail H _ none gvp fun _ _ e _ => e
end
end K02

namespace K02
open PySem PySem.Spec PyProof.Rows L2 DL
theorem Bg.two {H H' : DH} {b g : Addr} {n : Nat} (h : Bg H b g n) (k : ∀ a o, a = b ∨ a = g → H a = some o → H' a = some o) : Bg H' b g n := by
  obtain ⟨gs, ix, rest, seed, cnt, v⟩ := h
  exact ⟨gs, ix, rest, seed, cnt, k _ _ (.inl rfl) v.hb, k _ _ (.inr rfl) v.hg, v.gs, v.ix, v.r, v.s0, v.s1, v.c0, v.c1⟩
theorem St.bare {G0 H : DH} {b g w gv c : Addr} {A : AW} {W : Wd} {nn m : Nat} {tg : Addr → Nat} {xs ds : List DL.D} (h : St G0 H b g w gv A W nn m tg xs ds) (hc : H c = none) :
    St G0 (DL.put (DL.put H c (.lst [])) gv (.lst (xs.set 3 (.ref c)))) b g w gv A W nn m (K02.tag tg c 13) (xs.set 3 (.ref c)) (ds.set 3 (.tup [])) := by
  have gc : G0 c = none := none_keep h.kp (fun x hx => by rw [List.mem_singleton] at hx; rw [hx]; exact h.bg.there) hc
  have ncv : gv ≠ c := dne_of_none h.gv.hg hc
  have nv := h.ne (a := gv) (by rw [h.gv.tv]; decide)
  obtain ⟨nbc, ngc⟩ := h.bg.fresh hc
  have ex : ExtA tg (K02.tag tg c 13) H (DL.put (DL.put H c (.lst [])) gv (.lst (xs.set 3 (.ref c)))) := (ExtA.new hc).trans (ExtA.put (by rw [tag_ne ncv, h.gv.tv]; decide))
  refine { h with kp := fun a o n e => ?_, tgs := h.tgs.tag gc, bg := (h.bg.put nbc ngc).put nv.1 nv.2, gv := ⟨put_same, by rw [tag_ne ncv]; exact h.gv.tv, by rw [List.length_set]; exact h.gv.lx, by rw [List.length_set]; exact h.gv.ld, fun j x d e1 e2 => ?_⟩ }
  · rw [put_ne (dne_of_none e (h.tgs gv (by rw [h.gv.tv]; decide))), put_ne (dne_of_none e gc)]
    exact h.kp a o n e
  · by_cases c3 : 3 = j
    · subst c3
      rw [List.getElem?_set_self (by rw [h.gv.lx]; decide)] at e1
      rw [List.getElem?_set_self (by rw [h.gv.ld]; decide)] at e2
      cases e1; cases e2
      exact ⟨c, [], [], rfl, rfl, by rw [put_ne (Ne.symm ncv)]; exact put_same, tag_same, .inr ⟨rfl, rfl⟩, All2.nil⟩
    · rw [List.getElem?_set_ne c3] at e1 e2
      exact (h.gv.t j x d e1 e2).ext ex
theorem GvP.topB {n : Nat} {tg : Addr → Nat} {H : DH} {gv : Addr} {xs ds : List DL.D} (h : GvP (TopB n tg H) tg H gv xs ds) (l : n ≤ 410) : GvP (TopOk tg H) tg H gv xs ds := ⟨h.hg, h.tv, h.lx, h.ld, fun k x d e1 e2 => .inr (.inr ((h.t k x d e1 e2).l l))⟩
section
variable {P : Program} {w : World} {K : PySem.W.Frag} {mg : Str → Option Value} {base : Heap}
theorem ok_law (T : Txt P K mg) : DFn P w K mg base 24 T.f_law T.d_law ps_law spLaw := by
  refine fn_law (k := 21) T ((ok_bag T).mono (by decide)) ((ok_take T).mono (by decide)) ((ok_world T).mono (by decide)) ((ok_size T).mono (by decide)) ((ok_grow T).mono (by decide)) (ok_right T) ((ok_given T).mono (by decide)) ((ok_bend T).mono (by decide)) ((ok_bend_whole T).mono (by decide)) ((ok_same T 1).mono (by decide)) (fun ds H Q E h => ?_) (fun ds H Q E h => ?_)
  · obtain ⟨ns, rfl, _⟩ := h; rfl
  · obtain ⟨ns, rfl, hns, q⟩ := h
    unfold rd_law
    generalize hZ : dSeq (dSet (dTup _) 11) _ = RZ
    generalize hY : dSeq (dIfS (dNot (dTest (dCall sp_right _ _))) _ _) RZ = RY
    generalize hX : dSeq (dIfS (dTest (dOp dEq (dVar 3) _)) _ _) RY = RX
    generalize hW : dSeq (dFor _ _ _) RX = RW
    generalize hV : dSeq (dIfS (dTest (dOp dEq (dVar 6) _)) _ _) RW = RV
    generalize hU : dSeq (dSet (dCall sp_given _ _) 9) RV = RU
    generalize hT : dSeq (dIfS (dNot (dTest (dCall sp_right _ _))) _ _) RU = RT
    walk_at "dxs"
    refine ⟨ns, rfl, hns, fun b g H1 hb0 s1 hb1 => ?_⟩
    walk_at "dxs"
    refine ⟨b, g, 3, 999999999999, rfl, hb1, by decide, by decide, fun bends H2 be off hb2 => ?_⟩
    clear off
    walk_at "dxs"
    refine ⟨b, g, 4, 999999999998, rfl, hb2, by decide, by decide, fun whole H3 _ off hb3 => ?_⟩
    clear off
    walk_at "dxs"
    refine ⟨b, g, 12, 999999999997, rfl, hb3, by decide, by decide, fun grown H4 _ off hb4 => ?_⟩
    clear off
    walk_at "dxs"
    refine ⟨b, g, 2, 999999999996, rfl, hb4, by decide, by decide, fun lists H5 _ off hb5 => ?_⟩
    clear off
    walk_at "dxs"
    refine ⟨b, g, 4, 999999999995, rfl, hb5, by decide, by decide, fun bare H6 _ off hb6 => ?_⟩
    clear off
    walk_at "dxs"
    refine ⟨b, g, 2, 999999999994, rfl, hb6, by decide, by decide, fun short H7 _ off hb7 => ?_⟩
    clear off
    walk_at "dxs"
    refine ⟨b, g, 999999999983, rfl, hb7.le (by omega), fun z H8 z1 z12 off hb8 => ?_⟩
    clear off
    walk_at "dxs"
    refine ⟨b, g, 4, 999999999982, rfl, hb8, by decide, by decide, fun wd H9 wd4 off hb9 => ?_⟩
    clear off
    walk_at "dxs"
    refine ⟨b, g, z, wd, 999999000000, rfl, hb9.le (by omega), z1, z12, by omega, fun wa A W HA ws hbA wp => ?_⟩
    have nbA := ws.nb hb9
    have ngA : g ∉ A.ft wa := fun z => by
      obtain ⟨u, e⟩ := hb9.there2
      rw [ws.fr _ z] at e; cases e
    have wAt := ws.wa
    have wg := wp.g (show wd ≤ 3 by omega)
    have r12 : ∀ row ∈ W.mv, row.length ≤ 12 := fun row hr => (wp.m row hr).1
    clear ws hb9 hb8 hb7 hb6 hb5 hb4 hb3 hb2
    have tT : ∀ (HB : DH) (A : AW) (W : Wd) (nn : Nat), WAt HB wa W A → WdG nn W → 1 ≤ nn → nn ≤ 401 → b ∉ A.ft wa → Bg HB b g 999998000000 → RT (endsOf Q E) [some (.fl (ns.map D.int)), some (.ref b), some (.int (bends : Int)), some (.int (whole : Int)), some (.int (grown : Int)), some (.int (lists : Int)), some (.int (bare : Int)), some (.int (short : Int)), some (.ref wa), none, none, none] HB := by
      intro HB A W nn wAt wg nn1 nn2 nbA hbB
      subst hT
      walk_at "dxs"
      refine ⟨wa, A, W, nn, (lists : Int), rfl, wAt, wg, nn2, fun gv tg xs ds HC sC tgs gvp => ?_⟩
      walk_at "dxs"
      refine ⟨gv, tg, xs, ds, (lists : Int), (short : Int), rfl, gvp.topB (by omega), fun HD hz => ?_⟩
      have sD : DL.Sub HB HD := fun a o e => hz a o (sC a o e) (tgs.old ⟨o, e⟩)
      have wAtD : WAt HD wa W A := wAt.keep (F := []) (Keep.sub sD) (by simp)
      have hbD : Bg HD b g 999998000000 := hbB.to fun a xs e => sD _ _ e
      clear sC tgs gvp hz sD wAt hbB
      walk_at "dxs"
      subst hU
      walk_at "dxs"
      refine ⟨wa, A, W, nn, (lists : Int), rfl, wAtD, wg, nn2, fun gv tg xs ds HC sC tgs gvp => ?_⟩
      have st : St HD HC b g wa gv A W nn 999998000000 tg xs ds := ⟨wAtD, wg, nn1, nn2, Keep.sub sC, nbA, hbD.there, hbD.there2, tgs, hbD.to fun a xs e => sC _ _ e, gvp⟩
      have tZ : ∀ (HE : DH) (x9 o10 : Option DL.D), WAt HE wa W A → RZ (endsOf Q E) [some (.fl (ns.map D.int)), some (.ref b), some (.int (bends : Int)), some (.int (whole : Int)), some (.int (grown : Int)), some (.int (lists : Int)), some (.int (bare : Int)), some (.int (short : Int)), some (.ref wa), x9, o10, none] HE := by
        intro HE x9 o10 wAtE
        subst hZ
        walk_at "dxs"
        refine ⟨_, rfl, .tup (by simp) (fun x hx => ?_), ?_⟩
        · simp only [List.mem_cons, List.not_mem_nil, or_false] at hx
          rcases hx with rfl | rfl | rfl | rfl <;> exact .int _ _
        walk_at "dxs"
        refine ⟨wa, A, W, nn, (lists : Int), rfl, wAtE, wg, nn2, fun gv tg xs ds HC sC tgs gvp => ?_⟩
        walk_at "dxs"
        refine ⟨gv, tg, xs, ds, (lists : Int), (short : Int), rfl, gvp.topB (by omega), fun HD hz => ?_⟩
        exact ⟨_, Sub.refl _, q _⟩
      have tY : ∀ (HE : DH) (o10 : Option DL.D) (tg : Addr → Nat) (xs es : List DL.D), Sw TopOk HD HE b gv tg xs es → RY (endsOf Q E) [some (.fl (ns.map D.int)), some (.ref b), some (.int (bends : Int)), some (.int (whole : Int)), some (.int (grown : Int)), some (.int (lists : Int)), some (.int (bare : Int)), some (.int (short : Int)), some (.ref wa), some (.ref gv), o10, none] HE := by
        intro HE o10 tg xs es sw
        subst hY
        walk_at "dxs"
        refine ⟨gv, tg, xs, es, (lists : Int), (short : Int), rfl, sw.gv, fun HF hz => ?_⟩
        walk_at "dxs"
        exact tZ HF _ o10 (wAtD.keep (F := [b]) (fun a o n e => hz a o (sw.kp a o n e) (sw.tgs.old ⟨o, e⟩)) fun a ha z => nbA (by rw [List.mem_singleton] at z; exact z ▸ ha))
      have tX : ∀ (HE : DH) (o10 : Option DL.D) (tg : Addr → Nat) (xs es : List DL.D), St HD HE b g wa gv A W nn 1000 tg xs es → RX (endsOf Q E) [some (.fl (ns.map D.int)), some (.ref b), some (.int (bends : Int)), some (.int (whole : Int)), some (.int (grown : Int)), some (.int (lists : Int)), some (.int (bare : Int)), some (.int (short : Int)), some (.ref wa), some (.ref gv), o10, none] HE := by
        intro HE o10 tg xs es st
        subst hX
        walk_at "dxs"
        refine x_ite (fun c => ?_) fun c => ?_
        · walk_at "dxs"
          refine ⟨HD, b, g, wa, gv, A, W, nn, 980, tg, xs, es, rfl, st, fun tg' xs' es' HF sw => ?_⟩
          walk_at "dxs"
          exact tY HF o10 tg' xs' es' sw
        · refine x_next ?_
          exact tY HE o10 tg xs es st.w.ok
      have tW : ∀ (HE : DH) (tg : Addr → Nat) (xs es : List DL.D), St HD HE b g wa gv A W nn 999998000000 tg xs es → RW (endsOf Q E) [some (.fl (ns.map D.int)), some (.ref b), some (.int (bends : Int)), some (.int (whole : Int)), some (.int (grown : Int)), some (.int (lists : Int)), some (.int (bare : Int)), some (.int (short : Int)), some (.ref wa), some (.ref gv), none, none] HE := by
        intro HE tg xs es st
        subst hW
        walk_at "dxs"
        refine x_rng1At (n := bends) rfl (by omega) ?_
        refine forRng (fun i σ H' => ∃ (o10 : Option DL.D) (tg : Addr → Nat) (es : List DL.D), σ = [some (.fl (ns.map D.int)), some (.ref b), some (.int (bends : Int)), some (.int (whole : Int)), some (.int (grown : Int)), some (.int (lists : Int)), some (.int (bare : Int)), some (.int (short : Int)), some (.ref wa), some (.ref gv), o10, none] ∧ St HD H' b g wa gv A W nn (999998000000 - 200 * i) tg xs es) ?_ ?_ ?_
        · exact ⟨_, _, _, rfl, st⟩
        · rintro i σ H' hi ⟨o10, tg, es, rfl, st⟩
          walk_at "dxs"
          refine ⟨HD, b, g, wa, gv, A, W, nn, 999998000000 - 200 * (i + 1), tg, xs, es, rfl, st.le (by omega), fun tg' es' HF st' => ?_⟩
          walk_at "dxs"
          exact ⟨_, _, _, rfl, st'⟩
        · rintro σ H' ⟨o10, tg, es, rfl, st⟩
          exact tX H' o10 tg xs es (st.le (by omega))
      show RV (endsOf Q E) [some (.fl (ns.map D.int)), some (.ref b), some (.int (bends : Int)), some (.int (whole : Int)), some (.int (grown : Int)), some (.int (lists : Int)), some (.int (bare : Int)), some (.int (short : Int)), some (.ref wa), some (.ref gv), none, none] HC
      subst hV
      have hg := st.gv.hg
      walk_at "dxs"
      refine x_ite (fun c => ?_) fun c => ?_
      · walk_at "dxs"
        intro c hc
        have hgg := put_old (o := .lst []) hg hc
        walk_at "dxs"
        refine x_setIx hgg (j := 3) (by rw [st.gv.lx]; rfl) ?_
        exact tW _ _ _ _ (st.bare hc)
      · refine x_next ?_
        exact tW HC tg xs ds st
    walk_at "dxs"
    refine x_ite (fun c => ?_) fun c => ?_
    · walk_at "dxs"
      refine ⟨b, g, 3, 999998999999, rfl, hbA, by decide, by decide, fun u HB u1 off hbB => ?_⟩
      walk_at "dxs"
      refine ⟨wa, A, W, z, 399 + u, rfl, wAt.keep (Keep.off off) (fun a ha e => nbA (by rw [List.mem_singleton] at e; exact e ▸ ha)), wg, r12, z1, z12, by omega, by omega, fun A' W' HC kC wC wgC frC => ?_⟩
      walk_at "dxs"
      refine tT HC A' W' (399 + u) wC wgC (by omega) (by omega) (fun h => ?_) ((hbB.two fun a o h e => kC a o (fun z => by rcases h with rfl | rfl; exact nbA z; exact ngA z) e).le (by omega))
      rcases frC _ h with h | h
      · exact nbA h
      · obtain ⟨o, e⟩ := hbB.there
        rw [h] at e; cases e
    · refine x_next ?_
      exact tT HA A W z wAt wg z1 (by omega) nbA (hbA.le (by omega))
end
end K02

namespace K02
open PySem PySem.Spec PyProof.Rows L2 DL
theorem walk {l : PySem.W.OpenLaw} {q : Program} {loose : List Str} {XP : (Str → Option Value) → Heap → Prop} {YP : World → Heap → Prop} {d : DefRec} {K : Params → PySem.W.Frag} (hn : l.most = some 63) (hdf : d.params.defaults = []) (hnm : d.name = "law")
    (hY : ∀ (w : World) (h : Heap), YP w h → (K w.params).In h)
    (F : ∀ (w : World) (mg : Str → Option Value) (h : Heap), (K w.params).In h → h.Ns mainGlobals mg → ∃ (T : Txt l.prog (K w.params) mg) (kV doc pm : Value) (an : Option Addr) (cd ct : Value), T.d_law = PySem.W.fnOf "law" "law" (defArgs st_law) (defBody st_law) (defScope st_law) .none kV doc pm an cd ct) :
    PySem.W.WalkO q loose XP YP l.row.toRowW d [] (fun f vs => PySem.call f vs) :=
  walk_d (k := 24) hn hdf ⟨rfl, by decide, by decide⟩ hY fun w mg fa h KX G hmg => by
    obtain ⟨T, kV, doc, pm, an, cd, ct, e2⟩ := F w mg h KX G
    have e : T.f_law = fa := Value.ref.inj (Option.some.inj (T.g_law.symm.trans (by rw [← hnm]; exact hmg)))
    refine ⟨T.d_law, fun s u => ?_, fun base _ _ => e ▸ ok_law T⟩
    rw [e2]
    exact .of_eq rfl
end K02
open PySem PySem.W PyProof.Rows in
set_option maxRecDepth 100000 in
set_option maxHeartbeats 0 in
theorem PySem.Challenge.cw_everplay_k02_boards_invalid_holds : PySem.Challenge.rw_everplay_k02_boards_invalid.Holds := by
  refine K02.said fun said => ?_
  k_head; (case hw => w_witness2)
  k_fill
  refine K02.walk (l := PySem.Challenge.rw_everplay_k02_boards_invalid) rfl rfl rfl (fun w h Y => by first | exact PySem.W.kIn_of Y | exact PySem.W.km_in_of Y) ?F
  case F =>
    intro w mg h KX G
    refine' K02.mkT (P := PySem.Challenge.rw_everplay_k02_boards_invalid.prog) KX G ?top ?z_ValueError ?z_all ?z_bool ?z_int ?z_isinstance ?z_len ?z_list ?z_range ?z_sorted ?z_str ?z_tuple ?g_NAME_LIMIT ?g_LETTERS ?z_super ?opq ?g_Board ?c1_Board ?c2_Board ?c3_Board ?c4_Board ?rd_Board ?rg_Board ?v_Board_PLACE_LIMIT ?v_Board_RANK_LIMIT ?v_Board_GAIN_LIMIT ?v_Board_WIDTH_LIMIT ?n_Board_marks ?n_Board_moves ?n_Board_owners ?n_Board_ranks ?o1_Board ?o2_Board ?o3_Board ?o4_Board ?a_Board_init ?l_Board_init ?cd_Board_init_ ?k_Board_init ?dt_Board_init ?du_Board_init ?i_Board_init ?a_Board_width ?pa_Board_width ?pb_Board_width ?pc_Board_width ?l_Board_width ?cd_Board_width_ ?k_Board_width ?mk_Board ?kc_Board ?g_is_integer ?l_is_integer ?cd_is_integer_ ?k_is_integer ?g_is_row ?l_is_row ?cd_is_row_ ?k_is_row ?g_frozen ?l_frozen ?cd_frozen_ ?k_frozen ?g_is_name ?l_is_name ?cd_is_name_ ?k_is_name ?g_is_place ?l_is_place ?cd_is_place_ ?k_is_place ?g_is_player ?l_is_player ?cd_is_player_ ?k_is_player ?g_marks_allowed ?l_marks_allowed ?cd_marks_allowed_ ?k_marks_allowed ?g_gains_allowed ?l_gains_allowed ?cd_gains_allowed_ ?k_gains_allowed ?g_moves_allowed ?l_moves_allowed ?cd_moves_allowed_ ?k_moves_allowed ?g_first_width ?l_first_width ?cd_first_width_ ?k_first_width ?g_shape_allowed ?l_shape_allowed ?cd_shape_allowed_ ?k_shape_allowed ?g_rank_allowed ?l_rank_allowed ?cd_rank_allowed_ ?k_rank_allowed ?g__law_bag ?l__law_bag ?cd__law_bag_ ?k__law_bag ?g__law_take ?l__law_take ?cd__law_take_ ?k__law_take ?g__law_same ?l__law_same ?cd__law_same_ ?k__law_same ?g__law_name ?l__law_name ?cd__law_name_ ?k__law_name ?g__law_pool ?l__law_pool ?cd__law_pool_ ?k__law_pool ?g__law_marks ?l__law_marks ?cd__law_marks_ ?k__law_marks ?g__law_gains ?l__law_gains ?cd__law_gains_ ?k__law_gains ?g__law_moves ?l__law_moves ?cd__law_moves_ ?k__law_moves ?g__law_world ?l__law_world ?cd__law_world_ ?k__law_world ?g__law_size ?l__law_size ?cd__law_size_ ?k__law_size ?g__law_grow ?l__law_grow ?cd__law_grow_ ?k__law_grow ?g__law_is_board ?l__law_is_board ?cd__law_is_board_ ?k__law_is_board ?g__law_is_int ?l__law_is_int ?cd__law_is_int_ ?k__law_is_int ?g__law_is_row ?l__law_is_row ?cd__law_is_row_ ?k__law_is_row ?g__law_is_name ?l__law_is_name ?cd__law_is_name_ ?k__law_is_name ?g__law_bad_marks ?l__law_bad_marks ?cd__law_bad_marks_ ?k__law_bad_marks ?g__law_bad_moves ?l__law_bad_moves ?cd__law_bad_moves_ ?k__law_bad_moves ?g__law_width ?l__law_width ?cd__law_width_ ?k__law_width ?g__law_fault ?l__law_fault ?cd__law_fault_ ?k__law_fault ?g__law_frozen ?l__law_frozen ?cd__law_frozen_ ?k__law_frozen ?g__law_bent_gains ?l__law_bent_gains ?cd__law_bent_gains_ ?k__law_bent_gains ?g__law_bent_row ?l__law_bent_row ?cd__law_bent_row_ ?k__law_bent_row ?g__law_bend ?l__law_bend ?cd__law_bend_ ?k__law_bend ?g__law_bend_whole ?l__law_bend_whole ?cd__law_bend_whole_ ?k__law_bend_whole ?g__law_given ?l__law_given ?cd__law_given_ ?k__law_given ?g__law_told ?l__law_told ?cd__law_told_ ?k__law_told ?g__law_spoil_row ?l__law_spoil_row ?cd__law_spoil_row_ ?k__law_spoil_row ?g__law_spoil ?l__law_spoil ?cd__law_spoil_ ?k__law_spoil ?g__law_right ?l__law_right ?cd__law_right_ ?k__law_right ?g_law ?l_law ?cd_law_ ?k_law ?g_EverplayError ?x_EverplayError_ ?eC_EverplayError ?tC_EverplayError ?hC_EverplayError ?g_InvalidBoard ?x_InvalidBoard_ ?eC_InvalidBoard ?tC_InvalidBoard ?hC_InvalidBoard ?sa_InvalidBoard ?kC_InvalidBoard ?iC_InvalidBoard ?tI_InvalidBoard ?l_InvalidBoard ?cd_InvalidBoard_ ?ll_InvalidBoard ?lc_InvalidBoard ?vE_InvalidBoard ?mC_InvalidBoard ?fB_InvalidBoard ?vf_InvalidBoard ?ga_InvalidBoard ?gg_InvalidBoard ?cA_InvalidBoard ?cB_InvalidBoard ?cC_InvalidBoard ?cD_InvalidBoard ?n_InvalidBoard_place ?su_InvalidBoard_EverplayError ?ic_InvalidBoard_EverplayError ?ne_InvalidBoard_EverplayError ?su_InvalidBoard_InvalidBoard
    (case top => decide +kernel)
    (case z_ValueError => k_is)
    (case z_all => k_is)
    (case z_bool => k_is)
    (case z_int => k_is)
    (case z_isinstance => k_is)
    (case z_len => k_is)
    (case z_list => k_is)
    (case z_range => k_is)
    (case z_sorted => k_is)
    (case z_str => k_is)
    (case z_tuple => k_is)
    (case g_NAME_LIMIT => k_is)
    (case g_LETTERS => k_is)
    (case z_super => k_is)
    (case opq => k_is)
    (case g_Board => k_is)
    (case c1_Board => k_is)
    (case c2_Board => k_is)
    (case c3_Board => k_is)
    (case c4_Board => k_is)
    (case rd_Board => k_is)
    (case rg_Board => k_is)
    (case v_Board_PLACE_LIMIT => k_is)
    (case v_Board_RANK_LIMIT => k_is)
    (case v_Board_GAIN_LIMIT => k_is)
    (case v_Board_WIDTH_LIMIT => k_is)
    (case n_Board_marks => k_is)
    (case n_Board_moves => k_is)
    (case n_Board_owners => k_is)
    (case n_Board_ranks => k_is)
    (case o1_Board => k_is)
    (case o2_Board => k_is)
    (case o3_Board => k_is)
    (case o4_Board => k_is)
    (case a_Board_init => k_is)
    (case l_Board_init => k_is)
    (case cd_Board_init_ => k_is)
    (case k_Board_init => k_is)
    (case dt_Board_init => k_is)
    (case du_Board_init => k_is)
    (case i_Board_init => k_is)
    (case a_Board_width => k_is)
    (case pa_Board_width => k_is)
    (case pb_Board_width => k_is)
    (case pc_Board_width => k_is)
    (case l_Board_width => k_is)
    (case cd_Board_width_ => k_is)
    (case k_Board_width => k_is)
    (case mk_Board => k_is)
    (case kc_Board => k_is)
    (case g_is_integer => k_is)
    (case l_is_integer => k_is)
    (case cd_is_integer_ => k_is)
    (case k_is_integer => k_is)
    (case g_is_row => k_is)
    (case l_is_row => k_is)
    (case cd_is_row_ => k_is)
    (case k_is_row => k_is)
    (case g_frozen => k_is)
    (case l_frozen => k_is)
    (case cd_frozen_ => k_is)
    (case k_frozen => k_is)
    (case g_is_name => k_is)
    (case l_is_name => k_is)
    (case cd_is_name_ => k_is)
    (case k_is_name => k_is)
    (case g_is_place => k_is)
    (case l_is_place => k_is)
    (case cd_is_place_ => k_is)
    (case k_is_place => k_is)
    (case g_is_player => k_is)
    (case l_is_player => k_is)
    (case cd_is_player_ => k_is)
    (case k_is_player => k_is)
    (case g_marks_allowed => k_is)
    (case l_marks_allowed => k_is)
    (case cd_marks_allowed_ => k_is)
    (case k_marks_allowed => k_is)
    (case g_gains_allowed => k_is)
    (case l_gains_allowed => k_is)
    (case cd_gains_allowed_ => k_is)
    (case k_gains_allowed => k_is)
    (case g_moves_allowed => k_is)
    (case l_moves_allowed => k_is)
    (case cd_moves_allowed_ => k_is)
    (case k_moves_allowed => k_is)
    (case g_first_width => k_is)
    (case l_first_width => k_is)
    (case cd_first_width_ => k_is)
    (case k_first_width => k_is)
    (case g_shape_allowed => k_is)
    (case l_shape_allowed => k_is)
    (case cd_shape_allowed_ => k_is)
    (case k_shape_allowed => k_is)
    (case g_rank_allowed => k_is)
    (case l_rank_allowed => k_is)
    (case cd_rank_allowed_ => k_is)
    (case k_rank_allowed => k_is)
    (case g__law_bag => k_is)
    (case l__law_bag => k_is)
    (case cd__law_bag_ => k_is)
    (case k__law_bag => k_is)
    (case g__law_take => k_is)
    (case l__law_take => k_is)
    (case cd__law_take_ => k_is)
    (case k__law_take => k_is)
    (case g__law_same => k_is)
    (case l__law_same => k_is)
    (case cd__law_same_ => k_is)
    (case k__law_same => k_is)
    (case g__law_name => k_is)
    (case l__law_name => k_is)
    (case cd__law_name_ => k_is)
    (case k__law_name => k_is)
    (case g__law_pool => k_is)
    (case l__law_pool => k_is)
    (case cd__law_pool_ => k_is)
    (case k__law_pool => k_is)
    (case g__law_marks => k_is)
    (case l__law_marks => k_is)
    (case cd__law_marks_ => k_is)
    (case k__law_marks => k_is)
    (case g__law_gains => k_is)
    (case l__law_gains => k_is)
    (case cd__law_gains_ => k_is)
    (case k__law_gains => k_is)
    (case g__law_moves => k_is)
    (case l__law_moves => k_is)
    (case cd__law_moves_ => k_is)
    (case k__law_moves => k_is)
    (case g__law_world => k_is)
    (case l__law_world => k_is)
    (case cd__law_world_ => k_is)
    (case k__law_world => k_is)
    (case g__law_size => k_is)
    (case l__law_size => k_is)
    (case cd__law_size_ => k_is)
    (case k__law_size => k_is)
    (case g__law_grow => k_is)
    (case l__law_grow => k_is)
    (case cd__law_grow_ => k_is)
    (case k__law_grow => k_is)
    (case g__law_is_board => k_is)
    (case l__law_is_board => k_is)
    (case cd__law_is_board_ => k_is)
    (case k__law_is_board => k_is)
    (case g__law_is_int => k_is)
    (case l__law_is_int => k_is)
    (case cd__law_is_int_ => k_is)
    (case k__law_is_int => k_is)
    (case g__law_is_row => k_is)
    (case l__law_is_row => k_is)
    (case cd__law_is_row_ => k_is)
    (case k__law_is_row => k_is)
    (case g__law_is_name => k_is)
    (case l__law_is_name => k_is)
    (case cd__law_is_name_ => k_is)
    (case k__law_is_name => k_is)
    (case g__law_bad_marks => k_is)
    (case l__law_bad_marks => k_is)
    (case cd__law_bad_marks_ => k_is)
    (case k__law_bad_marks => k_is)
    (case g__law_bad_moves => k_is)
    (case l__law_bad_moves => k_is)
    (case cd__law_bad_moves_ => k_is)
    (case k__law_bad_moves => k_is)
    (case g__law_width => k_is)
    (case l__law_width => k_is)
    (case cd__law_width_ => k_is)
    (case k__law_width => k_is)
    (case g__law_fault => k_is)
    (case l__law_fault => k_is)
    (case cd__law_fault_ => k_is)
    (case k__law_fault => k_is)
    (case g__law_frozen => k_is)
    (case l__law_frozen => k_is)
    (case cd__law_frozen_ => k_is)
    (case k__law_frozen => k_is)
    (case g__law_bent_gains => k_is)
    (case l__law_bent_gains => k_is)
    (case cd__law_bent_gains_ => k_is)
    (case k__law_bent_gains => k_is)
    (case g__law_bent_row => k_is)
    (case l__law_bent_row => k_is)
    (case cd__law_bent_row_ => k_is)
    (case k__law_bent_row => k_is)
    (case g__law_bend => k_is)
    (case l__law_bend => k_is)
    (case cd__law_bend_ => k_is)
    (case k__law_bend => k_is)
    (case g__law_bend_whole => k_is)
    (case l__law_bend_whole => k_is)
    (case cd__law_bend_whole_ => k_is)
    (case k__law_bend_whole => k_is)
    (case g__law_given => k_is)
    (case l__law_given => k_is)
    (case cd__law_given_ => k_is)
    (case k__law_given => k_is)
    (case g__law_told => k_is)
    (case l__law_told => k_is)
    (case cd__law_told_ => k_is)
    (case k__law_told => k_is)
    (case g__law_spoil_row => k_is)
    (case l__law_spoil_row => k_is)
    (case cd__law_spoil_row_ => k_is)
    (case k__law_spoil_row => k_is)
    (case g__law_spoil => k_is)
    (case l__law_spoil => k_is)
    (case cd__law_spoil_ => k_is)
    (case k__law_spoil => k_is)
    (case g__law_right => k_is)
    (case l__law_right => k_is)
    (case cd__law_right_ => k_is)
    (case k__law_right => k_is)
    (case g_law => k_is)
    (case l_law => k_is)
    (case cd_law_ => k_is)
    (case k_law => k_is)
    (case g_EverplayError => k_is)
    (case x_EverplayError_ => k_is)
    (case eC_EverplayError => k_is)
    (case tC_EverplayError => k_is)
    (case hC_EverplayError => k_is)
    (case g_InvalidBoard => k_is)
    (case x_InvalidBoard_ => k_is)
    (case eC_InvalidBoard => k_is)
    (case tC_InvalidBoard => k_is)
    (case hC_InvalidBoard => k_is)
    (case sa_InvalidBoard => k_is)
    (case kC_InvalidBoard => k_is)
    (case iC_InvalidBoard => k_is)
    (case tI_InvalidBoard => k_is)
    (case l_InvalidBoard => k_is)
    (case cd_InvalidBoard_ => k_is)
    (case ll_InvalidBoard => k_is)
    (case lc_InvalidBoard => k_is)
    (case vE_InvalidBoard => k_is)
    (case mC_InvalidBoard => k_is)
    (case fB_InvalidBoard => k_is)
    (case vf_InvalidBoard => exact ⟨rfl, by decide +kernel⟩)
    (case ga_InvalidBoard => k_is)
    (case gg_InvalidBoard => k_is)
    (case cA_InvalidBoard => k_is)
    (case cB_InvalidBoard => k_is)
    (case cC_InvalidBoard => k_is)
    (case cD_InvalidBoard => k_is)
    (case n_InvalidBoard_place => k_is)
    (case su_InvalidBoard_EverplayError => k_is)
    (case ic_InvalidBoard_EverplayError => k_is)
    (case ne_InvalidBoard_EverplayError => decide)
    (case su_InvalidBoard_InvalidBoard => k_is)
#print axioms PySem.Challenge.cw_everplay_k02_boards_invalid_holds

