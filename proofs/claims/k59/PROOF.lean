import PyProof.Rows.All
import Wide.All
import OpenK.AllK
import Wide.FinOn
import HandS.ForMost
import HandS.DictComp
import HandS.DictTup
import HandS.TupAny
import HandS.TupMul
import HandS.Strs
import HandS.Deep
import HandS.Style
import HandS.SortRule
import HandS.IsInst
import KE.GoesNew
import HandS.Defaults
import KE.KUnpackStar
import KE.KDictSum
import KE.KDictWalk
import HandS.OwnEq
import HandS.Exc
import HandS.TryMany
import HandS.HeadHook3
import PySem.Challenge.RW_eatenways_k59_whole_moves_in_any_order
set_option Elab.async false
set_option linter.all false
set_option maxRecDepth 100000
set_option maxHeartbeats 4000000
/-! EwCore: data over the heap: values with tuples as data, a memory of what may change, readings over these, and how they stand over the hand layer's. -/
namespace EW
open PySem PySem.Spec PyProof.Rows L2

/-- a value: tuples are data, what may change stands at an address; ft: a tuple known to have no attributes of its own; rl: a list that is only read -/
inductive D where
  | non | bl (b : Bool) | int (i : Int) | str (x : Str) | tup (xs : List D) | ft (xs : List D) | rl (xs : List D) | ref (a : Addr)
  deriving Inhabited

/-- what may change -/
inductive MO where
  | lst (xs : List D)
  | dK (kvs : List (Key × D))
  | dT (kvs : List (List Key × D))
  | fK (kvs : List (Key × D))
  | fT (kvs : List (List Key × D))
  | ins (C : String) (fs : List (Str × D))

abbrev Mem := Addr → Option MO
abbrev Env := List (Option D)

/-- what a tuple, a list only read, leans on stays -/
structure StW (H H' : Hp) : Prop where
  tup : ∀ a xs, H a = some (.tup xs) → H' a = some (.tup xs)
  frl : ∀ a o xs, H a = some (.frz o (.lst xs)) → H' a = some (.frz o (.lst xs))
  frt : ∀ a o xs, H a = some (.frz o (.tup xs)) → H' a = some (.frz o (.tup xs))
/-- .. and all that is locked -/
structure Stab (H H' : Hp) : Prop where
  tup : ∀ a xs, H a = some (.tup xs) → H' a = some (.tup xs)
  frz : ∀ a o u, H a = some (.frz o u) → H' a = some (.frz o u)
theorem Stab.w {H H' : Hp} (s : Stab H H') : StW H H' := ⟨s.tup, fun a o xs => s.frz a o _, fun a o xs => s.frz a o _⟩
theorem Stab.refl {H : Hp} : Stab H H := ⟨fun _ _ h => h, fun _ _ _ h => h⟩
theorem Stab.trans {H H1 H2 : Hp} (a : Stab H H1) (b : Stab H1 H2) : Stab H H2 := ⟨fun p xs h => b.tup p xs (a.tup p xs h), fun p o xs h => b.frz p o xs (a.frz p o xs h)⟩
theorem Stab.new {H : Hp} {p : Addr} {u : HO} (h : H p = none) : Stab H (upd H p u) :=
  ⟨fun a xs e => by rw [upd_ne (ne_of_none e h)]; exact e, fun a o xs e => by rw [upd_ne (ne_of_none e h)]; exact e⟩
theorem Stab.wr {H : Hp} {p : Addr} {u v : HO} (h : H p = some v) (ht : ∀ xs, v ≠ .tup xs) (hf : ∀ o u, v ≠ .frz o u) : Stab H (upd H p u) :=
  ⟨fun a xs e => by rw [upd_ne (ne_of e h (fun q => ht xs q.symm))]; exact e, fun a o xs e => by rw [upd_ne (ne_of e h (fun q => hf o _ q.symm))]; exact e⟩

/-- a list only read -/
def RdL (K : PySem.W.Frag) (H : Hp) (a : Addr) (xs : List V) : Prop :=
  (∃ o, H a = some (.frz o (.lst xs))) ∨
    ∃ (o : Obj) (its : Array Value) (n : Nat), K.lookup a = some o ∧ o.cls = .type "list" ∧ o.dict = none ∧ o.data = .seq its n ∧ its.size ≤ sizeLine ∧ Vals xs its.toList
theorem RdL.sq {K : PySem.W.Frag} {H : Hp} {a : Addr} {xs : List V} (h : RdL K H a xs) : SqL K H a xs := by
  rcases h with ⟨o, h⟩ | h
  · exact .inl (.inr ⟨o, h⟩)
  · exact .inr h
theorem RdL.mono {K : PySem.W.Frag} {H H' : Hp} {a : Addr} {xs : List V} (s : StW H H') (h : RdL K H a xs) : RdL K H' a xs := by
  rcases h with ⟨o, h⟩ | h
  · exact .inl ⟨o, s.frl _ _ _ h⟩
  · exact .inr h

mutual
/-- the data d stands at the value v -/
inductive Rp (K : PySem.W.Frag) (H : Hp) : D → V → Prop
  | non : Rp K H .non .non
  | bl (b : Bool) : Rp K H (.bl b) (.bl b)
  | int (i : Int) : Rp K H (.int i) (.int i)
  | str (x : Str) : Rp K H (.str x) (.str x)
  | ref (a : Addr) : Rp K H (.ref a) (.ref a)
  | tup {ds : List D} {p : Addr} {vs : List V} : H p = some (.tup vs) → RpL K H ds vs → Rp K H (.tup ds) (.ref p)
  | ft {ds : List D} {p : Addr} {vs : List V} {o : Obj} : H p = some (.frz o (.tup vs)) → o.dict = none → RpL K H ds vs → Rp K H (.ft ds) (.ref p)
  | rl {ds : List D} {p : Addr} {vs : List V} : RdL K H p vs → RpL K H ds vs → Rp K H (.rl ds) (.ref p)
inductive RpL (K : PySem.W.Frag) (H : Hp) : List D → List V → Prop
  | nil : RpL K H [] []
  | cons {d : D} {v : V} {ds : List D} {vs : List V} : Rp K H d v → RpL K H ds vs → RpL K H (d :: ds) (v :: vs)
end

section
variable {K : PySem.W.Frag} {H H' : Hp}
mutual
theorem Rp.monoW (s : StW H H') : ∀ {d : D} {v : V}, Rp K H d v → Rp K H' d v
  | _, _, .non => .non
  | _, _, .bl b => .bl b
  | _, _, .int i => .int i
  | _, _, .str x => .str x
  | _, _, .ref a => .ref a
  | _, _, .tup h r => .tup (s.tup _ _ h) (RpL.monoW s r)
  | _, _, .ft h d r => .ft (s.frt _ _ _ h) d (RpL.monoW s r)
  | _, _, .rl h r => .rl (h.mono s) (RpL.monoW s r)
theorem RpL.monoW (s : StW H H') : ∀ {ds : List D} {vs : List V}, RpL K H ds vs → RpL K H' ds vs
  | _, _, .nil => .nil
  | _, _, .cons r t => .cons (Rp.monoW s r) (RpL.monoW s t)
end
theorem Rp.mono (s : Stab H H') {d : D} {v : V} (r : Rp K H d v) : Rp K H' d v := r.monoW s.w
theorem RpL.mono (s : Stab H H') {ds : List D} {vs : List V} (r : RpL K H ds vs) : RpL K H' ds vs := r.monoW s.w
theorem Rp.non' {v : V} (h : Rp K H .non v) : v = .non := by cases h; rfl
theorem Rp.bl' {b : Bool} {v : V} (h : Rp K H (.bl b) v) : v = .bl b := by cases h; rfl
theorem Rp.int' {i : Int} {v : V} (h : Rp K H (.int i) v) : v = .int i := by cases h; rfl
theorem Rp.str' {x : Str} {v : V} (h : Rp K H (.str x) v) : v = .str x := by cases h; rfl
theorem Rp.ref' {a : Addr} {v : V} (h : Rp K H (.ref a) v) : v = .ref a := by cases h; rfl
theorem Rp.tup' {ds : List D} {v : V} (h : Rp K H (.tup ds) v) : ∃ p vs, v = .ref p ∧ H p = some (.tup vs) ∧ RpL K H ds vs := by
  cases h with
  | tup h r => exact ⟨_, _, rfl, h, r⟩
theorem Rp.ft' {ds : List D} {v : V} (h : Rp K H (.ft ds) v) : ∃ p vs o, v = .ref p ∧ H p = some (.frz o (.tup vs)) ∧ o.dict = none ∧ RpL K H ds vs := by
  cases h with
  | ft h d r => exact ⟨_, _, _, rfl, h, d, r⟩
/-- a tuple's items -/
def tpl : D → Option (List D)
  | .tup xs => some xs
  | .ft xs => some xs
  | _ => none
theorem Rp.tpl {d : D} {ds : List D} {v : V} (h : Rp K H d v) (e : EW.tpl d = some ds) : ∃ p vs, v = .ref p ∧ Rd H p (.tup vs) ∧ RpL K H ds vs := by
  cases d <;> first | (cases e; done) | skip
  · cases e; obtain ⟨p, vs, rfl, h1, h2⟩ := h.tup'; exact ⟨p, vs, rfl, .inl h1, h2⟩
  · cases e; obtain ⟨p, vs, o, rfl, h1, _, h2⟩ := h.ft'; exact ⟨p, vs, rfl, .inr ⟨o, h1⟩, h2⟩
theorem Rp.rl' {ds : List D} {v : V} (h : Rp K H (.rl ds) v) : ∃ p vs, v = .ref p ∧ RdL K H p vs ∧ RpL K H ds vs := by
  cases h with
  | rl h r => exact ⟨_, _, rfl, h, r⟩
theorem RpL.length : ∀ {ds : List D} {vs : List V}, RpL K H ds vs → ds.length = vs.length
  | _, _, .nil => rfl
  | _, _, .cons _ t => by rw [List.length_cons, List.length_cons, RpL.length t]
theorem RpL.get : ∀ {ds : List D} {vs : List V} {i : Nat} {d : D}, RpL K H ds vs → ds[i]? = some d → ∃ v, vs[i]? = some v ∧ Rp K H d v
  | _, _, _, _, .nil, e => by simp at e
  | _, _, 0, _, .cons r _, e => by simp at e; subst e; exact ⟨_, rfl, r⟩
  | _, _, i + 1, d, .cons _ t, e => by
    obtain ⟨u, h1, h2⟩ := RpL.get (i := i) (d := d) t (by simpa using e)
    exact ⟨u, by simpa using h1, h2⟩
theorem RpL.getV : ∀ {ds : List D} {vs : List V} {i : Nat} {v : V}, RpL K H ds vs → vs[i]? = some v → ∃ d, ds[i]? = some d ∧ Rp K H d v
  | _, _, _, _, .nil, e => by simp at e
  | _, _, 0, _, .cons r _, e => by simp at e; subst e; exact ⟨_, rfl, r⟩
  | _, _, i + 1, v, .cons _ t, e => by
    obtain ⟨u, h1, h2⟩ := RpL.getV (i := i) (v := v) t (by simpa using e)
    exact ⟨u, by simpa using h1, h2⟩
theorem RpL.set {d : D} {v : V} (r : Rp K H d v) : ∀ {ds : List D} {vs : List V} (i : Nat), RpL K H ds vs → RpL K H (ds.set i d) (vs.set i v)
  | _, _, _, .nil => .nil
  | _, _, 0, .cons _ t => .cons r t
  | _, _, i + 1, .cons q t => .cons q (RpL.set r i t)
theorem RpL.append : ∀ {ds es : List D} {vs ws : List V}, RpL K H ds vs → RpL K H es ws → RpL K H (ds ++ es) (vs ++ ws)
  | _, _, _, _, .nil, s => s
  | _, _, _, _, .cons r t, s => .cons r (RpL.append t s)
theorem RpL.take : ∀ {ds : List D} {vs : List V} (n : Nat), RpL K H ds vs → RpL K H (ds.take n) (vs.take n)
  | _, _, 0, _ => .nil
  | _, _, _ + 1, .nil => .nil
  | _, _, n + 1, .cons r t => .cons r (RpL.take n t)
theorem RpL.drop : ∀ {ds : List D} {vs : List V} (n : Nat), RpL K H ds vs → RpL K H (ds.drop n) (vs.drop n)
  | _, _, 0, r => r
  | _, _, _ + 1, .nil => .nil
  | _, _, n + 1, .cons _ t => RpL.drop n t
theorem RpL.erase : ∀ {ds : List D} {vs : List V} (n : Nat), RpL K H ds vs → RpL K H (ds.eraseIdx n) (vs.eraseIdx n)
  | _, _, _, .nil => .nil
  | _, _, 0, .cons _ t => t
  | _, _, n + 1, .cons r t => .cons r (RpL.erase n t)
theorem RpL.reverse : ∀ {ds : List D} {vs : List V}, RpL K H ds vs → RpL K H ds.reverse vs.reverse
  | _, _, .nil => .nil
  | _, _, .cons r t => by rw [List.reverse_cons, List.reverse_cons]; exact (RpL.reverse t).append (.cons r .nil)
theorem RpL.one {d : D} {vs : List V} (h : RpL K H [d] vs) : ∃ v, vs = [v] ∧ Rp K H d v := by
  cases h with | cons r t => cases t; exact ⟨_, rfl, r⟩
theorem RpL.two {d e : D} {vs : List V} (h : RpL K H [d, e] vs) : ∃ v w, vs = [v, w] ∧ Rp K H d v ∧ Rp K H e w := by
  cases h with | cons r t => obtain ⟨w, rfl, q⟩ := t.one; exact ⟨_, _, rfl, r, q⟩
theorem RpL.nil' {vs : List V} (h : RpL K H [] vs) : vs = [] := by cases h; rfl
end

/-! ### keys, fields -/
def kD : Key → D
  | .inl i => .int i
  | .inr x => .str x
section
variable {K : PySem.W.Frag} {H H' : Hp}
theorem Rp.key (k : Key) : Rp K H (kD k) (kV k) := by cases k with
  | inl i => exact .int i
  | inr x => exact .str x
theorem Rp.key' {k : Key} {v : V} (h : Rp K H (kD k) v) : v = kV k := by cases k with
  | inl i => exact h.int'
  | inr x => exact h.str'
theorem RpL.keys' : ∀ {ks : List Key} {vs : List V}, RpL K H (ks.map kD) vs → vs = ks.map kV
  | [], _, h => h.nil'
  | k :: ks, _, h => by
    cases h with
    | cons r t => rw [r.key', RpL.keys' t]; rfl
theorem RpL.keys : ∀ (ks : List Key), RpL K H (ks.map kD) (ks.map kV)
  | [] => .nil
  | k :: ks => .cons (.key k) (RpL.keys ks)
/-- entries, fields: the same names, values that stand -/
inductive RpF {κ : Type} (K : PySem.W.Frag) (H : Hp) : List (κ × D) → List (κ × V) → Prop
  | nil : RpF K H [] []
  | cons {k : κ} {d : D} {v : V} {ds : List (κ × D)} {vs : List (κ × V)} : Rp K H d v → RpF K H ds vs → RpF K H ((k, d) :: ds) ((k, v) :: vs)
variable {κ : Type}
theorem RpF.monoW (s : StW H H') : ∀ {ds : List (κ × D)} {vs : List (κ × V)}, RpF K H ds vs → RpF K H' ds vs
  | _, _, .nil => .nil
  | _, _, .cons r t => .cons (r.monoW s) (RpF.monoW s t)
theorem RpF.mono (s : Stab H H') {ds : List (κ × D)} {vs : List (κ × V)} (r : RpF K H ds vs) : RpF K H' ds vs := r.monoW s.w
theorem RpF.length : ∀ {ds : List (κ × D)} {vs : List (κ × V)}, RpF K H ds vs → ds.length = vs.length
  | _, _, .nil => rfl
  | _, _, .cons _ t => by rw [List.length_cons, List.length_cons, RpF.length t]
theorem RpF.keys : ∀ {ds : List (κ × D)} {vs : List (κ × V)}, RpF K H ds vs → ds.map (·.1) = vs.map (·.1)
  | _, _, .nil => rfl
  | _, _, .cons _ t => by rw [List.map_cons, List.map_cons, RpF.keys t]
theorem RpF.append : ∀ {ds es : List (κ × D)} {vs ws : List (κ × V)}, RpF K H ds vs → RpF K H es ws → RpF K H (ds ++ es) (vs ++ ws)
  | _, _, _, _, .nil, s => s
  | _, _, _, _, .cons r t, s => .cons r (RpF.append t s)
end

/-! ### the memory -/
variable (K : PySem.W.Frag) (cl : String → Addr)
def RObj (H : Hp) (a : Addr) : MO → Prop
  | .lst ds => ∃ vs, H a = some (.lst vs) ∧ RpL K H ds vs
  | .dK kvs => ∃ vs, H a = some (.dK vs) ∧ RpF K H kvs vs
  | .dT kvs => ∃ vs, H a = some (.dT vs) ∧ RpF K H kvs vs
  | .fK kvs => ∃ o vs, H a = some (.frz o (.dK vs)) ∧ RpF K H kvs vs
  | .fT kvs => ∃ o vs, H a = some (.frz o (.dT vs)) ∧ RpF K H kvs vs
  | .ins C fs => ∃ dx vs, H a = some (.ins (cl C) dx vs) ∧ RpF K H fs vs
def Sim (M : Mem) (H : Hp) : Prop := ∀ a o, M a = some o → RObj K cl H a o
def EnvR (H : Hp) (ρ : Env) (σ : L2.St) : Prop := ρ.length = σ.length ∧ ∀ (i : Nat) d, ρ[i]? = some (some d) → ∃ v, σ[i]? = some (some v) ∧ Rp K H d v

section
variable {K : PySem.W.Frag} {cl : String → Addr} {H H' : Hp} {M : Mem} {ρ : Env} {σ : L2.St} {a p : Addr} {o : MO} {u : HO}
theorem RObj.monoW (s : StW H H') (e : H' a = H a) (h : RObj K cl H a o) : RObj K cl H' a o := by
  cases o with
  | lst ds => obtain ⟨vs, h1, h2⟩ := h; exact ⟨vs, e.trans h1, h2.monoW s⟩
  | dK kvs => obtain ⟨vs, h1, h2⟩ := h; exact ⟨vs, e.trans h1, h2.monoW s⟩
  | dT kvs => obtain ⟨vs, h1, h2⟩ := h; exact ⟨vs, e.trans h1, h2.monoW s⟩
  | fK kvs => obtain ⟨ob, vs, h1, h2⟩ := h; exact ⟨ob, vs, e.trans h1, h2.monoW s⟩
  | fT kvs => obtain ⟨ob, vs, h1, h2⟩ := h; exact ⟨ob, vs, e.trans h1, h2.monoW s⟩
  | ins C fs => obtain ⟨dx, vs, h1, h2⟩ := h; exact ⟨dx, vs, e.trans h1, h2.monoW s⟩
theorem RObj.mono (s : Stab H H') (e : H' a = H a) (h : RObj K cl H a o) : RObj K cl H' a o := h.monoW s.w e
theorem RObj.there (h : RObj K cl H a o) : ∃ u, H a = some u := by
  cases o with
  | lst ds => obtain ⟨vs, h1, _⟩ := h; exact ⟨_, h1⟩
  | dK kvs => obtain ⟨vs, h1, _⟩ := h; exact ⟨_, h1⟩
  | dT kvs => obtain ⟨vs, h1, _⟩ := h; exact ⟨_, h1⟩
  | fK kvs => obtain ⟨ob, vs, h1, _⟩ := h; exact ⟨_, h1⟩
  | fT kvs => obtain ⟨ob, vs, h1, _⟩ := h; exact ⟨_, h1⟩
  | ins C fs => obtain ⟨dx, vs, h1, _⟩ := h; exact ⟨_, h1⟩
theorem Sim.free (S : Sim K cl M H) (h : H p = none) : M p = none := by
  cases e : M p with
  | none => rfl
  | some o =>
    obtain ⟨u, q⟩ := (S p o e).there
    rw [h] at q; cases q
/-- the memory's map, changed at a place -/
def up (M : Mem) (a : Addr) (o : MO) : Mem := fun b => if b = a then some o else M b
theorem up_same {M : Mem} {a : Addr} {o : MO} : up M a o a = some o := by unfold up; rw [if_pos rfl]
theorem up_ne {M : Mem} {a b : Addr} {o : MO} (h : b ≠ a) : up M a o b = M b := by unfold up; rw [if_neg h]
theorem up_up {M : Mem} {a : Addr} {o q : MO} : up (up M a o) a q = up M a q := by
  funext b; unfold up; split <;> rfl
/-- a thing laid that the memory does not speak of -/
theorem Sim.lay (S : Sim K cl M H) (h : H p = none) : Sim K cl M (upd H p u) := fun a o e => by
  obtain ⟨q, hq⟩ := (S a o e).there
  have n : a ≠ p := ne_of_none hq h
  exact (S a o e).mono (Stab.new h) (upd_ne n)
/-- the memory's object at p changed, or new -/
theorem Sim.putW (S : Sim K cl M H) (st : StW H (upd H p u)) (r : RObj K cl (upd H p u) p o) : Sim K cl (up M p o) (upd H p u) := fun a q e => by
  by_cases ha : a = p
  · subst ha; rw [up_same] at e; cases e; exact r
  · rw [up_ne ha] at e
    exact (S a q e).monoW st (upd_ne ha)
theorem Sim.put (S : Sim K cl M H) (st : Stab H (upd H p u)) (r : RObj K cl (upd H p u) p o) : Sim K cl (up M p o) (upd H p u) := S.putW st.w r
theorem Sim.new (S : Sim K cl M H) (h : H p = none) (r : RObj K cl (upd H p u) p o) : Sim K cl (EW.up M p o) (upd H p u) := S.put (Stab.new h) r
theorem EnvR.monoW (s : StW H H') (h : EnvR K H ρ σ) : EnvR K H' ρ σ := ⟨h.1, fun i d e => let ⟨v, h1, h2⟩ := h.2 i d e; ⟨v, h1, h2.monoW s⟩⟩
theorem EnvR.mono (s : Stab H H') (h : EnvR K H ρ σ) : EnvR K H' ρ σ := h.monoW s.w
theorem EnvR.set {d : D} {v : V} (h : EnvR K H ρ σ) (r : Rp K H d v) (i : Nat) : EnvR K H (ρ.set i (some d)) (σ.set i (some v)) := by
  refine ⟨by rw [List.length_set, List.length_set, h.1], fun j e q => ?_⟩
  by_cases hj : i = j
  · subst hj
    by_cases hl : i < ρ.length
    · rw [List.getElem?_set_self hl] at q; cases q
      exact ⟨v, by rw [List.getElem?_set_self (h.1 ▸ hl)], r⟩
    · rw [List.getElem?_eq_none (by rw [List.length_set]; omega)] at q; cases q
  · rw [List.getElem?_set_ne hj] at q
    obtain ⟨w, h1, h2⟩ := h.2 j e q
    exact ⟨w, by rw [List.getElem?_set_ne hj]; exact h1, h2⟩
end

/-! ### readings over data -/
abbrev DVK := D → Mem → Prop
abbrev DTE := Env → Mem → DVK → Prop
abbrev DTT := Env → Mem → (Bool → Mem → Prop) → Prop
abbrev DTA := Env → Mem → (List D → Mem → Prop) → Prop
structure DEnds where
  nx : Env → Mem → Prop
  rt : DVK
  bk : Env → Mem → Prop := fun _ _ => False
  ct : Env → Mem → Prop := fun _ _ => False
abbrev DTS := DEnds → Env → Mem → Prop
abbrev DTG := D → Env → Mem → (Env → Mem → Prop) → Prop
abbrev DTGs := List D → Env → Mem → (Env → Mem → Prop) → Prop
abbrev DR2 := D → D → Mem → DVK → Prop
abbrev DR1 := D → Mem → DVK → Prop
abbrev DRL := List D → Mem → DVK → Prop
abbrev DRM := D → List D → Mem → DVK → Prop

def Fin (H : Hp) (P : DVK) (Q : VK) : Prop := ∀ d M v H', P d M → Stab H H' → Sim K cl M H' → Rp K H' d v → Q v H'
def FinT (H : Hp) (P : Bool → Mem → Prop) (Q : Bool → Hp → Prop) : Prop := ∀ b M H', P b M → Stab H H' → Sim K cl M H' → Q b H'
def FinA (n : Nat) (H : Hp) (P : List D → Mem → Prop) (Q : List V → Hp → Prop) : Prop := ∀ ds M vs H', P ds M → ds.length = n → Stab H H' → Sim K cl M H' → RpL K H' ds vs → Q vs H'
def FinG (H : Hp) (P : Env → Mem → Prop) (Q : L2.St → Hp → Prop) : Prop := ∀ ρ M σ H', P ρ M → Stab H H' → EnvR K H' ρ σ → Sim K cl M H' → Q σ H'
structure FinS (H : Hp) (E : DEnds) (F : Ends) : Prop where
  nx : FinG K cl H E.nx F.nx
  rt : Fin K cl H E.rt F.rt
  bk : FinG K cl H E.bk F.bk
  ct : FinG K cl H E.ct F.ct
def LE (t : DTE) : TE := fun σ H Q => ∃ ρ M P, EnvR K H ρ σ ∧ Sim K cl M H ∧ t ρ M P ∧ Fin K cl H P Q
def LT (t : DTT) : TT := fun σ H Q => ∃ ρ M P, EnvR K H ρ σ ∧ Sim K cl M H ∧ t ρ M P ∧ FinT K cl H P Q
def LA (n : Nat) (t : DTA) : TA := fun σ H Q => ∃ ρ M P, EnvR K H ρ σ ∧ Sim K cl M H ∧ t ρ M P ∧ FinA K cl n H P Q
def LS (t : DTS) : TS := fun F σ H => ∃ ρ M E, EnvR K H ρ σ ∧ Sim K cl M H ∧ t E ρ M ∧ FinS K cl H E F
def LG (t : DTG) : TG := fun v σ H Q => ∃ d ρ M P, Rp K H d v ∧ EnvR K H ρ σ ∧ Sim K cl M H ∧ t d ρ M P ∧ FinG K cl H P Q
def LGs (t : DTGs) : TGs := fun vs σ H Q => ∃ ds ρ M P, RpL K H ds vs ∧ EnvR K H ρ σ ∧ Sim K cl M H ∧ t ds ρ M P ∧ FinG K cl H P Q
def L2R (r : DR2) : R2 := fun x y H Q => ∃ d e M P, Rp K H d x ∧ Rp K H e y ∧ Sim K cl M H ∧ r d e M P ∧ Fin K cl H P Q
def L1R (r : DR1) : V → Hp → VK → Prop := fun x H Q => ∃ d M P, Rp K H d x ∧ Sim K cl M H ∧ r d M P ∧ Fin K cl H P Q
def LLR (r : DRL) : List V → Hp → VK → Prop := fun xs H Q => ∃ ds M P, RpL K H ds xs ∧ Sim K cl M H ∧ r ds M P ∧ Fin K cl H P Q
def LMR (r : DRM) : V → List V → Hp → VK → Prop := fun x xs H Q => ∃ d ds M P, Rp K H d x ∧ RpL K H ds xs ∧ Sim K cl M H ∧ r d ds M P ∧ Fin K cl H P Q
section
variable {K : PySem.W.Frag} {cl : String → Addr} {H H' : Hp}
theorem Fin.from {P : DVK} {Q : VK} (h : Fin K cl H P Q) (s : Stab H H') : Fin K cl H' P Q := fun d M v H2 p q => h d M v H2 p (s.trans q)
theorem FinT.from {P : Bool → Mem → Prop} {Q : Bool → Hp → Prop} (h : FinT K cl H P Q) (s : Stab H H') : FinT K cl H' P Q := fun d M H2 p q => h d M H2 p (s.trans q)
theorem FinA.from {n : Nat} {P : List D → Mem → Prop} {Q : List V → Hp → Prop} (h : FinA K cl n H P Q) (s : Stab H H') : FinA K cl n H' P Q := fun d M v H2 p l q => h d M v H2 p l (s.trans q)
theorem FinG.from {P : Env → Mem → Prop} {Q : L2.St → Hp → Prop} (h : FinG K cl H P Q) (s : Stab H H') : FinG K cl H' P Q := fun d M v H2 p q => h d M v H2 p (s.trans q)
theorem FinS.from {E : DEnds} {F : Ends} (h : FinS K cl H E F) (s : Stab H H') : FinS K cl H' E F := ⟨h.nx.from s, h.rt.from s, h.bk.from s, h.ct.from s⟩
end

structure DE (X : Cx) (e : Expr) (t : DTE) : Prop where h : PE X e (LE X.K cl t)
structure DT (X : Cx) (e : Expr) (t : DTT) : Prop where h : PT X e (LT X.K cl t)
structure DW (X : Cx) (e : Expr) (t : DTT) : Prop where h : PW X e (LT X.K cl t)
structure DA (X : Cx) (es : List Expr) (t : DTA) : Prop where h : PA X es (LA X.K cl es.length t)
structure DS (X : Cx) (e : Stmt) (t : DTS) : Prop where h : PS X e (LS X.K cl t)
structure DSs (X : Cx) (e : List Stmt) (t : DTS) : Prop where h : PSs X e (LS X.K cl t)
structure DG (X : Cx) (e : Expr) (t : DTG) : Prop where h : PG X e (LG X.K cl t)
structure DGs (X : Cx) (es : List Expr) (t : DTGs) : Prop where h : PGs X es (LGs X.K cl t)
def DOp (X : Cx) (f : Value → Value → Sem Value) (r : DR2) : Prop := OpR X f (L2R X.K cl r)
def DUn (X : Cx) (f : Value → Sem Value) (r : DR1) : Prop := UnR X f (L1R X.K cl r)
def DIx (X : Cx) (r : DR2) : Prop := IxR X (L2R X.K cl r)
def DCall (X : Cx) (f : Value) (r : DRL) : Prop := CallR X f (LLR X.K cl r)
def DMt (X : Cx) (id : String) (r : DRM) : Prop := MtR X id (LMR X.K cl r)

section
variable {X : Cx}
theorem imE {e : Expr} {t t' : TE} (h : PE X e t) (i : ∀ σ H Q, t' σ H Q → t σ H Q) : PE X e t' := ⟨fun pins s σ H Q I q => h.run pins s σ H Q I (i σ H Q q)⟩
theorem imT {e : Expr} {t t' : TT} (h : PT X e t) (i : ∀ σ H Q, t' σ H Q → t σ H Q) : PT X e t' := ⟨fun pins s σ H Q I q => h.run pins s σ H Q I (i σ H Q q)⟩
theorem imW {e : Expr} {t t' : TT} (h : PW X e t) (i : ∀ σ H Q, t' σ H Q → t σ H Q) : PW X e t' := ⟨fun wh pins s σ H Q I q => h.run wh pins s σ H Q I (i σ H Q q)⟩
theorem imA {es : List Expr} {t t' : TA} (h : PA X es t) (i : ∀ σ H Q, t' σ H Q → t σ H Q) : PA X es t' := ⟨fun pos pins s σ H Q I q => h.run pos pins s σ H Q I (i σ H Q q)⟩
theorem imS {e : Stmt} {t t' : TS} (h : PS X e t) (i : ∀ F σ H, t' F σ H → t F σ H) : PS X e t' := ⟨fun pins s σ H F I q => h.run pins s σ H F I (i F σ H q)⟩
theorem imSs {e : List Stmt} {t t' : TS} (h : PSs X e t) (i : ∀ F σ H, t' F σ H → t F σ H) : PSs X e t' := ⟨fun pins s σ H F I q => h.run pins s σ H F I (i F σ H q)⟩
theorem imG {e : Expr} {t t' : TG} (h : PG X e t) (i : ∀ v σ H Q, t' v σ H Q → t v σ H Q) : PG X e t' := ⟨fun pins s σ H v u Q I r q => h.run pins s σ H v u Q I r (i v σ H Q q)⟩
theorem imGs {es : List Expr} {t t' : TGs} (h : PGs X es t) (i : ∀ v σ H Q, t' v σ H Q → t v σ H Q) : PGs X es t' := ⟨fun pins s σ H v u Q I r q => h.run pins s σ H v u Q I r (i v σ H Q q)⟩
theorem imOp {f : Value → Value → Sem Value} {t t' : R2} (h : OpR X f t) (i : ∀ x y H Q, t' x y H Q → t x y H Q) : OpR X f t' := fun pins s σ H x y v u Q I r r' q => h pins s σ H x y v u Q I r r' (i x y H Q q)
theorem imUn {f : Value → Sem Value} {t t' : V → Hp → VK → Prop} (h : UnR X f t) (i : ∀ x H Q, t' x H Q → t x H Q) : UnR X f t' := fun pins s σ H x v Q I r q => h pins s σ H x v Q I r (i x H Q q)
theorem imIx {t t' : R2} (h : IxR X t) (i : ∀ x y H Q, t' x y H Q → t x y H Q) : IxR X t' := fun v1 sl pins s σ H x y v u Q I r r' q hs => h v1 sl pins s σ H x y v u Q I r r' (i x y H Q q) hs
theorem imCall {f : Value} {t t' : List V → Hp → VK → Prop} (h : CallR X f t) (i : ∀ x H Q, t' x H Q → t x H Q) : CallR X f t' := fun pins s σ H x v Q I r q => h pins s σ H x v Q I r (i x H Q q)
theorem imMt {id : String} {t t' : V → List V → Hp → VK → Prop} (h : MtR X id t) (i : ∀ x xs H Q, t' x xs H Q → t x xs H Q) : MtR X id t' := fun pins s σ H x xs v us Q I r r' q => h pins s σ H x xs v us Q I r r' (i x xs H Q q)
end
end EW

set_option maxRecDepth 100000
set_option maxHeartbeats 4000000
/-! EwRules: a rule for each construct, over data. -/
namespace EW
open PySem PySem.Spec PyProof.Rows L2

def nth : Env → Nat → Option D
  | [], _ => none
  | d :: _, 0 => d
  | _ :: r, n + 1 => nth r n
theorem nth_get : ∀ {ρ : Env} {i : Nat} {d : D}, nth ρ i = some d → ρ[i]? = some (some d)
  | [], _, _, h => by cases h
  | d :: _, 0, _, h => by
    have h' : d = some _ := h
    rw [h']; rfl
  | _ :: r, n + 1, _, h => by
    have := nth_get (ρ := r) (i := n) h
    simpa using this

/-! ### combinators -/
def dVar (i : Nat) : DTE := fun ρ M Q => match nth ρ i with
  | some d => Q d M
  | none => False
def dC (d : D) : DTE := fun _ M Q => Q d M
def dOp (r : DR2) (ta tb : DTE) : DTE := fun ρ M Q => ta ρ M fun x M1 => tb ρ M1 fun y M2 => r x y M2 Q
def dUn (r : DR1) (ta : DTE) : DTE := fun ρ M Q => ta ρ M fun x M1 => r x M1 Q
def asB (d : D) (k : Bool → Prop) : Prop := match d with
  | .bl b => k b
  | _ => False
def dTest (t : DTE) : DTT := fun ρ M Q => t ρ M fun d M' => asB d fun b => Q b M'
def dChain (r r' : DR2) (ta tb tc : DTE) : DTE := fun ρ M Q => ta ρ M fun x M1 => tb ρ M1 fun y M2 => r x y M2 fun z M3 => asB z fun b => if b = true then tc ρ M3 fun w M4 => r' y w M4 Q else Q (.bl false) M3
def dAnd (t u : DTT) : DTT := fun ρ M Q => t ρ M fun c M1 => if c = true then u ρ M1 Q else Q false M1
def dOr (t u : DTT) : DTT := fun ρ M Q => t ρ M fun c M1 => if c = true then Q true M1 else u ρ M1 Q
def dNot (t : DTT) : DTT := fun ρ M Q => t ρ M fun c M1 => Q (!c) M1
def dAndV (ta tb : DTE) : DTE := fun ρ M Q => ta ρ M fun x M1 => asB x fun c => if c = true then tb ρ M1 Q else Q (.bl false) M1
def dOrV (ta tb : DTE) : DTE := fun ρ M Q => ta ρ M fun x M1 => asB x fun c => if c = true then Q (.bl true) M1 else tb ρ M1 Q
def dNotV (ta : DTE) : DTE := fun ρ M Q => ta ρ M fun x M1 => asB x fun c => Q (.bl (!c)) M1
def dIf (t : DTT) (ta tb : DTE) : DTE := fun ρ M Q => t ρ M fun c M1 => if c = true then ta ρ M1 Q else tb ρ M1 Q
def daNil : DTA := fun _ M Q => Q [] M
def daCons (t : DTE) (r : DTA) : DTA := fun ρ M Q => t ρ M fun x M1 => r ρ M1 fun xs M2 => Q (x :: xs) M2
def dTup (t : DTA) : DTE := fun ρ M Q => t ρ M fun xs M1 => Q (.tup xs) M1
def dLst (t : DTA) : DTE := fun ρ M Q => t ρ M fun xs M1 => ∀ p, M1 p = none → Q (.ref p) (up M1 p (.lst xs))
def dCallB (r : DRL) (t : DTA) : DTE := fun ρ M Q => t ρ M fun xs M1 => r xs M1 Q
-- statements
def dNext : DTS := fun E ρ M => E.nx ρ M
def dSeq (t u : DTS) : DTS := fun E ρ M => t { E with nx := u E } ρ M
def dBreak : DTS := fun E ρ M => E.bk ρ M
def dCont : DTS := fun E ρ M => E.ct ρ M
def dDrop (t : DTE) : DTS := fun E ρ M => t ρ M fun _ M1 => E.nx ρ M1
def dRet (t : DTE) : DTS := fun E ρ M => t ρ M E.rt
def dRetN : DTS := fun E _ M => E.rt .non M
def dIfS (c : DTT) (t u : DTS) : DTS := fun E ρ M => c ρ M fun b M1 => if b = true then t E ρ M1 else u E ρ M1
def dNever : DTS := fun _ _ _ => False
def gN (i : Nat) : DTG := fun d ρ M Q => Q (ρ.set i (some d)) M
def gsNil : DTGs := fun ds ρ M Q => match ds with
  | [] => Q ρ M
  | _ => False
def gsCons (t : DTG) (u : DTGs) : DTGs := fun ds ρ M Q => match ds with
  | d :: r => t d ρ M fun ρ' M' => u r ρ' M' Q
  | [] => False
def dAsg (t : DTE) (g : DTG) : DTS := fun E ρ M => t ρ M fun d M1 => g d ρ M1 E.nx
def dAug (i : Nat) (t : DTE) (r : DR2) : DTS := fun E ρ M => match nth ρ i with
  | some x => t ρ M fun y M1 => r x y M1 fun z M2 => E.nx (ρ.set i (some z)) M2
  | none => False
def dPar (i j : Nat) (ta tb : DTE) : DTS := fun E ρ M => ta ρ M fun v M1 => tb ρ M1 fun w M2 => E.nx ((ρ.set i (some v)).set j (some w)) M2
def dWhile (c : DTT) (tb : DTS) : DTS := fun E ρ M => ∃ W : Nat → Env → Mem → Prop, (∃ m, W m ρ M) ∧ ∀ m ρ M, W m ρ M →
  c ρ M fun b M1 => if b = true then ∃ N : Env → Mem → Prop, (∀ ρ' M', N ρ' M' → ∃ m', m' < m ∧ W m' ρ' M') ∧ tb { E with nx := N, ct := N, bk := E.nx } ρ M1 else E.nx ρ M1

variable {cl : String → Addr} {X : Cx}
section
variable {a b c e : Expr} {ta tb tc : DTE} {pos : Pos} {r r' : DR2}
theorem d_var (i : Nat) {x : Str} (hN : X.N[i]? = some x := by rfl) (hv : Vis X.env.scope x := by first | exact Or.inl rfl | exact Or.inr (Or.inl rfl) | exact Or.inr (Or.inr rfl)) (hd : (x == ("__debug__" : Str)) = false := by decide)
    (hcd : (x == ("__classdict__" : Str)) = false := by decide) : DE cl X (.Name x pos) (dVar i) := ⟨imE (pe_var hN hv hd hcd) fun σ H Q ⟨ρ, M, P, er, sm, t, f⟩ => by
  have t' : (match nth ρ i with | some d => P d M | none => False) := t
  cases q : nth ρ i with
  | none => rw [q] at t'; exact t'.elim
  | some d =>
    rw [q] at t'
    obtain ⟨v, h1, h2⟩ := er.2 i d (nth_get q)
    exact ⟨v, h1, f d M v H t' Stab.refl sm h2⟩⟩
theorem d_int {i : Int} {j} : DE cl X (.Constant (.int i) j pos) (dC (.int i)) := ⟨imE pe_int fun σ H Q ⟨ρ, M, P, er, sm, t, f⟩ => f _ _ _ _ t Stab.refl sm (.int i)⟩
theorem d_bl {b} {j} : DE cl X (.Constant (.bool b) j pos) (dC (.bl b)) := ⟨imE pe_bl fun σ H Q ⟨ρ, M, P, er, sm, t, f⟩ => f _ _ _ _ t Stab.refl sm (.bl b)⟩
theorem d_non {j} : DE cl X (.Constant .none j pos) (dC .non) := ⟨imE pe_non fun σ H Q ⟨ρ, M, P, er, sm, t, f⟩ => f _ _ _ _ t Stab.refl sm .non⟩
theorem d_str {x} {j} : DE cl X (.Constant (.str x) j pos) (dC (.str x)) := ⟨imE pe_str fun σ H Q ⟨ρ, M, P, er, sm, t, f⟩ => f _ _ _ _ t Stab.refl sm (.str x)⟩
/-- a module's int -/
theorem d_gint {x : Str} {i : Int} {u : Value} (hg : Gl X x) (hm : X.mg x = some u) (hr : RelV (.int i) u) (hd : (x == ("__debug__" : Str)) = false := by decide) : DE cl X (.Name x pos) (dC (.int i)) :=
  ⟨imE (pe_glob hg hm hr hd) fun σ H Q ⟨ρ, M, P, er, sm, t, f⟩ => f _ _ _ _ t Stab.refl sm (.int i)⟩
theorem d_gstr {x : Str} {i : Str} {u : Value} (hg : Gl X x) (hm : X.mg x = some u) (hr : RelV (.str i) u) (hd : (x == ("__debug__" : Str)) = false := by decide) : DE cl X (.Name x pos) (dC (.str i)) :=
  ⟨imE (pe_glob hg hm hr hd) fun σ H Q ⟨ρ, M, P, er, sm, t, f⟩ => f _ _ _ _ t Stab.refl sm (.str i)⟩
theorem bin2 {ta tb : DTE} {K : PySem.W.Frag} {r : DR2} {σ : L2.St} {H : Hp} {Q : VK} (h : LE K cl (dOp r ta tb) σ H Q) : tOp (L2R K cl r) (LE K cl ta) (LE K cl tb) σ H Q := by
  obtain ⟨ρ, M, P, er, sm, t, f⟩ := h
  exact ⟨ρ, M, _, er, sm, t, fun d M1 v H1 q s sm1 r1 => ⟨ρ, M1, _, er.mono s, sm1, q, fun e M2 w H2 q2 s2 sm2 r2 => ⟨d, e, M2, P, r1.mono s2, r2, sm2, q2, f.from (s.trans s2)⟩⟩⟩
theorem d_bin {op : Operator} (ho : DOp cl X (binaryOp op) r) (ha : DE cl X a ta) (hb : DE cl X b tb) : DE cl X (.BinOp a op b pos) (dOp r ta tb) := ⟨imE (pe_op ho ha.h hb.h) fun _ _ _ h => bin2 h⟩
theorem d_un {op : UnaryOp} {r : DR1} (ho : DUn cl X (unaryOp op) r) (ha : DE cl X a ta) : DE cl X (.UnaryOp op a pos) (dUn r ta) := ⟨imE (pe_un ho ha.h) fun σ H Q ⟨ρ, M, P, er, sm, t, f⟩ =>
  ⟨ρ, M, _, er, sm, t, fun d M1 v H1 q s sm1 r1 => ⟨d, M1, P, r1, sm1, q, f.from s⟩⟩⟩
theorem d_cmp {op : CmpOp} (ho : DOp cl X (compareOp op) r) (ha : DE cl X a ta) (hb : DE cl X b tb) (hm : behindInMarks op b = false := by first | exact nomark _ | rfl) : DE cl X (.Compare a [op] [b] pos) (dOp r ta tb) := ⟨imE (pe_cmpR ho ha.h hb.h hm) fun _ _ _ h => bin2 h⟩
theorem asB_elim {d : D} {k : Bool → Prop} (h : asB d k) : ∃ b, d = .bl b ∧ k b := by
  cases d <;> first | exact ⟨_, rfl, h⟩ | exact h.elim
theorem dt_cmp {op : CmpOp} (ho : DOp cl X (compareOp op) r) (ha : DE cl X a ta) (hb : DE cl X b tb) (hm : behindInMarks op b = false := by first | exact nomark _ | rfl) : DT cl X (.Compare a [op] [b] pos) (dTest (dOp r ta tb)) := ⟨imT (pt_cmpR ho ha.h hb.h hm) fun σ H Q ⟨ρ, M, P, er, sm, t, f⟩ => by
  refine bin2 (cl := cl) ⟨ρ, M, _, er, sm, t, fun d M1 v H1 q s sm1 r1 => ?_⟩
  obtain ⟨b, rfl, q⟩ := asB_elim q
  exact ⟨b, r1.bl', f _ _ _ q s sm1⟩⟩
theorem dt_val (h : DE cl X e ta) (he : ∀ whole, isTrue e X.env whole = (do let v ← whole; standAt e.pos; holding [v] (truthy v)) := by intro _; rfl) : DT cl X e (dTest ta) := ⟨imT (pt_val h.h he) fun σ H Q ⟨ρ, M, P, er, sm, t, f⟩ =>
  ⟨ρ, M, _, er, sm, t, fun d M1 v H1 q s sm1 r1 => by
    obtain ⟨b, rfl, q⟩ := asB_elim q
    exact ⟨b, r1.bl', f _ _ _ q s sm1⟩⟩⟩
theorem d_chain {op op' : CmpOp} (ho : DOp cl X (compareOp op) r) (ho' : DOp cl X (compareOp op') r') (ha : DE cl X a ta) (hb : DE cl X b tb) (hc : DE cl X c tc)
    (hm : lastMarks [op, op'] [b, c] = false := by rfl) : DE cl X (.Compare a [op, op'] [b, c] pos) (dChain r r' ta tb tc) := ⟨imE (pe_chain ho ho' ha.h hb.h hc.h hm) fun σ H Q ⟨ρ, M, P, er, sm, t, f⟩ => by
  refine ⟨ρ, M, _, er, sm, t, fun d M1 v H1 q s sm1 r1 => ⟨ρ, M1, _, er.mono s, sm1, q, fun e M2 w H2 q2 s2 sm2 r2 => ⟨d, e, M2, _, r1.mono s2, r2, sm2, q2, fun z M3 vz H3 q3 s3 sm3 r3 => ?_⟩⟩⟩
  obtain ⟨b, rfl, q3⟩ := asB_elim q3
  refine ⟨b, r3.bl', ?_⟩
  cases b with
  | true => exact ⟨ρ, M3, _, er.mono (s.trans (s2.trans s3)), sm3, q3, fun e' M4 w' H4 q4 s4 sm4 r4 => ⟨e, e', M4, P, r2.mono (s3.trans s4), r4, sm4, q4, f.from (s.trans (s2.trans (s3.trans s4)))⟩⟩
  | false => exact f _ _ _ _ q3 (s.trans (s2.trans s3)) sm3 (.bl false)⟩
theorem dt_chain {op op' : CmpOp} (ho : DOp cl X (compareOp op) r) (ho' : DOp cl X (compareOp op') r') (ha : DE cl X a ta) (hb : DE cl X b tb) (hc : DE cl X c tc)
    (hm : lastMarks [op, op'] [b, c] = false := by rfl) : DT cl X (.Compare a [op, op'] [b, c] pos) (dTest (dChain r r' ta tb tc)) := ⟨imT (pt_chain ho ho' ha.h hb.h hc.h hm) fun σ H Q ⟨ρ, M, P, er, sm, t, f⟩ => by
  refine ⟨ρ, M, _, er, sm, t, fun d M1 v H1 q s sm1 r1 => ⟨ρ, M1, _, er.mono s, sm1, q, fun e M2 w H2 q2 s2 sm2 r2 => ⟨d, e, M2, _, r1.mono s2, r2, sm2, q2, fun z M3 vz H3 q3 s3 sm3 r3 => ?_⟩⟩⟩
  obtain ⟨b, rfl, q3⟩ := asB_elim q3
  refine ⟨b, r3.bl', ?_⟩
  cases b with
  | true =>
    refine ⟨ρ, M3, _, er.mono (s.trans (s2.trans s3)), sm3, q3, fun e' M4 w' H4 q4 s4 sm4 r4 => ⟨e, e', M4, _, r2.mono (s3.trans s4), r4, sm4, q4, fun y M5 vy H5 q5 s5 sm5 r5 => ?_⟩⟩
    obtain ⟨b, rfl, q5⟩ := asB_elim q5
    exact ⟨b, r5.bl', f _ _ _ q5 (s.trans (s2.trans (s3.trans (s4.trans s5)))) sm5⟩
  | false => exact iteF ⟨false, rfl, f _ _ _ q3 (s.trans (s2.trans s3)) sm3⟩⟩
end

/-! ### and, or, not -/
section
variable {a b c e : Expr} {rest : List Expr} {tA tB : DTT} {ta tb : DTE} {pos : Pos}
theorem dw_and1 (ha : DT cl X a tA) : DW cl X (.BoolOp .And [a] pos) tA := ⟨pw_and1 ha.h⟩
theorem dw_or1 (ha : DT cl X a tA) : DW cl X (.BoolOp .Or [a] pos) tA := ⟨pw_or1 ha.h⟩
theorem dw_and (ha : DT cl X a tA) (hb : DW cl X (.BoolOp .And (b :: rest) pos) tB) : DW cl X (.BoolOp .And (a :: b :: rest) pos) (dAnd tA tB) := ⟨imW (pw_and ha.h hb.h) fun σ H Q ⟨ρ, M, P, er, sm, t, f⟩ =>
  ⟨ρ, M, _, er, sm, t, fun k M1 H1 q s sm1 => by
    cases k with
    | true => exact ⟨ρ, M1, P, er.mono s, sm1, q, f.from s⟩
    | false => exact f _ _ _ q s sm1⟩⟩
theorem dw_or (ha : DT cl X a tA) (hb : DW cl X (.BoolOp .Or (b :: rest) pos) tB) : DW cl X (.BoolOp .Or (a :: b :: rest) pos) (dOr tA tB) := ⟨imW (pw_or ha.h hb.h) fun σ H Q ⟨ρ, M, P, er, sm, t, f⟩ =>
  ⟨ρ, M, _, er, sm, t, fun k M1 H1 q s sm1 => by
    cases k with
    | true => exact f _ _ _ q s sm1
    | false => exact ⟨ρ, M1, P, er.mono s, sm1, q, f.from s⟩⟩⟩
theorem dw (h : DW cl X e tA) : DT cl X e tA := ⟨h.h.pt⟩
theorem dt_not (ha : DT cl X a tA) : DT cl X (.UnaryOp .Not a pos) (dNot tA) := ⟨imT (pt_not ha.h) fun σ H Q ⟨ρ, M, P, er, sm, t, f⟩ =>
  ⟨ρ, M, _, er, sm, t, fun k M1 H1 q s sm1 => f _ _ _ q s sm1⟩⟩
theorem d_one {op} (h : DE cl X a ta) : DE cl X (.BoolOp op [a] pos) ta := ⟨pe_one h.h⟩
theorem d_and (ha : DE cl X a ta) (hb : DE cl X (.BoolOp .And (b :: rest) pos) tb) : DE cl X (.BoolOp .And (a :: b :: rest) pos) (dAndV ta tb) := ⟨imE (pe_and ha.h hb.h) fun σ H Q ⟨ρ, M, P, er, sm, t, f⟩ =>
  ⟨ρ, M, _, er, sm, t, fun d M1 v H1 q s sm1 r1 => by
    obtain ⟨k, rfl, q⟩ := asB_elim q
    refine ⟨k, r1.bl', ?_⟩
    cases k with
    | true => exact ⟨ρ, M1, P, er.mono s, sm1, q, f.from s⟩
    | false => exact f _ _ _ _ q s sm1 (.bl false)⟩⟩
theorem d_or (ha : DE cl X a ta) (hb : DE cl X (.BoolOp .Or (b :: rest) pos) tb) : DE cl X (.BoolOp .Or (a :: b :: rest) pos) (dOrV ta tb) := ⟨imE (pe_or ha.h hb.h) fun σ H Q ⟨ρ, M, P, er, sm, t, f⟩ =>
  ⟨ρ, M, _, er, sm, t, fun d M1 v H1 q s sm1 r1 => by
    obtain ⟨k, rfl, q⟩ := asB_elim q
    refine ⟨k, r1.bl', ?_⟩
    cases k with
    | true => exact f _ _ _ _ q s sm1 (.bl true)
    | false => exact ⟨ρ, M1, P, er.mono s, sm1, q, f.from s⟩⟩⟩
theorem d_not (ha : DE cl X a ta) : DE cl X (.UnaryOp .Not a pos) (dNotV ta) := ⟨imE (pe_not ha.h) fun σ H Q ⟨ρ, M, P, er, sm, t, f⟩ =>
  ⟨ρ, M, _, er, sm, t, fun d M1 v H1 q s sm1 r1 => by
    obtain ⟨k, rfl, q⟩ := asB_elim q
    exact ⟨k, r1.bl', f _ _ _ _ q s sm1 (.bl _)⟩⟩⟩
theorem d_ifx (hc : DT cl X c tA) (ha : DE cl X a ta) (hb : DE cl X b tb) : DE cl X (.IfExp c a b pos) (dIf tA ta tb) := ⟨imE (pe_ifExp hc.h ha.h hb.h) fun σ H Q ⟨ρ, M, P, er, sm, t, f⟩ =>
  ⟨ρ, M, _, er, sm, t, fun k M1 H1 q s sm1 => by
    cases k with
    | true => exact ⟨ρ, M1, P, er.mono s, sm1, q, f.from s⟩
    | false => exact ⟨ρ, M1, P, er.mono s, sm1, q, f.from s⟩⟩⟩
end

/-! ### argument lists, displays -/
section
variable {e : Expr} {es : List Expr} {te : DTE} {t : DTA} {pos : Pos}
theorem da_nil : DA cl X [] daNil := ⟨imA pa_nil fun σ H Q ⟨ρ, M, P, er, sm, t, f⟩ => f _ _ _ _ t rfl Stab.refl sm .nil⟩
theorem da_cons (ha : DE cl X e te) (hr : DA cl X es t) (hs : starEach (e :: es) X.env = (false, eval e X.env) :: starEach es X.env := by rfl) : DA cl X (e :: es) (daCons te t) := ⟨imA (pa_cons ha.h hr.h hs) fun σ H Q ⟨ρ, M, P, er, sm, t, f⟩ =>
  ⟨ρ, M, _, er, sm, t, fun d M1 v H1 q s sm1 r1 => ⟨ρ, M1, _, er.mono s, sm1, q, fun ds M2 vs H2 q2 l2 s2 sm2 r2 => f _ _ _ _ q2 (by rw [List.length_cons, List.length_cons, l2]) (s.trans s2) sm2 (.cons (r1.mono s2) r2)⟩⟩⟩
theorem d_tup {k} (h : DA cl X es t) (hz : es.length ≤ sizeLine := by exact Nat.le_of_ble_eq_true rfl) : DE cl X (.Tuple es k pos) (dTup t) := ⟨imE (pe_tup h.h) fun σ H Q ⟨ρ, M, P, er, sm, t, f⟩ =>
  ⟨ρ, M, _, er, sm, t, fun ds M1 vs H1 q l s sm1 r1 => ⟨by rw [← r1.length, l]; exact hz, fun p hp =>
    f _ _ _ _ q (s.trans (Stab.new hp)) (sm1.lay hp) (.tup upd_same (r1.mono (Stab.new hp)))⟩⟩⟩
theorem d_lst (h : DA cl X es t) (hz : es.length ≤ sizeLine := by exact Nat.le_of_ble_eq_true rfl) : DE cl X (.List es pos) (dLst t) := ⟨imE (pe_lst h.h) fun σ H Q ⟨ρ, M, P, er, sm, t, f⟩ =>
  ⟨ρ, M, _, er, sm, t, fun ds M1 vs H1 q l s sm1 r1 => ⟨by rw [← r1.length, l]; exact hz, fun p hp =>
    f _ _ _ _ (q p (sm1.free hp)) (s.trans (Stab.new hp)) (sm1.new hp ⟨_, upd_same, r1.mono (Stab.new hp)⟩) (.ref p)⟩⟩⟩
/-! ### calls of built-ins -/
theorem d_callB {id : String} {x : Str} {p : Pos} {r : DRL} (hc : DCall cl X (.builtin id) r) (hg : Gl X x) (hm : X.mg x = none) (hv : bootBuiltins x = some (.builtin id)) (ha : DA cl X (e :: es) t) (hn : x ≠ "__name__" := by decide)
    (hdb : (x == ("__debug__" : Str)) = false := by decide) (hs : starEach (e :: es) X.env = (false, eval e X.env) :: starEach es X.env := by rfl) (hp : (backTo pos (starEach es X.env)).any (·.1) = false := by rfl) : DE cl X (.Call (.Name x p) (e :: es) [] pos) (dCallB r t) := ⟨imE (pe_callB hc hg hm hv ha.h hn hdb hs hp) fun σ H Q ⟨ρ, M, P, er, sm, t, f⟩ =>
  ⟨ρ, M, _, er, sm, t, fun ds M1 vs H1 q l s sm1 r1 => ⟨ds, M1, P, r1, sm1, q, f.from s⟩⟩⟩
end
end EW
namespace EW
open PySem PySem.Spec PyProof.Rows L2
variable {cl : String → Addr} {X : Cx}
section
variable {e f : Expr} {es : List Expr} {te tf : DTE} {t : DTA} {pos : Pos} {st : Stmt} {sts : List Stmt} {u v w : DTS} {g : DTG}
theorem d_callTy {id : String} {x : Str} {p : Pos} {r : DRL} (hc : DCall cl X (.type id) r) (hg : Gl X x) (hm : X.mg x = none) (hv : bootBuiltins x = some (.type id)) (ha : DA cl X (e :: es) t) (hn : x ≠ "__name__" := by decide)
    (hdb : (x == ("__debug__" : Str)) = false := by decide) (hs : starEach (e :: es) X.env = (false, eval e X.env) :: starEach es X.env := by rfl) (hp : (backTo pos (starEach es X.env)).any (·.1) = false := by rfl) : DE cl X (.Call (.Name x p) (e :: es) [] pos) (dCallB r t) := ⟨imE (pe_callTy hc hg hm hv ha.h hn hdb hs hp) fun σ H Q ⟨ρ, M, P, er, sm, t, f⟩ =>
  ⟨ρ, M, _, er, sm, t, fun ds M1 vs H1 q l s sm1 r1 => ⟨ds, M1, P, r1, sm1, q, f.from s⟩⟩⟩
/-! ### subscripts, slices, methods of built-ins -/
theorem d_ix {a b : Expr} {ta tb : DTE} {r : DR2} (hr : DIx cl X r) (ha : DE cl X a ta) (hb : DE cl X b tb) (hs : PlainIx b := by exact fun _ _ => rfl) : DE cl X (.Subscript a b pos) (dOp r ta tb) := ⟨imE (pe_ix hr ha.h hb.h hs) fun _ _ _ h => bin2 h⟩
abbrev DRS := D → Option Int → Option Int → Mem → DVK → Prop
def LSR (K : PySem.W.Frag) (cl : String → Addr) (r : DRS) : V → Option Int → Option Int → Hp → VK → Prop := fun x lo hi H Q => ∃ d M P, Rp K H d x ∧ Sim K cl M H ∧ r d lo hi M P ∧ Fin K cl H P Q
def DSl (cl : String → Addr) (X : Cx) (r : DRS) : Prop := SlR X (LSR X.K cl r)
theorem imSl {t t' : V → Option Int → Option Int → Hp → VK → Prop} (h : SlR X t) (i : ∀ x lo hi H Q, t' x lo hi H Q → t x lo hi H Q) : SlR X t' := fun pins s σ H x v vl vu lo hi sl Q I r a b c q => h pins s σ H x v vl vu lo hi sl Q I r a b c (i x lo hi H Q q)
abbrev DTO := Env → Mem → (Option Int → Mem → Prop) → Prop
def LO (K : PySem.W.Frag) (cl : String → Addr) (t : DTO) : TO := fun σ H Q => ∃ ρ M P, EnvR K H ρ σ ∧ Sim K cl M H ∧ t ρ M P ∧ ∀ o M' H', P o M' → Stab H H' → Sim K cl M' H' → Q o H'
structure DO (cl : String → Addr) (X : Cx) (e : Option Expr) (t : DTO) : Prop where h : PO X e (LO X.K cl t)
theorem imO {e : Option Expr} {t t' : TO} (h : PO X e t) (i : ∀ σ H Q, t' σ H Q → t σ H Q) : PO X e t' := ⟨fun pins s σ H Q I q => h.run pins s σ H Q I (i σ H Q q)⟩
def dNoPart : DTO := fun _ M Q => Q none M
def asI (d : D) (k : Int → Prop) : Prop := match d with
  | .int i => k i
  | _ => False
theorem asI_elim {d : D} {k : Int → Prop} (h : asI d k) : ∃ i, d = .int i ∧ k i := by
  cases d <;> first | exact ⟨_, rfl, h⟩ | exact h.elim
def dPart (t : DTE) : DTO := fun ρ M Q => t ρ M fun d M1 => asI d fun i => Q (some i) M1
theorem do_none : DO cl X none dNoPart := ⟨imO po_none fun σ H Q ⟨ρ, M, P, er, sm, t, f⟩ => f _ _ _ t Stab.refl sm⟩
theorem do_some (h : DE cl X e te) : DO cl X (some e) (dPart te) := ⟨imO (po_some h.h) fun σ H Q ⟨ρ, M, P, er, sm, t, f⟩ => ⟨ρ, M, _, er, sm, t, fun d M1 v H1 q s sm1 r1 => by
  obtain ⟨i, rfl, q⟩ := asI_elim q
  exact ⟨i, r1.int', f _ _ _ q s sm1⟩⟩⟩
def dSl (r : DRS) (t : DTE) (tl th : DTO) : DTE := fun ρ M Q => t ρ M fun x M1 => tl ρ M1 fun l M2 => th ρ M2 fun u M3 => r x l u M3 Q
theorem d_slice {lo hi : Option Expr} {tl th : DTO} {r : DRS} {p2 : Pos} (hr : DSl cl X r) (he : DE cl X e te) (hl : DO cl X lo tl) (hu : DO cl X hi th) : DE cl X (.Subscript e (.Slice lo hi none p2) pos) (dSl r te tl th) := ⟨imE (pe_slice hr he.h hl.h hu.h) fun σ H Q ⟨ρ, M, P, er, sm, t, f⟩ =>
  ⟨ρ, M, _, er, sm, t, fun d M1 v H1 q s sm1 r1 => ⟨ρ, M1, _, er.mono s, sm1, q, fun o M2 H2 q2 s2 sm2 => ⟨ρ, M2, _, er.mono (s.trans s2), sm2, q2, fun o' M3 H3 q3 s3 sm3 => ⟨d, M3, P, r1.mono (s2.trans s3), sm3, q3, f.from (s.trans (s2.trans s3))⟩⟩⟩⟩⟩
/-- the receiver is of that built-in type -/
@[irreducible] def tyD (T : String) (d : D) (M : Mem) : Prop := match d with
  | .str _ => T = "str"
  | .rl _ => T = "list"
  | .ref a => match M a with
    | some (.lst _) => T = "list"
    | some (.dK _) => T = "dict"
    | some (.dT _) => T = "dict"
    | _ => False
  | _ => False
theorem tyD_ok {K : PySem.W.Frag} {T : String} {d : D} {M : Mem} {H : Hp} {v : V} (h : tyD T d M) (r : Rp K H d v) (sm : Sim K cl M H) : tyV K T v H := by
  unfold tyD at h
  cases d with
  | str x => rw [r.str']; exact h
  | rl ds => obtain ⟨p, vs, rfl, h1, _⟩ := r.rl'; exact .inl ⟨h, vs, h1.sq⟩
  | ref a =>
    rw [r.ref']
    have h' : (match M a with | some (.lst _) => T = "list" | some (.dK _) => T = "dict" | some (.dT _) => T = "dict" | _ => False) := h
    cases q : M a with
    | none => rw [q] at h'; exact h'.elim
    | some o =>
      rw [q] at h'
      have z := sm a o q
      cases o with
      | lst ds => obtain ⟨vs, h1, _⟩ := z; exact .inl ⟨h', vs, SqL.of h1⟩
      | dK kvs => obtain ⟨vs, h1, _⟩ := z; exact .inr (.inr (.inl ⟨h', .inl ⟨vs, h1⟩⟩))
      | dT kvs => obtain ⟨vs, h1, _⟩ := z; exact .inr (.inr (.inl ⟨h', .inr ⟨vs, h1⟩⟩))
      | _ => exact h'.elim
  | _ => exact h.elim
def dBM (T : String) (r : DRM) (t : DTE) (ta : DTA) : DTE := fun ρ M Q => t ρ M fun x M1 => tyD T x M1 ∧ ta ρ M1 fun xs M2 => r x xs M2 Q
def dBM0 (T : String) (r : DRM) (t : DTE) : DTE := fun ρ M Q => t ρ M fun x M1 => tyD T x M1 ∧ r x [] M1 Q
theorem d_bm {o : Expr} {to : DTE} {name : Str} {apos cpos : Pos} {T id : String} {r : DRM} (pa : PlainAttrs T) (slot : Slot T name id) (hty : typeOf (.builtin id) = pure (.type "method_descriptor")) (hm : DMt cl X id r) (ho : DE cl X o to) (ha : DA cl X (e :: es) t)
    (hbase : attributeBase o name X.env (eval o X.env) = eval o X.env := by rfl)
    (hfew : ((backTo cpos (starEach (e :: es) X.env)).all (fun x => !x.1) && (backToKw cpos (keywordEach [] X.env)).all (fun x => x.1.isSome)
      && decide ((e :: es).length + ([] : List Keyword).length + (if ([] : List Keyword).isEmpty then 0 else 1) < 30)) = true := by rfl)
    (hline : (apos.endLine == cpos.line) = true := by rfl) (hs : starEach (e :: es) X.env = (false, eval e X.env) :: starEach es X.env := by rfl) (hplain : (backTo cpos (starEach es X.env)).any (·.1) = false := by rfl) :
    DE cl X (.Call (.Attribute o name apos) (e :: es) [] cpos) (dBM T r to t) := ⟨imE (pe_bm pa slot hty hm ho.h ha.h hbase hfew hline hs hplain) fun σ H Q ⟨ρ, M, P, er, sm, t, f⟩ =>
  ⟨ρ, M, _, er, sm, t, fun d M1 v H1 q s sm1 r1 => ⟨tyD_ok q.1 r1 sm1, ρ, M1, _, er.mono s, sm1, q.2, fun ds M2 vs H2 q2 l2 s2 sm2 r2 => ⟨d, ds, M2, P, r1.mono s2, r2, sm2, q2, f.from (s.trans s2)⟩⟩⟩⟩
theorem d_bm0 {o : Expr} {to : DTE} {name : Str} {apos cpos : Pos} {T id : String} {r : DRM} (pa : PlainAttrs T) (slot : Slot T name id) (hty : typeOf (.builtin id) = pure (.type "method_descriptor")) (hm : DMt cl X id r) (ho : DE cl X o to)
    (hbase : attributeBase o name X.env (eval o X.env) = eval o X.env := by rfl) (hline : (apos.endLine == cpos.line) = true := by rfl) :
    DE cl X (.Call (.Attribute o name apos) [] [] cpos) (dBM0 T r to) := ⟨imE (pe_bm0 pa slot hty hm ho.h hbase hline) fun σ H Q ⟨ρ, M, P, er, sm, t, f⟩ =>
  ⟨ρ, M, _, er, sm, t, fun d M1 v H1 q s sm1 r1 => ⟨tyD_ok q.1 r1 sm1, d, [], M1, P, r1, .nil, sm1, q.2, f.from s⟩⟩⟩

/-! ### statements -/
theorem ds_nil : DSs cl X [] dNext := ⟨imSs pss_nil fun F σ H ⟨ρ, M, E, er, sm, t, f⟩ => f.nx _ _ _ _ t Stab.refl er sm⟩
theorem ds_cons (h1 : DS cl X st u) (h2 : DSs cl X sts v) : DSs cl X (st :: sts) (dSeq u v) := ⟨imSs (pss_cons h1.h h2.h) fun F σ H ⟨ρ, M, E, er, sm, t, f⟩ =>
  ⟨ρ, M, _, er, sm, t, ⟨fun ρ1 M1 σ1 H1 q s er1 sm1 => ⟨ρ1, M1, E, er1, sm1, q, f.from s⟩, f.rt, f.bk, f.ct⟩⟩⟩
theorem ds_one (h1 : DS cl X st u) : DSs cl X [st] u := ⟨pss_one h1.h⟩
theorem ds_pass : DS cl X (.Pass pos) dNext := ⟨imS ps_pass fun F σ H ⟨ρ, M, E, er, sm, t, f⟩ => f.nx _ _ _ _ t Stab.refl er sm⟩
theorem ds_break : DS cl X (.Break pos) dBreak := ⟨imS ps_break fun F σ H ⟨ρ, M, E, er, sm, t, f⟩ => f.bk _ _ _ _ t Stab.refl er sm⟩
theorem ds_cont : DS cl X (.Continue pos) dCont := ⟨imS ps_continue fun F σ H ⟨ρ, M, E, er, sm, t, f⟩ => f.ct _ _ _ _ t Stab.refl er sm⟩
theorem ds_never : DS cl X st dNever := ⟨imS ps_never fun F σ H ⟨ρ, M, E, er, sm, t, f⟩ => t.elim⟩
theorem dss_never : DSs cl X sts dNever := ⟨imSs pss_never fun F σ H ⟨ρ, M, E, er, sm, t, f⟩ => t.elim⟩
theorem ds_expr (he : DE cl X e te) (hs : swapsWith e none pos.line X.env = pure false := by rfl) : DS cl X (.Expr e pos) (dDrop te) := ⟨imS (ps_expr he.h hs) fun F σ H ⟨ρ, M, E, er, sm, t, f⟩ =>
  ⟨ρ, M, _, er, sm, t, fun d M1 v H1 q s sm1 r1 => f.nx _ _ _ _ q s (er.mono s) sm1⟩⟩
theorem ds_ret (he : DE cl X e te) : DS cl X (.Return (some e) pos) (dRet te) := ⟨imS (ps_ret he.h) fun F σ H ⟨ρ, M, E, er, sm, t, f⟩ => ⟨ρ, M, _, er, sm, t, f.rt⟩⟩
theorem ds_retN : DS cl X (.Return none pos) dRetN := ⟨imS ps_retN fun F σ H ⟨ρ, M, E, er, sm, t, f⟩ => f.rt _ _ _ _ t Stab.refl sm .non⟩
theorem ds_if {c : Expr} {a b : List Stmt} {tc : DTT} (hc : DT cl X c tc) (ha : DSs cl X a u) (hb : DSs cl X b v) : DS cl X (.If c a b pos) (dIfS tc u v) := ⟨imS (ps_if hc.h ha.h hb.h) fun F σ H ⟨ρ, M, E, er, sm, t, f⟩ =>
  ⟨ρ, M, _, er, sm, t, fun k M1 H1 q s sm1 => by
    cases k with
    | true => exact iteT ⟨ρ, M1, E, er.mono s, sm1, q, f.from s⟩
    | false => exact iteF ⟨ρ, M1, E, er.mono s, sm1, q, f.from s⟩⟩⟩
/-! ### targets -/
theorem dg_name (i : Nat) {x : Str} (hN : X.N.Nodup) (hi : X.N[i]? = some x := by rfl) (hx : Loc X.env.scope x := by first | exact Or.inl rfl | exact Or.inr rfl) (hf : X.fn x = true ∨ X.env.scope.names.lookup x = some .local := by first | exact .inl rfl | exact .inr rfl) : DG cl X (.Name x pos) (gN i) :=
  ⟨imG (pg_name hN hi hx hf) fun v σ H Q ⟨d, ρ, M, P, r, er, sm, t, f⟩ => f _ _ _ _ t Stab.refl (er.set r i) sm⟩
theorem dgs_nil : DGs cl X [] gsNil := ⟨imGs pgs_nil fun vs σ H Q ⟨ds, ρ, M, P, r, er, sm, t, f⟩ => by
  cases ds with
  | nil => exact ⟨r.nil', f _ _ _ _ t Stab.refl er sm⟩
  | cons _ _ => exact t.elim⟩
theorem dgs_cons {gs : DTGs} (h1 : DG cl X e g) (h2 : DGs cl X es gs) (hs : (assignEach (e :: es) X.env).map (·.2) = assign e X.env :: (assignEach es X.env).map (·.2) := by rfl) : DGs cl X (e :: es) (gsCons g gs) := ⟨imGs (pgs_cons h1.h h2.h hs) fun vs σ H Q ⟨ds, ρ, M, P, r, er, sm, t, f⟩ => by
  cases ds with
  | nil => exact t.elim
  | cons d ds =>
    cases r with
    | cons r1 r2 => exact ⟨_, _, rfl, d, ρ, M, _, r1, er, sm, t, fun ρ1 M1 σ1 H1 q s er1 sm1 => ⟨ds, ρ1, M1, P, r2.mono s, er1, sm1, q, f.from s⟩⟩⟩
theorem gs_len : ∀ {es : List Expr}, (assignEach es X.env).length = es.length → True := fun _ => trivial
def gTn (n : Nat) (t : DTGs) : DTG := fun d ρ M Q => match tpl d with
  | some xs => xs.length = n ∧ t xs ρ M Q
  | none => False
theorem dg_tup {k n : Nat} {gs : DTGs} (hc : X.calm = true) (h : DGs cl X es gs) (hn : (assignEach es X.env).length = n := by rfl) (hst : (assignEach es X.env).findIdx? (·.1) = none := by rfl) : DG cl X (.Tuple es k pos) (gTn n gs) := ⟨imG (pg_tup hc h.h hn hst) fun v σ H Q ⟨d, ρ, M, P, r, er, sm, t, f⟩ => by
  unfold gTn at t
  split at t
  · next xs e =>
    obtain ⟨p, vs, rfl, h1, h2⟩ := r.tpl e
    exact ⟨p, vs, rfl, .inl h1, h2.length.symm.trans t.1, xs, ρ, M, P, h2, er, sm, t.2, f⟩
  · exact t.elim⟩
theorem ds_asg {tg : Expr} (he : DE cl X e te) (hg : DG cl X tg g) (hs : swapsWithSole [tg] e pos.line X.env = pure false := by rfl) (hw : swappedStores [tg] e X.env = pure none := by rfl) (h1 : (assignEach [tg] X.env).map (·.2) = [assign tg X.env] := by rfl) : DS cl X (.Assign [tg] e pos) (dAsg te g) := ⟨imS (ps_asg he.h hg.h hs hw h1) fun F σ H ⟨ρ, M, E, er, sm, t, f⟩ =>
  ⟨ρ, M, _, er, sm, t, fun d M1 v H1 q s sm1 r1 => ⟨d, ρ, M1, _, r1, er.mono s, sm1, q, f.nx.from s⟩⟩⟩
theorem ds_set (i : Nat) {x : Str} {pos' : Pos} (hN : X.N.Nodup) (he : DE cl X e te) (hi : X.N[i]? = some x := by rfl) (hx : Loc X.env.scope x := by first | exact Or.inl rfl | exact Or.inr rfl)
    (hs : swapsWith e (some (.Name x pos')) pos.line X.env = pure false := by rfl) (hf : X.fn x = true ∨ X.env.scope.names.lookup x = some .local := by first | exact .inl rfl | exact .inr rfl) : DS cl X (.Assign [.Name x pos'] e pos) (dAsg te (gN i)) := ⟨imS (ps_set hN hi hx he.h hs hf) fun F σ H ⟨ρ, M, E, er, sm, t, f⟩ =>
  ⟨ρ, M, _, er, sm, t, fun d M1 v H1 q s sm1 r1 => f.nx _ _ _ _ q s ((er.mono s).set r1 i) sm1⟩⟩
theorem ds_aug (i : Nat) {x : Str} {op : Operator} {r : DR2} {pos' : Pos} (hN : X.N.Nodup) (he : DE cl X e te) (ho : DOp cl X (inplaceOp op) r) (hi : X.N[i]? = some x := by rfl) (hx : Loc X.env.scope x := by first | exact Or.inl rfl | exact Or.inr rfl)
    (hf : X.fn x = true ∨ X.env.scope.names.lookup x = some .local := by first | exact .inl rfl | exact .inr rfl) : DS cl X (.AugAssign (.Name x pos') op e pos) (dAug i te r) := ⟨imS (ps_aug hN hi hx he.h (ho : PIp X op (L2R X.K cl r)) hf) fun F σ H ⟨ρ, M, E, er, sm, t, f⟩ => by
  have t' : (match nth ρ i with | some x => te ρ M fun y M1 => r x y M1 fun z M2 => E.nx (ρ.set i (some z)) M2 | none => False) := t
  cases q : nth ρ i with
  | none => rw [q] at t'; exact t'.elim
  | some d =>
    rw [q] at t'
    obtain ⟨v, h1, h2⟩ := er.2 i d (nth_get q)
    exact ⟨v, h1, ρ, M, _, er, sm, t', fun d1 M1 v1 H1 q1 s sm1 r1 => ⟨d, d1, M1, _, h2.mono s, r1, sm1, q1, fun z M2 vz H2 q2 s2 sm2 r2 => f.nx _ _ _ _ q2 (s.trans s2) ((er.mono (s.trans s2)).set r2 i) sm2⟩⟩⟩
theorem ds_par (i j : Nat) {x y : Str} {a b : Expr} {ta tb : DTE} {px py pt : Pos} {kt k2 : Nat} {pt2 : Pos} (hc : X.calm = true) (hN : X.N.Nodup) (ha : DE cl X a ta) (hb : DE cl X b tb) (hi : X.N[i]? = some x := by rfl) (hj : X.N[j]? = some y := by rfl) (hij : i ≠ j := by decide)
    (hx : X.env.scope.names.lookup x = some .local := by rfl) (hy : X.env.scope.names.lookup y = some .local := by rfl)
    (hw : swappedStores [.Tuple [.Name x px, .Name y py] kt pt] (.Tuple [a, b] k2 pt2) X.env = pure (some [x, y]) := by rfl) (hs : swapsWithSole [.Tuple [.Name x px, .Name y py] kt pt] (.Tuple [a, b] k2 pt2) pos.line X.env = pure false := by rfl)
    (s1 : starEach [a, b] X.env = (false, eval a X.env) :: starEach [b] X.env := by rfl) (s2 : starEach [b] X.env = (false, eval b X.env) :: starEach [] X.env := by rfl) :
    DS cl X (.Assign [.Tuple [.Name x px, .Name y py] kt pt] (.Tuple [a, b] k2 pt2) pos) (dPar i j ta tb) := ⟨imS (ps_par hc hN hi hj hij hx hy (pa_cons ha.h (pa_cons hb.h pa_nil s2) s1) hw hs) fun F σ H ⟨ρ, M, E, er, sm, t, f⟩ =>
  ⟨ρ, M, _, er, sm, t, fun d M1 v H1 q s sm1 r1 => ⟨ρ, M1, _, er.mono s, sm1, q, fun e M2 w H2 q2 s2 sm2 r2 => ⟨v, w, rfl, f.nx _ _ _ _ q2 (s.trans s2) (((er.mono (s.trans s2)).set (r1.mono s2) i).set r2 j) sm2⟩⟩⟩⟩
end
/-! ### while -/
theorem ds_while {c : Expr} {body : List Stmt} {tc : DTT} {tb : DTS} {pos : Pos} (hp : PassesOwn (model X.prog X.w) X.A X.env X.xe) (hc : DT cl X c tc) (hb : DSs cl X body tb) : DS cl X (.While c body [] pos) (dWhile tc tb) := ⟨imS (ps_while hp hc.h hb.h) fun F σ H ⟨ρ, M, E, er, sm, t, f⟩ => by
  obtain ⟨W, ⟨m0, w0⟩, turn⟩ := t
  refine ⟨fun m σ1 H1 => ∃ ρ1 M1, Stab H H1 ∧ EnvR X.K H1 ρ1 σ1 ∧ Sim X.K cl M1 H1 ∧ W m ρ1 M1, ⟨m0, ρ, M, Stab.refl, er, sm, w0⟩, ?_⟩
  rintro m σ1 H1 ⟨ρ1, M1, s, er1, sm1, w1⟩
  refine ⟨ρ1, M1, _, er1, sm1, turn m ρ1 M1 w1, fun b M2 H2 q s2 sm2 => ?_⟩
  cases b with
  | true =>
    obtain ⟨N, hN, q⟩ := (show ∃ N : Env → Mem → Prop, _ from q)
    refine iteT ⟨fun σ' H' => ∃ ρ' M', Stab H H' ∧ EnvR X.K H' ρ' σ' ∧ Sim X.K cl M' H' ∧ N ρ' M', ?_, ?_⟩
    · rintro σ' H' ⟨ρ', M', s', er', sm', n'⟩
      obtain ⟨m', hm, w'⟩ := hN ρ' M' n'
      exact ⟨m', hm, ρ', M', s', er', sm', w'⟩
    · refine ⟨ρ1, M2, _, er1.mono s2, sm2, q, ⟨?_, f.rt.from (s.trans s2), f.nx.from (s.trans s2), ?_⟩⟩
      · exact fun ρ' M' σ' H' n s' er' sm' => ⟨ρ', M', (s.trans s2).trans s', er', sm', n⟩
      · exact fun ρ' M' σ' H' n s' er' sm' => ⟨ρ', M', (s.trans s2).trans s', er', sm', n⟩
  | false => exact iteF (f.nx _ _ _ _ q (s.trans s2) (er1.mono s2) sm2)⟩
/-! ### what is walked -/
/-- J walks the items xs from the heap H0 on, as long as inv holds of the memory -/
structure Walks (K : PySem.W.Frag) (cl : String → Addr) (H0 : Hp) (J : It) (xs : List D) (inv : Mem → Prop) : Prop where
  stop : ∀ H M, Stab H0 H → Sim K cl M H → inv M → J.stop xs.length H
  go : ∀ i x H M, xs[i]? = some x → Stab H0 H → Sim K cl M H → inv M → J.go i H ∧ ∀ v H', J.yld i H v H' → Stab H H' ∧ Sim K cl M H' ∧ Rp K H' x v
abbrev DTI := Env → Mem → (List D → (Mem → Prop) → Mem → Prop) → Prop
def LI (K : PySem.W.Frag) (cl : String → Addr) (t : DTI) : TI := fun σ H R => ∃ ρ M P, EnvR K H ρ σ ∧ Sim K cl M H ∧ t ρ M P ∧ ∀ xs inv M' J H', P xs inv M' → Stab H H' → Sim K cl M' H' → Walks K cl H' J xs inv → R J H'
structure DI (cl : String → Addr) (X : Cx) (tg iter : Expr) (t : DTI) : Prop where h : PI X tg iter (LI X.K cl t)
theorem imI {tg e : Expr} {t t' : TI} (h : PI X tg e t) (i : ∀ σ H Q, t' σ H Q → t σ H Q) : PI X tg e t' := ⟨fun pins s σ H Q I q => h.run pins s σ H Q I (i σ H Q q)⟩
def wLoop (inv : Mem → Prop) (g : DTG) (tb : DTS) (E : DEnds) : List D → Env → Mem → Prop
  | [], ρ, M => inv M ∧ E.nx ρ M
  | x :: xs, ρ, M => inv M ∧ g x ρ M fun ρ' M' => tb { E with nx := wLoop inv g tb E xs, ct := wLoop inv g tb E xs, bk := E.nx } ρ' M'
theorem wLoop_inv {inv : Mem → Prop} {g : DTG} {tb : DTS} {E : DEnds} {xs : List D} {ρ : Env} {M : Mem} (h : wLoop inv g tb E xs ρ M) : inv M := by
  cases xs with
  | nil => exact h.1
  | cons x xs => exact h.1
def dFor (ti : DTI) (g : DTG) (tb : DTS) : DTS := fun E ρ M => ti ρ M fun xs inv M1 => wLoop inv g tb E xs ρ M1
theorem ds_for {tg iter : Expr} {body : List Stmt} {ti : DTI} {g : DTG} {tb : DTS} {pos : Pos} (hp : PassesOwn (model X.prog X.w) X.A X.env X.xe) (hc : X.calm = true) (hi : DI cl X tg iter ti) (hg : DG cl X tg g) (hb : DSs cl X body tb)
    (hs : ∀ x, foldedSetIterable iter X.env x = pure x := by intro _; rfl) : DS cl X (.For tg iter body [] pos) (dFor ti g tb) := ⟨imS (ps_for hp hc hi.h hg.h hb.h hs) fun F σ H ⟨ρ, M, E, er, sm, t, f⟩ => by
  refine ⟨ρ, M, _, er, sm, t, fun xs inv M1 J H1 q s sm1 wk => ?_⟩
  refine ⟨fun i m σ2 H2 => m = xs.length - i ∧ i ≤ xs.length ∧ ∃ ρ2 M2, Stab H1 H2 ∧ EnvR X.K H2 ρ2 σ2 ∧ Sim X.K cl M2 H2 ∧ wLoop inv g tb E (xs.drop i) ρ2 M2, ⟨xs.length, by simp, Nat.zero_le _, ρ, M1, Stab.refl, er.mono s, sm1, by simpa using q⟩, ?_⟩
  rintro i m σ2 H2 ⟨rfl, hi, ρ2, M2, s2, er2, sm2, w⟩
  by_cases hlt : i < xs.length
  · have ex : xs.drop i = xs[i] :: xs.drop (i + 1) := List.drop_eq_getElem_cons hlt
    rw [ex] at w
    obtain ⟨iv, w⟩ := w
    obtain ⟨go, y⟩ := wk.go i xs[i] H2 M2 (by simp [hlt]) s2 sm2 iv
    refine .inr ⟨go, fun σ' H' => ∃ ρ' M', Stab H1 H' ∧ EnvR X.K H' ρ' σ' ∧ Sim X.K cl M' H' ∧ wLoop inv g tb E (xs.drop (i + 1)) ρ' M', ?_, fun v H3 hy => ?_⟩
    · rintro σ' H' ⟨ρ', M', s', er', sm', w'⟩
      exact ⟨xs.length - (i + 1), by omega, rfl, hlt, ρ', M', s', er', sm', w'⟩
    · obtain ⟨s3, sm3, r3⟩ := y v H3 hy
      refine ⟨xs[i], ρ2, M2, _, r3, er2.mono s3, sm3, w, fun ρ4 M4 σ4 H4 q4 s4 er4 sm4 => ?_⟩
      have st : Stab H H4 := (s.trans s2).trans (s3.trans s4)
      have s14 : Stab H1 H4 := s2.trans (s3.trans s4)
      refine ⟨ρ4, M4, _, er4, sm4, q4, ⟨?_, f.rt.from st, f.nx.from st, ?_⟩⟩
      · exact fun ρ' M' σ' H' n s' er' sm' => ⟨ρ', M', s14.trans s', er', sm', n⟩
      · exact fun ρ' M' σ' H' n s' er' sm' => ⟨ρ', M', s14.trans s', er', sm', n⟩
  · have e : i = xs.length := by omega
    subst e
    rw [List.drop_length] at w
    exact .inl ⟨wk.stop H2 M2 s2 sm2 w.1, f.nx _ _ _ _ w.2 (s.trans s2) er2 sm2⟩⟩
end EW

set_option maxRecDepth 100000
set_option maxHeartbeats 4000000
/-! EwComp: comprehensions over data. -/
namespace EW
open PySem PySem.Spec PyProof.Rows L2

/-- a target: a name's slot, or several -/
inductive Pat where
  | n (i : Nat)
  | t (ps : List Pat)
mutual
def bindP : Pat → D → Env → (Env → Prop) → Prop
  | .n i, d, ρ, k => k (ρ.set i (some d))
  | .t ps, d, ρ, k => match tpl d with
    | some ds => bindPs ps ds ρ k
    | none => False
def bindPs : List Pat → List D → Env → (Env → Prop) → Prop
  | [], [], ρ, k => k ρ
  | p :: ps, d :: ds, ρ, k => bindP p d ρ fun ρ' => bindPs ps ds ρ' k
  | _, _, _, _ => False
end
mutual
def tgP (K : PySem.W.Frag) : Pat → TG
  | .n i => gName i
  | .t ps => gTup K ps.length (tgPs K ps)
def tgPs (K : PySem.W.Frag) : List Pat → TGs
  | [] => gNil
  | p :: ps => gCons (tgP K p) (tgPs K ps)
end
mutual
def slP : Pat → List Nat
  | .n i => [i]
  | .t ps => slPs ps
def slPs : List Pat → List Nat
  | [] => []
  | p :: ps => slP p ++ slPs ps
end
def wipeD (ρ : Env) : List Nat → Env
  | [] => ρ
  | v :: vs => (wipeD ρ vs).set v none
theorem wipe_at (σ : L2.St) : ∀ (vs : List Nat) (i : Nat), (wipe σ vs)[i]? = if i ∈ vs then (if i < σ.length then some none else none) else σ[i]?
  | [], i => by simp [wipe]
  | v :: vs, i => by
    unfold wipe
    by_cases h : v = i
    · subst h
      by_cases hl : v < σ.length
      · rw [List.getElem?_set_self (by rw [wipe_length]; exact hl)]; simp [hl]
      · rw [List.getElem?_eq_none (by rw [List.length_set, wipe_length]; omega)]; simp [hl]
    · rw [List.getElem?_set_ne h, wipe_at σ vs i]
      have h' : i ≠ v := fun e => h e.symm
      simp [h']
theorem wipeD_at (ρ : Env) : ∀ (vs : List Nat) (i : Nat) (d : D), (wipeD ρ vs)[i]? = some (some d) → i ∉ vs ∧ ρ[i]? = some (some d)
  | [], i, d, h => ⟨by simp, h⟩
  | v :: vs, i, d, h => by
    unfold wipeD at h
    by_cases e : v = i
    · subst e
      by_cases hl : v < (wipeD ρ vs).length
      · rw [List.getElem?_set_self hl] at h; cases h
      · rw [List.getElem?_eq_none (by rw [List.length_set]; omega)] at h; cases h
    · rw [List.getElem?_set_ne e] at h
      obtain ⟨h1, h2⟩ := wipeD_at ρ vs i d h
      exact ⟨by simp only [List.mem_cons, not_or]; exact ⟨fun q => e q.symm, h1⟩, h2⟩
theorem wipeD_length (ρ : Env) : ∀ vs : List Nat, (wipeD ρ vs).length = ρ.length
  | [] => rfl
  | v :: vs => by unfold wipeD; rw [List.length_set, wipeD_length ρ vs]
theorem wipe_set {σ : L2.St} {vs : List Nat} {i : Nat} {v : V} (h : i ∈ vs) : wipe (σ.set i (some v)) vs = wipe σ vs := by
  apply List.ext_getElem?
  intro j
  rw [wipe_at, wipe_at, List.length_set]
  by_cases hj : j ∈ vs
  · simp [hj]
  · have : i ≠ j := fun e => hj (e ▸ h)
    simp [hj, List.getElem?_set_ne this]
section
variable {K : PySem.W.Frag} {H : Hp}
theorem EnvR.wipe {ρ : Env} {σ : L2.St} (h : EnvR K H ρ σ) (vs : List Nat) : EnvR K H (wipeD ρ vs) (L2.wipe σ vs) := by
  refine ⟨by rw [wipeD_length, wipe_length, h.1], fun i d e => ?_⟩
  obtain ⟨h1, h2⟩ := wipeD_at ρ vs i d e
  obtain ⟨v, h3, h4⟩ := h.2 i d h2
  exact ⟨v, by rw [wipe_at, if_neg h1]; exact h3, h4⟩
mutual
theorem bindP_ok {vs : List Nat} : ∀ {p : Pat} {d : D} {v : V} {ρ : Env} {σ : L2.St} {k : Env → Prop} {Q : L2.St → Hp → Prop}, (∀ i ∈ slP p, i ∈ vs) → Rp K H d v → EnvR K H ρ σ → bindP p d ρ k →
    (∀ ρ' σ', k ρ' → EnvR K H ρ' σ' → wipe σ' vs = wipe σ vs → Q σ' H) → tgP K p v σ H Q
  | .n i, d, v, ρ, σ, k, Q, hv, r, er, b, f => f _ _ b (er.set r i) (wipe_set (hv i (by simp [slP])))
  | .t ps, d, v, ρ, σ, k, Q, hv, r, er, b, f => by
    unfold bindP at b
    split at b
    · next ds e =>
      obtain ⟨p, ws, rfl, h1, h2⟩ := r.tpl e
      have key := bindPs_ok (Q := Q) (vs := vs) (ps := ps) hv h2 er b f
      exact ⟨p, ws, rfl, .inl h1, key.1, key.2⟩
    · exact b.elim
theorem bindPs_ok {vs : List Nat} : ∀ {ps : List Pat} {ds : List D} {ws : List V} {ρ : Env} {σ : L2.St} {k : Env → Prop} {Q : L2.St → Hp → Prop}, (∀ i ∈ slPs ps, i ∈ vs) → RpL K H ds ws → EnvR K H ρ σ → bindPs ps ds ρ k →
    (∀ ρ' σ', k ρ' → EnvR K H ρ' σ' → wipe σ' vs = wipe σ vs → Q σ' H) → ws.length = ps.length ∧ tgPs K ps ws σ H Q
  | [], [], ws, ρ, σ, k, Q, hv, r, er, b, f => by
    cases r
    exact ⟨rfl, rfl, f _ _ b er rfl⟩
  | p :: ps, d :: ds, ws, ρ, σ, k, Q, hv, r, er, b, f => by
    cases r with
    | cons r1 r2 =>
      have hl : ∀ (ρ : Env) (k : Env → Prop), bindPs ps ds ρ k → ds.length = ps.length := fun ρ k h => bindPs_len h
      have hlen : ds.length = ps.length := by
        have b' : bindP p d ρ fun ρ' => bindPs ps ds ρ' k := b
        exact bindP_some b' fun ρ' q => hl _ _ q
      refine ⟨by rw [List.length_cons, List.length_cons, ← r2.length, hlen], ?_⟩
      refine ⟨_, _, rfl, ?_⟩
      refine bindP_ok (vs := vs) (fun i hi => hv i (by simp [slPs, hi])) r1 er b fun ρ' σ' q er' w => ?_
      exact (bindPs_ok (vs := vs) (fun i hi => hv i (by simp [slPs, hi])) r2 er' q fun ρ2 σ2 q2 er2 w2 => f _ _ q2 er2 (w2.trans w)).2
  | [], _ :: _, _, _, _, _, _, _, _, _, b, _ => b.elim
  | _ :: _, [], _, _, _, _, _, _, _, _, b, _ => b.elim
theorem bindPs_len : ∀ {ps : List Pat} {ds : List D} {ρ : Env} {k : Env → Prop}, bindPs ps ds ρ k → ds.length = ps.length
  | [], [], _, _, _ => rfl
  | p :: ps, d :: ds, ρ, k, b => by
    have b' : bindP p d ρ fun ρ' => bindPs ps ds ρ' k := b
    rw [List.length_cons, List.length_cons, bindP_some b' fun ρ' q => bindPs_len q]
  | [], _ :: _, _, _, b => b.elim
  | _ :: _, [], _, _, b => b.elim
theorem bindP_some : ∀ {p : Pat} {d : D} {ρ : Env} {k : Env → Prop} {C : Prop}, bindP p d ρ k → (∀ ρ', k ρ' → C) → C
  | .n i, _, _, _, _, b, f => f _ b
  | .t ps, d, _, _, _, b, f => by
    unfold bindP at b
    split at b
    · exact bindPs_some b f
    · exact b.elim
theorem bindPs_some : ∀ {ps : List Pat} {ds : List D} {ρ : Env} {k : Env → Prop} {C : Prop}, bindPs ps ds ρ k → (∀ ρ', k ρ' → C) → C
  | [], [], _, _, _, b, f => f _ b
  | p :: ps, d :: ds, ρ, k, C, b, f => by
    have b' : bindP p d ρ fun ρ' => bindPs ps ds ρ' k := b
    exact bindP_some b' fun ρ' q => bindPs_some q f
  | [], _ :: _, _, _, _, b, _ => b.elim
  | _ :: _, [], _, _, _, b, _ => b.elim
end
end

def wComp (inv : Mem → Prop) (pt : Pat) (tt : DTT) (te : DTE) (ρ : Env) (a : Addr) (Q : Mem → Prop) : List D → Mem → Prop
  | [], M => inv M ∧ Q M
  | x :: xs, M => inv M ∧ bindP pt x ρ fun ρ2 => tt ρ2 M fun b M3 => if b = true then te ρ2 M3 fun y M4 => ∃ acc, M4 a = some (.lst acc) ∧ acc.length < sizeLine ∧ wComp inv pt tt te ρ a Q xs (up M4 a (.lst (acc ++ [y])))
      else wComp inv pt tt te ρ a Q xs M3
theorem wComp_inv {inv : Mem → Prop} {pt : Pat} {tt : DTT} {te : DTE} {ρ : Env} {a : Addr} {Q : Mem → Prop} {xs : List D} {M : Mem} (h : wComp inv pt tt te ρ a Q xs M) : inv M := by
  cases xs with
  | nil => exact h.1
  | cons x xs => exact h.1
def dYes : DTT := fun _ M Q => Q true M
def dComp (ti : DTI) (own : List Nat) (pt : Pat) (tt : DTT) (te : DTE) : DTE := fun ρ M Q => ti ρ M fun xs inv M1 => ∀ a, M1 a = none → wComp inv pt tt te (wipeD ρ own) a (fun M' => Q (.ref a) M') xs (up M1 a (.lst []))
structure DTs (cl : String → Addr) (X : Cx) (ifs : List Expr) (t : DTT) : Prop where h : PTs X ifs (LT X.K cl t)
theorem imTs {X : Cx} {e : List Expr} {t t' : TT} (h : PTs X e t) (i : ∀ σ H Q, t' σ H Q → t σ H Q) : PTs X e t' := ⟨fun pins s σ H Q I q => h.run pins s σ H Q I (i σ H Q q)⟩
section
variable {cl : String → Addr} {X : Cx}
theorem dts_nil : DTs cl X [] dYes := ⟨imTs pts_nil fun σ H Q ⟨ρ, M, P, er, sm, t, f⟩ => f _ _ _ t Stab.refl sm⟩
theorem dts_one {c : Expr} {t : DTT} (h : DT cl X c t) : DTs cl X [c] t := ⟨pts_one h.h⟩
theorem comp_ok {K : PySem.W.Frag} {ti : DTI} {own : List Nat} {pt : Pat} {tt : DTT} {te : DTE} (hp : ∀ i ∈ slP pt, i ∈ own) {σ : L2.St} {H : Hp} {Q : VK} (h : LE K cl (dComp ti own pt tt te) σ H Q) :
    tLc (LI K cl ti) (tgP K pt) (LT K cl tt) (LE K cl te) own σ H Q := by
  obtain ⟨ρ, M, P, er, sm, t, f⟩ := h
  refine ⟨ρ, M, _, er, sm, t, fun xs inv M1 J H1 q s sm1 wk => ?_⟩
  intro a ha
  have q1 := q a (sm1.free ha)
  have st1 : Stab H1 (upd H1 a (.lst [])) := Stab.new ha
  refine ⟨fun i m H2 => m = xs.length - i ∧ i ≤ xs.length ∧ ∃ M2, Stab H1 H2 ∧ Sim K cl M2 H2 ∧ wComp inv pt tt te (wipeD ρ own) a (fun M' => P (.ref a) M') (xs.drop i) M2, ⟨xs.length, by simp, Nat.zero_le _, _, st1, sm1.new (o := .lst []) ha ⟨[], upd_same, .nil⟩, by simpa using q1⟩, ?_⟩
  rintro i m H2 ⟨rfl, hi, M2, s2, sm2, w⟩
  by_cases hlt : i < xs.length
  · have ex : xs.drop i = xs[i] :: xs.drop (i + 1) := List.drop_eq_getElem_cons hlt
    rw [ex] at w
    obtain ⟨iv, w⟩ := w
    obtain ⟨go, y⟩ := wk.go i xs[i] H2 M2 (by simp [hlt]) s2 sm2 iv
    refine .inr ⟨go, fun H' => ∃ M', Stab H1 H' ∧ Sim K cl M' H' ∧ wComp inv pt tt te (wipeD ρ own) a (fun M' => P (.ref a) M') (xs.drop (i + 1)) M', ?_, fun v H3 hy => ?_⟩
    · rintro H' ⟨M', s', sm', w'⟩
      exact ⟨xs.length - (i + 1), by omega, rfl, hlt, M', s', sm', w'⟩
    · obtain ⟨s3, sm3, r3⟩ := y v H3 hy
      have er3 : EnvR K H3 (wipeD ρ own) (L2.wipe σ own) := (er.mono (s.trans (s2.trans s3))).wipe own
      refine bindP_ok (vs := own) hp r3 er3 w fun ρ4 σ4 q4 er4 w4 => ⟨?_, ?_⟩
      · rw [w4]
        apply List.ext_getElem?
        intro j
        rw [wipe_at, wipe_at, wipe_length]
        by_cases hj : j ∈ own <;> simp [hj]
      · refine ⟨ρ4, M2, _, er4, sm3, q4, fun b M5 H5 q5 s5 sm5 => ?_⟩
        cases b with
        | true =>
          refine iteT ⟨ρ4, M5, _, er4.mono s5, sm5, q5, fun d M6 v6 H6 q6 s6 sm6 r6 => ?_⟩
          obtain ⟨acc, e6, l6, q6⟩ := q6
          obtain ⟨vs, h6, rr⟩ := sm6 a _ e6
          have st6 : Stab H6 (upd H6 a (.lst (vs ++ [v6]))) := Stab.wr h6 (fun _ q => by cases q) (fun _ _ q => by cases q)
          refine ⟨vs, h6, by rw [← rr.length]; exact l6, up M6 a (.lst (acc ++ [d])), ((s2.trans s3).trans (s5.trans s6)).trans st6, sm6.put st6 ⟨_, upd_same, (rr.mono st6).append (.cons (r6.mono st6) .nil)⟩, q6⟩
        | false => exact iteF ⟨M5, (s2.trans s3).trans s5, sm5, q5⟩
  · have e : i = xs.length := by omega
    subst e
    rw [List.drop_length] at w
    exact .inl ⟨wk.stop H2 M2 s2 sm2 w.1, f _ _ _ _ w.2 (s.trans s2) sm2 (.ref a)⟩
variable {elt tg iter : Expr} {ifs : List Expr} {scope : Scope} {own : List (Str × Nat)} {pos : Pos} {ti : DTI} {pt : Pat} {tt : DTT} {te : DTE}
theorem d_lc (hc : X.calm = true) (hN : X.N.Nodup) (hi : DI cl X tg iter ti) (ok : BlkOk X.N X.env.scope scope own)
    (hg : ∀ (s : Shared) (H : Hp) (C : Addr) (cs : List (Str × Addr)) (fp : List Addr), PG (X.blk s H scope (compEnvC scope cs C X.env) fp) tg (tgP X.K pt)) (ht : ∀ (s : Shared) (H : Hp) (C : Addr) (cs : List (Str × Addr)) (fp : List Addr), DTs cl (X.blk s H scope (compEnvC scope cs C X.env) fp) ifs tt)
    (he : ∀ (s : Shared) (H : Hp) (C : Addr) (cs : List (Str × Addr)) (fp : List Addr), DE cl (X.blk s H scope (compEnvC scope cs C X.env) fp) elt te) (hp : ∀ i ∈ slP pt, i ∈ own.map (·.2) := by decide) (hs : ∀ x, foldedSetIterable iter X.env x = pure x := by intro _; rfl) :
    DE cl X (.ListComp elt [⟨tg, iter, ifs, 0⟩] scope pos) (dComp ti (own.map (·.2)) pt tt te) :=
  ⟨imE (pe_lc hc hN hi.h ok hg (fun s H C cs fp => (ht s H C cs fp).h) (fun s H C cs fp => (he s H C cs fp).h) hs) fun σ H Q h => comp_ok hp h⟩
theorem ds_setLc (i : Nat) {y : Str} {py spos : Pos} (hc : X.calm = true) (hN : X.N.Nodup) (hi : DI cl X tg iter ti) (ok : BlkOk X.N X.env.scope scope own)
    (hg : ∀ (s : Shared) (H : Hp) (C : Addr) (cs : List (Str × Addr)) (fp : List Addr), PG (X.blk s H scope (compEnvC scope cs C X.env) fp) tg (tgP X.K pt)) (ht : ∀ (s : Shared) (H : Hp) (C : Addr) (cs : List (Str × Addr)) (fp : List Addr), DTs cl (X.blk s H scope (compEnvC scope cs C X.env) fp) ifs tt)
    (he : ∀ (s : Shared) (H : Hp) (C : Addr) (cs : List (Str × Addr)) (fp : List Addr), DE cl (X.blk s H scope (compEnvC scope cs C X.env) fp) elt te) (hy : X.N[i]? = some y := by rfl) (hyl : X.env.scope.names.lookup y = some .local := by rfl)
    (hsw : swapsWith (.ListComp elt [⟨tg, iter, ifs, 0⟩] scope pos) (some (.Name y py)) spos.line X.env = pure true := by exact sw_true rfl rfl rfl (by decide +kernel)) (hp : ∀ i ∈ slP pt, i ∈ own.map (·.2) := by decide) (hs : ∀ x, foldedSetIterable iter X.env x = pure x := by intro _; rfl) :
    DS cl X (.Assign [.Name y py] (.ListComp elt [⟨tg, iter, ifs, 0⟩] scope pos) spos) (dAsg (dComp ti (own.map (·.2)) pt tt te) (gN i)) :=
  ⟨imS (ps_setLc hc hN hy hyl hsw hi.h ok hg (fun s H C cs fp => (ht s H C cs fp).h) (fun s H C cs fp => (he s H C cs fp).h) hs) fun F σ H ⟨ρ, M, E, er, sm, t, f⟩ =>
    comp_ok hp ⟨ρ, M, _, er, sm, t, fun d M1 v H1 q s sm1 r1 => f.nx _ _ _ _ q s ((er.mono s).set r1 i) sm1⟩⟩
end
end EW

set_option maxRecDepth 100000
set_option maxHeartbeats 4000000
/-! EwDict: dicts over data. -/
namespace EW
open PySem PySem.Spec PyProof.Rows L2

section
variable {κ : Type} [DecidableEq κ]
def valD : List (κ × D) → κ → Option D
  | [], _ => none
  | (k, d) :: r, j => if k = j then some d else valD r j
def putD (kvs : List (κ × D)) (k : κ) (v : D) : List (κ × D) := if (valD kvs k).isSome = true then kvs.map (fun kv => if kv.1 = k then (kv.1, v) else kv) else kvs ++ [(k, v)]
def dropD : List (κ × D) → κ → List (κ × D)
  | [], _ => []
  | (k, d) :: r, j => if k = j then dropD r j else (k, d) :: dropD r j
theorem valD_map (k j : κ) (v : D) (kvs : List (κ × D)) : valD (kvs.map fun kv => if kv.1 = k then (kv.1, v) else kv) j = (valD kvs j).map fun x => if k = j then v else x := by
  induction kvs with
  | nil => rfl
  | cons p r ih =>
    obtain ⟨a, d⟩ := p
    by_cases h : a = k
    · subst h
      by_cases h2 : a = j
      · simp [valD, h2]
      · simp [valD, h2, ih]
    · by_cases h2 : a = j
      · subst h2
        have h' : ¬ k = a := fun e => h e.symm
        simp [valD, h, h']
      · simp [valD, h, h2, ih]
theorem valD_append (j : κ) (kvs ls : List (κ × D)) : valD (kvs ++ ls) j = (valD kvs j).or (valD ls j) := by
  induction kvs with
  | nil => simp [valD]
  | cons p r ih =>
    obtain ⟨a, d⟩ := p
    by_cases h2 : a = j
    · simp [valD, h2]
    · simp [valD, h2, ih]
theorem valD_put (kvs : List (κ × D)) (k j : κ) (v : D) : valD (putD kvs k v) j = if k = j then some v else valD kvs j := by
  unfold putD
  split
  · next h =>
    rw [valD_map]
    by_cases h2 : k = j
    · subst h2
      cases e : valD kvs k with
      | none => rw [e] at h; cases h
      | some d => simp
    · simp [h2]
  · next h =>
    rw [valD_append]
    have e : valD kvs k = none := by
      cases e : valD kvs k with
      | none => rfl
      | some d => rw [e] at h; simp at h
    by_cases h2 : k = j
    · subst h2
      simp [e, valD]
    · simp [valD, h2]
theorem putD_new {kvs : List (κ × D)} {k : κ} (v : D) (h : valD kvs k = none) : putD kvs k v = kvs ++ [(k, v)] := by
  unfold putD; rw [h]; rfl
theorem valD_drop (kvs : List (κ × D)) (k j : κ) : valD (dropD kvs k) j = if k = j then none else valD kvs j := by
  induction kvs with
  | nil => simp [dropD, valD]
  | cons p r ih =>
    obtain ⟨a, d⟩ := p
    by_cases h : a = k
    · subst h
      by_cases h2 : a = j
      · subst h2; simp [dropD, ih]
      · simp [dropD, valD, h2, ih]
    · by_cases h2 : k = j
      · subst h2
        simp [dropD, valD, h, ih]
      · by_cases h3 : a = j
        · subst h3; simp [dropD, valD, h, h2]
        · simp [dropD, valD, h, h2, h3, ih]
theorem mem_valD {kvs : List (κ × D)} {k : κ} {d : D} (h : valD kvs k = some d) : (k, d) ∈ kvs := by
  induction kvs with
  | nil => cases h
  | cons p r ih =>
    obtain ⟨a, e⟩ := p
    unfold valD at h
    by_cases q : a = k
    · rw [if_pos q] at h; cases h; subst q; exact List.mem_cons_self
    · rw [if_neg q] at h; exact List.mem_cons_of_mem _ (ih h)
theorem length_putD_le (kvs : List (κ × D)) (k : κ) (v : D) : (putD kvs k v).length ≤ kvs.length + 1 := by
  unfold putD
  split <;> simp
variable {K : PySem.W.Frag} {H : Hp}
theorem RpF.val : ∀ {ds : List (κ × D)} {vs : List (κ × V)} (k : κ), RpF K H ds vs → (valD ds k = none ∧ valV vs k = none) ∨ ∃ d v, valD ds k = some d ∧ valV vs k = some v ∧ Rp K H d v
  | _, _, k, .nil => .inl ⟨rfl, rfl⟩
  | (a, d) :: ds, (_, v) :: vs, k, .cons r t => by
    by_cases h : a = k
    · exact .inr ⟨d, v, by simp [valD, h], by rw [valV_pos h], r⟩
    · rcases RpF.val k t with ⟨h1, h2⟩ | ⟨d', v', h1, h2, h3⟩
      · exact .inl ⟨by simp [valD, h, h1], by rw [valV_neg h]; exact h2⟩
      · exact .inr ⟨d', v', by simp [valD, h, h1], by rw [valV_neg h]; exact h2, h3⟩
theorem RpF.repl {d : D} {v : V} (r : Rp K H d v) (k : κ) : ∀ {ds : List (κ × D)} {vs : List (κ × V)}, RpF K H ds vs → RpF K H (ds.map fun kv => if kv.1 = k then (kv.1, d) else kv) (vs.map fun kv => if kv.1 = k then (kv.1, v) else kv)
  | _, _, .nil => .nil
  | (a, e) :: ds, (_, w) :: vs, .cons q t => by
    by_cases ha : a = k
    · simp only [List.map_cons, if_pos ha]
      exact .cons r (RpF.repl r k t)
    · simp only [List.map_cons, if_neg ha]
      exact .cons q (RpF.repl r k t)
theorem RpF.put {d : D} {v : V} (r : Rp K H d v) (k : κ) {ds : List (κ × D)} {vs : List (κ × V)} (t : RpF K H ds vs) : RpF K H (putD ds k d) (putK vs k v) := by
  unfold putK putD
  rw [valV_any]
  rcases t.val k with ⟨h1, h2⟩ | ⟨d', v', h1, h2, h3⟩
  · rw [h1, h2]
    exact t.append (.cons r .nil)
  · rw [h1, h2]
    exact RpF.repl r k t
theorem RpF.drop (k : κ) : ∀ {ds : List (κ × D)} {vs : List (κ × V)}, RpF K H ds vs → RpF K H (dropD ds k) (dropK vs k)
  | _, _, .nil => .nil
  | (a, e) :: ds, (_, w) :: vs, .cons q t => by
    have ih := RpF.drop k t
    unfold dropK at ih ⊢
    by_cases ha : a = k
    · rw [List.filter_cons_of_neg (by simp [ha])]
      simp only [dropD, if_pos ha]
      exact ih
    · rw [List.filter_cons_of_pos (by simp [ha])]
      simp only [dropD, if_neg ha]
      exact .cons q ih
end
/-! ### keys of data -/
def toK : D → Option Key
  | .int i => some (.inl i)
  | .str x => some (.inr x)
  | _ => none
def toKs : List D → Option (List Key)
  | [] => some []
  | d :: ds => match toK d, toKs ds with
    | some k, some ks => some (k :: ks)
    | _, _ => none
section
variable {K : PySem.W.Frag} {H : Hp}
theorem toK_ok {d : D} {k : Key} (h : toK d = some k) : d = kD k := by
  cases d <;> first | (cases h; rfl) | cases h
theorem toKs_ok : ∀ {ds : List D} {ks : List Key}, toKs ds = some ks → ds = ks.map kD
  | [], _, h => by cases h; rfl
  | d :: ds, ks, h => by
    unfold toKs at h
    cases h1 : toK d with
    | none => rw [h1] at h; cases h
    | some k =>
      cases h2 : toKs ds with
      | none => rw [h1, h2] at h; cases h
      | some r =>
        rw [h1, h2] at h; cases h
        rw [toK_ok h1, toKs_ok h2]; rfl
end
/-- what the dict at a holds at the key: it is a dict for such a key, and r is found -/
@[irreducible] def dFind (M : Mem) (a : Addr) (key : D) (k : Option D → Prop) : Prop := match M a, key with
  | some (.dK kvs), .int i => k (valD kvs (.inl i))
  | some (.dK kvs), .str x => k (valD kvs (.inr x))
  | some (.fK kvs), .int i => k (valD kvs (.inl i))
  | some (.fK kvs), .str x => k (valD kvs (.inr x))
  | some (.dT kvs), .tup ds => match toKs ds with
    | some ks => k (valD kvs ks)
    | none => False
  | some (.fT kvs), .tup ds => match toKs ds with
    | some ks => k (valD kvs ks)
    | none => False
  | _, _ => False
theorem dFind_ok {K : PySem.W.Frag} {cl : String → Addr} {H : Hp} {M : Mem} {a : Addr} {key : D} {y : V} {k : Option D → Prop} (h : dFind M a key k) (sm : Sim K cl M H) (ry : Rp K H key y) :
    (k none ∧ DGet H a y none) ∨ ∃ d v, k (some d) ∧ DGet H a y (some v) ∧ Rp K H d v := by
  unfold dFind at h
  split at h
  · next kvs i e =>
    obtain ⟨vs, h1, h2⟩ := sm _ _ e
    rw [ry.int']
    rcases h2.val (Sum.inl i) with ⟨q1, q2⟩ | ⟨d, v, q1, q2, q3⟩
    · rw [q1] at h; exact .inl ⟨h, .inl ⟨vs, .inl i, .inl h1, rfl, q2.symm⟩⟩
    · rw [q1] at h; exact .inr ⟨d, v, h, .inl ⟨vs, .inl i, .inl h1, rfl, q2.symm⟩, q3⟩
  · next kvs x e =>
    obtain ⟨vs, h1, h2⟩ := sm _ _ e
    rw [ry.str']
    rcases h2.val (Sum.inr x) with ⟨q1, q2⟩ | ⟨d, v, q1, q2, q3⟩
    · rw [q1] at h; exact .inl ⟨h, .inl ⟨vs, .inr x, .inl h1, rfl, q2.symm⟩⟩
    · rw [q1] at h; exact .inr ⟨d, v, h, .inl ⟨vs, .inr x, .inl h1, rfl, q2.symm⟩, q3⟩
  · next kvs i e =>
    obtain ⟨o, vs, h1, h2⟩ := sm _ _ e
    rw [ry.int']
    rcases h2.val (Sum.inl i) with ⟨q1, q2⟩ | ⟨d, v, q1, q2, q3⟩
    · rw [q1] at h; exact .inl ⟨h, .inl ⟨vs, .inl i, .inr ⟨o, h1⟩, rfl, q2.symm⟩⟩
    · rw [q1] at h; exact .inr ⟨d, v, h, .inl ⟨vs, .inl i, .inr ⟨o, h1⟩, rfl, q2.symm⟩, q3⟩
  · next kvs x e =>
    obtain ⟨o, vs, h1, h2⟩ := sm _ _ e
    rw [ry.str']
    rcases h2.val (Sum.inr x) with ⟨q1, q2⟩ | ⟨d, v, q1, q2, q3⟩
    · rw [q1] at h; exact .inl ⟨h, .inl ⟨vs, .inr x, .inr ⟨o, h1⟩, rfl, q2.symm⟩⟩
    · rw [q1] at h; exact .inr ⟨d, v, h, .inl ⟨vs, .inr x, .inr ⟨o, h1⟩, rfl, q2.symm⟩, q3⟩
  · next kvs ds e =>
    split at h
    · next ks ek =>
      obtain ⟨vs, h1, h2⟩ := sm _ _ e
      obtain ⟨p, ws, rfl, h3, h4⟩ := ry.tup'
      rw [toKs_ok ek] at h4
      rw [h4.keys'] at h3
      rcases h2.val ks with ⟨q1, q2⟩ | ⟨d, v, q1, q2, q3⟩
      · rw [q1] at h; exact .inl ⟨h, .inr ⟨vs, ks, p, .inl h1, rfl, h3, q2.symm⟩⟩
      · rw [q1] at h; exact .inr ⟨d, v, h, .inr ⟨vs, ks, p, .inl h1, rfl, h3, q2.symm⟩, q3⟩
    · exact h.elim
  · next kvs ds e =>
    split at h
    · next ks ek =>
      obtain ⟨o, vs, h1, h2⟩ := sm _ _ e
      obtain ⟨p, ws, rfl, h3, h4⟩ := ry.tup'
      rw [toKs_ok ek] at h4
      rw [h4.keys'] at h3
      rcases h2.val ks with ⟨q1, q2⟩ | ⟨d, v, q1, q2, q3⟩
      · rw [q1] at h; exact .inl ⟨h, .inr ⟨vs, ks, p, .inr ⟨o, h1⟩, rfl, h3, q2.symm⟩⟩
      · rw [q1] at h; exact .inr ⟨d, v, h, .inr ⟨vs, ks, p, .inr ⟨o, h1⟩, rfl, h3, q2.symm⟩, q3⟩
    · exact h.elim
  · exact h.elim
end EW

set_option maxRecDepth 100000
set_option maxHeartbeats 4000000
/-! EwOps: operators, subscripts, slices by data. -/
namespace EW
open PySem PySem.Spec PyProof.Rows L2
variable {cl : String → Addr} {X : Cx}

/-! ### numbers -/
def asII (x y : D) (k : Int → Int → Prop) : Prop := asI x fun i => asI y fun j => k i j
theorem asII_elim {x y : D} {k : Int → Int → Prop} (h : asII x y k) : ∃ i j, x = .int i ∧ y = .int j ∧ k i j := by
  obtain ⟨i, e1, h⟩ := asI_elim h
  obtain ⟨j, e2, h⟩ := asI_elim h
  exact ⟨i, j, e1, e2, h⟩
theorem opII {f : Value → Value → Sem Value} {C : Int → Int → Prop} {g : Int → Int → Int} (h : OpR X f (rI C fun i j => .int (g i j))) : DOp cl X f (fun x y M Q => asII x y fun i j => C i j ∧ Q (.int (g i j)) M) :=
  imOp h fun x y H Q ⟨d, e, M, P, r1, r2, sm, r, f⟩ => by
    obtain ⟨i, j, rfl, rfl, c, r⟩ := asII_elim r
    exact ⟨i, j, r1.int', r2.int', c, f _ _ _ _ r Stab.refl sm (.int _)⟩
theorem opII0 {f : Value → Value → Sem Value} {g : Int → Int → Int} (h : OpR X f (rI0 fun i j => .int (g i j))) : DOp cl X f (fun x y M Q => asII x y fun i j => Q (.int (g i j)) M) :=
  imOp h fun x y H Q ⟨d, e, M, P, r1, r2, sm, r, f⟩ => by
    obtain ⟨i, j, rfl, rfl, r⟩ := asII_elim r
    exact ⟨i, j, r1.int', r2.int', f _ _ _ _ r Stab.refl sm (.int _)⟩
theorem opIB {f : Value → Value → Sem Value} {g : Int → Int → Bool} (h : OpR X f (rI0 fun i j => .bl (g i j))) : DOp cl X f (fun x y M Q => asII x y fun i j => Q (.bl (g i j)) M) :=
  imOp h fun x y H Q ⟨d, e, M, P, r1, r2, sm, r, f⟩ => by
    obtain ⟨i, j, rfl, rfl, r⟩ := asII_elim r
    exact ⟨i, j, r1.int', r2.int', f _ _ _ _ r Stab.refl sm (.bl _)⟩
@[irreducible] def rSub : DR2 := fun x y M Q => asII x y fun i j => Q (.int (i - j)) M
@[irreducible] def rMod : DR2 := fun x y M Q => asII x y fun i j => j ≠ 0 ∧ Q (.int (i.fmod j)) M
@[irreducible] def rFdiv : DR2 := fun x y M Q => asII x y fun i j => (j ≠ 0 ∧ j.natAbs < 1073741824) ∧ Q (.int (i.fdiv j)) M
@[irreducible] def rPow : DR2 := fun x y M Q => asII x y fun i j => (0 ≤ j ∧ j ≤ 1000000 ∧ i.natAbs < 2 ^ 64) ∧ Q (.int (i ^ j.toNat)) M
theorem o_sub : DOp cl X (binaryOp .Sub) rSub := by unfold rSub; exact opII0 op_sub
theorem o_isub : DOp cl X (inplaceOp .Sub) rSub := by unfold rSub; exact opII0 iop_sub
theorem o_mod : DOp cl X (binaryOp .Mod) rMod := by unfold rMod; exact opII op_modN
theorem o_fdiv : DOp cl X (binaryOp .FloorDiv) rFdiv := by unfold rFdiv; exact opII op_fdivN
theorem o_pow : DOp cl X (binaryOp .Pow) rPow := by unfold rPow; exact opII op_pow
@[irreducible] def rLt : DR2 := fun x y M Q => asII x y fun i j => Q (.bl (decide (i < j))) M
@[irreducible] def rLe : DR2 := fun x y M Q => asII x y fun i j => Q (.bl (decide (i ≤ j))) M
@[irreducible] def rGt : DR2 := fun x y M Q => asII x y fun i j => Q (.bl (decide (j < i))) M
@[irreducible] def rGe : DR2 := fun x y M Q => asII x y fun i j => Q (.bl (decide (j ≤ i))) M
theorem o_lt : DOp cl X (compareOp .Lt) rLt := by unfold rLt; exact opIB op_lt
theorem o_le : DOp cl X (compareOp .LtE) rLe := by unfold rLe; exact opIB op_le
theorem o_gt : DOp cl X (compareOp .Gt) rGt := by unfold rGt; exact opIB op_gt
theorem o_ge : DOp cl X (compareOp .GtE) rGe := by unfold rGe; exact opIB op_ge
@[irreducible] def rNeg : DR1 := fun x M Q => asI x fun i => Q (.int (-i)) M
theorem o_neg : DUn cl X (unaryOp .USub) rNeg := imUn un_neg fun x H Q ⟨d, M, P, r1, sm, r, f⟩ => by
  unfold rNeg at r
  obtain ⟨i, rfl, r⟩ := asI_elim r
  exact ⟨i, r1.int', f _ _ _ _ r Stab.refl sm (.int _)⟩
def isNon : D → Bool
  | .non => true
  | _ => false
theorem isNon_ok {K : PySem.W.Frag} {H : Hp} {d : D} {v : V} (r : Rp K H d v) : decide (v = .non) = isNon d := by
  cases r <;> first | rfl | exact decide_eq_false (fun h => by cases h)
def rIsN : DR2 := fun x y M Q => isNon y = true ∧ Q (.bl (isNon x)) M
def rNotN : DR2 := fun x y M Q => isNon y = true ∧ Q (.bl (!isNon x)) M
theorem isNon_eq {d : D} (h : isNon d = true) : d = .non := by cases d <;> first | rfl | cases h
theorem o_isN : DOp cl X (compareOp .Is) rIsN := imOp op_isN fun x y H Q ⟨d, e, M, P, r1, r2, sm, r, f⟩ => by
  rw [isNon_eq r.1] at r2
  exact ⟨r2.non', by rw [isNon_ok r1]; exact f _ _ _ _ r.2 Stab.refl sm (.bl _)⟩
theorem o_notN : DOp cl X (compareOp .IsNot) rNotN := imOp op_notN fun x y H Q ⟨d, e, M, P, r1, r2, sm, r, f⟩ => by
  rw [isNon_eq r.1] at r2
  exact ⟨r2.non', by rw [isNon_ok r1]; exact f _ _ _ _ r.2 Stab.refl sm (.bl _)⟩

/-! ### + and * -/
/-- the list at an address -/
def lstAt (M : Mem) (a : Addr) : Option (List D) := match M a with
  | some (.lst xs) => some xs
  | _ => none
theorem lstAt_eq {M : Mem} {a : Addr} {xs : List D} (h : lstAt M a = some xs) : M a = some (.lst xs) := by
  unfold lstAt at h
  split at h
  · next e => cases h; exact e
  · cases h
theorem lstAt_of {M : Mem} {a : Addr} {xs : List D} (h : M a = some (.lst xs)) : lstAt M a = some xs := by unfold lstAt; rw [h]
@[irreducible] def rAdd : DR2 := fun x y M Q => match x, y with
  | .int i, .int j => Q (.int (i + j)) M
  | .str i, .str j => i.length + j.length ≤ sizeLine ∧ Q (.str (i ++ j)) M
  | .ref a, .ref b => match lstAt M a, lstAt M b with
    | some xs, some ys => xs.length + ys.length ≤ sizeLine ∧ ∀ p, M p = none → Q (.ref p) (up M p (.lst (xs ++ ys)))
    | _, _ => False
  | x, y => match tpl x, tpl y with
    | some xs, some ys => xs.length + ys.length ≤ sizeLine ∧ Q (.tup (xs ++ ys)) M ∧ (xs = [] → Q y M) ∧ (ys = [] → Q x M)
    | _, _ => False
theorem add_of {f : Value → Value → Sem Value} (h1 : OpR X f (rI0 fun i j => .int (i + j))) (h2 : OpR X f (fun x y H Q => ∃ i j, x = .str i ∧ y = .str j ∧ i.length + j.length ≤ sizeLine ∧ Q (.str (i ++ j)) H)) (h3 : OpR X f rCat) (h4 : OpR X f (rCatA X.K)) : DOp cl X f rAdd :=
  imOp (h1.or (h2.or (h3.or h4))) fun x y H Q ⟨d, e, M, P, r1, r2, sm, r, f⟩ => by
    unfold rAdd at r
    split at r
    · exact .inl ⟨_, _, r1.int', r2.int', f _ _ _ _ r Stab.refl sm (.int _)⟩
    · exact .inr (.inl ⟨_, _, r1.str', r2.str', r.1, f _ _ _ _ r.2 Stab.refl sm (.str _)⟩)
    · split at r
      · next e1 e2 =>
        obtain ⟨vs, a1, a2⟩ := sm _ _ (lstAt_eq e1)
        obtain ⟨ws, b1, b2⟩ := sm _ _ (lstAt_eq e2)
        refine .inr (.inr (.inl ⟨_, _, _, _, r1.ref', r2.ref', a1, b1, by rw [← a2.length, ← b2.length]; exact r.1, fun p hp => ?_⟩))
        exact f _ _ _ _ (r.2 p (sm.free hp)) (Stab.new hp) (sm.new (o := .lst _) hp ⟨_, upd_same, (a2.append b2).mono (Stab.new hp)⟩) (.ref p)
      · exact r.elim
    · split at r
      · next xs ys e1 e2 =>
        obtain ⟨p, vs, rfl, a1, a2⟩ := r1.tpl e1
        obtain ⟨q, ws, rfl, b1, b2⟩ := r2.tpl e2
        obtain ⟨z, k, k1, k2⟩ := r
        refine .inr (.inr (.inr ⟨_, _, _, _, rfl, rfl, .inl a1, .inl b1, by rw [← a2.length, ← b2.length]; exact z, fun h0 => ?_, fun _ h0 => ?_, fun _ _ p' hp => ?_⟩))
        · subst h0
          have : xs = [] := List.eq_nil_of_length_eq_zero a2.length
          exact f _ _ _ _ (k1 this) Stab.refl sm r2
        · subst h0
          have : ys = [] := List.eq_nil_of_length_eq_zero b2.length
          exact f _ _ _ _ (k2 this) Stab.refl sm r1
        · exact f _ _ _ _ k (Stab.new hp) (sm.lay hp) (.tup upd_same ((a2.append b2).mono (Stab.new hp)))
      · exact r.elim
theorem o_add : DOp cl X (binaryOp .Add) rAdd := add_of op_add op_add_str op_cat op_catA
@[irreducible] def rMul : DR2 := fun x y M Q => match x, y with
  | .int i, .int j => ((-(2 ^ 64) < i ∧ i < 2 ^ 64) ∨ (-(2 ^ 64) < j ∧ j < 2 ^ 64)) ∧ Q (.int (i * j)) M
  | .ref a, .int k => match lstAt M a with
    | some xs => (-(2 ^ 63) ≤ k ∧ k < 2 ^ 63 ∧ xs.length * k.toNat ≤ sizeLine) ∧ ∀ p, M p = none → Q (.ref p) (up M p (.lst (List.replicate k.toNat xs).flatten))
    | none => False
  | _, _ => False
theorem flatten_rep {K : PySem.W.Frag} {H : Hp} {ds : List D} {vs : List V} (h : RpL K H ds vs) : ∀ n : Nat, RpL K H (List.replicate n ds).flatten (List.replicate n vs).flatten
  | 0 => .nil
  | n + 1 => by rw [List.replicate_succ, List.replicate_succ, List.flatten_cons, List.flatten_cons]; exact h.append (flatten_rep h n)
theorem o_mul : DOp cl X (binaryOp .Mult) rMul := imOp (op_mul.or op_rep) fun x y H Q ⟨d, e, M, P, r1, r2, sm, r, f⟩ => by
  unfold rMul at r
  split at r
  · exact .inl ⟨_, _, r1.int', r2.int', r.1, f _ _ _ _ r.2 Stab.refl sm (.int _)⟩
  · split at r
    · next e1 =>
      obtain ⟨vs, a1, a2⟩ := sm _ _ (lstAt_eq e1)
      refine .inr ⟨_, _, _, r1.ref', r2.int', a1, r.1.1, r.1.2.1, by rw [← a2.length]; exact r.1.2.2, fun p hp => ?_⟩
      exact f _ _ _ _ (r.2 p (sm.free hp)) (Stab.new hp) (sm.new (o := .lst _) hp ⟨_, upd_same, (flatten_rep a2 _).mono (Stab.new hp)⟩) (.ref p)
    · exact r.elim
  · exact r.elim

/-! ### ==, in -/
mutual
inductive DpD (M : Mem) : D → PyData → Prop
  | non : DpD M .non .none
  | bl (b : Bool) : DpD M (.bl b) (.bool b)
  | int (i : Int) : DpD M (.int i) (.int i)
  | str (x : Str) : DpD M (.str x) (.str x)
  | tup {ds : List D} {ps : List PyData} : DpDs M ds ps → DpD M (.tup ds) (.tuple ps)
  | ft {ds : List D} {ps : List PyData} : DpDs M ds ps → DpD M (.ft ds) (.tuple ps)
  | rl {ds : List D} {ps : List PyData} : DpDs M ds ps → DpD M (.rl ds) (.list ps)
  | ref {a : Addr} {ds : List D} {ps : List PyData} : M a = some (.lst ds) → DpDs M ds ps → DpD M (.ref a) (.list ps)
inductive DpDs (M : Mem) : List D → List PyData → Prop
  | nil : DpDs M [] []
  | cons {d : D} {p : PyData} {ds : List D} {ps : List PyData} : DpD M d p → DpDs M ds ps → DpDs M (d :: ds) (p :: ps)
end
section
variable {K : PySem.W.Frag} {H : Hp} {M : Mem}
mutual
theorem DpD.ok (sm : Sim K cl M H) : ∀ {d : D} {p : PyData} {v : V}, DpD M d p → Rp K H d v → Dp K H v p
  | _, _, _, .non, r => by rw [r.non']; exact .non
  | _, _, _, .bl b, r => by rw [r.bl']; exact .bl b
  | _, _, _, .int b, r => by rw [r.int']; exact .int b
  | _, _, _, .str b, r => by rw [r.str']; exact .str b
  | _, _, _, .tup h, r => by obtain ⟨p, vs, rfl, h1, h2⟩ := r.tup'; exact .tup (SqT.of h1) (DpDs.ok sm h h2)
  | _, _, _, .ft h, r => by obtain ⟨p, vs, o, rfl, h1, _, h2⟩ := r.ft'; exact .tup (.inl (.inr ⟨o, h1⟩)) (DpDs.ok sm h h2)
  | _, _, _, .rl h, r => by obtain ⟨p, vs, rfl, h1, h2⟩ := r.rl'; exact .lst h1.sq (DpDs.ok sm h h2)
  | _, _, _, .ref e h, r => by
    rw [r.ref']
    obtain ⟨vs, h1, h2⟩ := sm _ _ e
    exact .lst (SqL.of h1) (DpDs.ok sm h h2)
theorem DpDs.ok (sm : Sim K cl M H) : ∀ {ds : List D} {ps : List PyData} {vs : List V}, DpDs M ds ps → RpL K H ds vs → DpAll K H vs ps
  | _, _, _, .nil, r => by rw [r.nil']; exact .nil
  | _, _, _, .cons h t, r => by cases r with | cons r1 r2 => exact .cons (DpD.ok sm h r1) (DpDs.ok sm t r2)
end
end
def nb (neg b : Bool) : Bool := if neg = true then !b else b
@[irreducible] def rEqs (neg : Bool) : DR2 := fun x y M Q => match x, y with
  | .int i, .int j => Q (.bl (nb neg (i == j))) M
  | .str i, .str j => Q (.bl (nb neg (i == j))) M
  | .bl i, .bl j => Q (.bl (nb neg (i == j))) M
  | x, y => ∃ d e, DpD M x d ∧ DpD M y e ∧ SeqAt.shaped d = true ∧ SeqAt.shaped e = true ∧ Q (.bl (nb neg (PyData.eqv d e))) M
theorem o_eq (hu : X.A.units + 64 < cLine) : DOp cl X (compareOp .Eq) (rEqs false) := imOp (op_eq.or (op_eqD hu)) fun x y H Q ⟨d, e, M, P, r1, r2, sm, r, f⟩ => by
  unfold rEqs at r
  split at r
  · rw [r1.int', r2.int']; exact .inl ⟨rfl, by rw [dec_int]; exact f _ _ _ _ (by simpa [nb] using r) Stab.refl sm (.bl _)⟩
  · rw [r1.str', r2.str']; exact .inl ⟨rfl, by rw [dec_str]; exact f _ _ _ _ (by simpa [nb] using r) Stab.refl sm (.bl _)⟩
  · rw [r1.bl', r2.bl']; exact .inl ⟨rfl, by rw [dec_bl]; exact f _ _ _ _ (by simpa [nb] using r) Stab.refl sm (.bl _)⟩
  · obtain ⟨p, q, h1, h2, s1, s2, r⟩ := r
    exact .inr ⟨p, q, h1.ok sm r1, h2.ok sm r2, s1, s2, f _ _ _ _ (by simpa [nb] using r) Stab.refl sm (.bl _)⟩
theorem o_ne (hu : X.A.units + 64 < cLine) : DOp cl X (compareOp .NotEq) (rEqs true) := imOp (op_ne.or (op_neD hu)) fun x y H Q ⟨d, e, M, P, r1, r2, sm, r, f⟩ => by
  unfold rEqs at r
  split at r
  · rw [r1.int', r2.int']; exact .inl ⟨rfl, by rw [dec_int]; exact f _ _ _ _ (by simpa [nb] using r) Stab.refl sm (.bl _)⟩
  · rw [r1.str', r2.str']; exact .inl ⟨rfl, by rw [dec_str]; exact f _ _ _ _ (by simpa [nb] using r) Stab.refl sm (.bl _)⟩
  · rw [r1.bl', r2.bl']; exact .inl ⟨rfl, by rw [dec_bl]; exact f _ _ _ _ (by simpa [nb] using r) Stab.refl sm (.bl _)⟩
  · obtain ⟨p, q, h1, h2, s1, s2, r⟩ := r
    exact .inr ⟨p, q, h1.ok sm r1, h2.ok sm r2, s1, s2, f _ _ _ _ (by simpa [nb] using r) Stab.refl sm (.bl _)⟩
end EW

set_option maxRecDepth 100000
set_option maxHeartbeats 4000000
namespace EW
open PySem PySem.Spec PyProof.Rows L2
variable {cl : String → Addr} {X : Cx}
/-! ### in -/
@[irreducible] def rIn (neg : Bool) : DR2 := fun x y M Q => (∃ c z, x = .str ⟨#[c]⟩ ∧ y = .str z ∧ Q (.bl (nb neg (decide (c ∈ z.cps.toList)))) M) ∨ (∃ a, y = .ref a ∧ dFind M a x fun r => Q (.bl (nb neg r.isSome)) M) ∨
  (∃ d e ds, DpD M x d ∧ DpD M y e ∧ (e = .list ds ∨ e = .tuple ds) ∧ SeqAt.shaped d = true ∧ SeqAt.shaped e = true ∧ Q (.bl (nb neg (ds.any fun z => PyData.eqv z d))) M)
theorem op_inDT (hu : X.A.units + 65 < cLine) : OpR X (compareOp .In) (fun x y H Q => ∃ d ds, Dp X.K H x d ∧ Dp X.K H y (.tuple ds) ∧ SeqAt.shaped d = true ∧ SeqAt.shaped (.tuple ds) = true ∧ Q (.bl (ds.any fun z => PyData.eqv z d)) H) := by
  intro pins s σ H x y v u Q I rx ry h
  obtain ⟨d, ds, hd, he, sd, se, q⟩ := h
  obtain ⟨as, r1⟩ := Dp.reads I d x v hd rx
  obtain ⟨bs, r2⟩ := Dp.reads I (.tuple ds) y u he ry
  exact SeqAt.in_tuple_reads r2 r1 (SeqAt.canLay_of_shaped se) (SeqAt.canLay_of_shaped sd) (room_in_shaped sd hu) ⟨.bl _, H, I, rfl, q⟩
theorem op_notInDT (hu : X.A.units + 65 < cLine) : OpR X (compareOp .NotIn) (fun x y H Q => ∃ d ds, Dp X.K H x d ∧ Dp X.K H y (.tuple ds) ∧ SeqAt.shaped d = true ∧ SeqAt.shaped (.tuple ds) = true ∧ Q (.bl (!ds.any fun z => PyData.eqv z d)) H) := by
  intro pins s σ H x y v u Q I rx ry h
  obtain ⟨d, ds, hd, he, sd, se, q⟩ := h
  obtain ⟨as, r1⟩ := Dp.reads I d x v hd rx
  obtain ⟨bs, r2⟩ := Dp.reads I (.tuple ds) y u he ry
  exact SeqAt.notIn_tuple_reads r2 r1 (SeqAt.canLay_of_shaped se) (SeqAt.canLay_of_shaped sd) (room_in_shaped sd hu) ⟨.bl _, H, I, rfl, q⟩
theorem op_in_dict (hu : X.A.units + 1 < cLine) : OpR X (compareOp .In) (fun x y H Q => ∃ a o, y = .ref a ∧ DGet H a x o ∧ Q (.bl o.isSome) H) := by
  intro pins s σ H x y v u Q I rx ry h
  obtain ⟨a, o, rfl, g, q⟩ := h
  cases ry
  exact d_in hu I g rx fun s' I' => ⟨.bl _, H, I', rfl, q⟩
theorem op_notIn_dict (hu : X.A.units + 1 < cLine) : OpR X (compareOp .NotIn) (fun x y H Q => ∃ a o, y = .ref a ∧ DGet H a x o ∧ Q (.bl (!o.isSome)) H) := by
  intro pins s σ H x y v u Q I rx ry h
  obtain ⟨a, o, rfl, g, q⟩ := h
  cases ry
  exact d_notIn hu I g rx fun s' I' => ⟨.bl _, H, I', rfl, q⟩
theorem o_in (hu : X.A.units + 65 < cLine) : DOp cl X (compareOp .In) (rIn false) := imOp (op_in_sign.or ((op_in_dict (by omega)).or ((op_inD hu).or (op_inDT hu)))) fun x y H Q ⟨d, e, M, P, r1, r2, sm, r, f⟩ => by
  unfold rIn at r
  rcases r with ⟨c, z, rfl, rfl, r⟩ | ⟨a, rfl, r⟩ | ⟨p, q, ds, h1, h2, hq, s1, s2, r⟩
  · exact .inl ⟨c, z, r1.str', r2.str', f _ _ _ _ r Stab.refl sm (.bl _)⟩
  · refine .inr (.inl ?_)
    rcases dFind_ok r sm r1 with ⟨k, g⟩ | ⟨d, v, k, g, _⟩
    · exact ⟨a, _, r2.ref', g, f _ _ _ _ k Stab.refl sm (.bl _)⟩
    · exact ⟨a, _, r2.ref', g, f _ _ _ _ k Stab.refl sm (.bl _)⟩
  · rcases hq with rfl | rfl
    · exact .inr (.inr (.inl ⟨p, ds, h1.ok sm r1, h2.ok sm r2, s1, s2, f _ _ _ _ r Stab.refl sm (.bl _)⟩))
    · exact .inr (.inr (.inr ⟨p, ds, h1.ok sm r1, h2.ok sm r2, s1, s2, f _ _ _ _ r Stab.refl sm (.bl _)⟩))
theorem o_notIn (hu : X.A.units + 65 < cLine) : DOp cl X (compareOp .NotIn) (rIn true) := imOp (op_notIn_sign.or ((op_notIn_dict (by omega)).or ((op_notInD hu).or (op_notInDT hu)))) fun x y H Q ⟨d, e, M, P, r1, r2, sm, r, f⟩ => by
  unfold rIn at r
  rcases r with ⟨c, z, rfl, rfl, r⟩ | ⟨a, rfl, r⟩ | ⟨p, q, ds, h1, h2, hq, s1, s2, r⟩
  · exact .inl ⟨c, z, r1.str', r2.str', f _ _ _ _ r Stab.refl sm (.bl _)⟩
  · refine .inr (.inl ?_)
    rcases dFind_ok r sm r1 with ⟨k, g⟩ | ⟨d, v, k, g, _⟩
    · exact ⟨a, _, r2.ref', g, f _ _ _ _ k Stab.refl sm (.bl _)⟩
    · exact ⟨a, _, r2.ref', g, f _ _ _ _ k Stab.refl sm (.bl _)⟩
  · rcases hq with rfl | rfl
    · exact .inr (.inr (.inl ⟨p, ds, h1.ok sm r1, h2.ok sm r2, s1, s2, f _ _ _ _ r Stab.refl sm (.bl _)⟩))
    · exact .inr (.inr (.inr ⟨p, ds, h1.ok sm r1, h2.ok sm r2, s1, s2, f _ _ _ _ r Stab.refl sm (.bl _)⟩))
/-! ### subscripts -/
/-- the items of a tuple or a list -/
def seqOf (M : Mem) (d : D) : Option (List D) := match d with
  | .tup xs => some xs
  | .ft xs => some xs
  | .rl xs => some xs
  | .ref a => lstAt M a
  | _ => none
theorem seqOf_ok {K : PySem.W.Frag} {M : Mem} {H : Hp} {d : D} {ds : List D} {v : V} (h : seqOf M d = some ds) (r : Rp K H d v) (sm : Sim K cl M H) : ∃ p vs, v = .ref p ∧ (SqL K H p vs ∨ SqT K H p vs) ∧ RpL K H ds vs := by
  cases d <;> first | (cases h; done) | skip
  · cases h; obtain ⟨p, vs, rfl, h1, h2⟩ := r.tup'; exact ⟨p, vs, rfl, .inr (SqT.of h1), h2⟩
  · cases h; obtain ⟨p, vs, o, rfl, h1, _, h2⟩ := r.ft'; exact ⟨p, vs, rfl, .inr (.inl (.inr ⟨o, h1⟩)), h2⟩
  · cases h; obtain ⟨p, vs, rfl, h1, h2⟩ := r.rl'; exact ⟨p, vs, rfl, .inl h1.sq, h2⟩
  · next a =>
    obtain ⟨vs, h1, h2⟩ := sm _ _ (lstAt_eq h)
    rw [r.ref']
    exact ⟨a, vs, rfl, .inl (SqL.of h1), h2⟩
theorem ixN_lt {n : Nat} {i : Int} {j : Nat} (h : ixN n i = some j) : j < n := (ixN_seq h).2.1
theorem atI_R {K : PySem.W.Frag} {H : Hp} {ds : List D} {vs : List V} {i : Int} {d : D} (h : atI ds i = some d) (r : RpL K H ds vs) : ∃ v, atI vs i = some v ∧ Rp K H d v := by
  unfold atI at h ⊢
  rw [← r.length]
  cases q : ixN ds.length i with
  | none => rw [q] at h; cases h
  | some j =>
    rw [q] at h
    exact r.get h
@[irreducible] def rIxA : DR2 := fun x y M Q => match x with
  | .str z => asI y fun i => z.length ≤ sizeLine ∧ match atI z.cps.toList i with
    | some c => Q (.str ⟨#[c]⟩) M
    | none => False
  | _ => match seqOf M x with
    | some xs => asI y fun i => match atI xs i with
      | some d => Q d M
      | none => False
    | none => match x with
      | .ref a => dFind M a y fun r => match r with
        | some d => Q d M
        | none => False
      | _ => False
theorem ix_dict (hu : X.A.units + 1 < cLine) : IxR X (fun x y H Q => ∃ a v, x = .ref a ∧ DGet H a y (some v) ∧ Q v H) := by
  intro value slice pins s σ H x y v u Q I rx ry h hs
  obtain ⟨a, z, rfl, g, q⟩ := h
  cases rx
  unfold subscriptTail
  refine wpAny_bind ?_
  have hT := dict_typeIs I g
  rw [getitemInPython_of_ne hT.not_modules]
  refine wpAny_bind (wpAny_specialOf hT PySem.F.slot_dict_getitem.lookup ?_)
  have fin : wpAny (model X.prog X.w) X.A (subscripted slice false (.ref a) u) (fun r s₃ => wpAny (model X.prog X.w) X.A (letTemporaryGo value (.ref a) r >>= fun _ => pure r) (EP X pins σ Q) X.xe s₃) X.xe s := by
    rw [hs]
    refine wpAny_operating (d_getItem hu I g ry fun w' s3 I3 rw' => wpAny_bind (wpAny_letTemporaryGo (wpAny_pure ⟨z, H, I3, rw', q⟩)))
  first
    | exact wpAny_pure (wpAny_bind fin)
    | exact wpAny_bind (wpAny_pure (wpAny_bind fin))
    | exact wpAny_bind fin
theorem i_ix (hu : X.A.units + 1 < cLine) : DIx cl X rIxA := imIx (ix_str.or ((ix_list.or ix_tup).or (ix_dict hu))) fun x y H Q ⟨d, e, M, P, r1, r2, sm, r, f⟩ => by
  unfold rIxA at r
  split at r
  · obtain ⟨i, rfl, z, r'⟩ := asI_elim r
    clear r
    split at r'
    · next c e => exact .inl ⟨_, i, c, r1.str', r2.int', z, e, f _ _ _ _ r' Stab.refl sm (.str _)⟩
    · exact r'.elim
  · split at r
    · next xs e =>
      obtain ⟨i, rfl, r'⟩ := asI_elim r
      clear r
      split at r'
      · next d e2 =>
        obtain ⟨p, vs, rfl, h1, h2⟩ := seqOf_ok e r1 sm
        obtain ⟨v, h3, h4⟩ := atI_R e2 h2
        refine .inr (.inl ?_)
        rcases h1 with h1 | h1
        · exact .inl ⟨p, vs, i, v, rfl, r2.int', h1, h3, f _ _ _ _ r' Stab.refl sm h4⟩
        · exact .inr ⟨p, vs, i, v, rfl, r2.int', h1, h3, f _ _ _ _ r' Stab.refl sm h4⟩
      · exact r'.elim
    · split at r
      · next a _ _ =>
        rcases dFind_ok r sm r2 with ⟨k, g⟩ | ⟨d, v, k, g, h4⟩
        · exact k.elim
        · exact .inr (.inr ⟨a, v, r1.ref', g, f _ _ _ _ k Stab.refl sm h4⟩)
      · exact r.elim
/-- the items of a list -/
def lsOf (M : Mem) (d : D) : Option (List D) := match d with
  | .rl xs => some xs
  | .ref a => lstAt M a
  | _ => none
theorem lsOf_ok {K : PySem.W.Frag} {M : Mem} {H : Hp} {d : D} {ds : List D} {v : V} (h : lsOf M d = some ds) (r : Rp K H d v) (sm : Sim K cl M H) : ∃ p vs, v = .ref p ∧ SqL K H p vs ∧ RpL K H ds vs := by
  cases d <;> first | (cases h; done) | skip
  · cases h; obtain ⟨p, vs, rfl, h1, h2⟩ := r.rl'; exact ⟨p, vs, rfl, h1.sq, h2⟩
  · next a =>
    obtain ⟨vs, h1, h2⟩ := sm _ _ (lstAt_eq h)
    rw [r.ref']
    exact ⟨a, vs, rfl, SqL.of h1, h2⟩
/-! ### slices -/
def cutD (xs : List D) (lo hi : Option Int) : List D := (xs.drop (HT.sIx xs.length 0 lo)).take (HT.sIx xs.length xs.length hi - HT.sIx xs.length 0 lo)
@[irreducible] def rSlD : DRS := fun x lo hi M Q => match x with
  | .str z => z.length ≤ sizeLine ∧ Q (.str (cutS z lo hi)) M
  | _ => match tpl x with
    | some xs => (Q (.tup (cutD xs lo hi)) M) ∧ (cutD xs lo hi = xs → Q x M)
    | none => match lsOf M x with
      | some xs => ∀ p, M p = none → Q (.ref p) (up M p (.lst (cutD xs lo hi)))
      | none => False
theorem cutD_R {K : PySem.W.Frag} {H : Hp} {ds : List D} {vs : List V} (r : RpL K H ds vs) (lo hi : Option Int) : RpL K H (cutD ds lo hi) (cutV vs lo hi) := by
  unfold cutD cutV
  rw [r.length]
  exact (r.drop _).take _
theorem cutD_whole {xs : List D} {lo hi : Option Int} (h : HT.sIx xs.length 0 lo = 0 ∧ HT.sIx xs.length xs.length hi = xs.length) : cutD xs lo hi = xs := by
  unfold cutD
  rw [h.1, h.2]
  simp
theorem s_slice : DSl cl X rSlD := imSl (sl_str.or (sl_tupA.or sl_list)) fun x lo hi H Q ⟨d, M, P, r1, sm, r, f⟩ => by
  unfold rSlD at r
  split at r
  · exact .inl ⟨_, r1.str', r.1, f _ _ _ _ r.2 Stab.refl sm (.str _)⟩
  · split at r
    · next xs e =>
      obtain ⟨p, vs, rfl, h1, h2⟩ := r1.tpl e
      refine .inr (.inl ⟨p, vs, rfl, .inl h1, fun hw => ?_, fun hw p hp => ?_⟩)
      · rw [← h2.length] at hw
        exact f _ _ _ _ (r.2 (cutD_whole hw)) Stab.refl sm r1
      · exact f _ _ _ _ r.1 (Stab.new hp) (sm.lay hp) (.tup upd_same ((cutD_R h2 lo hi).mono (Stab.new hp)))
    · next hn =>
      split at r
      · next xs e =>
        obtain ⟨p, vs, rfl, h1, h2⟩ := lsOf_ok e r1 sm
        refine .inr (.inr ⟨p, vs, rfl, h1, fun q hq => ?_⟩)
        exact f _ _ _ _ (r q (sm.free hq)) (Stab.new hq) (sm.new (o := .lst _) hq ⟨_, upd_same, (cutD_R h2 lo hi).mono (Stab.new hq)⟩) (.ref q)
      · exact r.elim
/-- xs[::-1] of a list -/
@[irreducible] def dRevL (t : DTE) : DTE := fun ρ M Q => t ρ M fun x M1 => match lsOf M1 x with
  | some xs => ∀ p, M1 p = none → Q (.ref p) (up M1 p (.lst xs.reverse))
  | none => False
theorem d_revL {e : Expr} {te : DTE} {k : Nat} {p1 p2 p3 pos : Pos} (he : DE cl X e te) : DE cl X (.Subscript e (.Slice none none (some (.UnaryOp .USub (.Constant (.int 1) k p1) p2)) p3) pos) (dRevL te) := ⟨imE (pe_revL he.h) fun σ H Q ⟨ρ, M, P, er, sm, t, f⟩ =>
  by
  unfold dRevL at t
  exact ⟨ρ, M, _, er, sm, t, fun d M1 v H1 q s sm1 r1 => by
    split at q
    · next xs e =>
      obtain ⟨p, vs, rfl, h1, h2⟩ := lsOf_ok e r1 sm1
      refine ⟨p, vs, rfl, h1, fun a ha => ?_⟩
      exact f _ _ _ _ (q a (sm1.free ha)) (s.trans (Stab.new ha)) (sm1.new (o := .lst _) ha ⟨_, upd_same, h2.reverse.mono (Stab.new ha)⟩) (.ref a)
    · exact q.elim⟩⟩
end EW

set_option maxRecDepth 100000
set_option maxHeartbeats 4000000
/-! EwCalls: built-in functions and methods by data. -/
namespace EW
open PySem PySem.Spec PyProof.Rows L2
variable {cl : String → Addr} {X : Cx}

def as1 (ds : List D) (k : D → Prop) : Prop := match ds with
  | [d] => k d
  | _ => False
def as2 (ds : List D) (k : D → D → Prop) : Prop := match ds with
  | [d, e] => k d e
  | _ => False
theorem as1_elim {ds : List D} {k : D → Prop} (h : as1 ds k) : ∃ d, ds = [d] ∧ k d := by
  unfold as1 at h
  split at h
  · exact ⟨_, rfl, h⟩
  · exact h.elim
theorem as2_elim {ds : List D} {k : D → D → Prop} (h : as2 ds k) : ∃ d e, ds = [d, e] ∧ k d e := by
  unfold as2 at h
  split at h
  · exact ⟨_, _, rfl, h⟩
  · exact h.elim
/-! ### len, abs, min, max, int -/
@[irreducible] def rLen : DRL := fun ds M Q => as1 ds fun d => match d with
  | .str z => z.length ≤ sizeLine ∧ Q (.int z.length) M
  | d => match seqOf M d with
    | some xs => Q (.int xs.length) M
    | none => False
theorem c_len : DCall cl X (.builtin "len") rLen := imCall (call_len_str.or call_len_seq) fun xs H Q ⟨ds, M, P, rr, sm, r, f⟩ => by
  unfold rLen at r
  obtain ⟨d, rfl, r0⟩ := as1_elim r
  clear r
  have r := r0
  clear r0
  obtain ⟨v, rfl, r1⟩ := rr.one
  split at r
  · exact .inl ⟨_, by rw [r1.str'], r.1, f _ _ _ _ r.2 Stab.refl sm (.int _)⟩
  · split at r
    · next xs e =>
      obtain ⟨p, vs, rfl, h1, h2⟩ := seqOf_ok e r1 sm
      exact .inr ⟨p, vs, rfl, h1, by rw [← h2.length]; exact f _ _ _ _ r Stab.refl sm (.int _)⟩
    · exact r.elim
@[irreducible] def rAbs : DRL := fun ds M Q => as1 ds fun d => asI d fun i => Q (.int (if i < 0 then -i else i)) M
theorem c_abs : DCall cl X (.builtin "abs") rAbs := imCall call_abs fun xs H Q ⟨ds, M, P, rr, sm, r, f⟩ => by
  unfold rAbs at r
  obtain ⟨d, rfl, r0⟩ := as1_elim r
  clear r
  have r := r0
  clear r0
  obtain ⟨i, rfl, r⟩ := asI_elim r
  obtain ⟨v, rfl, r1⟩ := rr.one
  exact ⟨i, by rw [r1.int'], f _ _ _ _ r Stab.refl sm (.int _)⟩
@[irreducible] def rMax2 : DRL := fun ds M Q => as2 ds fun x y => asII x y fun i j => Q (.int (if j > i then j else i)) M
@[irreducible] def rMin2 : DRL := fun ds M Q => as2 ds fun x y => asII x y fun i j => Q (.int (if j < i then j else i)) M
theorem c_max2 (hc : X.calm = true) : DCall cl X (.builtin "max") rMax2 := imCall (call_max2 hc) fun xs H Q ⟨ds, M, P, rr, sm, r, f⟩ => by
  unfold rMax2 at r
  obtain ⟨d, e, rfl, r⟩ := as2_elim r
  obtain ⟨i, j, rfl, rfl, r⟩ := asII_elim r
  obtain ⟨v, w, rfl, r1, r2⟩ := rr.two
  exact ⟨i, j, by rw [r1.int', r2.int'], f _ _ _ _ r Stab.refl sm (.int _)⟩
theorem c_min2 (hc : X.calm = true) : DCall cl X (.builtin "min") rMin2 := imCall (call_min2 hc) fun xs H Q ⟨ds, M, P, rr, sm, r, f⟩ => by
  unfold rMin2 at r
  obtain ⟨d, e, rfl, r⟩ := as2_elim r
  obtain ⟨i, j, rfl, rfl, r⟩ := asII_elim r
  obtain ⟨v, w, rfl, r1, r2⟩ := rr.two
  exact ⟨i, j, by rw [r1.int', r2.int'], f _ _ _ _ r Stab.refl sm (.int _)⟩
@[irreducible] def rInt : DRL := fun ds M Q => as1 ds fun d => match d with
  | .int i => Q (.int i) M
  | .bl b => Q (.int (if b then 1 else 0)) M
  | _ => False
theorem c_int : DCall cl X (.type "int") rInt := imCall call_int1 fun xs H Q ⟨ds, M, P, rr, sm, r, f⟩ => by
  unfold rInt at r
  obtain ⟨d, rfl, r0⟩ := as1_elim r
  clear r
  have r := r0
  clear r0
  obtain ⟨v, rfl, r1⟩ := rr.one
  split at r
  · exact .inl ⟨_, by rw [r1.int'], f _ _ _ _ r Stab.refl sm (.int _)⟩
  · exact .inr ⟨_, by rw [r1.bl'], f _ _ _ _ r Stab.refl sm (.int _)⟩
  · exact r.elim
/-! ### sum, all, any -/
theorem intsV {K : PySem.W.Frag} {H : Hp} : ∀ {ns : List Int} {vs : List V}, RpL K H (ns.map D.int) vs → vs = ns.map V.int
  | [], _, h => h.nil'
  | n :: ns, _, h => by cases h with | cons r t => rw [r.int', intsV t]; rfl
theorem blsV {K : PySem.W.Frag} {H : Hp} : ∀ {ns : List Bool} {vs : List V}, RpL K H (ns.map D.bl) vs → vs = ns.map V.bl
  | [], _, h => h.nil'
  | n :: ns, _, h => by cases h with | cons r t => rw [r.bl', blsV t]; rfl
theorem strsV {K : PySem.W.Frag} {H : Hp} : ∀ {ns : List Str} {vs : List V}, RpL K H (ns.map D.str) vs → vs = ns.map V.str
  | [], _, h => h.nil'
  | n :: ns, _, h => by cases h with | cons r t => rw [r.str', strsV t]; rfl
theorem RpL.ints {K : PySem.W.Frag} {H : Hp} : ∀ (ns : List Int), RpL K H (ns.map D.int) (ns.map V.int)
  | [] => .nil
  | n :: ns => .cons (.int n) (RpL.ints ns)
theorem RpL.strs {K : PySem.W.Frag} {H : Hp} : ∀ (ns : List Str), RpL K H (ns.map D.str) (ns.map V.str)
  | [] => .nil
  | n :: ns => .cons (.str n) (RpL.strs ns)
@[irreducible] def rSum : DRL := fun ds M Q => as1 ds fun d => ∃ ns : List Int, lsOf M d = some (ns.map D.int) ∧ Q (.int ns.sum) M
@[irreducible] def rAll : DRL := fun ds M Q => as1 ds fun d => ∃ ns : List Bool, lsOf M d = some (ns.map D.bl) ∧ Q (.bl (ns.all id)) M
@[irreducible] def rAny : DRL := fun ds M Q => as1 ds fun d => ∃ ns : List Bool, lsOf M d = some (ns.map D.bl) ∧ Q (.bl (ns.any id)) M
theorem c_sum (hc : X.calm = true) : DCall cl X (.builtin "sum") rSum := imCall (cr_sum hc) fun xs H Q ⟨ds, M, P, rr, sm, r, f⟩ => by
  unfold rSum at r
  obtain ⟨d, rfl, ns, e, r⟩ := as1_elim r
  obtain ⟨v, rfl, r1⟩ := rr.one
  obtain ⟨p, vs, rfl, h1, h2⟩ := lsOf_ok e r1 sm
  rw [intsV h2] at h1
  exact ⟨p, ns, rfl, h1, f _ _ _ _ r Stab.refl sm (.int _)⟩
theorem c_all (hc : X.calm = true) : DCall cl X (.builtin "all") rAll := imCall (cr_all hc) fun xs H Q ⟨ds, M, P, rr, sm, r, f⟩ => by
  unfold rAll at r
  obtain ⟨d, rfl, ns, e, r⟩ := as1_elim r
  obtain ⟨v, rfl, r1⟩ := rr.one
  obtain ⟨p, vs, rfl, h1, h2⟩ := lsOf_ok e r1 sm
  rw [blsV h2] at h1
  exact ⟨p, ns, rfl, h1, f _ _ _ _ r Stab.refl sm (.bl _)⟩
theorem c_any (hc : X.calm = true) : DCall cl X (.builtin "any") rAny := imCall (cr_any hc) fun xs H Q ⟨ds, M, P, rr, sm, r, f⟩ => by
  unfold rAny at r
  obtain ⟨d, rfl, ns, e, r⟩ := as1_elim r
  obtain ⟨v, rfl, r1⟩ := rr.one
  obtain ⟨p, vs, rfl, h1, h2⟩ := lsOf_ok e r1 sm
  rw [blsV h2] at h1
  exact ⟨p, ns, rfl, h1, f _ _ _ _ r Stab.refl sm (.bl _)⟩
/-! ### tuple(..), list(..) -/
/-- tuple(xs): of a list a new tuple, of no attributes of its own; of a tuple itself -/
@[irreducible] def rTuple : DRL := fun ds M Q => as1 ds fun d => match lsOf M d with
  | some xs => Q (.tup xs) M ∨ Q (.ft xs) M
  | none => match tpl d with
    | some _ => Q d M
    | none => False
theorem call_tuple_ft : CallR X (.type "tuple") (fun xs H Q => ∃ p ys, xs = [.ref p] ∧ SqL X.K H p ys ∧ ∀ l o, H l = none → o.dict = none → Q (.ref l) (upd H l (.frz o (.tup ys)))) := by
  intro pins s σ H xs us Q I r h
  obtain ⟨p, ys, rfl, hq, q⟩ := h
  obtain ⟨u, rfl, rx⟩ := vals1 r
  cases rx
  obtain ⟨its, r', pl, hz⟩ := I.list hq
  have hlen := r'.length
  refine call_tuple_list pl.isList (fun h' kp => ?_) (by simp only [List.size_toArray] <;> omega)
  have I1 : Inv X pins σ H { s with heap := h' } := I.kept (t' := s.toks) kp
  have I2 : Inv X pins σ (upd H h'.objs.size (.frz { cls := .type "tuple", data := .seq its.toArray } (.tup ys))) { s with heap := h'.push { cls := .type "tuple", data := .seq its.toArray } } :=
    I1.laid (t' := s.toks) (fun b o e => Heap.get?_push_of_some _ e) (Nat.le_refl _) (show ObjOk X.prog X.w _ _ _ (.frz _ (.tup ys)) from ⟨Heap.get?_push_size _ rfl, hz, its, r', IsTup.new _ _⟩)
  exact ⟨.ref h'.objs.size, _, I2, rfl, q _ _ (I1.hok.fresh (Nat.le_refl _)) rfl⟩
theorem c_tuple : DCall cl X (.type "tuple") rTuple := imCall (call_tuple_of.or call_tuple_ft) fun xs H Q ⟨ds, M, P, rr, sm, r, f⟩ => by
  unfold rTuple at r
  obtain ⟨d, rfl, r0⟩ := as1_elim r
  clear r
  have r := r0
  clear r0
  obtain ⟨v, rfl, r1⟩ := rr.one
  split at r
  · next xs e =>
    obtain ⟨p, vs, rfl, h1, h2⟩ := lsOf_ok e r1 sm
    rcases r with r | r
    · exact .inl ⟨p, vs, rfl, .inl ⟨h1, fun l hl => f _ _ _ _ r (Stab.new hl) (sm.lay hl) (.tup upd_same (h2.mono (Stab.new hl)))⟩⟩
    · exact .inr ⟨p, vs, rfl, h1, fun l o hl ho => f _ _ _ _ r (Stab.new hl) (sm.lay hl) (.ft upd_same ho (h2.mono (Stab.new hl)))⟩
  · split at r
    · next xs e =>
      obtain ⟨p, vs, rfl, h1, h2⟩ := r1.tpl e
      exact .inl ⟨p, vs, rfl, .inr ⟨.inl h1, f _ _ _ _ r Stab.refl sm r1⟩⟩
    · exact r.elim
@[irreducible] def rList : DRL := fun ds M Q => as1 ds fun d => match seqOf M d with
  | some xs => ∀ p, M p = none → Q (.ref p) (up M p (.lst xs))
  | none => False
theorem c_list : DCall cl X (.type "list") rList := imCall call_list_of fun xs H Q ⟨ds, M, P, rr, sm, r, f⟩ => by
  unfold rList at r
  obtain ⟨d, rfl, r0⟩ := as1_elim r
  clear r
  have r := r0
  clear r0
  obtain ⟨v, rfl, r1⟩ := rr.one
  split at r
  · next xs e =>
    obtain ⟨p, vs, rfl, h1, h2⟩ := seqOf_ok e r1 sm
    exact ⟨p, vs, rfl, h1, fun l hl => f _ _ _ _ (r l (sm.free hl)) (Stab.new hl) (sm.new (o := .lst _) hl ⟨_, upd_same, h2.mono (Stab.new hl)⟩) (.ref l)⟩
  · exact r.elim
/-! ### methods of lists -/
@[irreducible] def rAppend : DRM := fun x ds M Q => as1 ds fun d => match x with
  | .ref a => match lstAt M a with
    | some xs => xs.length < sizeLine ∧ Q .non (up M a (.lst (xs ++ [d])))
    | none => False
  | _ => False
theorem stW {H : Hp} {p : Addr} {u : HO} {vs : List V} (h : H p = some (.lst vs)) : Stab H (upd H p u) := Stab.wr h (fun _ q => by cases q) (fun _ _ q => by cases q)
theorem m_append : DMt cl X "list.append" rAppend := imMt (mt_append : MtR X _ _) fun x xs H Q ⟨d, ds, M, P, r1, rr, sm, r, f⟩ => by
  unfold rAppend at r
  obtain ⟨e, rfl, r0⟩ := as1_elim r
  clear r
  have r := r0
  clear r0
  obtain ⟨v, rfl, r2⟩ := rr.one
  split at r
  · split at r
    · next a _ xs e1 =>
      obtain ⟨vs, h1, h2⟩ := sm _ _ (lstAt_eq e1)
      exact ⟨a, vs, v, r1.ref', rfl, h1, by rw [← h2.length]; exact r.1, f _ _ _ _ r.2 (stW h1) (sm.put (o := .lst _) (stW h1) ⟨_, upd_same, (h2.append (.cons r2 .nil)).mono (stW h1)⟩) .non⟩
    · exact r.elim
  · exact r.elim
@[irreducible] def rExtend : DRM := fun x ds M Q => as1 ds fun d => match x, d with
  | .ref a, .ref b => match lstAt M a, lstAt M b with
    | some xs, some ys => xs.length + ys.length ≤ sizeLine ∧ Q .non (up M a (.lst (xs ++ ys)))
    | _, _ => False
  | _, _ => False
theorem m_extend : DMt cl X "list.extend" rExtend := imMt (mt_extend : MtR X _ _) fun x xs H Q ⟨d, ds, M, P, r1, rr, sm, r, f⟩ => by
  unfold rExtend at r
  obtain ⟨e, rfl, r0⟩ := as1_elim r
  clear r
  have r := r0
  clear r0
  obtain ⟨v, rfl, r2⟩ := rr.one
  split at r
  · split at r
    · next a b _ _ xs ys e1 e2 =>
      obtain ⟨vs, h1, h2⟩ := sm _ _ (lstAt_eq e1)
      obtain ⟨ws, k1, k2⟩ := sm _ _ (lstAt_eq e2)
      exact ⟨a, b, vs, ws, r1.ref', by rw [r2.ref'], h1, k1, by rw [← h2.length, ← k2.length]; exact r.1, f _ _ _ _ r.2 (stW h1) (sm.put (o := .lst _) (stW h1) ⟨_, upd_same, (h2.append k2).mono (stW h1)⟩) .non⟩
    · exact r.elim
  · exact r.elim
/-- xs.pop(), xs.pop(i) -/
@[irreducible] def rPop : DRM := fun x ds M Q => match x with
  | .ref a => match lstAt M a with
    | some xs => match ds with
      | [] => match xs.getLast? with
        | some d => Q d (up M a (.lst xs.dropLast))
        | none => False
      | [.int i] => 0 ≤ i ∧ i < 2 ^ 63 ∧ match xs[i.toNat]? with
        | some d => Q d (up M a (.lst (xs.eraseIdx i.toNat)))
        | none => False
      | _ => False
    | none => False
  | _ => False
theorem RpL.dropLast {K : PySem.W.Frag} {H : Hp} {ds : List D} {vs : List V} (r : RpL K H ds vs) : RpL K H ds.dropLast vs.dropLast := by
  rw [List.dropLast_eq_take, List.dropLast_eq_take, r.length]
  exact r.take _
theorem m_pop : DMt cl X "list.pop" rPop := imMt (MtR.or (mt_pop : MtR X _ _) (mt_popAt : MtR X _ _)) fun x xs H Q ⟨d, ds, M, P, r1, rr, sm, r, f⟩ => by
  unfold rPop at r
  split at r
  · split at r
    · next a _ xs e1 =>
      obtain ⟨vs, h1, h2⟩ := sm _ _ (lstAt_eq e1)
      split at r
      · split at r
        · next d e2 =>
          rw [rr.nil']
          rw [List.getLast?_eq_getElem?] at e2
          obtain ⟨v, h3, h4⟩ := h2.get e2
          rw [h2.length] at h3
          exact .inl ⟨a, vs, v, r1.ref', rfl, h1, h3, f _ _ _ _ r (stW h1) (sm.put (o := .lst _) (stW h1) ⟨_, upd_same, h2.dropLast.mono (stW h1)⟩) (h4.mono (stW h1))⟩
        · exact r.elim
      · next i =>
        obtain ⟨i0, i1, r⟩ := r
        obtain ⟨w, rfl, r2⟩ := rr.one
        split at r
        · next d e2 =>
          obtain ⟨v, h3, h4⟩ := h2.get e2
          have hlt : i.toNat < vs.length := (List.getElem?_eq_some_iff.mp h3).1
          exact .inr ⟨a, vs, i, i.toNat, v, r1.ref', by rw [r2.int'], h1, by omega, i1, seqIndex_of i0 (by omega), h3, f _ _ _ _ r (stW h1) (sm.put (o := .lst _) (stW h1) ⟨_, upd_same, (h2.erase _).mono (stW h1)⟩) (h4.mono (stW h1))⟩
        · exact r.elim
      · exact r.elim
    · exact r.elim
  · exact r.elim
end EW

set_option maxRecDepth 100000
set_option maxHeartbeats 4000000
/-! EwWalk: what is walked: lists, tuples, texts; enumerate and zip of any of these. -/
namespace EW
open PySem PySem.Spec PyProof.Rows L2

/-- a source: a list, a tuple, a text -/
inductive Sk where
  | L (a : Addr) | T (a : Addr) | S (x : Str) (t : Tok)
def Sk.val : Sk → Value
  | .L a => .ref a
  | .T a => .ref a
  | .S x t => .str x t
def Sk.has (K : PySem.W.Frag) (H : Hp) : Sk → List V → Prop
  | .L a, xs => SqL K H a xs
  | .T a, xs => SqT K H a xs
  | .S x _, xs => xs = x.cps.toList.map fun c => V.str ⟨#[c]⟩
def Sk.rcd : Sk → Addr → Nat → Heap → Prop
  | .L a, it, i, h => h.IsListIter it a i
  | .T a, it, i, h => h.IsTupleIter it a i
  | .S x t, it, i, h => h.IsStrIter it (strIterType x) x t i
def Sk.con : Sk → List Addr
  | .L a => [a]
  | .T a => [a]
  | .S _ _ => []
theorem Sk.rcd_at {k : Sk} {it : Addr} {i : Nat} {h h' : Heap} (r : k.rcd it i h) (e : ∀ o, h.get? it = some o → h'.get? it = some o) : k.rcd it i h' := by
  cases k with
  | L a => exact Heap.IsListIter.at r e
  | T a => exact Heap.IsTupleIter.at r e
  | S x t => obtain ⟨o, ho, q⟩ := r; exact ⟨o, e _ ho, q⟩
theorem Sk.rcd_obj {k : Sk} {it : Addr} {i : Nat} {h : Heap} (r : k.rcd it i h) : ∃ o, h.get? it = some o ∧ ∀ v, o.data ≠ .cell v := by
  cases k with
  | L a => obtain ⟨o, e, c, d⟩ := r; exact ⟨o, e, fun v z => by rw [d] at z; cases z⟩
  | T a => obtain ⟨o, e, c, d⟩ := r; exact ⟨o, e, fun v z => by rw [d] at z; cases z⟩
  | S x t => obtain ⟨o, e, c, d⟩ := r; exact ⟨o, e, fun v z => by rw [d] at z; cases z⟩
section
variable {X : Cx} {pins : List (Addr × Obj)} {σ : L2.St} {H : Hp} {s : Shared}
theorem Sk.con_lt {k : Sk} {xs : List V} (I : Inv X pins σ H s) (h : k.has X.K H xs) : ∀ c ∈ k.con, c < s.heap.objs.size := by
  cases k with
  | L a =>
    intro c hc
    obtain ⟨its, _, p, _⟩ := I.list h
    rw [List.mem_singleton.mp hc]; exact p.lt
  | T a =>
    intro c hc
    obtain ⟨its, _, p, _⟩ := I.tuple h
    rw [List.mem_singleton.mp hc]; exact p.lt
  | S x t => intro c hc; cases hc
theorem Sk.draws {k : Sk} {xs : List V} {it : Addr} {A : Around} (hh : A.handled = none) (I : Inv X pins σ H s) (h : k.has X.K H xs) (hne : ∀ c ∈ k.con, c ≠ it) :
    ∃ (P : Nat → Value → Prop) (St : Nat → Heap → Prop), Draws X.prog X.w A it (it :: k.con) xs.length P St ∧ (∀ i, k.rcd it i s.heap → St i s.heap) ∧ (∀ i v, P i v → ∃ x, xs[i]? = some x ∧ RelV x v) ∧ ∀ i h', St i h' → k.rcd it i h' := by
  cases k with
  | L a =>
    obtain ⟨its, rv, p, _⟩ := I.list h
    have D := Draws.list (prog := X.prog) (w := X.w) hh it a (hne a (by simp [Sk.con])) its.toArray
    have hl : its.toArray.size = xs.length := by rw [List.size_toArray]; exact rv.length.symm
    rw [hl] at D
    refine ⟨_, _, D, fun i r => ⟨r, p.isList⟩, fun i v q => ?_, fun i h' q => q.1⟩
    have q' : its[i]? = some v := by simpa using q
    have hi : i < xs.length := by rw [← hl, List.size_toArray]; exact (List.getElem?_eq_some_iff.mp q').1
    obtain ⟨u, hu, ru⟩ := rv.get (i := i) (x := xs[i]) (by simp [hi])
    rw [q'] at hu; cases hu
    exact ⟨xs[i], by simp [hi], ru⟩
  | T a =>
    obtain ⟨its, rv, p, _⟩ := I.tuple h
    have D := Draws.tuple (prog := X.prog) (w := X.w) hh it a (hne a (by simp [Sk.con])) its.toArray
    have hl : its.toArray.size = xs.length := by rw [List.size_toArray]; exact rv.length.symm
    rw [hl] at D
    refine ⟨_, _, D, fun i r => ⟨r, p⟩, fun i v q => ?_, fun i h' q => q.1⟩
    have q' : its[i]? = some v := by simpa using q
    have hi : i < xs.length := by rw [← hl, List.size_toArray]; exact (List.getElem?_eq_some_iff.mp q').1
    obtain ⟨u, hu, ru⟩ := rv.get (i := i) (x := xs[i]) (by simp [hi])
    rw [q'] at hu; cases hu
    exact ⟨xs[i], by simp [hi], ru⟩
  | S x t =>
    have D := Draws.text (prog := X.prog) (w := X.w) hh it x t
    have e : xs = x.cps.toList.map fun c => V.str ⟨#[c]⟩ := h
    have hl : x.cps.size = xs.length := by rw [e]; simp
    rw [hl] at D
    refine ⟨_, _, D, fun i r => r, fun i v ⟨c, u, q1, q2⟩ => ?_, fun i h' q => q⟩
    refine ⟨V.str ⟨#[c]⟩, ?_, ⟨u, q2⟩⟩
    rw [e]
    simp [q1]
theorem Sk.begins {k : Sk} {xs : List V} (I : Inv X pins σ H s) (h : k.has X.K H xs) : ∃ (o : Obj) (Hh : Heap → Prop), Begins k.val o Hh ∧ Hh s.heap ∧ ∀ (it : Addr) (h' : Heap), h'.get? it = some o → k.rcd it 0 h' := by
  cases k with
  | L a =>
    obtain ⟨its, rv, p, _⟩ := I.list h
    exact ⟨_, _, begins_list a its.toArray, p.isList, fun it h' e => ⟨_, e, rfl, rfl⟩⟩
  | T a =>
    obtain ⟨its, rv, p, _⟩ := I.tuple h
    exact ⟨_, _, begins_tuple a its.toArray, p, fun it h' e => ⟨_, e, rfl, rfl⟩⟩
  | S x t => exact ⟨_, _, begins_text x t, trivial, fun it h' e => ⟨_, e, rfl, rfl⟩⟩
/-- the sources that a datum may be -/
def srcD (M : Mem) (d : D) : Option (List D) := match d with
  | .str z => some (z.cps.toList.map fun c => D.str ⟨#[c]⟩)
  | d => seqOf M d
theorem signs_R {K : PySem.W.Frag} {H : Hp} : ∀ cs : List Nat, RpL K H (cs.map fun c => D.str ⟨#[c]⟩) (cs.map fun c => V.str ⟨#[c]⟩)
  | [] => .nil
  | c :: cs => .cons (.str _) (signs_R cs)
def SkD (d : D) (v : V) (k : Sk) : Prop := match d, v, k with
  | .str z, .str _, .S x _ => z = x
  | .tup _, .ref p, .T a => a = p
  | .ft _, .ref p, .T a => a = p
  | .rl _, .ref p, .L a => a = p
  | .ref _, .ref p, .L a => a = p
  | _, _, _ => False
theorem sk_make {K : PySem.W.Frag} {M : Mem} {d : D} {ds : List D} {H : Hp} {v : V} {u : Value} (h : srcD M d = some ds) (r : Rp K H d v) (rv : RelV v u) : ∃ k : Sk, u = k.val ∧ SkD d v k := by
  cases d <;> first | (cases h; done) | skip
  · rw [r.str'] at rv ⊢; obtain ⟨t, rfl⟩ := rv; exact ⟨.S _ t, rfl, rfl⟩
  · obtain ⟨p, vs, rfl, _⟩ := r.tup'; cases rv; exact ⟨.T p, rfl, rfl⟩
  · obtain ⟨p, vs, o, rfl, _⟩ := r.ft'; cases rv; exact ⟨.T p, rfl, rfl⟩
  · obtain ⟨p, vs, rfl, _⟩ := r.rl'; cases rv; exact ⟨.L p, rfl, rfl⟩
  · rw [r.ref'] at rv ⊢; cases rv; exact ⟨.L _, rfl, rfl⟩
theorem sk_has {K : PySem.W.Frag} {cl : String → Addr} {M : Mem} {d : D} {ds : List D} {H : Hp} {v : V} {k : Sk} (h : srcD M d = some ds) (r : Rp K H d v) (sm : Sim K cl M H) (q : SkD d v k) : ∃ vs, k.has K H vs ∧ RpL K H ds vs := by
  cases d <;> first | (cases h; done) | skip
  · rw [r.str'] at q
    cases h
    cases k <;> first | exact q.elim | skip
    have q' : _ = _ := q
    subst q'
    exact ⟨_, rfl, signs_R _⟩
  · obtain ⟨p, vs, rfl, h1, h2⟩ := r.tup'
    cases h
    cases k <;> first | exact q.elim | skip
    have q' : _ = _ := q
    subst q'
    exact ⟨vs, SqT.of h1, h2⟩
  · obtain ⟨p, vs, o, rfl, h1, _, h2⟩ := r.ft'
    cases h
    cases k <;> first | exact q.elim | skip
    have q' : _ = _ := q
    subst q'
    exact ⟨vs, .inl (.inr ⟨o, h1⟩), h2⟩
  · obtain ⟨p, vs, rfl, h1, h2⟩ := r.rl'
    cases h
    cases k <;> first | exact q.elim | skip
    have q' : _ = _ := q
    subst q'
    exact ⟨vs, h1.sq, h2⟩
  · rw [r.ref'] at q
    cases k <;> first | exact q.elim | skip
    have q' : _ = _ := q
    subst q'
    obtain ⟨vs, h1, h2⟩ := sm _ _ (lstAt_eq (show lstAt M _ = some ds from h))
    exact ⟨vs, SqL.of h1, h2⟩
theorem Sk.inj {k : Sk} {xs ys : List V} (I : Inv X pins σ H s) (h : k.has X.K H xs) (h' : k.has X.K H ys) : xs = ys := by
  cases k with
  | L a => exact I.list_inj h h'
  | T a => exact I.tuple_inj h h'
  | S x t => exact Eq.trans h (Eq.symm h')
end
end EW
namespace EW
open PySem PySem.W
open AutoSeq1 (wpAny_loadPart')
set_option maxHeartbeats 4000000 in
theorem meets_enumerate_newB1 {v : Value} {o : Obj} {H : Heap → Prop} (B : Begins v o H) :
    Meets (Builtin.«enumerate.__new__» ⟨[.type "enumerate", v], []⟩) (fun _ R s => H s.heap ∧
      R (.ok (.ret (.ref (s.heap.push o).objs.size))) { s with heap := (s.heap.push o).push { cls := .type "enumerate", data := .fields #[.none, .bool false, .ref s.heap.objs.size, rawInt 0, .none, .none] } }) :=
  .of_wp fun prog w A R s h => by
    obtain ⟨hp, g, d, tk, os⟩ := s; obtain ⟨h1, h⟩ := h
    have hsub := sub_enumerate
    have q1 : ∀ {A' : Around} {E : Value → Shared → Prop} {Q : Value → Shared → Prop}, Q (.ref hp.objs.size) ⟨hp.push o, g, d, tk, os⟩ → wpAny (model prog w) A' (pyIter v) Q E ⟨hp, g, d, tk, os⟩ :=
      fun q => B.iter prog w _ _ ⟨hp, g, d, tk, os⟩ _ h1 q
    wp_walk using q1
    refine wpAny_stack_any fun st => wpAny_pure ?_
    split
    · rename_i c _ _ _ _ _
      cases (c == Value.type "enumerate")
      · wp_walk using q1
        exact ⟨_, rfl, h⟩
      · wp_walk using q1
        exact ⟨_, rfl, h⟩
    · wp_walk using q1
      exact ⟨_, rfl, h⟩
theorem enum_begins1 {prog : Program} {w : World} {A : Around} {E : Value → Shared → Prop} {s : Shared} {v : Value} {o : Obj} {H : Heap → Prop} {Q : Value → Shared → Prop} (B : Begins v o H) (h1 : H s.heap)
    (h : ∀ h', IsEnum h' (s.heap.objs.size + 1) s.heap.objs.size 0 .none → h'.get? s.heap.objs.size = some o → h'.objs.size = s.heap.objs.size + 2 →
      (∀ b o, s.heap.get? b = some o → h'.get? b = some o) → Q (.ref (s.heap.objs.size + 1)) { s with heap := h' }) :
    wpAny (model prog w) A (call (.type "enumerate") [v]) Q E s := by
  refine callType_new F.called_enumerate (by decide) (F.typeCall_enumerate_1 _) (F.newCall_enumerate_1 _) (fun obj => F.args_object_init_2 obj _) F.entry_enumerate_new
    (meets_enumerate_newB1 B) ⟨h1, ?_⟩
  have hz : (s.heap.push o).objs.size = s.heap.objs.size + 1 := Heap.size_push ..
  show _ ∧ _
  rw [hz]
  have he : IsEnum ((s.heap.push o).push { cls := .type "enumerate", data := .fields #[.none, .bool false, .ref s.heap.objs.size, rawInt 0, .none, .none] }) (s.heap.objs.size + 1) s.heap.objs.size 0 .none := by
    have := Heap.get?_push_size (s.heap.push o) (o := { cls := .type "enumerate", data := .fields #[.none, .bool false, .ref s.heap.objs.size, rawInt 0, .none, .none] }) rfl
    rw [hz] at this; exact this
  exact ⟨⟨_, he, rfl⟩, h _ he (Heap.get?_push_of_some _ (Heap.get?_push_size _ B.free)) (by rw [Heap.size_push, hz]) fun b o x => Heap.get?_push_of_some _ (Heap.get?_push_of_some _ x)⟩
end EW
namespace EW
open PySem PySem.Spec PyProof.Rows L2
/-! ### enumerate -/
def ItE (K : PySem.W.Frag) (k : Sk) : It :=
  ⟨fun i H => ∃ xs, k.has K H xs ∧ i < xs.length, fun i H v H' => ∃ T x, v = .ref T ∧ H T = none ∧ H' = upd H T (.tup [.int (i : Nat), x]) ∧ ∀ xs, k.has K H xs → xs[i]? = some x, fun i H => ∃ xs, k.has K H xs ∧ i = xs.length⟩
theorem in1_hd {A : Around} (h : A.handled = none) : A.in1.handled = none := h
theorem turn_enumK {P : Program} {w : World} {K : PySem.W.Frag} {elts : List Expr} {kk : Nat} {tpos : Pos} (k : Sk) (e it : Addr) (hcon : ∀ c ∈ k.con, c ≠ e ∧ c ≠ it) :
    Turn P w K (.Tuple elts kk tpos) (ItE K k) [e, it] e (fun i h => (∃ old, IsEnum h e it ((i : Nat) : Int) old) ∧ k.rcd it i h ∧ e ≠ it) where
  mem := by simp
  obj := fun i h st b hb => by
    obtain ⟨⟨old, he⟩, hr, _⟩ := st
    have e' : b = e ∨ b = it := by simpa using hb
    rcases e' with z | z
    · rw [z]; exact ⟨_, he, fun v q => nomatch q⟩
    · rw [z]; exact Sk.rcd_obj hr
  keep := fun i h h' st kp => let ⟨⟨old, he⟩, hi, hne⟩ := st; ⟨⟨old, kp e (by simp) _ he⟩, Sk.rcd_at hi fun o q => kp it (by simp) o q, hne⟩
  item := by
    intro X hP hw hK hc i pins s σ H E I hf st hg
    subst hP hw hK
    obtain ⟨⟨old, he⟩, hit, hne⟩ := st
    obtain ⟨xs, hq, hx⟩ := hg
    obtain ⟨Pd, St, Dr, hst, hval, hback⟩ := Sk.draws (it := it) (A := X.A.in1) (in1_hd (I.ok.hd hc)) I hq fun c hc => (hcon c hc).2
    have G := GoesN.enumFrom (elts := elts) (x1 := kk) (pos := tpos) 0 Dr e hne (fun hm => by
      rcases List.mem_cons.mp hm with z | z
      · exact hne z
      · exact (hcon e z).1 rfl) (by simp)
    refine thn (G.goes i s (fun u s2 => ∃ x H', Inv X pins σ H' s2 ∧ RelV x u ∧ (ItE X.K k).yld i H x H' ∧ ((∃ old, IsEnum s2.heap e it ((i + 1 : Nat) : Int) old) ∧ k.rcd it (i + 1) s2.heap ∧ e ≠ it) ∧ ∀ b ∈ [e, it], H' b = none) E hx ⟨⟨old, by simpa using he⟩, hst i hit⟩ ?_) fun r s1 ⟨v, e1, h1⟩ => ⟨v, e1, h1⟩
    rintro v h' tk ⟨T, t, u, rfl, hT, hP, hTup⟩ ⟨⟨old', he'⟩, st'⟩ hk _
    obtain ⟨x, hxi, rx⟩ := hval i u hP
    have new : ObjOk X.prog X.w (upd H T (.tup [.int (i : Nat), x])) h' T (.tup [.int (i : Nat), x]) := by
      refine ⟨by show 2 ≤ sizeLine; decide, [.int i t, u], .cons ⟨_, rfl⟩ (.cons rx .nil), ?_⟩
      exact (by simpa using hTup : h'.IsTuple T #[Value.int (i : Nat) t, u])
    have hno : ∀ b ∈ [e, it], b < s.heap.objs.size := fun b hb => by
      have e' : b = e ∨ b = it := by simpa using hb
      rcases e' with z | z
      · rw [z]; exact Heap.lt_size he
      · rw [z]; obtain ⟨o, q, _⟩ := Sk.rcd_obj hit; exact Heap.lt_size q
    refine ⟨.ref T, _, I.turnedNew (ch := [e, it]) (fun b o hb q => hk b o hb q) hf hT new, rfl, ⟨T, x, rfl, I.hok.fresh hT, rfl, fun ys hy => by rw [Sk.inj I hy hq]; exact hxi⟩, ⟨⟨old', ?_⟩, hback _ _ st', hne⟩, fun b hb => ?_⟩
    · simpa using he'
    · rw [upd_ne (Nat.ne_of_lt (Nat.lt_of_lt_of_le (hno b hb) hT))]
      exact (hf b hb).1
  done := by
    intro X hP hw hK hc i pins s σ H E I hf st hg
    subst hP hw hK
    obtain ⟨⟨old, he⟩, hit, hne⟩ := st
    obtain ⟨xs, hq, rfl⟩ := hg
    obtain ⟨Pd, St, Dr, hst, hval, hback⟩ := Sk.draws (it := it) (A := X.A.in1) (in1_hd (I.ok.hd hc)) I hq fun c hc => (hcon c hc).2
    have G := GoesN.enumFrom (elts := elts) (x1 := kk) (pos := tpos) 0 Dr e hne (fun hm => by
      rcases List.mem_cons.mp hm with z | z
      · exact hne z
      · exact (hcon e z).1 rfl) (by simp)
    exact G.stops s (fun s1 => Inv X pins σ H s1) E ⟨⟨old, by simpa using he⟩, hst _ hit⟩ fun h' tk hk _ => I.turnedL (ch := [e, it]) (fun b o hb q => hk b o hb q) hf
  self := fun A i s Q E st h => let ⟨⟨_, he⟩, _⟩ := st; wpAny_pyIter_enum he h

def pairsE (i : Nat) : List D → List D
  | [] => []
  | x :: xs => .tup [.int i, x] :: pairsE (i + 1) xs
theorem pairsE_get : ∀ (xs : List D) (n i : Nat), (pairsE n xs)[i]? = (xs[i]?).map fun x => .tup [.int ((n + i : Nat) : Int), x]
  | [], n, i => by simp [pairsE]
  | x :: xs, n, 0 => by simp [pairsE]
  | x :: xs, n, i + 1 => by
    have := pairsE_get xs (n + 1) i
    simp only [pairsE, List.getElem?_cons_succ, this]
    congr 1
    funext y
    rw [show n + 1 + i = n + (i + 1) by omega]
theorem pairsE_length : ∀ (xs : List D) (n : Nat), (pairsE n xs).length = xs.length
  | [], _ => rfl
  | x :: xs, n => by rw [pairsE, List.length_cons, List.length_cons, pairsE_length xs]
@[irreducible] def onSrc (M1 : Mem) (d : D) (Q : List D → (Mem → Prop) → Mem → Prop) : Prop := match srcD M1 d with
  | some xs => Q (pairsE 0 xs) (fun M => srcD M d = some xs) M1
  | none => False
theorem on_src {M : Mem} {d : D} {xs : List D} {Q : List D → (Mem → Prop) → Mem → Prop} (h : srcD M d = some xs) (q : Q (pairsE 0 xs) (fun M => srcD M d = some xs) M) : onSrc M d Q := by
  unfold onSrc; rw [h]; exact q
def diEnum (t : DTE) : DTI := fun ρ M Q => t ρ M fun d M1 => onSrc M1 d Q
section
variable {cl : String → Addr} {X : Cx} {e : Expr} {te : DTE} {p pos tpos : Pos} {elts : List Expr} {kk : Nat}
theorem di_enum (hg : Gl X "enumerate") (hm : X.mg "enumerate" = none) (he : DE cl X e te) (hs : starEach [e] X.env = [(false, eval e X.env)] := by rfl) : DI cl X (.Tuple elts kk tpos) (.Call (.Name "enumerate" p) [e] [] pos) (diEnum te) := by
  refine ⟨⟨fun pins s σ H R I ⟨ρ, M, P, er, sm, t, f⟩ => ?_⟩⟩
  have ha : PA X [e] (tCons (LE X.K cl te) tNil) := pa_cons he.h pa_nil hs
  refine Call_ (ld_blt I hg hm boot_enumerate (PyProof.Rows.callWith_type1 (thn (ha.run pos pins s σ H (fun vs H1 => ∃ d M1 v, vs = [v] ∧ Stab H H1 ∧ Sim X.K cl M1 H1 ∧ Rp X.K H1 d v ∧ (match srcD M1 d with | some xs => P (pairsE 0 xs) (fun M => srcD M d = some xs) M1 | none => False)) I ⟨ρ, M, _, er, sm, t, fun d M1 v H1 q s1 sm1 r1 => ⟨d, M1, v, rfl, s1, sm1, r1, by unfold onSrc at q; exact q⟩⟩) fun us s1 ⟨vs, H1, I1, r1, q1⟩ => ?_) hs rfl))
  obtain ⟨d, M1, v, rfl, st1, sm1, rd, q⟩ := q1
  cases r1 with
  | cons r rr =>
    cases rr
    split at q
    · next xs ex =>
      obtain ⟨k, rfl, hk⟩ := sk_make ex rd r
      obtain ⟨vs, hv, rv⟩ := sk_has ex rd sm1 hk
      obtain ⟨o, Hh, B, hh, hrec⟩ := Sk.begins I1 hv
      refine enum_begins1 B hh fun h' he' hit hsz hkp => wpAny_pyIter_enum he' ?_
      have I2 : Inv X pins σ H1 { s1 with heap := h' } := I1.kept (t' := s1.toks) hkp
      have hcl := Sk.con_lt I1 hv
      refine ⟨s1.heap.objs.size + 1, [s1.heap.objs.size + 1, s1.heap.objs.size], _, _, H1, rfl, I2, turn_enumK k (s1.heap.objs.size + 1) s1.heap.objs.size (fun c hc => ⟨Nat.ne_of_lt (Nat.lt_succ_of_lt (hcl c hc)), Nat.ne_of_lt (hcl c hc)⟩), ⟨⟨.none, he'⟩, hrec _ _ hit, Nat.succ_ne_self _⟩, fun b hb => ?_, ?_⟩
      · have e' : b = s1.heap.objs.size + 1 ∨ b = s1.heap.objs.size := by simpa using hb
        have hle : s1.heap.objs.size ≤ b := by
          rcases e' with z | z
          · rw [z]; exact Nat.le_add_right _ _
          · rw [z]; exact Nat.le_refl _
        exact I1.fpOk hle (I1.hok.fresh hle)
      · refine f _ _ _ _ _ q st1 sm1 ⟨fun H2 M2 s2 sm2 iv => ?_, fun i x H2 M2 hx s2 sm2 iv => ?_⟩
        · obtain ⟨ws, hw, rw'⟩ := sk_has iv (rd.mono s2) sm2 hk
          exact ⟨ws, hw, by rw [pairsE_length, rw'.length]⟩
        · obtain ⟨ws, hw, rw'⟩ := sk_has iv (rd.mono s2) sm2 hk
          rw [pairsE_get] at hx
          cases hy : xs[i]? with
          | none => rw [hy] at hx; cases hx
          | some y =>
            rw [hy] at hx
            obtain ⟨w1, hw1, rw1⟩ := rw'.get hy
            refine ⟨⟨ws, hw, (List.getElem?_eq_some_iff.mp hw1).1⟩, ?_⟩
            rintro v2 H3 ⟨T, z, rfl, hT, rfl, hz⟩
            have := hz ws hw
            rw [hw1] at this; cases this
            refine ⟨Stab.new hT, sm2.lay hT, ?_⟩
            have hx' : x = .tup [.int (i : Nat), y] := by
              have := Option.some.inj hx
              rw [← this]
              simp
            rw [hx']
            exact .tup upd_same (.cons (.int _) (.cons (rw1.mono (Stab.new hT)) .nil))
    · exact q.elim
end
end EW

set_option maxRecDepth 100000
set_option maxHeartbeats 4000000
namespace EW
open PySem PySem.Spec PyProof.Rows L2
/-! ### zip of two -/
def ItZ (K : PySem.W.Frag) (k1 k2 : Sk) : It :=
  ⟨fun i H => ∃ xs ys, k1.has K H xs ∧ k2.has K H ys ∧ i < xs.length ∧ i < ys.length, fun i H v H' => ∃ T x y, v = .ref T ∧ H T = none ∧ H' = upd H T (.tup [x, y]) ∧ (∀ xs, k1.has K H xs → xs[i]? = some x) ∧ ∀ ys, k2.has K H ys → ys[i]? = some y, fun i H => ∃ xs ys, k1.has K H xs ∧ k2.has K H ys ∧ i = min xs.length ys.length⟩
theorem turn_zipK {P : Program} {w : World} {K : PySem.W.Frag} {elts : List Expr} {kk : Nat} {tpos : Pos} (k1 k2 : Sk) (N : Nat) (h1 : ∀ c ∈ k1.con, c < N) (h2 : ∀ c ∈ k2.con, c < N) :
    Turn P w K (.Tuple elts kk tpos) (ItZ K k1 k2) [N + 4, N + 2, N + 3, N, N + 1] (N + 4) (fun i h => IsZip h (N + 4) (N + 2) (N + 3) .none ∧ IsTupOf2 h (N + 2) (.ref N) (.ref (N + 1)) ∧ (∃ x y, IsTupOf2 h (N + 3) x y) ∧ k1.rcd N i h ∧ k2.rcd (N + 1) i h) where
  mem := by simp
  obj := fun i h st b hb => by
    obtain ⟨hz, hT, ⟨x, y, hO⟩, r1, r2⟩ := st
    have e' : b = N + 4 ∨ b = N + 2 ∨ b = N + 3 ∨ b = N ∨ b = N + 1 := by simpa using hb
    rcases e' with z | z | z | z | z
    · rw [z]; exact ⟨_, hz, fun v q => nomatch q⟩
    · rw [z]; exact ⟨_, hT, fun v q => nomatch q⟩
    · rw [z]; exact ⟨_, hO, fun v q => nomatch q⟩
    · rw [z]; exact Sk.rcd_obj r1
    · rw [z]; exact Sk.rcd_obj r2
  keep := fun i h h' st kp => let ⟨hz, hT, ⟨x, y, hO⟩, r1, r2⟩ := st; ⟨kp (N + 4) (by simp) _ hz, kp (N + 2) (by simp) _ hT, ⟨x, y, kp (N + 3) (by simp) _ hO⟩, Sk.rcd_at r1 fun o q => kp N (by simp) o q, Sk.rcd_at r2 fun o q => kp (N + 1) (by simp) o q⟩
  item := by
    intro X hP hw hK hc i pins s σ H E I hf st hg
    subst hP hw hK
    obtain ⟨hz, hT, ⟨a1, a2, hO⟩, r1, r2⟩ := st
    obtain ⟨xs, ys, q1, q2, l1, l2⟩ := hg
    obtain ⟨P1, S1, D1, st1, v1, b1⟩ := Sk.draws (it := N) (A := X.A.in1) (in1_hd (I.ok.hd hc)) I q1 fun c hc => Nat.ne_of_lt (h1 c hc)
    obtain ⟨P2, S2, D2, st2, v2, b2⟩ := Sk.draws (it := N + 1) (A := X.A.in1) (in1_hd (I.ok.hd hc)) I q2 fun c hc => Nat.ne_of_lt (Nat.lt_succ_of_lt (h2 c hc))
    have G := GoesN.zip2 (elts := elts) (x1 := kk) (pos := tpos) (zip_sep2 (N := N) h1 h2) D1 D2
    have hlt : ∀ b ∈ [N + 4, N + 2, N + 3, N, N + 1], b < s.heap.objs.size := fun b hb => by
      have e' : b = N + 4 ∨ b = N + 2 ∨ b = N + 3 ∨ b = N ∨ b = N + 1 := by simpa using hb
      rcases e' with z | z | z | z | z
      · rw [z]; exact Heap.lt_size hz
      · rw [z]; exact Heap.lt_size hT
      · rw [z]; exact Heap.lt_size hO
      · rw [z]; obtain ⟨o, q, _⟩ := Sk.rcd_obj r1; exact Heap.lt_size q
      · rw [z]; obtain ⟨o, q, _⟩ := Sk.rcd_obj r2; exact Heap.lt_size q
    refine thn (G.goes i s (fun u s2 => ∃ x H', Inv X pins σ H' s2 ∧ RelV x u ∧ (ItZ X.K k1 k2).yld i H x H' ∧ (IsZip s2.heap (N + 4) (N + 2) (N + 3) .none ∧ IsTupOf2 s2.heap (N + 2) (.ref N) (.ref (N + 1)) ∧ (∃ x y, IsTupOf2 s2.heap (N + 3) x y) ∧ k1.rcd N (i + 1) s2.heap ∧ k2.rcd (N + 1) (i + 1) s2.heap) ∧ ∀ b ∈ [N + 4, N + 2, N + 3, N, N + 1], H' b = none) E (by omega) ⟨hz, hT, ⟨a1, a2, hO⟩, st1 i r1, st2 i r2⟩ ?_) fun r s1 ⟨v, e1, h1⟩ => ⟨v, e1, h1⟩
    rintro v h' tk ⟨T, u1, u2, rfl, hTT, hP1, hP2, hTup⟩ ⟨z1, z2, z3, z4, z5⟩ hk _
    obtain ⟨x, hx, rx⟩ := v1 i u1 hP1
    obtain ⟨y, hy, ry⟩ := v2 i u2 hP2
    have new : ObjOk X.prog X.w (upd H T (.tup [x, y])) h' T (.tup [x, y]) := ⟨by show 2 ≤ sizeLine; decide, [u1, u2], .cons rx (.cons ry .nil), hTup⟩
    refine ⟨.ref T, _, I.turnedNew (ch := [N + 4, N + 2, N + 3, N, N + 1]) (fun b o hb q => hk b o (fun z => hb ?_) q) hf hTT new, rfl, ⟨T, x, y, rfl, I.hok.fresh hTT, rfl, fun zs hz => by rw [Sk.inj I hz q1]; exact hx, fun zs hz => by rw [Sk.inj I hz q2]; exact hy⟩, ⟨z1, z2, z3, b1 _ _ z4, b2 _ _ z5⟩, fun b hb => ?_⟩
    · have e' : b = N + 4 ∨ b = N + 3 ∨ b = N ∨ b = N + 1 := by simpa using z
      rcases e' with z | z | z | z <;> simp [z]
    · rw [upd_ne (Nat.ne_of_lt (Nat.lt_of_lt_of_le (hlt b hb) hTT))]
      exact (hf b hb).1
  done := by
    intro X hP hw hK hc i pins s σ H E I hf st hg
    subst hP hw hK
    obtain ⟨hz, hT, ⟨a1, a2, hO⟩, r1, r2⟩ := st
    obtain ⟨xs, ys, q1, q2, rfl⟩ := hg
    obtain ⟨P1, S1, D1, st1, v1, b1⟩ := Sk.draws (it := N) (A := X.A.in1) (in1_hd (I.ok.hd hc)) I q1 fun c hc => Nat.ne_of_lt (h1 c hc)
    obtain ⟨P2, S2, D2, st2, v2, b2⟩ := Sk.draws (it := N + 1) (A := X.A.in1) (in1_hd (I.ok.hd hc)) I q2 fun c hc => Nat.ne_of_lt (Nat.lt_succ_of_lt (h2 c hc))
    have G := GoesN.zip2 (elts := elts) (x1 := kk) (pos := tpos) (zip_sep2 (N := N) h1 h2) D1 D2
    exact G.stops s (fun s1 => Inv X pins σ H s1) E ⟨hz, hT, ⟨a1, a2, hO⟩, st1 _ r1, st2 _ r2⟩ fun h' tk hk _ => I.turnedL (ch := [N + 4, N + 2, N + 3, N, N + 1]) (fun b o hb q => hk b o (fun z => hb (by
      have e' : b = N + 4 ∨ b = N + 3 ∨ b = N ∨ b = N + 1 := by simpa using z
      rcases e' with z | z | z | z <;> simp [z])) q) hf
  self := fun A i s Q E st h => wpAny_pyIter_zip st.1 h

@[irreducible] def onZip (M2 : Mem) (d e : D) (Q : List D → (Mem → Prop) → Mem → Prop) : Prop := match srcD M2 d, srcD M2 e with
  | some xs, some ys => Q (List.zipWith (fun x y => .tup [x, y]) xs ys) (fun M => srcD M d = some xs ∧ srcD M e = some ys) M2
  | _, _ => False
theorem on_zip {M : Mem} {d e : D} {xs ys : List D} {Q : List D → (Mem → Prop) → Mem → Prop} (h : srcD M d = some xs) (h2 : srcD M e = some ys) (q : Q (List.zipWith (fun x y => .tup [x, y]) xs ys) (fun M => srcD M d = some xs ∧ srcD M e = some ys) M) : onZip M d e Q := by
  unfold onZip; rw [h, h2]; exact q
def diZip (t u : DTE) : DTI := fun ρ M Q => t ρ M fun d M1 => u ρ M1 fun e M2 => onZip M2 d e Q
section
variable {cl : String → Addr} {X : Cx} {e e2 iter : Expr} {te tu : DTE} {p pos tpos : Pos} {elts : List Expr} {kk : Nat}
theorem di_zip (hg : Gl X "zip") (hm : X.mg "zip" = none) (he : DE cl X e te) (hf2 : DE cl X e2 tu) (hs : starEach [e, e2] X.env = (false, eval e X.env) :: starEach [e2] X.env := by rfl) (hs2 : starEach [e2] X.env = (false, eval e2 X.env) :: starEach [] X.env := by rfl) (hpl : (backTo pos (starEach [e2] X.env)).any (·.1) = false := by rfl) :
    DI cl X (.Tuple elts kk tpos) (.Call (.Name "zip" p) [e, e2] [] pos) (diZip te tu) := by
  refine ⟨⟨fun pins s σ H R I ⟨ρ, M, P, er, sm, t, f⟩ => ?_⟩⟩
  have ha : PA X [e, e2] (tCons (LE X.K cl te) (tCons (LE X.K cl tu) tNil)) := pa_cons he.h (pa_cons hf2.h pa_nil hs2) hs
  refine Call_ (ld_blt I hg hm PyProof.Rows.boot_zip (PyProof.Rows.callWith_type1 (thn (ha.run pos pins s σ H (fun vs H2 => ∃ d e M2 v w, vs = [v, w] ∧ Stab H H2 ∧ Sim X.K cl M2 H2 ∧ Rp X.K H2 d v ∧ Rp X.K H2 e w ∧ (match srcD M2 d, srcD M2 e with | some xs, some ys => P (List.zipWith (fun x y => .tup [x, y]) xs ys) (fun M => srcD M d = some xs ∧ srcD M e = some ys) M2 | _, _ => False)) I
    ⟨ρ, M, _, er, sm, t, fun d M1 v H1 q s1 sm1 r1 => ⟨ρ, M1, _, er.mono s1, sm1, q, fun e M2 w H2 q2 s2 sm2 r2 => ⟨d, e, M2, v, w, rfl, s1.trans s2, sm2, r1.mono s2, r2, by unfold onZip at q2; exact q2⟩⟩⟩) fun us s1 ⟨vs, H1, I1, r1, q1⟩ => ?_) hs hpl))
  obtain ⟨d, e', M1, v, w, rfl, st1, sm1, rd, re, q⟩ := q1
  cases r1 with
  | cons r rr =>
    cases rr with
    | cons r' rr =>
    cases rr
    split at q
    · next xs ys ex ey =>
      obtain ⟨k1, rfl, hk1⟩ := sk_make ex rd r
      obtain ⟨k2, rfl, hk2⟩ := sk_make ey re r'
      obtain ⟨vs1, hv1, rv1⟩ := sk_has ex rd sm1 hk1
      obtain ⟨vs2, hv2, rv2⟩ := sk_has ey re sm1 hk2
      obtain ⟨o1, Hh1, B1, hh1, hrec1⟩ := Sk.begins I1 hv1
      obtain ⟨o2, Hh2, B2, hh2, hrec2⟩ := Sk.begins I1 hv2
      refine zip_begins2 B1 B2 hh1 hh2 fun h' hz hTI hTO g1 g2 hsz hkp => wpAny_pyIter_zip hz ?_
      have I2 : Inv X pins σ H1 { s1 with heap := h' } := I1.kept (t' := s1.toks) hkp
      have hcl1 := Sk.con_lt I1 hv1
      have hcl2 := Sk.con_lt I1 hv2
      refine ⟨s1.heap.objs.size + 4, [s1.heap.objs.size + 4, s1.heap.objs.size + 2, s1.heap.objs.size + 3, s1.heap.objs.size, s1.heap.objs.size + 1], _, _, H1, rfl, I2, turn_zipK k1 k2 s1.heap.objs.size hcl1 hcl2, ⟨hz, hTI, ⟨_, _, hTO⟩, hrec1 _ _ g1, hrec2 _ _ g2⟩, fun c hcm => ?_, ?_⟩
      · have e' : c = s1.heap.objs.size + 4 ∨ c = s1.heap.objs.size + 2 ∨ c = s1.heap.objs.size + 3 ∨ c = s1.heap.objs.size ∨ c = s1.heap.objs.size + 1 := by simpa using hcm
        have hle : s1.heap.objs.size ≤ c := by
          rcases e' with z | z | z | z | z
          · rw [z]; exact Nat.le_add_right _ _
          · rw [z]; exact Nat.le_add_right _ _
          · rw [z]; exact Nat.le_add_right _ _
          · rw [z]; exact Nat.le_refl _
          · rw [z]; exact Nat.le_add_right _ _
        exact I1.fpOk hle (I1.hok.fresh hle)
      · refine f _ _ _ _ _ q st1 sm1 ⟨fun H2 M2 s2 sm2 iv => ?_, fun i x H2 M2 hx s2 sm2 iv => ?_⟩
        · obtain ⟨ws1, hw1, rw1⟩ := sk_has iv.1 (rd.mono s2) sm2 hk1
          obtain ⟨ws2, hw2, rw2⟩ := sk_has iv.2 (re.mono s2) sm2 hk2
          exact ⟨ws1, ws2, hw1, hw2, by rw [List.length_zipWith, rw1.length, rw2.length]⟩
        · obtain ⟨ws1, hw1, rw1⟩ := sk_has iv.1 (rd.mono s2) sm2 hk1
          obtain ⟨ws2, hw2, rw2⟩ := sk_has iv.2 (re.mono s2) sm2 hk2
          rw [List.getElem?_zipWith] at hx
          cases hy : xs[i]? with
          | none => rw [hy] at hx; cases hx
          | some y =>
            cases hz' : ys[i]? with
            | none => rw [hy, hz'] at hx; cases hx
            | some z =>
              rw [hy, hz'] at hx
              obtain ⟨u1, a1, b1⟩ := rw1.get hy
              obtain ⟨u2, a2, b2⟩ := rw2.get hz'
              refine ⟨⟨ws1, ws2, hw1, hw2, (List.getElem?_eq_some_iff.mp a1).1, (List.getElem?_eq_some_iff.mp a2).1⟩, ?_⟩
              rintro v2 H3 ⟨T, c1, c2, rfl, hT, rfl, hc1, hc2⟩
              have e1 := hc1 ws1 hw1
              rw [a1] at e1; cases e1
              have e2 := hc2 ws2 hw2
              rw [a2] at e2; cases e2
              refine ⟨Stab.new hT, sm2.lay hT, ?_⟩
              cases hx
              exact .tup upd_same (.cons (b1.mono (Stab.new hT)) (.cons (b2.mono (Stab.new hT)) .nil))
    · exact q.elim
/-! ### a list, a tuple; a range -/
@[irreducible] def onSeq (M1 : Mem) (d : D) (Q : List D → (Mem → Prop) → Mem → Prop) : Prop := match seqOf M1 d with
  | some xs => Q xs (fun M => seqOf M d = some xs) M1
  | none => False
theorem on_seq {M : Mem} {d : D} {xs : List D} {Q : List D → (Mem → Prop) → Mem → Prop} (h : seqOf M d = some xs) (q : Q xs (fun M => seqOf M d = some xs) M) : onSeq M d Q := by
  unfold onSeq; rw [h]; exact q
def diSeq (t : DTE) : DTI := fun ρ M Q => t ρ M fun d M1 => onSeq M1 d Q
theorem di_list (he : DE cl X e te) {tg : Expr} : DI cl X tg e (fun ρ M Q => te ρ M fun d M1 => match lsOf M1 d with | some xs => Q xs (fun M => lsOf M d = some xs) M1 | none => False) :=
  ⟨imI (pi_list he.h) fun σ H R ⟨ρ, M, P, er, sm, t, f⟩ => ⟨ρ, M, _, er, sm, t, fun d M1 v H1 q s1 sm1 r1 => by
    split at q
    · next xs ex =>
      obtain ⟨p, vs, rfl, h1, h2⟩ := lsOf_ok ex r1 sm1
      refine ⟨p, rfl, ⟨vs, h1⟩, f _ _ _ _ _ q s1 sm1 ⟨fun H2 M2 s2 sm2 iv => ?_, fun i x H2 M2 hx s2 sm2 iv => ?_⟩⟩
      · obtain ⟨p', ws, e', k1, k2⟩ := lsOf_ok iv (r1.mono s2) sm2
        cases e'
        exact ⟨ws, k1, by rw [k2.length]; exact Nat.le_refl _⟩
      · obtain ⟨p', ws, e', k1, k2⟩ := lsOf_ok iv (r1.mono s2) sm2
        cases e'
        obtain ⟨u, a1, a2⟩ := k2.get hx
        refine ⟨⟨ws, u, k1, a1⟩, ?_⟩
        rintro v2 H3 ⟨rfl, hz⟩
        have e1 := hz ws k1
        rw [a1] at e1; cases e1
        exact ⟨Stab.refl, sm2, a2⟩
    · exact q.elim⟩⟩
theorem di_tup (he : DE cl X e te) {tg : Expr} : DI cl X tg e (fun ρ M Q => te ρ M fun d M1 => match tpl d with | some xs => Q xs (fun _ => True) M1 | none => False) :=
  ⟨imI (pi_tup he.h) fun σ H R ⟨ρ, M, P, er, sm, t, f⟩ => ⟨ρ, M, _, er, sm, t, fun d M1 v H1 q s1 sm1 r1 => by
    split at q
    · next xs ex =>
      obtain ⟨p, vs, rfl, h1, h2⟩ := r1.tpl ex
      refine ⟨p, rfl, ⟨vs, .inl h1⟩, f _ _ _ _ _ q s1 sm1 ⟨fun H2 M2 s2 sm2 iv => ?_, fun i x H2 M2 hx s2 sm2 iv => ?_⟩⟩
      · obtain ⟨p', ws, e', k1, k2⟩ := (r1.mono s2).tpl ex
        cases e'
        exact ⟨ws, .inl k1, by rw [k2.length]; exact Nat.le_refl _⟩
      · obtain ⟨p', ws, e', k1, k2⟩ := (r1.mono s2).tpl ex
        cases e'
        obtain ⟨u, a1, a2⟩ := k2.get hx
        refine ⟨⟨ws, u, .inl k1, a1⟩, ?_⟩
        rintro v2 H3 ⟨rfl, hz⟩
        have e1 := hz ws (.inl k1)
        rw [a1] at e1; cases e1
        exact ⟨Stab.refl, sm2, a2⟩
    · exact q.elim⟩⟩
end
/-- either -/
theorem PI.orI {X : Cx} {tg iter : Expr} {t1 t2 : TI} (h1 : PI X tg iter t1) (h2 : PI X tg iter t2) : PI X tg iter (fun σ H R => t1 σ H R ∨ t2 σ H R) := ⟨fun pins s σ H R I h => by
  rcases h with h | h
  · exact h1.run pins s σ H R I h
  · exact h2.run pins s σ H R I h⟩
def rangeD (lo : Int) : Nat → List D
  | 0 => []
  | n + 1 => .int lo :: rangeD (lo + 1) n
theorem rangeD_get : ∀ (n : Nat) (lo : Int) (i : Nat), i < n → (rangeD lo n)[i]? = some (.int (lo + i))
  | 0, _, _, h => by omega
  | n + 1, lo, 0, _ => by simp [rangeD]
  | n + 1, lo, i + 1, h => by
    have := rangeD_get n (lo + 1) i (by omega)
    simp only [rangeD, List.getElem?_cons_succ, this]
    congr 2
    omega
theorem rangeD_length : ∀ (n : Nat) (lo : Int), (rangeD lo n).length = n
  | 0, _ => rfl
  | n + 1, lo => by rw [rangeD, List.length_cons, rangeD_length n]
def diRange (t : DTE) : DTI := fun ρ M Q => t ρ M fun d M1 => asI d fun j => (-(2 ^ 62) ≤ j ∧ j < 2 ^ 62) ∧ Q (rangeD 0 j.toNat) (fun _ => True) M1
section
variable {cl : String → Addr} {X : Cx} {e : Expr} {te tu : DTE} {p pos : Pos} {tg : Expr}
theorem di_range (hg : Gl X "range") (hm : X.mg "range" = none) (he : DE cl X e te) (hs : starEach [e] X.env = [(false, eval e X.env)] := by rfl) : DI cl X tg (.Call (.Name "range" p) [e] [] pos) (diRange te) :=
  ⟨imI (pi_range1 hg hm (pa_cons he.h pa_nil hs) hs) fun σ H R ⟨ρ, M, P, er, sm, t, f⟩ => ⟨ρ, M, _, er, sm, t, fun d M1 v H1 q s1 sm1 r1 => by
    obtain ⟨j, rfl, ⟨j0, j1⟩, q⟩ := asI_elim q
    refine ⟨j, by rw [r1.int'], j0, j1, f _ _ _ _ _ q s1 sm1 ⟨fun H2 M2 s2 sm2 iv => ?_, fun i x H2 M2 hx s2 sm2 iv => ?_⟩⟩
    · rw [rangeD_length]; exact Nat.le_refl _
    · have hi : i < j.toNat := by
        have := (List.getElem?_eq_some_iff.mp hx).1
        rwa [rangeD_length] at this
      rw [rangeD_get _ _ _ hi] at hx
      cases hx
      refine ⟨hi, ?_⟩
      rintro v2 H3 ⟨rfl, rfl⟩
      exact ⟨Stab.refl, sm2, .int _⟩⟩⟩
end
end EW

set_option maxRecDepth 100000
set_option maxHeartbeats 4000000
/-! EwUser: locks, walks over dicts, calls of defs and methods, fields, new instances, stores. -/
namespace EW
open PySem PySem.Spec PyProof.Rows L2
variable {cl : String → Addr} {X : Cx}

/-! ### a sequence walked, list or tuple -/
section
variable {e : Expr} {te : DTE} {tg : Expr}
theorem pi_seq {l : Expr} {tl : TE} (hl : PE X l tl) : PI X tg l (fun σ H R => tl σ H fun x H1 => ∃ a, x = .ref a ∧ (((∃ xs, SqL X.K H1 a xs) ∧ R (Itl X.K a) H1) ∨ ((∃ xs, SqT X.K H1 a xs) ∧ R (Itt X.K a) H1))) := by
  refine ⟨fun pins s σ H R I h => ?_⟩
  refine thn (hl.run pins s σ H _ I h) fun v s1 ⟨x, H1, I1, r1, q1⟩ => ?_
  obtain ⟨a, e, q1⟩ := q1
  subst e
  cases r1
  rcases q1 with ⟨⟨xs, hq⟩, q⟩ | ⟨⟨xs, hq⟩, q⟩
  · obtain ⟨its, rv, p, hz⟩ := I1.list hq
    refine wpAny_pyIter_list p.isList ?_
    refine ⟨s1.heap.objs.size, [s1.heap.objs.size], _, _, H1, rfl, I1.kept (t' := s1.toks) fun b o e => Heap.get?_push_of_some _ e, turn_list a _, ⟨_, Heap.get?_push_size _ rfl, rfl, rfl⟩, fun b hb => ?_, q⟩
    have e : b = s1.heap.objs.size := by simpa using hb
    subst e
    exact I1.fpOk (Nat.le_refl _) (I1.hok.fresh (Nat.le_refl _))
  · obtain ⟨its, rv, p, hz⟩ := I1.tuple hq
    refine wpAny_pyIter_tuple (show s1.heap.IsTuple a its.toArray from p) ?_
    refine ⟨s1.heap.objs.size, [s1.heap.objs.size], _, _, H1, rfl, I1.kept (t' := s1.toks) fun b o e => Heap.get?_push_of_some _ e, turn_tuple a _, ⟨_, Heap.get?_push_size _ rfl, rfl, rfl⟩, fun b hb => ?_, q⟩
    have e : b = s1.heap.objs.size := by simpa using hb
    subst e
    exact I1.fpOk (Nat.le_refl _) (I1.hok.fresh (Nat.le_refl _))
theorem di_seq (he : DE cl X e te) : DI cl X tg e (diSeq te) :=
  ⟨imI (pi_seq he.h) fun σ H R ⟨ρ, M, P, er, sm, t, f⟩ => ⟨ρ, M, _, er, sm, t, fun d M1 v H1 q s1 sm1 r1 => by
    unfold onSeq at q
    split at q
    · next xs ex =>
      cases ht : tpl d with
      | some ys =>
        have e2 : ys = xs := by
          cases d <;> first | (cases ht; done) | (cases ht; cases ex; rfl)
        subst e2
        obtain ⟨p, vs, rfl, h1, h2⟩ := r1.tpl ht
        refine ⟨p, rfl, .inr ⟨⟨vs, .inl h1⟩, f _ _ _ _ _ q s1 sm1 ⟨fun H2 M2 s2 sm2 iv => ?_, fun i x H2 M2 hx s2 sm2 iv => ?_⟩⟩⟩
        · obtain ⟨p', ws, e', k1, k2⟩ := (r1.mono s2).tpl ht
          cases e'
          exact ⟨ws, .inl k1, by rw [k2.length]; exact Nat.le_refl _⟩
        · obtain ⟨p', ws, e', k1, k2⟩ := (r1.mono s2).tpl ht
          cases e'
          obtain ⟨u, a1, a2⟩ := k2.get hx
          refine ⟨⟨ws, u, .inl k1, a1⟩, ?_⟩
          rintro v2 H3 ⟨rfl, hz⟩
          have e1 := hz ws (.inl k1)
          rw [a1] at e1; cases e1
          exact ⟨Stab.refl, sm2, a2⟩
      | none =>
        have toL : ∀ {M' : Mem} {zs : List D}, seqOf M' d = some zs → lsOf M' d = some zs := fun {M' zs} h => by
          cases d <;> first | (cases ht; done) | (cases h; done) | exact h
        obtain ⟨p, vs, rfl, h1, h2⟩ := lsOf_ok (toL ex) r1 sm1
        refine ⟨p, rfl, .inl ⟨⟨vs, h1⟩, f _ _ _ _ _ q s1 sm1 ⟨fun H2 M2 s2 sm2 iv => ?_, fun i x H2 M2 hx s2 sm2 iv => ?_⟩⟩⟩
        · obtain ⟨p', ws, e', k1, k2⟩ := lsOf_ok (toL iv) (r1.mono s2) sm2
          cases e'
          exact ⟨ws, k1, by rw [k2.length]; exact Nat.le_refl _⟩
        · obtain ⟨p', ws, e', k1, k2⟩ := lsOf_ok (toL iv) (r1.mono s2) sm2
          cases e'
          obtain ⟨u, a1, a2⟩ := k2.get hx
          refine ⟨⟨ws, u, k1, a1⟩, ?_⟩
          rintro v2 H3 ⟨rfl, hz⟩
          have e1 := hz ws k1
          rw [a1] at e1; cases e1
          exact ⟨Stab.refl, sm2, a2⟩
    · exact q.elim⟩⟩
end
/-! ### locks: a dict that is walked -/
/-- while the dict at a is locked -/
def lockM (M : Mem) (a : Addr) : Option Mem := match M a with
  | some (.dK kvs) => some (up M a (.fK kvs))
  | some (.dT kvs) => some (up M a (.fT kvs))
  | _ => none
def isLock : MO → Bool
  | .fK _ => true
  | .fT _ => true
  | _ => false
def dLock (t : DTS) : DTS := fun E ρ M => ∃ (a : Addr) (o o' : MO), M a = some o ∧ ((∃ kvs, o = .dK kvs ∧ o' = .fK kvs) ∨ (∃ kvs, o = .dT kvs ∧ o' = .fT kvs)) ∧
  t { nx := fun ρ' M' => M' a = some o' ∧ E.nx ρ' (up M' a o), rt := fun d M' => M' a = some o' ∧ E.rt d (up M' a o), bk := fun ρ' M' => M' a = some o' ∧ E.bk ρ' (up M' a o), ct := fun ρ' M' => M' a = some o' ∧ E.ct ρ' (up M' a o) } ρ (up M a o')
def dLockE (t : DTE) : DTE := fun ρ M Q => ∃ (a : Addr) (o o' : MO), M a = some o ∧ ((∃ kvs, o = .dK kvs ∧ o' = .fK kvs) ∨ (∃ kvs, o = .dT kvs ∧ o' = .fT kvs)) ∧ t ρ (up M a o') fun d M' => M' a = some o' ∧ Q d (up M' a o)
/-- what the two sides of a lock say -/
theorem lock_in {K : PySem.W.Frag} {M : Mem} {H : Hp} {a : Addr} {o o' : MO} (sm : Sim K cl M H) (e : M a = some o) (h : (∃ kvs, o = .dK kvs ∧ o' = .fK kvs) ∨ (∃ kvs, o = .dT kvs ∧ o' = .fT kvs)) :
    ∃ u, H a = some u ∧ Mut (some u) ∧ (∀ xs, u ≠ .tup xs) ∧ (∀ ob v, u ≠ .frz ob v) ∧ (∀ od, Stab H (upd H a (.frz od u)) ∧ Sim K cl (up M a o') (upd H a (.frz od u))) ∧
      ∀ od H', H' a = some (.frz od u) → StW H' (upd H' a u) ∧ ∀ M', Sim K cl M' H' → M' a = some o' → Sim K cl (up M' a o) (upd H' a u) := by
  have back : ∀ {u : HO} {od : Obj} {H' : Hp}, (∀ xs, u ≠ .tup xs) → (∀ xs, u ≠ .lst xs) → H' a = some (.frz od u) → StW H' (upd H' a u) := fun {u od H'} h1 h2 h =>
    ⟨fun b xs eb => by rw [upd_ne (ne_of eb h (fun q => by cases q))]; exact eb, fun b ob xs eb => by rw [upd_ne (ne_of eb h (fun q => by cases q; exact h2 _ rfl))]; exact eb, fun b ob xs eb => by rw [upd_ne (ne_of eb h (fun q => by cases q; exact h1 _ rfl))]; exact eb⟩
  rcases h with ⟨kvs, rfl, rfl⟩ | ⟨kvs, rfl, rfl⟩
  · obtain ⟨vs, h1, h2⟩ := sm a _ e
    refine ⟨_, h1, True.intro, (fun _ q => by cases q), (fun _ _ q => by cases q), fun od => ?_, fun od H' hd => ?_⟩
    · have st : Stab H (upd H a (.frz od (.dK vs))) := Stab.wr h1 (fun _ q => by cases q) (fun _ _ q => by cases q)
      exact ⟨st, sm.put (o := .fK kvs) st ⟨od, vs, upd_same, h2.mono st⟩⟩
    · have st : StW H' (upd H' a (.dK vs)) := back (fun _ q => by cases q) (fun _ q => by cases q) hd
      refine ⟨st, fun M' sm' e' => sm'.putW (o := .dK kvs) st ?_⟩
      obtain ⟨ob, ws, k1, k2⟩ := sm' a _ e'
      rw [hd] at k1; cases k1
      exact ⟨vs, upd_same, k2.monoW st⟩
  · obtain ⟨vs, h1, h2⟩ := sm a _ e
    refine ⟨_, h1, True.intro, (fun _ q => by cases q), (fun _ _ q => by cases q), fun od => ?_, fun od H' hd => ?_⟩
    · have st : Stab H (upd H a (.frz od (.dT vs))) := Stab.wr h1 (fun _ q => by cases q) (fun _ _ q => by cases q)
      exact ⟨st, sm.put (o := .fT kvs) st ⟨od, vs, upd_same, h2.mono st⟩⟩
    · have st : StW H' (upd H' a (.dT vs)) := back (fun _ q => by cases q) (fun _ q => by cases q) hd
      refine ⟨st, fun M' sm' e' => sm'.putW (o := .dT kvs) st ?_⟩
      obtain ⟨ob, ws, k1, k2⟩ := sm' a _ e'
      rw [hd] at k1; cases k1
      exact ⟨vs, upd_same, k2.monoW st⟩
theorem lock_out {H H' : Hp} {a : Addr} {u : HO} {od : Obj} (h : H a = some u) (hf : ∀ ob v, u ≠ .frz ob v) (ht : ∀ xs, u ≠ .tup xs) (st : Stab (upd H a (.frz od u)) H') : H' a = some (.frz od u) ∧ Stab H (upd H' a u) := by
  refine ⟨st.frz a od u upd_same, ⟨fun b xs e => ?_, fun b o v e => ?_⟩⟩
  · have n : b ≠ a := fun z => by subst z; rw [h] at e; cases e; exact ht _ rfl
    rw [upd_ne n]; exact st.tup b xs (by rw [upd_ne n]; exact e)
  · have n : b ≠ a := fun z => by subst z; rw [h] at e; cases e; exact hf _ _ rfl
    rw [upd_ne n]; exact st.frz b o v (by rw [upd_ne n]; exact e)
theorem ds_lock {st : Stmt} {t : DTS} (h : DS cl X st t) : DS cl X st (dLock t) := ⟨imS (ps_lock h.h) fun F σ H ⟨ρ, M, E, er, sm, q, f⟩ => by
  obtain ⟨a, o, o', e, k, q⟩ := q
  obtain ⟨u, h1, mu, nt, nf, hin, hout⟩ := lock_in sm e k
  refine ⟨a, u, h1, mu, fun od => ?_⟩
  obtain ⟨s1, sm1⟩ := hin od
  have g : ∀ {P : Env → Mem → Prop} {Q : L2.St → Hp → Prop}, FinG X.K cl H P Q → FinG X.K cl (upd H a (.frz od u)) (fun ρ' M' => M' a = some o' ∧ P ρ' (up M' a o)) (fun σ' H' => H' a = some (.frz od u) ∧ Q σ' (upd H' a u)) := fun {P Q} fg ρ' M' σ' H' ⟨e', p⟩ s' er' sm' => by
    obtain ⟨l1, l2⟩ := lock_out h1 nf nt s'
    obtain ⟨w, z⟩ := hout od H' l1
    exact ⟨l1, fg _ _ _ _ p l2 (er'.monoW w) (z M' sm' e')⟩
  refine ⟨ρ, _, _, er.mono s1, sm1, q, ⟨g f.nx, fun d M' v H' ⟨e', p⟩ s' sm' r' => ?_, g f.bk, g f.ct⟩⟩
  obtain ⟨l1, l2⟩ := lock_out h1 nf nt s'
  obtain ⟨w, z⟩ := hout od H' l1
  exact ⟨l1, f.rt _ _ _ _ p l2 (z M' sm' e') (r'.monoW w)⟩⟩
theorem d_lock {ex : Expr} {t : DTE} (h : DE cl X ex t) : DE cl X ex (dLockE t) := ⟨imE (pe_lock h.h) fun σ H Q ⟨ρ, M, P, er, sm, q, f⟩ => by
  obtain ⟨a, o, o', e, k, q⟩ := q
  obtain ⟨u, h1, mu, nt, nf, hin, hout⟩ := lock_in sm e k
  refine ⟨a, u, h1, mu, fun od => ?_⟩
  obtain ⟨s1, sm1⟩ := hin od
  refine ⟨ρ, _, _, er.mono s1, sm1, q, fun d M' v H' ⟨e', p⟩ s' sm' r' => ?_⟩
  obtain ⟨l1, l2⟩ := lock_out h1 nf nt s'
  obtain ⟨w, z⟩ := hout od H' l1
  exact ⟨l1, f _ _ _ _ p l2 (z M' sm' e') (r'.monoW w)⟩⟩
/-! ### for k in d -/
@[irreducible] def onKeys (M1 : Mem) (d : D) (Q : List D → (Mem → Prop) → Mem → Prop) : Prop := match d with
  | .ref a => match M1 a with
    | some (.fK kvs) => Q (kvs.map fun kv => kD kv.1) (fun M => M a = some (.fK kvs)) M1
    | some (.fT kvs) => Q (kvs.map fun kv => .tup (kv.1.map kD)) (fun M => M a = some (.fT kvs)) M1
    | _ => False
  | _ => False
theorem on_keysT {M : Mem} {a : Addr} {kvs : List (List Key × D)} {Q : List D → (Mem → Prop) → Mem → Prop} (h : M a = some (.fT kvs)) (q : Q (kvs.map fun kv => .tup (kv.1.map kD)) (fun M => M a = some (.fT kvs)) M) : onKeys M (.ref a) Q := by
  simp only [onKeys, h]; exact q
theorem on_keysK {M : Mem} {a : Addr} {kvs : List (Key × D)} {Q : List D → (Mem → Prop) → Mem → Prop} (h : M a = some (.fK kvs)) (q : Q (kvs.map fun kv => kD kv.1) (fun M => M a = some (.fK kvs)) M) : onKeys M (.ref a) Q := by
  simp only [onKeys, h]; exact q
def diKeys (t : DTE) : DTI := fun ρ M Q => t ρ M fun d M1 => onKeys M1 d Q
theorem kvs_get {κ : Type} {K : PySem.W.Frag} {H : Hp} : ∀ {ds : List (κ × D)} {vs : List (κ × V)} {i : Nat} {k : κ} {d : D}, RpF K H ds vs → ds[i]? = some (k, d) → ∃ v, vs[i]? = some (k, v) ∧ Rp K H d v
  | _, _, _, _, _, .nil, e => by simp at e
  | _, _, 0, _, _, .cons r _, e => by simp at e; obtain ⟨rfl, rfl⟩ := e; exact ⟨_, rfl, r⟩
  | _, _, i + 1, k, d, .cons _ t, e => by
    obtain ⟨u, h1, h2⟩ := kvs_get (i := i) (k := k) (d := d) t (by simpa using e)
    exact ⟨u, by simpa using h1, h2⟩
theorem di_keys {e : Expr} {te : DTE} {tg : Expr} (he : DE cl X e te) : DI cl X tg e (diKeys te) :=
  ⟨imI (pi_keys he.h) fun σ H R ⟨ρ, M, P, er, sm, t, f⟩ => ⟨ρ, M, _, er, sm, t, fun d M1 v H1 q s1 sm1 r1 => by
    unfold onKeys at q
    split at q
    · next a =>
      split at q
      · next kvs ea =>
        obtain ⟨od, vs, h1, h2⟩ := sm1 a _ ea
        refine ⟨a, od, r1.ref', .inl ⟨vs, h1, f _ _ _ _ _ q s1 sm1 ⟨fun H2 M2 s2 sm2 iv => ?_, fun i x H2 M2 hx s2 sm2 iv => ?_⟩⟩⟩
        · exact ⟨s2.frz _ _ _ h1, by rw [List.length_map, h2.length]; exact Nat.le_refl _⟩
        · rw [List.getElem?_map] at hx
          cases hy : kvs[i]? with
          | none => rw [hy] at hx; cases hx
          | some kv =>
            rw [hy] at hx
            cases hx
            obtain ⟨v2, b1, b2⟩ := kvs_get (k := kv.1) (d := kv.2) h2 hy
            refine ⟨⟨s2.frz _ _ _ h1, (List.getElem?_eq_some_iff.mp b1).1⟩, ?_⟩
            rintro v3 H3 ⟨rfl, k, w, hk, rfl⟩
            rw [b1] at hk; cases hk
            exact ⟨Stab.refl, sm2, .key _⟩
      · next kvs ea =>
        obtain ⟨od, vs, h1, h2⟩ := sm1 a _ ea
        refine ⟨a, od, r1.ref', .inr ⟨vs, h1, f _ _ _ _ _ q s1 sm1 ⟨fun H2 M2 s2 sm2 iv => ?_, fun i x H2 M2 hx s2 sm2 iv => ?_⟩⟩⟩
        · exact ⟨s2.frz _ _ _ h1, by rw [List.length_map, h2.length]; exact Nat.le_refl _⟩
        · rw [List.getElem?_map] at hx
          cases hy : kvs[i]? with
          | none => rw [hy] at hx; cases hx
          | some kv =>
            rw [hy] at hx
            cases hx
            obtain ⟨v2, b1, b2⟩ := kvs_get (k := kv.1) (d := kv.2) h2 hy
            refine ⟨⟨s2.frz _ _ _ h1, (List.getElem?_eq_some_iff.mp b1).1⟩, ?_⟩
            rintro v3 H3 ⟨rfl, k, w, q', hk, rfl, ht⟩
            rw [b1] at hk; cases hk
            exact ⟨Stab.refl, sm2, .tup ht (RpL.keys _)⟩
      · exact q.elim
    · exact q.elim⟩⟩
end EW

set_option maxRecDepth 100000
set_option maxHeartbeats 4000000
/-! EwFn: defs, methods, instances. -/
namespace EW
open PySem PySem.Spec PyProof.Rows L2
variable {cl : String → Addr} {X : Cx}
abbrev DSp := List D → Mem → DVK → Prop
/-- a def's promise over data -/
def LSp (K : PySem.W.Frag) (cl : String → Addr) (sp : DSp) : Sp := fun vs H Q _ => ∃ ds M P, RpL K H ds vs ∧ Sim K cl M H ∧ sp ds M P ∧ Fin K cl H P Q
/-- a def that may be called: its level, its defaults -/
structure Cal (cl : String → Addr) (P : Program) (w : World) (K : PySem.W.Frag) (mg : Str → Option Value) (base : Heap) (x : Str) (k : Nat) (dds : List D) (sp : DSp) : Prop where
  ex : ∃ (f : Addr) (fd : FuncData) (ps : List Str) (ds : List Value) (dvs : List V), FnOk P w K mg base CX0 k f fd ps (LSp K cl sp) ∧ mg x = some (.ref f) ∧ PySem.W.keepIn K (.ref f) = true ∧ Binds K fd ps ds ∧ Vals dvs ds ∧ ∀ H, RpL K H dds dvs
structure CalM (cl : String → Addr) (P : Program) (w : World) (K : PySem.W.Frag) (mg : Str → Option Value) (base : Heap) (C : String) (m : Str) (k : Nat) (dds : List D) (sp : DSp) : Prop where
  ex : ∃ (f : Addr) (fd : FuncData) (ps : List Str) (ds : List Value) (dvs : List V), FnOk P w K mg base CX0 k f fd ps (LSp K cl sp) ∧ Meth K (cl C) m f ∧ Binds K fd ps ds ∧ Vals dvs ds ∧ ∀ H, RpL K H dds dvs
structure CalI (cl : String → Addr) (P : Program) (w : World) (K : PySem.W.Frag) (mg : Str → Option Value) (base : Heap) (C : String) (x : Str) (k : Nat) (dds : List D) (sp : DSp) : Prop where
  ex : ∃ (f : Addr) (fd : FuncData) (ps : List Str) (ds : List Value) (dvs : List V), FnOk P w K mg base CX0 k f fd ps (LSp K cl sp) ∧ Mk K (cl C) f ∧ mg x = some (.ref (cl C)) ∧ Binds K fd ps ds ∧ Vals dvs ds ∧ ∀ H, RpL K H dds dvs
def dCall (sp : DSp) (dds : List D) (t : DTA) : DTE := fun ρ M Q => t ρ M fun ds M1 => sp (ds ++ dds) M1 Q
@[irreducible] def insAt (M : Mem) (d : D) (k : Addr → String → List (Str × D) → Prop) : Prop := match d with
  | .ref a => match M a with
    | some (.ins C fs) => k a C fs
    | _ => False
  | _ => False
theorem insAt_elim {M : Mem} {d : D} {k : Addr → String → List (Str × D) → Prop} (h : insAt M d k) : ∃ a C fs, d = .ref a ∧ M a = some (.ins C fs) ∧ k a C fs := by
  unfold insAt at h
  split at h
  · split at h
    · next a C fs e => exact ⟨_, _, _, rfl, e, h⟩
    · exact h.elim
  · exact h.elim
def dMeth (C : String) (m : Str) (sp : DSp) (dds : List D) (to : DTE) (t : DTA) : DTE := fun ρ M Q => to ρ M fun d M1 => insAt M1 d fun a C' fs => C' = C ∧ fs.lookup m = none ∧ t ρ M1 fun ds M2 => sp (.ref a :: (ds ++ dds)) M2 Q
def dMake (C : String) (sp : DSp) (dds : List D) (t : DTA) : DTE := fun ρ M Q => t ρ M fun ds M1 => ∀ a, M1 a = none → sp (.ref a :: (ds ++ dds)) (up M1 a (.ins C [])) fun r M2 => isNon r = true ∧ Q (.ref a) M2
@[irreducible] def dFld (C : String) (f : Str) (to : DTE) : DTE := fun ρ M Q => to ρ M fun d M1 => insAt M1 d fun _ C' fs => C' = C ∧ match fs.lookup f with
  | some v => Q v M1
  | none => False
def putFD (f : Str) (v : D) : List (Str × D) → List (Str × D)
  | [] => [(f, v)]
  | (g, w) :: r => if g = f then (g, v) :: r else (g, w) :: putFD f v r
def dSetF (C : String) (f : Str) (to tv : DTE) : DTS := fun E ρ M => tv ρ M fun v M1 => to ρ M1 fun d M2 => insAt M2 d fun a C' fs => C' = C ∧ fs.length < 1000 ∧ E.nx ρ (up M2 a (.ins C (putFD f v fs)))
section
variable {K : PySem.W.Frag} {H : Hp}
theorem RpF.lookup : ∀ {ds : List (Str × D)} {vs : List (Str × V)} (f : Str), RpF K H ds vs → (ds.lookup f = none ∧ vs.lookup f = none) ∨ ∃ d v, ds.lookup f = some d ∧ vs.lookup f = some v ∧ Rp K H d v
  | _, _, f, .nil => .inl ⟨rfl, rfl⟩
  | (a, d) :: ds, (_, v) :: vs, f, .cons r t => by
    cases h : (f == a) with
    | true => exact .inr ⟨d, v, by simp [List.lookup, h], by simp [List.lookup, h], r⟩
    | false =>
      rcases RpF.lookup f t with ⟨h1, h2⟩ | ⟨d', v', h1, h2, h3⟩
      · exact .inl ⟨by simp [List.lookup, h, h1], by simp [List.lookup, h, h2]⟩
      · exact .inr ⟨d', v', by simp [List.lookup, h, h1], by simp [List.lookup, h, h2], h3⟩
theorem Rp.putF {d : D} {v : V} (r : Rp K H d v) (f : Str) : ∀ {ds : List (Str × D)} {vs : List (Str × V)}, RpF K H ds vs → RpF K H (putFD f d ds) (L2.putF f v vs)
  | _, _, .nil => .cons r .nil
  | (a, e) :: ds, (_, w) :: vs, .cons q t => by
    unfold putFD L2.putF
    by_cases h : a = f
    · rw [if_pos h, if_pos h]; exact .cons r t
    · rw [if_neg h, if_neg h]; exact .cons q (Rp.putF r f t)
end
section
variable {e o value : Expr} {es : List Expr} {te to tv : DTE} {t : DTA} {p pos apos pos' : Pos} {k j : Nat} {dds : List D} {sp : DSp} {x m f : Str} {C : String}
theorem d_call (G : Cal cl X.prog X.w X.K X.mg X.base x k dds sp) (hr : Room k X.A) (hg : Gl X x) (ha : DA cl X (e :: es) t) (hdb : (x == ("__debug__" : Str)) = false := by decide)
    (he : starEach (e :: es) X.env = (false, eval e X.env) :: starEach es X.env := by rfl) (hpl : (backTo pos (starEach es X.env)).any (·.1) = false := by rfl) : DE cl X (.Call (.Name x p) (e :: es) [] pos) (dCall sp dds t) := by
  obtain ⟨f, fd, ps, ds, dvs, F, hm, hk, hb, hd, hR⟩ := G.ex
  exact ⟨imE (pe_call F hr hg hm hk hb hd (E := E0) pass0 ha.h hdb he hpl) fun σ H Q ⟨ρ, M, P, er, sm, t, f⟩ =>
    ⟨ρ, M, _, er, sm, t, fun ds M1 vs H1 q l s sm1 r1 => ⟨_, M1, P, r1.append (hR H1), sm1, q, f.from s⟩⟩⟩
theorem d_call0 (G : Cal cl X.prog X.w X.K X.mg X.base x k dds sp) (hr : Room k X.A) (hg : Gl X x) (hdb : (x == ("__debug__" : Str)) = false := by decide) : DE cl X (.Call (.Name x p) [] [] pos) (dCall sp dds daNil) := by
  obtain ⟨f, fd, ps, ds, dvs, F, hm, hk, hb, hd, hR⟩ := G.ex
  exact ⟨imE (pe_call0 F hr hg hm hk hb hd (E := E0) pass0 hdb) fun σ H Q ⟨ρ, M, P, er, sm, t, f⟩ => ⟨_, M, P, hR H, sm, t, f⟩⟩
theorem d_meth {pl : Sem Bool} (ho : DE cl X o to) (c : Cls X.K (cl C)) (G : CalM cl X.prog X.w X.K X.mg X.base C m k dds sp) (hr : Room k X.A) (ha : DA cl X (e :: es) t)
    (hst : starEach (e :: es) X.env = (false, eval e X.env) :: starEach es X.env := by rfl) (hpl : (backTo pos (starEach es X.env)).any (·.1) = false := by rfl)
    (ht : eval (.Call (.Attribute o m apos) (e :: es) [] pos) X.env = (do
      let ov ← eval o X.env
      standAt apos.atName
      let (f, first) ← holding [ov] (getMethod ov m pl)
      callWith pos f first (backTo pos (starEach (e :: es) X.env)) (backToKw pos (keywordEach [] X.env))) := by rfl) :
    DE cl X (.Call (.Attribute o m apos) (e :: es) [] pos) (dMeth C m sp dds to t) := by
  obtain ⟨f, fd, ps, ds, dvs, F, hm, hb, hd, hR⟩ := G.ex
  exact ⟨imE (pe_meth (E := E0) ho.h c hm F hr hb hd pass0 ha.h hst hpl ht) fun σ H Q ⟨ρ, M, P, er, sm, t, f⟩ =>
    ⟨ρ, M, _, er, sm, t, fun d M1 v H1 q s sm1 r1 => by
      obtain ⟨a, C', fs, rfl, e1, rfl, hl, q⟩ := insAt_elim q
      obtain ⟨dx, vs, h1, h2⟩ := sm1 a _ e1
      have hl' : vs.lookup m = none := by
        rcases h2.lookup m with ⟨_, z⟩ | ⟨d', v', z, _⟩
        · exact z
        · rw [hl] at z; cases z
      refine ⟨a, dx, vs, r1.ref', h1, hl', ρ, M1, _, er.mono s, sm1, q, fun ds M2 ws H2 q2 l2 s2 sm2 r2 => ?_⟩
      exact ⟨_, M2, P, .cons (r1.mono s2) (r2.append (hR H2)), sm2, q2, f.from (s.trans s2)⟩⟩⟩
theorem d_meth0 {pl : Sem Bool} (ho : DE cl X o to) (c : Cls X.K (cl C)) (G : CalM cl X.prog X.w X.K X.mg X.base C m k dds sp) (hr : Room k X.A)
    (ht : eval (.Call (.Attribute o m apos) [] [] pos) X.env = (do
      let ov ← eval o X.env
      standAt apos.atName
      let (f, first) ← holding [ov] (getMethod ov m pl)
      callWith pos f first (backTo pos (starEach [] X.env)) (backToKw pos (keywordEach [] X.env))) := by rfl) :
    DE cl X (.Call (.Attribute o m apos) [] [] pos) (dMeth C m sp dds to daNil) := by
  obtain ⟨f, fd, ps, ds, dvs, F, hm, hb, hd, hR⟩ := G.ex
  exact ⟨imE (pe_meth0 (E := E0) ho.h c hm F hr hb hd pass0 ht) fun σ H Q ⟨ρ, M, P, er, sm, t, f⟩ =>
    ⟨ρ, M, _, er, sm, t, fun d M1 v H1 q s sm1 r1 => by
      obtain ⟨a, C', fs, rfl, e1, rfl, hl, q⟩ := insAt_elim q
      obtain ⟨dx, vs, h1, h2⟩ := sm1 a _ e1
      have hl' : vs.lookup m = none := by
        rcases h2.lookup m with ⟨_, z⟩ | ⟨d', v', z, _⟩
        · exact z
        · rw [hl] at z; cases z
      refine ⟨a, dx, vs, r1.ref', h1, hl', ?_⟩
      exact ⟨_, M1, P, .cons r1 (hR H1), sm1, q, f.from s⟩⟩⟩
theorem d_make (G : CalI cl X.prog X.w X.K X.mg X.base C x k dds sp) (hr : Room (k + 1) X.A) (hg : Gl X x) (ha : DA cl X (e :: es) t) (hdb : (x == ("__debug__" : Str)) = false := by decide)
    (he : starEach (e :: es) X.env = (false, eval e X.env) :: starEach es X.env := by rfl) (hpl : (backTo pos (starEach es X.env)).any (·.1) = false := by rfl) : DE cl X (.Call (.Name x p) (e :: es) [] pos) (dMake C sp dds t) := by
  obtain ⟨f, fd, ps, ds, dvs, F, MK, hm, hb, hd, hR⟩ := G.ex
  exact ⟨imE (pe_make (E := E0) MK F hr hg hm hb hd pass0 ha.h hdb he hpl) fun σ H Q ⟨ρ, M, P, er, sm, t, f⟩ =>
    ⟨ρ, M, _, er, sm, t, fun ds M1 vs H1 q l s sm1 r1 a dx ha hdx hne => by
      have st1 : Stab H1 (upd H1 dx (.own a)) := Stab.new hdx
      have ha' : upd H1 dx (.own a) a = none := by rw [upd_ne hne.symm]; exact ha
      have st2 : Stab (upd H1 dx (.own a)) (upd (upd H1 dx (.own a)) a (.ins (cl C) dx [])) := Stab.new ha'
      have sm2 : Sim X.K cl (up M1 a (.ins C [])) (upd (upd H1 dx (.own a)) a (.ins (cl C) dx [])) := (sm1.lay hdx).new (o := .ins C []) ha' ⟨dx, [], upd_same, .nil⟩
      refine ⟨_, _, _, .cons (.ref a) ((r1.mono (st1.trans st2)).append (hR _)), sm2, q a (sm1.free ha), fun d M2 v H2 q2 s2 sm2 r2 => ?_⟩
      have e1 := isNon_eq q2.1
      subst e1
      exact ⟨r2.non', f _ _ _ _ q2.2 (s.trans ((st1.trans st2).trans s2)) sm2 (.ref a)⟩⟩⟩
theorem d_make0 (G : CalI cl X.prog X.w X.K X.mg X.base C x k dds sp) (hr : Room (k + 1) X.A) (hg : Gl X x) (hdb : (x == ("__debug__" : Str)) = false := by decide) : DE cl X (.Call (.Name x p) [] [] pos) (dMake C sp dds daNil) := by
  obtain ⟨f, fd, ps, ds, dvs, F, MK, hm, hb, hd, hR⟩ := G.ex
  exact ⟨imE (pe_make0 (E := E0) MK F hr hg hm hb hd pass0 hdb) fun σ H Q ⟨ρ, M1, P, er, sm1, q, f⟩ a dx ha hdx hne => by
      have st1 : Stab H (upd H dx (.own a)) := Stab.new hdx
      have ha' : upd H dx (.own a) a = none := by rw [upd_ne hne.symm]; exact ha
      have st2 : Stab (upd H dx (.own a)) (upd (upd H dx (.own a)) a (.ins (cl C) dx [])) := Stab.new ha'
      have sm2 : Sim X.K cl (up M1 a (.ins C [])) (upd (upd H dx (.own a)) a (.ins (cl C) dx [])) := (sm1.lay hdx).new (o := .ins C []) ha' ⟨dx, [], upd_same, .nil⟩
      refine ⟨_, _, _, .cons (.ref a) (hR _), sm2, q a (sm1.free ha), fun d M2 v H2 q2 s2 sm2 r2 => ?_⟩
      have e1 := isNon_eq q2.1
      subst e1
      exact ⟨r2.non', f _ _ _ _ q2.2 ((st1.trans st2).trans s2) sm2 (.ref a)⟩⟩
theorem d_fld {fl : Str} (ho : DE cl X o to) (c : Cls X.K (cl C)) (n : NoAttr X.K (cl C) fl) (hb : attributeBase o fl X.env (eval o X.env) = eval o X.env := by rfl) : DE cl X (.Attribute o fl pos) (dFld C fl to) := ⟨imE (pe_fld ho.h hb) fun σ H Q ⟨ρ, M, P, er, sm, t, f⟩ =>
  by
  unfold dFld at t
  exact ⟨ρ, M, _, er, sm, t, fun d M1 v H1 q s sm1 r1 => by
    obtain ⟨a, C', fs, rfl, e1, rfl, q'⟩ := insAt_elim q
    obtain ⟨dx, vs, h1, h2⟩ := sm1 a _ e1
    rcases h2.lookup fl with ⟨z, _⟩ | ⟨d2, v2, z1, z2, z3⟩
    · rw [z] at q'; exact q'.elim
    · rw [z1] at q'
      exact ⟨a, _, dx, vs, v2, r1.ref', h1, c, n, z2, f _ _ _ _ q' s sm1 z3⟩⟩⟩
theorem ds_fld {fl : Str} (ho : DE cl X o to) (hv : DE cl X value tv) (c : Cls X.K (cl C)) (n : NoAttr X.K (cl C) fl) (hs : swapsWith value (some (.Attribute o fl pos')) pos.line X.env = pure false := by rfl) : DS cl X (.Assign [.Attribute o fl pos'] value pos) (dSetF C fl to tv) := ⟨imS (ps_fld ho.h hv.h hs) fun F σ H ⟨ρ, M, E, er, sm, t, f⟩ =>
  ⟨ρ, M, _, er, sm, t, fun d M1 v H1 q s sm1 r1 => ⟨ρ, M1, _, er.mono s, sm1, q, fun d2 M2 v2 H2 q2 s2 sm2 r2 => by
    obtain ⟨a, C', fs, rfl, e1, rfl, hl, q2⟩ := insAt_elim q2
    obtain ⟨dx, vs, h1, h2⟩ := sm2 a _ e1
    have st : Stab H2 (upd H2 a (.ins (cl C') dx (L2.putF fl v vs))) := Stab.wr h1 (fun _ z => by cases z) (fun _ _ z => by cases z)
    refine ⟨a, _, dx, vs, r2.ref', h1, c, n, by rw [← h2.length]; exact hl, ?_⟩
    exact f.nx _ _ _ _ q2 ((s.trans s2).trans st) (er.mono ((s.trans s2).trans st)) (sm2.put (o := .ins C' _) st ⟨dx, _, upd_same, ((r1.mono s2).putF fl h2).mono st⟩)⟩⟩⟩
end
end EW

set_option maxRecDepth 100000
set_option maxHeartbeats 4000000
/-! EwDc: dict comprehensions whose keys are ints, texts, or tuples of these: the empty dict's kind is a parameter, the store is by what the dict holds. The road follows HandS.DictComp's, over its loop lemma. -/
namespace EW
open PySem PySem.Spec PyProof.Rows L2

/-- a dict that is no longer than the line takes a pair, in a comprehension -/
theorem put_in {X : Cx} {pins : List (Addr × Obj)} {σ : L2.St} {H H' : Hp} {s : Shared} {B : Around} {E : Value → Shared → Prop} {a : Addr} {y v : V} {u r : Value} {Q : Unit → Shared → Prop} (big : B.units < cLine) (I : Inv X pins σ H s) (g : DPut H a y v H') (ry : RelV y u) (rv : RelV v r)
    (h : ∀ s', Inv X pins σ H' s' → Q () s') : wpAny (model X.prog X.w) B (dictSet a u r) Q E s := by
  rcases g with ⟨kvs, k, e, rfl, l, rfl⟩ | ⟨kvs, k, b, e, rfl, eb, l, rfl⟩
  · obtain ⟨z, hd, vs, rel, dd⟩ := dk_of I.hok e
    refine wpAny_dictSet_pairs (hsz := by rw [← rel.length]; exact z) (kV_is ry) dd fun h' dd' sb => h _ ?_
    exact d_write I (by rw [e]; exact True.intro) sb (let ⟨q, _, _, hq, _⟩ := dd'; ⟨q, hq⟩) (dk_new (by have := length_putK kvs k v; omega) hd (rel.put k rv) dd')
  · cases (show u = Value.ref b from ry)
    obtain ⟨z, hd, xs, rel, dd⟩ := dt_of I.hok e
    refine wpAny_dictSet_heap (hsz := by rw [← Paired.length rel]; exact z) (show (tupleKind (mixKind X.prog X.w)).room B from big) (key_of I.hok eb) dd fun h' dd' sb => h _ ?_
    obtain ⟨q, es, ep, hq, k2, k3, k4, _, k5⟩ := dd'
    refine d_write I (by rw [e]; exact True.intro) sb ⟨q, hq⟩ ⟨by have := length_putK kvs k v; omega, hd, _, (rel.put k eb rv).keeps fun c ys ec => ?_, q, es, ep, hq, k2, k3, k4, k5⟩
    rw [upd_ne (ne_of ec e (fun z => nomatch z))]
    exact ec
/-- the comprehension's reading: o is the new dict's first state -/
def tDcP (o : HO) (wi : TI) (g : TG) (tt : TT) (tk tv : TE) (vs : List Nat) : TE := fun σ H Q => wi σ H fun J H1 => ∀ D, H1 D = none → ∃ W : Nat → Nat → Hp → Prop, (∃ m, W 0 m (upd H1 D o)) ∧ ∀ i m H, W i m H →
  (J.stop i H ∧ Q (.ref D) H) ∨ (J.go i H ∧ ∃ N : Hp → Prop, (∀ H', N H' → ∃ m', m' < m ∧ W (i + 1) m' H') ∧ ∀ x H', J.yld i H x H' → g x (wipe σ vs) H' fun σ2 H2 => wipe σ2 vs = wipe σ vs ∧ tt σ2 H2 fun b H3 =>
    if b = true then tk σ2 H3 fun y H4 => tv σ2 H4 fun z H5 => ∃ H6, DPut H5 D y z H6 ∧ N H6 else N H3)
/-- what may be a new dict -/
def NewD (o : HO) : Prop := o = .dK [] ∨ o = .dT []
theorem NewD.ok {P : Program} {w : World} {o : HO} (n : NewD o) (h : Heap) (hb : sysModules < h.objs.size) (H : Hp) : ObjOk P w H (h.push { cls := .type "dict", data := .dict #[] }) h.objs.size o := by
  rcases n with rfl | rfl
  · exact dk_empty h hb
  · exact dt_empty h hb
section
variable {X : Cx} {kx vx tg iter : Expr} {ifs : List Expr} {scope : Scope} {own : List (Str × Nat)} {pos : Pos} {wi : TI} {g : TG} {tt : TT} {tk tv : TE} {o : HO}
/-- what each part of the block is, whatever the block's env -/
structure Parts (X : Cx) (scope : Scope) (kx vx tg : Expr) (ifs : List Expr) (g : TG) (tt : TT) (tk tv : TE) : Prop where
  g : ∀ (s : Shared) (H : Hp) (C : Addr) (cs : List (Str × Addr)) (fp : List Addr), PG (X.blk s H scope (compEnvC scope cs C X.env) fp) tg g
  t : ∀ (s : Shared) (H : Hp) (C : Addr) (cs : List (Str × Addr)) (fp : List Addr), PTs (X.blk s H scope (compEnvC scope cs C X.env) fp) ifs tt
  k : ∀ (s : Shared) (H : Hp) (C : Addr) (cs : List (Str × Addr)) (fp : List Addr), PE (X.blk s H scope (compEnvC scope cs C X.env) fp) kx tk
  v : ∀ (s : Shared) (H : Hp) (C : Addr) (cs : List (Str × Addr)) (fp : List Addr), PE (X.blk s H scope (compEnvC scope cs C X.env) fp) vx tv
theorem pe_dcP (big : X.A.units < cLine) (no : NewD o) (hc : X.calm = true) (hN : X.N.Nodup) (hi : PI X tg iter wi) (ok : BlkOk X.N X.env.scope scope own) (pt : Parts X scope kx vx tg ifs g tt tk tv) (hs : ∀ x, foldedSetIterable iter X.env x = pure x := by intro _; rfl) :
    PE X (.DictComp kx vx [⟨tg, iter, ifs, 0⟩] scope pos) (tDcP o wi g tt tk tv (own.map (·.2))) := by
  refine ⟨fun pins s σ H Q I h => ?_⟩
  rw [arm_eval_DictComp]
  have free : ∀ y ∈ scope.names, y.2 = .free → ∃ c, X.env.cells.lookup y.1 = some c := fun y hy e => (ok.free y hy e).elim (fun k => I.ok.has _ (.inl k)) fun k => I.ok.has _ (.inr k)
  refine wpAny_comprehension_free rfl hs (closure_ok free) ok.kind (fun y hy e => by rw [ok.uniq y hy, e]) (thn (hi.run pins s σ H _ I h) fun _ _ hx => thn hx fun _ s2 z => ?_)
  obtain ⟨it, fp, tn, J, H2, rfl, I2, T, st2, f2, q⟩ := z
  refine wpAny_newObj_type (newEnv_comp ?_)
  -- the new dict, at D
  let D := s2.heap.objs.size
  let s3 : Shared := { s2 with heap := s2.heap.push { cls := .type "dict", data := .dict #[] } }
  obtain ⟨W, ⟨m0, w0⟩, turn⟩ := q D (I2.hok.fresh (Nat.le_refl _))
  have I3 : Inv X pins σ (upd H2 D o) s3 := I2.laid (t' := s2.toks) (fun _ _ e => Heap.get?_push_of_some _ e) (Nat.le_refl _) (no.ok s2.heap I2.big _)
  have low : ∀ b ∈ fp, b < D := fun b hb => let ⟨_, e, _⟩ := T.obj _ _ st2 b hb; Heap.lt_size e
  have f3 : ∀ b ∈ fp, FpOk X pins (upd H2 D o) b ∧ b < s3.heap.objs.size := fun b hb =>
    ⟨⟨by rw [upd_ne (Nat.ne_of_lt (low b hb))]; exact (f2 b hb).1, (f2 b hb).2⟩, Nat.lt_of_lt_of_le (low b hb) (by show D ≤ (s2.heap.push _).objs.size; rw [Heap.size_push]; exact Nat.le_succ _)⟩
  have st3 : tn 0 s3.heap := T.keep _ _ _ st2 fun b _ u e => Heap.get?_push_of_some _ e
  have I4 := block_start I3 ok hN f3
  -- the block's names
  let C := s3.heap.objs.size
  let cs := cellsFrom (C + 1) scope.names (cloFrom X.env.cells scope.names [])
  let ce := compEnvC scope cs C X.env
  let Y := X.blk s3 (upd H2 D o) scope ce fp
  have pg : PG Y tg g := pt.g s3 (upd H2 D o) C cs fp
  have pc : PTs Y ifs tt := pt.t s3 (upd H2 D o) C cs fp
  have pk : PE Y kx tk := pt.k s3 (upd H2 D o) C cs fp
  have pv : PE Y vx tv := pt.v s3 (upd H2 D o) C cs fp
  let s4 : Shared := { s3 with heap := pushCells (s3.heap.push { cls := .type "dict", data := .dict #[] }) scope.names }
  have I4 : Inv Y [] (wipe σ (own.map (·.2))) (upd H2 D o) s4 := I4
  have st4 : tn 0 s4.heap := T.keep _ _ _ st3 fun b _ u e => pushCells_keeps _ _ _ _ (Heap.get?_push_of_some _ e)
  have still : ∀ {σ' : L2.St} {H' : Hp} {s' : Shared}, Inv Y [] σ' H' s' → (∀ b ∈ fp, H' b = none) → ∀ b ∈ fp, FpOk Y [] H' b := fun I' hn b hb =>
    ⟨hn b hb, (I'.ok.exf b hb).1, I'.ok.exfs b hb, .inl hb, fun x c e => (I'.ok.exf b hb).2 x c e, fun p hp => absurd (show p ∈ ([] : List (Addr × Obj)) ++ [] from hp) (by simp)⟩
  have fin : ∀ {r : Value} {s' : Shared} {H' : Hp} {m : Str → Option Value}, r = .ref D → Inv X pins σ H' s' → Q (.ref D) H' → s'.heap.Ns C m → FpOk X pins H' C → compPost (model X.prog X.w) X.A X.xe none (EP X pins σ Q) r C (.ok .next) s' := by
    rintro r s' H' m rfl I' q' hn ⟨a0, a1, _, a3, a4, a5⟩
    exact ⟨m, hn, fun h'' sb => ⟨.ref D, H', I'.turned (t' := s'.toks) (fun b u hb e => (sb.2 b hb).trans e) a0 a1 a3 a4 a5, rfl, q'⟩⟩
  show codeAny (model X.prog X.w) X.A (.compStart (.DictComp kx vx [⟨tg, iter, ifs, 0⟩] scope pos) 0 (.ref it) (.ref D) ce) (compPost (model X.prog X.w) X.A X.xe none (EP X pins σ Q) (.ref D) C) s4
  have loop : codeAny (model X.prog X.w) X.A (.compLoop (.DictComp kx vx [⟨tg, iter, ifs, 0⟩] scope pos) 0 (.ref it) (.ref D) ce) (compPost (model X.prog X.w) X.A X.xe none (EP X pins σ Q) (.ref D) C) s4 := by
    refine compLoop_anyD (fun n s' => ∃ i H', Inv Y [] (wipe σ (own.map (·.2))) H' s' ∧ tn i s'.heap ∧ (∀ b ∈ fp, H' b = none) ∧ W i n H') ?_ m0 ⟨0, _, I4, st4, fun b hb => (f3 b hb).1.1, w0⟩
    rintro n s5 ⟨i, H5, I5, st5, n5, w5⟩
    rcases turn i n H5 w5 with ⟨stop, done⟩ | ⟨go, N, hN', step⟩
    · refine thnF (T.done Y rfl rfl rfl hc i [] s5 _ H5 (fun _ _ => False) I5 (still I5 n5) st5 stop) fun r s6 ⟨hr, I6⟩ => ?_
      subst hr
      have I7 : Inv X pins σ H5 s6 := I3.call' (ch := fp) I6.os I6.base I6.hok I6.bare fun b hb => ⟨(f3 b hb).1.2.2.2.1, (f3 b hb).1.2.1, (f3 b hb).1.2.2.2.2.1, (f3 b hb).1.2.2.2.2.2⟩
      obtain ⟨m, hn, _⟩ := I6.loc
      exact fin rfl I7 done hn (I3.fpOk (Nat.le_refl _) I6.free)
    · refine thnF (T.item Y rfl rfl rfl hc i [] s5 _ H5 (fun _ _ => False) I5 (still I5 n5) st5 go) fun r s6 ⟨u, hr, z6⟩ => ?_
      subst hr
      refine thnF z6 fun _ s7 ⟨x, H7, I7, r7, y7, st7, n7⟩ => ?_
      refine thnF (pg.run _ s7 _ H7 x u _ (I7.pinned (still I7 n7) (T.obj _ _ st7)) r7 (step x H7 y7)) fun _ s8 ⟨σ8, H8, I8, w8, q8⟩ => thnF (pc.run _ s8 σ8 H8 _ I8 q8) fun b s9 ⟨H9, I9, q9⟩ => ?_
      have close : ∀ {s' : Shared} {H' : Hp}, Inv Y ([] ++ pinsAt fp s7.heap) σ8 H' s' → N H' → ∃ m, m < n ∧ ∃ i H', Inv Y [] (wipe σ (own.map (·.2))) H' s' ∧ tn i s'.heap ∧ (∀ b ∈ fp, H' b = none) ∧ W i m H' := by
        intro s' H' I' nx
        obtain ⟨m', hm, w'⟩ := hN' H' nx
        have pin : ∀ b ∈ fp, ∀ u, s7.heap.get? b = some u → s'.heap.get? b = some u ∧ H' b = none := fun b hb u e =>
          let z := I'.pin (b, u) (List.mem_append_right _ (List.mem_append_right _ (mem_pinsAt hb e)))
          ⟨z.1, z.2.1⟩
        refine ⟨m', hm, i + 1, H', (I'.unpinned (pins := [])).weak (by rw [← w8, wipe_length]) (fun j v e => ?_), T.keep _ _ _ st7 fun b hb u e => (pin b hb u e).1, fun b hb => ?_, w'⟩
        · rw [← w8] at e
          exact (wipe_some e).1
        · obtain ⟨u, e, _⟩ := T.obj _ _ st7 b hb
          exact (pin b hb u e).2
      cases b with
      | false => exact close I9 q9
      | true =>
        refine thnF (pk.run _ s9 σ8 H9 _ I9 q9) fun _ s10 ⟨yk, H10, I10, r10, q10⟩ => thnF (pv.run _ s10 σ8 H10 _ I10 q10) fun _ s11 ⟨yv, H11, I11, r11, H12, pu, nx⟩ => ?_
        exact put_in (X := Y) big I11 pu r10 r11 fun s12 I12 => close I12 nx
  exact codeAny_compStart_dict loop (T.self X.A 0 _ _ _ st4 loop)
end
end EW

set_option maxRecDepth 100000
set_option maxHeartbeats 4000000
/-! EwStore: stores into lists and dicts, new dicts, dict comprehensions, get. -/
namespace EW
open PySem PySem.Spec PyProof.Rows L2
variable {cl : String → Addr} {X : Cx}

/-! ### o[i] = v -/
@[irreducible] def dPut (o i v : D) (M : Mem) (Q : Mem → Prop) : Prop := match o with
  | .ref a => match M a with
    | some (.lst xs) => match i with
      | .int k => match ixN xs.length k with
        | some j => Q (up M a (.lst (xs.set j v)))
        | none => False
      | _ => False
    | some (.dK kvs) => match toK i with
      | some k => kvs.length < sizeLine ∧ Q (up M a (.dK (putD kvs k v)))
      | none => False
    | some (.dT kvs) => match i with
      | .tup ds => match toKs ds with
        | some ks => kvs.length < sizeLine ∧ Q (up M a (.dT (putD kvs ks v)))
        | none => False
      | _ => False
    | _ => False
  | _ => False
/-- either store -/
def rSetA : TSet := fun o i v H Q => rSetL o i v H Q ∨ ∃ a H', o = .ref a ∧ DPut H a i v H' ∧ Q H'
theorem set_any (hu : X.A.units + 1 < cLine) : PSet X rSetA := by
  intro pins s σ H o i v ov iv u Q I ro ri rv h
  rcases h with h | ⟨a, H', rfl, g, q⟩
  · exact set_list pins s σ H o i v ov iv u Q I ro ri rv h
  · cases ro
    exact d_setItem hu I g ri rv fun s' I' => ⟨H', I', q⟩
theorem stD {H : Hp} {p : Addr} {u v : HO} (h : H p = some v) (ht : (∃ vs, v = .lst vs) ∨ (∃ vs, v = .dK vs) ∨ (∃ vs, v = .dT vs)) : Stab H (upd H p u) := by
  rcases ht with ⟨vs, rfl⟩ | ⟨vs, rfl⟩ | ⟨vs, rfl⟩ <;> exact Stab.wr h (fun _ q => by cases q) (fun _ _ q => by cases q)
theorem dPut_ok {K : PySem.W.Frag} {H : Hp} {M : Mem} {o i v : D} {ov iv vv : V} {Q : Mem → Prop} {R : Hp → Prop} (h : dPut o i v M Q) (sm : Sim K cl M H) (ro : Rp K H o ov) (ri : Rp K H i iv) (rv : Rp K H v vv)
    (f : ∀ M' H', Q M' → Stab H H' → Sim K cl M' H' → R H') : rSetA ov iv vv H R := by
  unfold dPut at h
  split at h
  · next a =>
    rw [ro.ref']
    split at h
    · next xs e =>
      obtain ⟨vs, h1, h2⟩ := sm a _ e
      split at h
      · next k =>
        rw [ri.int']
        split at h
        · next j ej =>
          have st : Stab H (upd H a (.lst (vs.set j vv))) := stD h1 (.inl ⟨_, rfl⟩)
          exact .inl ⟨a, vs, k, j, rfl, rfl, h1, by rw [← h2.length]; exact ej, f _ _ h st (sm.put (o := .lst _) st ⟨_, upd_same, (h2.set rv j).mono st⟩)⟩
        · exact h.elim
      · exact h.elim
    · next kvs e =>
      obtain ⟨vs, h1, h2⟩ := sm a _ e
      split at h
      · next k ek =>
        have := toK_ok ek
        subst this
        rw [ri.key']
        have st : Stab H (upd H a (.dK (putK vs k vv))) := stD h1 (.inr (.inl ⟨_, rfl⟩))
        exact .inr ⟨a, _, rfl, DPut.k h1 (by rw [← h2.length]; exact h.1), f _ _ h.2 st (sm.put (o := .dK _) st ⟨_, upd_same, (RpF.put rv k h2).mono st⟩)⟩
      · exact h.elim
    · next kvs e =>
      obtain ⟨vs, h1, h2⟩ := sm a _ e
      split at h
      · next ds =>
        split at h
        · next ks ek =>
          obtain ⟨p, ws, rfl, h3, h4⟩ := ri.tup'
          rw [toKs_ok ek] at h4
          rw [h4.keys'] at h3
          have st : Stab H (upd H a (.dT (putK vs ks vv))) := stD h1 (.inr (.inr ⟨_, rfl⟩))
          exact .inr ⟨a, _, rfl, DPut.t h1 h3 (by rw [← h2.length]; exact h.1), f _ _ h.2 st (sm.put (o := .dT _) st ⟨_, upd_same, (RpF.put rv ks h2).mono st⟩)⟩
        · exact h.elim
      · exact h.elim
    · exact h.elim
  · exact h.elim
def gSubD (to ti : DTE) : DTG := fun v ρ M Q => to ρ M fun o M1 => ti ρ M1 fun i M2 => dPut o i v M2 fun M3 => Q ρ M3
theorem dg_sub {o i : Expr} {to ti : DTE} {pos : Pos} (hu : X.A.units + 1 < cLine) (ho : DE cl X o to) (hi : DE cl X i ti)
    (ha : ∀ v, assign (.Subscript o i pos) X.env v = (do
      let ov ← holding [v] (eval o X.env)
      let iv ← holding [v, ov] (eval i X.env)
      standAt pos
      holding [v, ov, iv] (setItem ov iv v)
      release [v, ov, iv] []) := by intro _; rfl) : DG cl X (.Subscript o i pos) (gSubD to ti) :=
  ⟨imG (pg_sub ho.h hi.h (set_any hu) ha) fun v σ H Q ⟨d, ρ, M, P, r, er, sm, t, f⟩ =>
    ⟨ρ, M, _, er, sm, t, fun d1 M1 v1 H1 q1 s1 sm1 r1 => ⟨ρ, M1, _, er.mono s1, sm1, q1, fun d2 M2 v2 H2 q2 s2 sm2 r2 =>
      dPut_ok q2 sm2 (r1.mono s2) r2 (r.mono (s1.trans s2)) fun M3 H3 q3 s3 sm3 => f _ _ _ _ q3 (s1.trans (s2.trans s3)) (er.mono (s1.trans (s2.trans s3))) sm3⟩⟩⟩
/-! ### new dicts -/
def dNewK : DTE := fun _ M Q => ∀ p, M p = none → Q (.ref p) (up M p (.dK []))
def dNewT : DTE := fun _ M Q => ∀ p, M p = none → Q (.ref p) (up M p (.dT []))
theorem d_newK {pos : Pos} : DE cl X (.Dict [] [] pos) dNewK := ⟨imE pe_dnewK fun σ H Q ⟨ρ, M, P, er, sm, t, f⟩ p hp =>
  f _ _ _ _ (t p (sm.free hp)) (Stab.new hp) (sm.new (o := .dK []) hp ⟨[], upd_same, .nil⟩) (.ref p)⟩
theorem d_newT {pos : Pos} : DE cl X (.Dict [] [] pos) dNewT := ⟨imE pe_dnewT fun σ H Q ⟨ρ, M, P, er, sm, t, f⟩ p hp =>
  f _ _ _ _ (t p (sm.free hp)) (Stab.new hp) (sm.new (o := .dT []) hp ⟨[], upd_same, .nil⟩) (.ref p)⟩
def mergeD (kvs more : List (Key × D)) : List (Key × D) := more.foldl (fun acc kv => putD acc kv.1 kv.2) kvs
theorem RpF.merge {K : PySem.W.Frag} {H : Hp} : ∀ {more : List (Key × D)} {ms : List (Key × V)} {ds : List (Key × D)} {vs : List (Key × V)}, RpF K H more ms → RpF K H ds vs → RpF K H (mergeD ds more) (mergeK vs ms)
  | _, _, _, _, .nil, r => r
  | (k, d) :: more, (_, v) :: ms, ds, vs, .cons r t, q => RpF.merge (more := more) (ms := ms) t (RpF.put r k q)
/-- the values of a display with constant keys -/
def dVals : List (Key × DTE) → Env → Mem → (List (Key × D) → Mem → Prop) → Prop
  | [], _, M, Q => Q [] M
  | (k, t) :: r, ρ, M, Q => t ρ M fun y M1 => dVals r ρ M1 fun kvs M2 => Q ((k, y) :: kvs) M2
def dDisp (trs : List (Key × DTE)) : DTE := fun ρ M Q => ∀ p, M p = none → dVals trs ρ (up M p (.dK [])) fun kvs M2 => M2 p = some (.dK []) ∧ Q (.ref p) (up M2 p (.dK (mergeD [] kvs)))
def kTE (k : Key) : TE := fun _ H Q => Q (kV k) H
def trsV (K : PySem.W.Frag) (cl : String → Addr) (trs : List (Key × DTE)) : List (TE × TE) := trs.map fun kt => (kTE kt.1, LE K cl kt.2)
structure DPs (cl : String → Addr) (X : Cx) (pos : Pos) (keys : List (Option Expr)) (values : List Expr) (trs : List (Key × DTE)) : Prop where
  h : PPs X pos keys values (trsV X.K cl trs)
  l : trs.length = keys.length
theorem dps_nil {pos : Pos} : DPs cl X pos [] [] [] := ⟨pps_nil, rfl⟩
theorem dps_str {pos p : Pos} {x : Str} {j} {v : Expr} {ks : List (Option Expr)} {vs : List Expr} {t : DTE} {trs : List (Key × DTE)} (hv : DE cl X v t) (hr : DPs cl X pos ks vs trs) : DPs cl X pos (some (.Constant (.str x) j p) :: ks) (v :: vs) ((.inr x, t) :: trs) :=
  ⟨pps_cons (tk := kTE (.inr x)) pe_str hv.h hr.h, by rw [List.length_cons, List.length_cons, hr.l]⟩
theorem dVals_ok {K : PySem.W.Frag} : ∀ {trs : List (Key × DTE)} {ρ : Env} {M : Mem} {σ : L2.St} {H : Hp} {P : List (Key × D) → Mem → Prop} {Q : List (V × V) → Hp → Prop}, EnvR K H ρ σ → Sim K cl M H → dVals trs ρ M P →
    (∀ kvs vs M' H', P kvs M' → kvs.length = trs.length → Stab H H' → Sim K cl M' H' → RpF K H' kvs vs → Q (vs.map fun kv => (kV kv.1, kv.2)) H') → tPairs (trsV K cl trs) σ H Q
  | [], ρ, M, σ, H, P, Q, er, sm, t, f => f [] [] _ _ t rfl Stab.refl sm .nil
  | (k, te) :: trs, ρ, M, σ, H, P, Q, er, sm, t, f => by
    show LE K cl te σ H _
    refine ⟨ρ, M, _, er, sm, t, fun d M1 v H1 q s sm1 r1 => ?_⟩
    exact dVals_ok (er.mono s) sm1 q fun kvs vs M' H' p l s' sm' rr => f ((k, d) :: kvs) ((k, v) :: vs) _ _ p (by rw [List.length_cons, List.length_cons, l]) (s.trans s') sm' (.cons (r1.mono s') rr)
theorem d_disp {pos : Pos} {keys : List (Option Expr)} {values : List Expr} {trs : List (Key × DTE)} (h : DPs cl X pos keys values trs) (hall : keys.all (·.isSome) = true := by rfl) (hl : keys.length = values.length := by rfl) (h0 : keys ≠ [] := by exact List.cons_ne_nil _ _)
    (h15 : keys.length ≤ 15 := by exact Nat.le_of_ble_eq_true rfl) : DE cl X (.Dict keys values pos) (dDisp trs) := ⟨imE (pe_disp h.h hall hl h0 h15) fun σ H Q ⟨ρ, M, P, er, sm, t, f⟩ p hp =>
  dVals_ok (er.mono (Stab.new hp)) (sm.new (o := .dK []) hp ⟨[], upd_same, .nil⟩) (t p (sm.free hp)) fun kvs vs M2 H2 ⟨e, q⟩ l s sm2 rr => by
    obtain ⟨vs0, h1, h2⟩ := sm2 p _ e
    cases h2
    have st : Stab H2 (upd H2 p (.dK (mergeK [] vs))) := stD h1 (.inr (.inl ⟨_, rfl⟩))
    exact ⟨h1, vs, rfl, by rw [← rr.length, l, h.l]; exact h15, f _ _ _ _ q ((Stab.new hp).trans (s.trans st)) (sm2.put (o := .dK _) st ⟨_, upd_same, (RpF.merge rr .nil).mono st⟩) (.ref p)⟩⟩
/-! ### {k: v for ..} -/
def wDc (inv : Mem → Prop) (pt : Pat) (tt : DTT) (tk tv : DTE) (ρ : Env) (a : Addr) (Q : Mem → Prop) : List D → Mem → Prop
  | [], M => inv M ∧ Q M
  | x :: xs, M => inv M ∧ bindP pt x ρ fun ρ2 => tt ρ2 M fun b M3 => if b = true then tk ρ2 M3 fun y M4 => tv ρ2 M4 fun z M5 => (match M5 a with | some (.dK _) => True | some (.dT _) => True | _ => False) ∧ dPut (.ref a) y z M5 fun M6 => wDc inv pt tt tk tv ρ a Q xs M6
      else wDc inv pt tt tk tv ρ a Q xs M3
def emp (k : Bool) : MO := if k = true then .dT [] else .dK []
def empH (k : Bool) : HO := if k = true then .dT [] else .dK []
theorem empN (k : Bool) : NewD (empH k) := by cases k <;> first | exact .inl rfl | exact .inr rfl
def dDc (k : Bool) (ti : DTI) (own : List Nat) (pt : Pat) (tt : DTT) (tk tv : DTE) : DTE := fun ρ M Q => ti ρ M fun xs inv M1 => ∀ a, M1 a = none → wDc inv pt tt tk tv (wipeD ρ own) a (fun M' => Q (.ref a) M') xs (up M1 a (emp k))
theorem dPutD_ok {K : PySem.W.Frag} {H : Hp} {M : Mem} {a : Addr} {i v : D} {iv vv : V} {Q : Mem → Prop} (hd : match M a with | some (.dK _) => True | some (.dT _) => True | _ => False) (h : dPut (.ref a) i v M Q) (sm : Sim K cl M H) (ri : Rp K H i iv) (rv : Rp K H v vv) :
    ∃ M' H', DPut H a iv vv H' ∧ Q M' ∧ Stab H H' ∧ Sim K cl M' H' := by
  have q := dPut_ok (R := fun H' => ∃ M', Q M' ∧ Stab H H' ∧ Sim K cl M' H') h sm (.ref a) ri rv fun M' H' q s sm' => ⟨M', q, s, sm'⟩
  rcases q with ⟨p, xs, k, j, e, _, h1, _, _⟩ | ⟨b, H', e, g, M', q, s, sm'⟩
  · cases e
    exfalso
    split at hd
    · next kvs e => obtain ⟨vs, k1, _⟩ := sm a _ e; rw [h1] at k1; cases k1
    · next kvs e => obtain ⟨vs, k1, _⟩ := sm a _ e; rw [h1] at k1; cases k1
    · exact hd
  · cases e
    exact ⟨M', H', g, q, s, sm'⟩
theorem d_dc (k : Bool) {kx vx tg iter : Expr} {ifs : List Expr} {scope : Scope} {own : List (Str × Nat)} {pos : Pos} {ti : DTI} {pt : Pat} {tt : DTT} {tk tv : DTE} (big : X.A.units < cLine) (hc : X.calm = true) (hN : X.N.Nodup) (hi : DI cl X tg iter ti) (ok : BlkOk X.N X.env.scope scope own)
    (hg : ∀ (s : Shared) (H : Hp) (C : Addr) (cs : List (Str × Addr)) (fp : List Addr), PG (X.blk s H scope (compEnvC scope cs C X.env) fp) tg (tgP X.K pt)) (ht : ∀ (s : Shared) (H : Hp) (C : Addr) (cs : List (Str × Addr)) (fp : List Addr), DTs cl (X.blk s H scope (compEnvC scope cs C X.env) fp) ifs tt)
    (hk : ∀ (s : Shared) (H : Hp) (C : Addr) (cs : List (Str × Addr)) (fp : List Addr), DE cl (X.blk s H scope (compEnvC scope cs C X.env) fp) kx tk)
    (he : ∀ (s : Shared) (H : Hp) (C : Addr) (cs : List (Str × Addr)) (fp : List Addr), DE cl (X.blk s H scope (compEnvC scope cs C X.env) fp) vx tv) (hp : ∀ i ∈ slP pt, i ∈ own.map (·.2) := by decide) (hs : ∀ x, foldedSetIterable iter X.env x = pure x := by intro _; rfl) :
    DE cl X (.DictComp kx vx [⟨tg, iter, ifs, 0⟩] scope pos) (dDc k ti (own.map (·.2)) pt tt tk tv) :=
  ⟨imE (pe_dcP (g := tgP X.K pt) (tt := LT X.K cl tt) (tk := LE X.K cl tk) (tv := LE X.K cl tv) big (empN k) hc hN hi.h ok ⟨hg, fun s H C cs fp => (ht s H C cs fp).h, fun s H C cs fp => (hk s H C cs fp).h, fun s H C cs fp => (he s H C cs fp).h⟩ hs) fun σ H Q ⟨ρ, M, P, er, sm, t, f⟩ => by
    refine ⟨ρ, M, _, er, sm, t, fun xs inv M1 J H1 q s sm1 wk => ?_⟩
    intro a ha
    have q1 := q a (sm1.free ha)
    have st1 : Stab H1 (upd H1 a (empH k)) := Stab.new ha
    have sm0 : Sim X.K cl (up M1 a (emp k)) (upd H1 a (empH k)) := by
      cases k
      · exact sm1.new (o := .dK []) ha ⟨[], upd_same, .nil⟩
      · exact sm1.new (o := .dT []) ha ⟨[], upd_same, .nil⟩
    refine ⟨fun i m H2 => m = xs.length - i ∧ i ≤ xs.length ∧ ∃ M2, Stab H1 H2 ∧ Sim X.K cl M2 H2 ∧ wDc inv pt tt tk tv (wipeD ρ (own.map (·.2))) a (fun M' => P (.ref a) M') (xs.drop i) M2, ⟨xs.length, by simp, Nat.zero_le _, _, st1, sm0, by simpa using q1⟩, ?_⟩
    rintro i m H2 ⟨rfl, hi, M2, s2, sm2, w⟩
    by_cases hlt : i < xs.length
    · have ex : xs.drop i = xs[i] :: xs.drop (i + 1) := List.drop_eq_getElem_cons hlt
      rw [ex] at w
      obtain ⟨iv, w⟩ := w
      obtain ⟨go, y⟩ := wk.go i xs[i] H2 M2 (by simp [hlt]) s2 sm2 iv
      refine .inr ⟨go, fun H' => ∃ M', Stab H1 H' ∧ Sim X.K cl M' H' ∧ wDc inv pt tt tk tv (wipeD ρ (own.map (·.2))) a (fun M' => P (.ref a) M') (xs.drop (i + 1)) M', ?_, fun v H3 hy => ?_⟩
      · rintro H' ⟨M', s', sm', w'⟩
        exact ⟨xs.length - (i + 1), by omega, rfl, hlt, M', s', sm', w'⟩
      · obtain ⟨s3, sm3, r3⟩ := y v H3 hy
        have er3 : EnvR X.K H3 (wipeD ρ (own.map (·.2))) (L2.wipe σ (own.map (·.2))) := (er.mono (s.trans (s2.trans s3))).wipe _
        refine bindP_ok (vs := own.map (·.2)) hp r3 er3 w fun ρ4 σ4 q4 er4 w4 => ⟨?_, ?_⟩
        · rw [w4]
          apply List.ext_getElem?
          intro j
          rw [wipe_at, wipe_at, wipe_length]
          by_cases hj : j ∈ own.map (·.2) <;> simp [hj]
        · refine ⟨ρ4, M2, _, er4, sm3, q4, fun b M5 H5 q5 s5 sm5 => ?_⟩
          cases b with
          | true =>
            refine iteT ⟨ρ4, M5, _, er4.mono s5, sm5, q5, fun d6 M6 v6 H6 q6 s6 sm6 r6 => ⟨ρ4, M6, _, er4.mono (s5.trans s6), sm6, q6, fun d7 M7 v7 H7 q7 s7 sm7 r7 => ?_⟩⟩
            obtain ⟨M8, H8, g, q8, s8, sm8⟩ := dPutD_ok q7.1 q7.2 sm7 (r6.mono s7) r7
            exact ⟨H8, g, M8, ((s2.trans s3).trans (s5.trans s6)).trans (s7.trans s8), sm8, q8⟩
          | false => exact iteF ⟨M5, (s2.trans s3).trans s5, sm5, q5⟩
    · have e : i = xs.length := by omega
      subst e
      rw [List.drop_length] at w
      exact .inl ⟨wk.stop H2 M2 s2 sm2 w.1, f _ _ _ _ w.2 (s.trans s2) sm2 (.ref a)⟩⟩
/-! ### d.get -/
@[irreducible] def rGet : DRM := fun x ds M Q => match x with
  | .ref a => match ds with
    | [k] => dFind M a k fun r => Q (r.getD .non) M
    | [k, z] => dFind M a k fun r => Q (r.getD z) M
    | _ => False
  | _ => False
theorem mt_getD (hu : X.A.units + 1 < cLine) : MtR X "dict.get" (fun x xs H Q => ∃ a y o, x = .ref a ∧ DGet H a y o ∧ ((xs = [y] ∧ Q (o.getD .non) H) ∨ ∃ z, xs = [y, z] ∧ Q (o.getD z) H)) := by
  intro pins s σ H x xs v us Q I rx rs h
  obtain ⟨a, y, o, rfl, g, h⟩ := h
  cases rx
  rcases h with ⟨rfl, q⟩ | ⟨z, rfl, q⟩
  · obtain ⟨u, rfl, ry⟩ := vals1 rs
    exact d_get1 hu I g ry fun w' s' I' r' => ⟨_, H, I', r', q⟩
  · obtain ⟨u1, u2, rfl, ry, rz⟩ := vals2 rs
    exact d_get2 hu I g ry rz fun w' s' I' r' => ⟨_, H, I', r', q⟩
theorem m_get (hu : X.A.units + 1 < cLine) : DMt cl X "dict.get" rGet := imMt (mt_getD hu) fun x xs H Q ⟨d, ds, M, P, r1, rr, sm, r, f⟩ => by
  unfold rGet at r
  split at r
  · next a =>
    split at r
    · next k =>
      obtain ⟨v, rfl, rk⟩ := rr.one
      rcases dFind_ok r sm rk with ⟨q, g⟩ | ⟨d, v', q, g, r'⟩
      · exact ⟨a, v, _, r1.ref', g, .inl ⟨rfl, f _ _ _ _ q Stab.refl sm .non⟩⟩
      · exact ⟨a, v, _, r1.ref', g, .inl ⟨rfl, f _ _ _ _ q Stab.refl sm r'⟩⟩
    · next k z =>
      obtain ⟨v, w, rfl, rk, rz⟩ := rr.two
      rcases dFind_ok r sm rk with ⟨q, g⟩ | ⟨d, v', q, g, r'⟩
      · exact ⟨a, v, _, r1.ref', g, .inr ⟨w, rfl, f _ _ _ _ q Stab.refl sm rz⟩⟩
      · exact ⟨a, v, _, r1.ref', g, .inr ⟨w, rfl, f _ _ _ _ q Stab.refl sm r'⟩⟩
    · exact r.elim
  · exact r.elim
end EW

set_option maxRecDepth 100000
set_option maxHeartbeats 4000000
/-! EwMore: tuple.index, (..) * n, sorted pairs of ints, join, sum of a dict's values, isinstance, a starred target, three stores at once. -/
namespace EW
open PySem PySem.Spec PyProof.Rows L2
variable {cl : String → Addr} {X : Cx}

/-! ### t.index(x) of a tuple of texts that has no attributes of its own -/
def firstIx (x : Str) : List D → Option Nat
  | [] => none
  | .str y :: r => if y = x then some 0 else (firstIx x r).map (· + 1)
  | _ :: _ => none
def dTidx (to te : DTE) : DTE := fun ρ M Q => to ρ M fun d M1 => match d with
  | .ft ds => te ρ M1 fun x M2 => ∃ (ys : List Str) (z : Str) (j : Nat), ds = ys.map D.str ∧ x = .str z ∧ ys[j]? = some z ∧ (∀ m, m < j → ys[m]? ≠ some z) ∧ Q (.int (j : Nat)) M2
  | _ => False
theorem d_tidx {o e : Expr} {to te : DTE} {apos cpos : Pos} (ho : DE cl X o to) (he : DE cl X e te) (hbase : attributeBase o "index" X.env (eval o X.env) = eval o X.env := by rfl)
    (hline : (apos.endLine == cpos.line) = true := by rfl) (hs : starEach [e] X.env = [(false, eval e X.env)] := by rfl) : DE cl X (.Call (.Attribute o "index" apos) [e] [] cpos) (dTidx to te) := by
  refine ⟨⟨fun pins s σ H Q I ⟨ρ, M, P, er, sm, t, f⟩ => ?_⟩⟩
  refine wpAny_Call_method1_late hbase hline (by rw [hs]; rfl) (thn (ho.h.run pins s σ H (fun x H1 => ∃ d M1, Stab H H1 ∧ Sim X.K cl M1 H1 ∧ Rp X.K H1 d x ∧ (match d with | .ft ds => te ρ M1 fun x M2 => ∃ (ys : List Str) (z : Str) (j : Nat), ds = ys.map D.str ∧ x = .str z ∧ ys[j]? = some z ∧ (∀ m, m < j → ys[m]? ≠ some z) ∧ P (.int (j : Nat)) M2 | _ => False)) I
    ⟨ρ, M, _, er, sm, t, fun d M1 v H1 q s sm1 r1 => ⟨d, M1, s, sm1, r1, q⟩⟩) fun v s1 ⟨x, H1, I1, r1, d, M1, st, sm1, rd, q⟩ => ?_)
  cases d with
  | ft ds =>
    obtain ⟨p, vs, ob, rfl, h1, h2, h3⟩ := rd.ft'
    cases r1
    obtain ⟨g1, g2⟩ := (show s1.heap.get? p = some ob ∧ ObjOk X.prog X.w H1 s1.heap p (.tup vs) from I1.hok p _ h1)
    obtain ⟨_, its, _, o', e', hc, n, hd⟩ := g2
    rw [g1] at e'
    cases e'
    refine ⟨"tuple", "tuple.index", F.plainAttrs_tuple, F.slot_tuple_index, F.type_tuple_index, ⟨ob, g1, hc⟩, fun a e => ?_, ?_⟩
    · cases e; exact ⟨ob, g1, h2⟩
    · refine Calls.callWith_builtin rfl (Calls.evalArgs_plain ?_)
      have hA : PA X [e] (tCons (LE X.K cl te) tNil) := pa_cons he.h pa_nil hs
      have := hA.run cpos pins s1 σ H1 (fun xs H2 => ∃ x M2 v, xs = [v] ∧ Stab H1 H2 ∧ Sim X.K cl M2 H2 ∧ Rp X.K H2 x v ∧ ∃ (ys : List Str) (z : Str) (j : Nat), ds = ys.map D.str ∧ x = .str z ∧ ys[j]? = some z ∧ (∀ m, m < j → ys[m]? ≠ some z) ∧ P (.int (j : Nat)) M2) I1
        ⟨ρ, M1, _, er.mono st, sm1, q, fun d M2 v H2 q2 s2 sm2 r2 => ⟨d, M2, v, rfl, s2, sm2, r2, q2⟩⟩
      rw [hs] at this
      refine thn this fun us s2 ⟨xs, H2, I2, r2, x, M2, v, ex, st2, sm2, rx, ys, z, j, e1, e2, hy, hno, q2⟩ => ?_
      subst ex e1 e2
      rw [rx.str'] at r2
      have h4 := h3.mono st2
      have h5 := strsV h4
      subst h5
      exact mt_tup_index pins s2 σ H2 (.ref p) [.str z] (.ref p) us Q I2 rfl r2 ⟨p, ys, z, j, rfl, rfl, .inl (.inr ⟨ob, st2.frz _ _ _ h1⟩), hy, hno, f _ _ _ _ q2 (st.trans st2) sm2 (.int _)⟩
  | _ => exact q.elim
/-! ### a tuple repeated -/
theorem tuple_one (l : Addr) (items : Array Value) (n : Nat) (dd : Option Addr) (sl : Array (Option Value)) (u : Tok) :
    Meets (Builtin.«tuple.__mul__» ⟨[.ref l, .int 1 u], []⟩) (fun _ R s => s.heap.get? l = some { cls := .type "tuple", dict := dd, data := .seq items n, slots := sl } ∧ R (.ok (.ret (Value.ref l))) s) :=
  .of_wp fun prog w A R s h => by
    obtain ⟨hp, g, d, tk, os⟩ := s
    obtain ⟨hl, h⟩ := h
    have f1 := AutoSeq1.idx_int
    have c1 : ((items.isEmpty || (1 : Int) == 1) = true) := by simp
    wp_walk using PySem.AutoSeq1.wpAny_loadPart' hl
    repeat (first
      | (refine wpAny_ite_false (by decide) ?_; wp_walk using PySem.AutoSeq1.wpAny_loadPart' hl)
      | (refine wpAny_ite_true (decide_eq_true c1) ?_; wp_walk using PySem.AutoSeq1.wpAny_loadPart' hl))
    exact ⟨_, rfl, h⟩
end EW

set_option maxRecDepth 100000
set_option maxHeartbeats 4000000
namespace EW
open PySem PySem.Spec PyProof.Rows L2
variable {cl : String → Addr} {X : Cx}
def rRep1 (K : PySem.W.Frag) : R2 := fun x y H Q => ∃ l xs, x = .ref l ∧ y = .int 1 ∧ SqT K H l xs ∧ Q (.ref l) H
theorem op_rep1 : OpR X (binaryOp .Mult) (rRep1 X.K) := by
  intro pins s σ H x y v u Q I rx ry h
  obtain ⟨l, xs, rfl, rfl, hT, q⟩ := h
  cases rx
  obtain ⟨t, rfl⟩ := ry
  obtain ⟨its, r, ⟨⟨cls, dd, data, sl⟩, ho, hc, n, hd⟩, hs⟩ := I.tuple hT
  simp only at hc hd
  subst hc hd
  refine wpAny_binaryOp_repeat_ref (T := "tuple") (U := "int") (by decide) ⟨_, ho, rfl⟩ (fun s' => typeIs_int s' 1 t) noFill_tuple_mul F.fills_int_mul F.slot_int_rmul repeat_tuple F.slot_int_index.lookup
    (call_meets F.slot_int_rmul (typeIs_int s 1 t) F.entry_int_rmul (F.args_int_rmul_2 _ _) (int_rmul_tuple 1 t l its.toArray n dd sl)
      ⟨ho, rfl, ⟨_, ho, rfl⟩, call_meets F.slot_tuple_mul ⟨_, ho, rfl⟩ F.entry_tuple_mul (F.args_tuple_mul_2 _ _) (tuple_one l its.toArray n dd sl t) ⟨ho, ?_⟩⟩)
  exact ⟨.ref l, H, I, rfl, q⟩
/-- (x,) * n, n one at least -/
@[irreducible] def rMulT : DR2 := fun x y M Q => match tpl x with
  | some xs => asI y fun k => xs ≠ [] ∧ 1 ≤ k ∧ k ≤ 1000 ∧ xs.length ≤ 1000 ∧ Q (.tup (List.replicate k.toNat xs).flatten) M ∧ (k = 1 → Q x M)
  | none => False
theorem o_mulT : DOp cl X (binaryOp .Mult) rMulT := imOp (op_rep1.or op_repT) fun x y H Q ⟨d, e, M, P, r1, r2, sm, r, f⟩ => by
  unfold rMulT at r
  split at r
  · next xs ex =>
    obtain ⟨k, rfl, hne, h1, h2, h3, q, q1⟩ := asI_elim r
    obtain ⟨p, vs, rfl, h4, h5⟩ := r1.tpl ex
    rw [r2.int']
    by_cases hk : k = 1
    · subst hk
      exact .inl ⟨p, vs, rfl, rfl, .inl h4, f _ _ _ _ (q1 rfl) Stab.refl sm r1⟩
    · refine .inr ⟨p, k, vs, rfl, rfl, .inl h4, fun e => ?_, by omega, h2, by rw [← h5.length]; exact h3, fun a ha => f _ _ _ _ q (Stab.new ha) (sm.lay ha) (.tup upd_same ((flatten_rep h5 _).mono (Stab.new ha)))⟩
      subst e
      exact hne (List.eq_nil_of_length_eq_zero h5.length)
  · exact r.elim
/-! ### sorted(a list of pairs of ints) -/
def pairsD (ps : List (Int × Int)) : List D := ps.map fun p => .tup [.int p.1, .int p.2]
def LexLe (p q : Int × Int) : Prop := p.1 < q.1 ∨ (p.1 = q.1 ∧ p.2 ≤ q.2)
@[irreducible] def rSortP : DRL := fun ds M Q => as1 ds fun d => ∃ ps : List (Int × Int), lsOf M d = some (pairsD ps) ∧ ∀ qs : List (Int × Int), qs.Perm ps → qs.Pairwise LexLe → ∀ p, M p = none → Q (.ref p) (up M p (.lst (pairsD qs)))
theorem pairs_back {K : PySem.W.Frag} {H : Hp} : ∀ {ps : List (Int × Int)} {vs : List V}, RpL K H (pairsD ps) vs → ∃ as : List Addr, vs = as.map V.ref ∧ as.length = ps.length ∧ ∀ (i : Nat) a p, as[i]? = some a → ps[i]? = some p → H a = some (.tup [.int p.1, .int p.2])
  | [], vs, h => ⟨[], by rw [h.nil']; rfl, rfl, fun i a p e => by simp at e⟩
  | (i, j) :: ps, vs, h => by
    cases h with
    | cons r t =>
      obtain ⟨a, ws, rfl, h1, h2⟩ := r.tup'
      obtain ⟨v1, v2, rfl, r1, r2⟩ := h2.two
      rw [r1.int', r2.int'] at h1
      obtain ⟨as, rfl, hl, hat⟩ := pairs_back t
      refine ⟨a :: as, rfl, by simp [hl], fun n b q e1 e2 => ?_⟩
      cases n with
      | zero => simp at e1 e2; subst e1 e2; exact h1
      | succ n => exact hat n b q (by simpa using e1) (by simpa using e2)
def pairAt (H : Hp) (v : V) : Int × Int := match v with
  | .ref a => match H a with
    | some (.tup [.int i, .int j]) => (i, j)
    | _ => (0, 0)
  | _ => (0, 0)
theorem pairs_of {K : PySem.W.Frag} {H : Hp} : ∀ {ps : List (Int × Int)} {vs : List V}, RpL K H (pairsD ps) vs → ps = vs.map (pairAt H) ∧ ∀ x ∈ vs, ∃ t, x = V.ref t ∧ H t = some (.tup [.int (pairAt H x).1, .int (pairAt H x).2])
  | [], vs, h => by rw [h.nil']; exact ⟨rfl, fun _ h => by cases h⟩
  | (i, j) :: ps, vs, h => by
    cases h with
    | cons r t =>
      obtain ⟨a, ws, rfl, h1, h2⟩ := r.tup'
      obtain ⟨v1, v2, rfl, r1, r2⟩ := h2.two
      rw [r1.int', r2.int'] at h1
      obtain ⟨e, hx⟩ := pairs_of t
      have hp : pairAt H (.ref a) = (i, j) := by simp [pairAt, h1]
      refine ⟨by rw [List.map_cons, hp, ← e], fun x hm => ?_⟩
      rcases List.mem_cons.mp hm with rfl | hm
      · exact ⟨a, rfl, by rw [hp]; exact h1⟩
      · exact hx x hm
theorem pairs_to {K : PySem.W.Frag} {H H' : Hp} (s : Stab H H') : ∀ {vs : List V}, (∀ x ∈ vs, ∃ t, x = V.ref t ∧ H t = some (.tup [.int (pairAt H x).1, .int (pairAt H x).2])) → RpL K H' (pairsD (vs.map (pairAt H))) vs
  | [], _ => .nil
  | v :: vs, h => by
    obtain ⟨t, rfl, ht⟩ := h v (List.mem_cons_self ..)
    exact .cons (.tup (s.tup _ _ ht) (.cons (.int _) (.cons (.int _) .nil))) (pairs_to s fun x hx => h x (List.mem_cons_of_mem _ hx))
theorem c_sortP : DCall cl X (.builtin "sorted") rSortP := imCall cr_sortedPO fun xs H Q ⟨ds, M, P, rr, sm, r, f⟩ => by
  unfold rSortP at r
  obtain ⟨d, rfl, ps, e, r⟩ := as1_elim r
  obtain ⟨v, rfl, r1⟩ := rr.one
  obtain ⟨a, vs, rfl, h1, h2⟩ := lsOf_ok e r1 sm
  obtain ⟨ep, hx⟩ := pairs_of h2
  refine ⟨a, vs, pairAt H, rfl, h1, hx, fun ys p hs hb hp => ?_⟩
  have hm : ∀ x ∈ ys, ∃ t, x = V.ref t ∧ H t = some (.tup [.int (pairAt H x).1, .int (pairAt H x).2]) := fun x hy => hx x (hb.perm.mem_iff.mp hy)
  refine f _ _ _ _ (r (ys.map (pairAt H)) (by rw [ep]; exact hb.perm.map _) ?_ p (sm.free hp)) (Stab.new hp) (sm.new (o := .lst _) hp ⟨ys, upd_same, pairs_to (Stab.new hp) hm⟩) (.ref p)
  refine List.pairwise_map.mpr (List.Pairwise.imp ?_ hs)
  intro x y hlt
  have := SrtO.lexB_no.mp hlt
  unfold LexLe
  omega
/-! ### sep.join(texts) -/
@[irreducible] def rJoin : DRM := fun x ds M Q => as1 ds fun d => match x with
  | .str a => ∃ ys : List Str, seqOf M d = some (ys.map D.str) ∧ (ys.map (·.length)).sum + ys.length * a.length ≤ 16777216 ∧ Q (.str (Txt.join a ys)) M
  | _ => False
theorem m_join : DMt cl X "str.join" rJoin := imMt mt_join fun x xs H Q ⟨d, ds, M, P, r1, rr, sm, r, f⟩ => by
  unfold rJoin at r
  obtain ⟨e, rfl, r0⟩ := as1_elim r
  clear r
  have r := r0
  clear r0
  obtain ⟨v, rfl, r2⟩ := rr.one
  split at r
  · obtain ⟨ys, e, hz, q⟩ := r
    obtain ⟨p, vs, rfl, h1, h2⟩ := seqOf_ok e r2 sm
    have h3 := strsV h2
    subst h3
    exact ⟨_, p, ys, r1.str', rfl, h1, hz, f _ _ _ _ q Stab.refl sm (.str _)⟩
  · exact r.elim
/-! ### three stores at once -/
def dPar3 (i j l : Nat) (ta tb tc : DTE) : DTS := fun E ρ M => ta ρ M fun v M1 => tb ρ M1 fun w M2 => tc ρ M2 fun z M3 => E.nx (((ρ.set i (some v)).set j (some w)).set l (some z)) M3
theorem ds_par3 (i j l : Nat) {x y z : Str} {a b c : Expr} {ta tb tc : DTE} {px py pz pt pos : Pos} {kt k2 : Nat} {pt2 : Pos} (hc : X.calm = true) (hN : X.N.Nodup) (ha : DE cl X a ta) (hb : DE cl X b tb) (hcc : DE cl X c tc) (hi : X.N[i]? = some x := by rfl) (hj : X.N[j]? = some y := by rfl) (hl : X.N[l]? = some z := by rfl)
    (hij : i ≠ j := by decide) (hil : i ≠ l := by decide) (hjl : j ≠ l := by decide) (hx : X.env.scope.names.lookup x = some .local := by rfl) (hy : X.env.scope.names.lookup y = some .local := by rfl) (hz : X.env.scope.names.lookup z = some .local := by rfl)
    (hw : swappedStores [.Tuple [.Name x px, .Name y py, .Name z pz] kt pt] (.Tuple [a, b, c] k2 pt2) X.env = pure (some [x, y, z]) := by rfl)
    (hs : swapsWithSole [.Tuple [.Name x px, .Name y py, .Name z pz] kt pt] (.Tuple [a, b, c] k2 pt2) pos.line X.env = pure false := by rfl)
    (s1 : starEach [a, b, c] X.env = (false, eval a X.env) :: starEach [b, c] X.env := by rfl) (s2 : starEach [b, c] X.env = (false, eval b X.env) :: starEach [c] X.env := by rfl) (s3 : starEach [c] X.env = (false, eval c X.env) :: starEach [] X.env := by rfl) :
    DS cl X (.Assign [.Tuple [.Name x px, .Name y py, .Name z pz] kt pt] (.Tuple [a, b, c] k2 pt2) pos) (dPar3 i j l ta tb tc) := ⟨imS (ps_par3 hc hN hi hj hl hij hil hjl hx hy hz (pa_cons ha.h (pa_cons hb.h (pa_cons hcc.h pa_nil s3) s2) s1) hw hs) fun F σ H ⟨ρ, M, E, er, sm, t, f⟩ =>
  ⟨ρ, M, _, er, sm, t, fun d M1 v H1 q s sm1 r1 => ⟨ρ, M1, _, er.mono s, sm1, q, fun e M2 w H2 q2 s2 sm2 r2 => ⟨ρ, M2, _, (er.mono s).mono s2, sm2, q2, fun g M3 w3 H3 q3 s3 sm3 r3 =>
    ⟨v, w, w3, rfl, f.nx _ _ _ _ q3 (s.trans (s2.trans s3)) ((((er.mono (s.trans (s2.trans s3))).set (r1.mono (s2.trans s3)) i).set (r2.mono s3) j).set r3 l) sm3⟩⟩⟩⟩⟩
/-! ### a starred target, last -/
def gStarV (K : PySem.W.Frag) (n : Nat) (t : TGs) : TG := fun v σ H Q => ∃ a xs, v = .ref a ∧ SqT K H a xs ∧ n ≤ xs.length ∧ xs.length ≤ 16384 ∧ ∀ D, H D = none → t (xs.take n ++ [.ref D]) σ (upd H D (.lst (xs.drop n))) Q
theorem pg_star {es es' : List Expr} {k n : Nat} {t : TGs} {pos : Pos} (hc : X.calm = true) (h : PGs X es' t) (he : (assignEach es X.env).map (·.2) = (assignEach es' X.env).map (·.2)) (hn : (assignEach es X.env).length = n + 1) (hst : (assignEach es X.env).findIdx? (·.1) = some n) : PG X (.Tuple es k pos) (gStarV X.K n t) := by
  refine ⟨fun pins s σ H v u Q I r hw => ?_⟩
  obtain ⟨a, xs, rfl, hq, hl, hz, hw⟩ := hw
  cases r
  obtain ⟨its, rv, ht, hsz⟩ := I.tuple hq
  have hle : xs.length = its.length := rv.length
  rw [assign_Tuple]
  refine wpAny_bind (wpAny_standAt ?_)
  unfold unpack
  rw [hn, hst]
  have hh := I.ok.hd hc
  have hlt : a ≠ s.heap.objs.size := by obtain ⟨o, ho, _⟩ := ht; exact Nat.ne_of_lt (Heap.lt_size ho)
  refine wpAny_bind (wpAny_holding ?_)
  unfold unpackItems
  refine wpAny_bind ?_
  unfold notIterableAtAll
  refine wpAny_bind (wpAny_specialOf ht.typeIs PyProof.Rows.slot_tuple_iter.lookup ?_)
  refine wpAny_pure ?_
  simp only [Bool.false_eq_true, if_false]
  refine wpAny_bind (wpAny_holding (iter_tuple ht ?_))
  refine wpAny_bind (wpAny_holding (draw_tuple hlt n 0 _ _ ⟨_, Heap.get?_push_size _ rfl, rfl, rfl⟩ (ht.push _) (by rw [List.size_toArray]; omega) fun h₁ hit₁ hs₁ => ?_))
  have hl₁ : IsTup h₁ a its.toArray := (ht.push _).extBut hs₁.extBut hlt
  rw [Nat.zero_add] at hit₁
  obtain ⟨oi, hoi, _⟩ := id hit₁
  obtain ⟨ol, hol, _⟩ := id hl₁
  rw [List.drop_zero]
  have hfl : (its.toArray.toList.take n).length = n := by rw [List.length_take]; simp; omega
  rw [if_neg (show ¬ ((its.toArray.toList.take n).length < n) by rw [hfl]; omega)]
  refine wpAny_bind (wpAny_holding (PySem.W.kun_collect (s := { s with heap := h₁ }) (T := "tuple_iterator") (.inr (.inr (.inr rfl))) (Walks.tuple (A := X.A.in1) hh s.heap.objs.size a hlt its.toArray) (fun j u st => st.1.typeIs) (k := n) (by simp; omega) ⟨hit₁, hl₁⟩ (Heap.lt_size hoi) (Heap.lt_size hol) (fun h₂ tk hk => ?_) (by rw [sizeLine_eq]; simp; omega)))
  show wpAny _ _ (if (its.toArray.toList.drop n).length < n + 1 - 1 - n then _ else _) _ _ _
  rw [if_neg (by omega)]
  have hmid : (its.toArray.toList.drop n).length - (n + 1 - 1 - n) = (its.drop n).length := by simp
  show wpAny _ _ (newList ((its.toArray.toList.drop n).take ((its.toArray.toList.drop n).length - (n + 1 - 1 - n))) >>= fun d => pure (its.toArray.toList.take n ++ [d] ++ (its.toArray.toList.drop n).drop ((its.toArray.toList.drop n).length - (n + 1 - 1 - n)))) _ _ _
  rw [hmid]
  have e1 : (its.toArray.toList.drop n).take (its.drop n).length = its.drop n := List.take_of_length_le (Nat.le_refl _)
  have e2 : (its.toArray.toList.drop n).drop (its.drop n).length = [] := List.drop_eq_nil_of_le (Nat.le_refl _)
  rw [e1, e2]
  simp only [List.append_nil]
  have hk2 : ∀ b o, s.heap.get? b = some o → h₂.get? b = some o := fun b o e =>
    hk b o (Nat.ne_of_lt (Heap.lt_size e)) (hs₁.extBut b o (Nat.ne_of_lt (Heap.lt_size e)) (Heap.get?_push_of_some _ e))
  have I1 : Inv X pins σ H { s with heap := h₂, toks := tk } := I.kept (t' := tk) hk2
  refine wpAny_bind (PySem.wpAny_newList ?_ (by rw [List.length_drop, sizeLine_eq]; omega))
  refine wpAny_pure ?_
  have I2 := I1.laid (t' := tk) (a := h₂.objs.size) (o := .lst (xs.drop n)) (h' := h₂.push { cls := .type "list", data := .seq (its.drop n).toArray }) (fun b o e => Heap.get?_push_of_some _ e) (Nat.le_refl _) ⟨by rw [List.length_drop, sizeLine_eq]; omega, its.drop n, 0, rv.drop n, Heap.get?_push_size _ rfl⟩
  have hN : H h₂.objs.size = none := I1.hok.fresh (Nat.le_refl _)
  rw [he]
  exact h.run pins _ σ _ _ _ Q I2 ((rv.take n).append (.cons (show RelV (.ref h₂.objs.size) (.ref h₂.objs.size) from rfl) .nil)) (hw _ hN)
/-! ### sum(d.values()) -/
def sumAt (M : Mem) (a : Addr) (k : Int → Prop) : Prop := match M a with
  | some (.dK kvs) => ∃ is : List Int, kvs.map (·.2) = is.map D.int ∧ k is.sum
  | some (.dT kvs) => ∃ is : List Int, kvs.map (·.2) = is.map D.int ∧ k is.sum
  | _ => False
@[irreducible] def sumOf (M : Mem) (d : D) (k : Int → Prop) : Prop := match d with
  | .ref a => sumAt M a k
  | _ => False
def dSumVals (to : DTE) : DTE := fun ρ M Q => to ρ M fun d M1 => sumOf M1 d fun n => Q (.int n) M1
theorem presum_list : ∀ (is : List Int) (n : Nat), n ≤ is.length → preSum (fun i => is.getD i 0) n = (is.take n).sum
  | is, 0, _ => by simp [preSum]
  | is, n + 1, h => by
    rw [preSum, presum_list is n (by omega), PyProof.Rows.take_sum_succ is n (by omega)]
theorem vals_ints {κ : Type} {K : PySem.W.Frag} {H : Hp} : ∀ {kvs : List (κ × D)} {vs : List (κ × V)} {is : List Int}, RpF K H kvs vs → kvs.map (·.2) = is.map D.int → vs.map (·.2) = is.map V.int
  | [], _, [], .nil, _ => rfl
  | [], _, _ :: _, _, e => by cases e
  | (k, d) :: kvs, (_, v) :: vs, [], _, e => by cases e
  | (k, d) :: kvs, (_, v) :: vs, i :: is, .cons r t, e => by
    simp only [List.map_cons, List.cons.injEq] at e
    have h1 : d = .int i := e.1
    subst h1
    rw [List.map_cons, List.map_cons, r.int', vals_ints t e.2]
/-- the raw dict at a, its values these ints -/
theorem raw_ints {pins : List (Addr × Obj)} {σ : L2.St} {H : Hp} {s : Shared} {a : Addr} {is : List Int} (I : Inv X pins σ H s) (h : (∃ vs, H a = some (.dK vs) ∧ vs.map (·.2) = is.map V.int) ∨ (∃ vs, H a = some (.dT vs) ∧ vs.map (·.2) = is.map V.int)) :
    (a == sysModules) = false ∧ ∃ es ep ob, s.heap.get? a = some ob ∧ ob.dict = none ∧ s.heap.DictRaw a es ep ∧ es.size = is.length ∧ ∀ i (hi : i < es.size), ∃ t, es[i].val = .int (is.getD i 0) t := by
  rcases h with ⟨vs, h1, h2⟩ | ⟨vs, h1, h2⟩
  · obtain ⟨_, hd, rs, rel, dd⟩ := dk_of I.hok h1
    obtain ⟨es, ep, raw, hsz, hat⟩ := dd.raw
    have hl : rs.length = is.length := by
      have := congrArg List.length h2
      simp only [List.length_map] at this
      rw [← this]; exact (KV.length rel).symm
    obtain ⟨ob, ho, hx, hdat⟩ := id raw
    refine ⟨hd, es, ep, ob, ho, hx.2.1, raw, by rw [hsz, hl], fun i hi => ?_⟩
    have hi' : i < rs.length := by rw [← hsz]; exact hi
    obtain ⟨_, hv⟩ := hat i hi rs[i].1 rs[i].2 (by simp [hi'])
    obtain ⟨x, k1, k2⟩ := KV.at' rel (i := i) (k := rs[i].1) (v := rs[i].2) (by simp [hi'])
    have e1 : (vs.map (·.2))[i]? = some x := by rw [List.getElem?_map, k1]; rfl
    rw [h2, List.getElem?_map] at e1
    obtain ⟨j, hj, rfl⟩ := Option.map_eq_some_iff.mp e1
    obtain ⟨t, e2⟩ := k2
    exact ⟨t, by rw [hv, e2, List.getD_eq_getElem?_getD, hj]; rfl⟩
  · obtain ⟨_, hd, rs, rel, dd⟩ := dt_of I.hok h1
    obtain ⟨es, ep, raw, hsz, hat⟩ := dd.raw
    have hl : rs.length = is.length := by
      have := congrArg List.length h2
      simp only [List.length_map] at this
      rw [← this]; exact (Paired.length rel).symm
    obtain ⟨ob, ho, hx, hdat⟩ := id raw
    refine ⟨hd, es, ep, ob, ho, hx.2.1, raw, by rw [hsz, hl], fun i hi => ?_⟩
    obtain ⟨y, hy, _, hv, _⟩ := hat i hi
    have key : ∀ {vs : List (List Key × V)} {rs : List (List Key × Addr × Value)} {i : Nat} {y}, KT H vs rs → rs[i]? = some y → ∃ x, (vs.map (·.2))[i]? = some x ∧ RelV x y.2.2 := by
      intro vs rs i y q
      induction q generalizing i with
      | nil => intro e; simp at e
      | cons hh tt ih =>
        intro e
        cases i with
        | zero => simp at e; subst e; exact ⟨_, rfl, hh.2.2⟩
        | succ i => obtain ⟨x, e1, e2⟩ := ih (i := i) (by simpa using e); exact ⟨x, by simpa using e1, e2⟩
    obtain ⟨x, e1, e2⟩ := key rel hy
    rw [h2, List.getElem?_map] at e1
    obtain ⟨j, hj, rfl⟩ := Option.map_eq_some_iff.mp e1
    obtain ⟨t, e3⟩ := e2
    exact ⟨t, by rw [hv, e3, List.getD_eq_getElem?_getD, hj]; rfl⟩
theorem d_sumVals {o : Expr} {to : DTE} {p pos apos mpos : Pos} (hc : X.calm = true) (hg : Gl X "sum") (hm : X.mg "sum" = none) (hd : DE cl X o to) (hbase : attributeBase o "values" X.env (eval o X.env) = eval o X.env := by rfl) (hline : (apos.endLine == mpos.line) = true := by rfl)
    (hse : starEach [Expr.Call (.Attribute o "values" apos) [] [] mpos] X.env = [(false, eval (Expr.Call (.Attribute o "values" apos) [] [] mpos) X.env)] := by rfl) :
    DE cl X (.Call (.Name "sum" p) [.Call (.Attribute o "values" apos) [] [] mpos] [] pos) (dSumVals to) := by
  refine ⟨⟨fun pins s σ H Q I ⟨ρ, M, P, er, sm, t, f⟩ => ?_⟩⟩
  refine wpAny_Call_Name_kw (ld_blt I hg hm (u := .builtin "sum") (by first | rfl | decide +kernel) ?_ (by first | decide +kernel | decide) (by first | decide +kernel | decide))
  rw [hse]
  refine PySem.callWith_builtin1 (wpAny_Call_method0_late hbase hline (thn (hd.h.run pins s σ H (fun x H1 => ∃ d M1, Stab H H1 ∧ Sim X.K cl M1 H1 ∧ Rp X.K H1 d x ∧ sumOf M1 d fun n => P (.int n) M1) I
    ⟨ρ, M, _, er, sm, t, fun d M1 v H1 q s sm1 r1 => ⟨d, M1, s, sm1, r1, q⟩⟩) fun v s1 ⟨x, H1, I1, r1, d, M1, st, sm1, rd, q⟩ => ?_))
  cases d with
  | ref a =>
    rw [rd.ref'] at r1
    cases r1
    have z : ∃ is : List Int, P (.int is.sum) M1 ∧ ((∃ vs, H1 a = some (.dK vs) ∧ vs.map (·.2) = is.map V.int) ∨ (∃ vs, H1 a = some (.dT vs) ∧ vs.map (·.2) = is.map V.int)) := by
      have q' : sumAt M1 a fun n => P (.int n) M1 := by unfold sumOf at q; exact q
      unfold sumAt at q'
      split at q'
      · next kvs e =>
        obtain ⟨is, e1, e2⟩ := q'
        obtain ⟨vs, k1, k2⟩ := sm1 a _ e
        exact ⟨is, e2, .inl ⟨vs, k1, vals_ints k2 e1⟩⟩
      · next kvs e =>
        obtain ⟨is, e1, e2⟩ := q'
        obtain ⟨vs, k1, k2⟩ := sm1 a _ e
        exact ⟨is, e2, .inr ⟨vs, k1, vals_ints k2 e1⟩⟩
      · exact q'.elim
    obtain ⟨is, hP, hH⟩ := z
    obtain ⟨hsys, es, ep, ob, ho, hdn, raw, hsz, hval⟩ := raw_ints I1 hH
    refine ⟨"dict", "dict.values", F.plainAttrs_dict, F.slot_dict_values, F.type_dict_values, raw.typeIs, fun b e => ?_, Calls.callWith_builtin rfl (PySem.evalArgs_none ?_)⟩
    · cases e
      exact ⟨ob, ho, hdn⟩
    refine call_meetsIn F.slot_dict_values raw.typeIs F.entry_dict_values (F.args_dict_values_1 _) (meets_dict_values_raw a hsys) ⟨⟨es, ep, raw⟩, ?_⟩
    refine call_sum_walkAnyS (wpAny_pyIter_values_raw (d := a) (es := es) (ep := ep) ⟨_, Heap.get?_push_size _ rfl, rfl, rfl⟩ (raw.at fun o e => Heap.get?_push_of_some _ e) ?_)
    have ha : a < s1.heap.objs.size := Heap.lt_size ho
    have hv1 : (s1.heap.push { cls := .type "dict_values", data := .fields #[.ref a] }).objs.size = s1.heap.objs.size + 1 := Heap.size_push ..
    refine ⟨_, _, _, _, es.size, _, _, (fun i => is.getD i 0), rfl, (Walks.rawValues (prog := X.prog) (w := X.w) (A := X.A.in1) (I.ok.hd hc) (s1.heap.push { cls := .type "dict_values", data := .fields #[.ref a] }).objs.size a (by rw [hv1]; exact Nat.ne_of_lt (Nat.lt_succ_of_lt ha)) es ep).toS, ⟨⟨_, Heap.get?_push_size _ rfl, rfl, ?_⟩, raw.at fun o e => Heap.get?_push_of_some _ (Heap.get?_push_of_some _ e)⟩, fun b hb => ?_, fun i v hi => ?_, fun s' t' hmv => ?_⟩
    · rfl
    · have hv2 : ∀ ob2 : Obj, ((s1.heap.push { cls := .type "dict_values", data := .fields #[.ref a] }).push ob2).objs.size = s1.heap.objs.size + 2 := fun ob2 => by rw [Heap.size_push, hv1]
      show b < ((s1.heap.push _).push _).objs.size
      rw [hv2]
      rcases List.mem_cons.mp hb with e | hb
      · rw [e, hv1]; exact Nat.lt_succ_self _
      · rw [List.mem_singleton.mp hb]; exact Nat.lt_succ_of_lt (Nat.lt_succ_of_lt ha)
    · obtain ⟨hi, rfl⟩ := hi
      exact hval i hi
    · have e : preSum (fun i => is.getD i 0) es.size = is.sum := by rw [presum_list is es.size (by omega), hsz, List.take_length]
      rw [e]
      rw [Moved.eq_with hmv]
      have hk : ∀ b o, s1.heap.get? b = some o → s'.heap.get? b = some o := fun b o e =>
        hmv.heap b o (fun hI => absurd (Heap.lt_size e) (by rw [List.mem_singleton.mp hI, hv1]; exact Nat.not_lt_of_le (Nat.le_succ _))) (Heap.get?_push_of_some _ (Heap.get?_push_of_some _ e))
      exact ⟨.int is.sum, H1, I1.kept (t' := s'.toks) hk, ⟨_, rfl⟩, f _ _ _ _ hP st sm1 (.int _)⟩
  | _ => unfold sumOf at q; exact q.elim
end EW

set_option maxRecDepth 100000
set_option maxHeartbeats 4000000
/-! EwIs: isinstance, the == that a class defines. -/
namespace EW
open PySem PySem.Spec PyProof.Rows L2
variable {cl : String → Addr} {X : Cx}
def tyN (M : Mem) (d : D) : Option String := match d with
  | .non => some "NoneType"
  | .bl _ => some "bool"
  | .int _ => some "int"
  | .str _ => some "str"
  | .tup _ => some "tuple"
  | .ft _ => some "tuple"
  | .rl _ => some "list"
  | .ref a => match M a with
    | some (.lst _) => some "list"
    | some (.dK _) => some "dict"
    | some (.dT _) => some "dict"
    | _ => none
def isB (n T : String) : Bool := n == T || (n == "bool" && T == "int")
/-- the types that a datum may have, against T -/
def IsTab (T : String) : Prop := ∀ n ∈ ["NoneType", "bool", "int", "str", "tuple", "list", "dict"], kitB n T = some (isB n T)
theorem tyN_ok {K : PySem.W.Frag} {M : Mem} {H : Hp} {d : D} {v : V} {n : String} (h : tyN M d = some n) (r : Rp K H d v) (sm : Sim K cl M H) : TyX K H v (.type n) ∧ n ∈ ["NoneType", "bool", "int", "str", "tuple", "list", "dict"] := by
  cases d with
  | non => cases h; rw [r.non']; exact ⟨.base .non, by decide⟩
  | bl b => cases h; rw [r.bl']; exact ⟨.base (.bl _), by decide⟩
  | int b => cases h; rw [r.int']; exact ⟨.base (.int _), by decide⟩
  | str b => cases h; rw [r.str']; exact ⟨.base (.str _), by decide⟩
  | tup b => cases h; obtain ⟨p, vs, rfl, h1, _⟩ := r.tup'; exact ⟨.base (.tup h1), by decide⟩
  | ft b => cases h; obtain ⟨p, vs, o, rfl, h1, _⟩ := r.ft'; exact ⟨.fTuple h1, by decide⟩
  | rl b =>
    cases h; obtain ⟨p, vs, rfl, h1, _⟩ := r.rl'
    rcases h1 with ⟨o, h1⟩ | ⟨o, its, m, h1, h2, _⟩
    · exact ⟨.base (.frz h1), by decide⟩
    · exact ⟨.kList h1 h2, by decide⟩
  | ref a =>
    rw [r.ref']
    have h' : (match M a with | some (.lst _) => some "list" | some (.dK _) => some "dict" | some (.dT _) => some "dict" | _ => none) = some n := h
    split at h'
    · next e => cases h'; obtain ⟨vs, h1, _⟩ := sm a _ e; exact ⟨.base (.lst h1), by decide⟩
    · next e => cases h'; obtain ⟨vs, h1, _⟩ := sm a _ e; exact ⟨.base (.dK h1), by decide⟩
    · next e => cases h'; obtain ⟨vs, h1, _⟩ := sm a _ e; exact ⟨.base (.dT h1), by decide⟩
    · cases h'
@[irreducible] def onIsi (T : String) (d : D) (M : Mem) (Q : DVK) : Prop := match tyN M d with
  | some n => Q (.bl (isB n T)) M
  | none => False
theorem on_isi {T n : String} {d : D} {M : Mem} {Q : DVK} {b : Bool} (h : tyN M d = some n) (e : isB n T = b) (q : Q (.bl b) M) : onIsi T d M Q := by
  unfold onIsi; rw [h]; show Q (.bl (isB n T)) M; rw [e]; exact q
def dIsi (T : String) (te : DTE) : DTE := fun ρ M Q => te ρ M fun d M1 => onIsi T d M1 Q
theorem d_isi {T : String} {x : Str} {e : Expr} {te : DTE} {p p2 pos : Pos} (tab : IsTab T) (hg : Gl X "isinstance") (hm : X.mg "isinstance" = none) (hg2 : Gl X x) (hm2 : X.mg x = none) (hv2 : bootBuiltins x = some (.type T)) (he : DE cl X e te) (hn : x ≠ "__name__" := by decide) (hd : (x == ("__debug__" : Str)) = false := by decide)
    (s1 : starEach [e, .Name x p2] X.env = (false, eval e X.env) :: starEach [.Name x p2] X.env := by rfl) (s2 : starEach [.Name x p2] X.env = (false, eval (.Name x p2) X.env) :: starEach [] X.env := by rfl)
    (hp : (backTo pos (starEach [.Name x p2] X.env)).any (·.1) = false := by rfl) : DE cl X (.Call (.Name "isinstance" p) [e, .Name x p2] [] pos) (dIsi T te) :=
  ⟨imE (pe_callB call_isi hg hm (by decide +kernel) (pa_cons he.h (pa_cons (pe_bltn hg2 hm2 hv2 (show RelV (.ty T) (.type T) from rfl) hn hd) pa_nil s2) s1) (by decide) (by decide) s1 hp) fun σ H Q ⟨ρ, M, P, er, sm, t, f⟩ =>
    ⟨ρ, M, _, er, sm, t, fun d M1 v H1 q s sm1 r1 => by
      unfold onIsi at q
      split at q
      · next n e =>
        obtain ⟨h1, h2⟩ := tyN_ok e r1 sm1
        exact ⟨v, .ty T, .type n, .type T, _, rfl, .ty T, h1, kit_ty (tab n h2), f _ _ _ _ q s sm1 (.bl _)⟩
      · exact q.elim⟩⟩
/-- an instance's type is its class -/
structure IsiC (K : PySem.W.Frag) (C : Addr) : Prop where
  c : Cls K C
  ha : PySem.W.findIn K (.ref C) "__class__" = some (some (.builtin "object.__class__"))
  hn : PySem.W.specialIn K (.builtin "object.__class__") "__get__" = some (some (.builtin "getset_descriptor.__get__"))
  htk : PySem.W.takesIn K (.builtin "object.__class__") = some true
  hm : PySem.W.mroIn K C (.type "object") = some true
def dIsiC (C : String) (te : DTE) : DTE := fun ρ M Q => te ρ M fun d M1 => insAt M1 d fun _ C' _ => C' = C ∧ Q (.bl true) M1
theorem d_isiC {C : String} {x : Str} {e : Expr} {te : DTE} {p p2 pos : Pos} (ic : IsiC X.K (cl C)) (hg : Gl X "isinstance") (hm : X.mg "isinstance" = none) (hg2 : Gl X x) (hm2 : X.mg x = some (.ref (cl C))) (he : DE cl X e te) (hd : (x == ("__debug__" : Str)) = false := by decide)
    (s1 : starEach [e, .Name x p2] X.env = (false, eval e X.env) :: starEach [.Name x p2] X.env := by rfl) (s2 : starEach [.Name x p2] X.env = (false, eval (.Name x p2) X.env) :: starEach [] X.env := by rfl)
    (hp : (backTo pos (starEach [.Name x p2] X.env)).any (·.1) = false := by rfl) : DE cl X (.Call (.Name "isinstance" p) [e, .Name x p2] [] pos) (dIsiC C te) :=
  ⟨imE (pe_callB call_isi hg hm (by decide +kernel) (pa_cons he.h (pa_cons (pe_glob hg2 hm2 (show RelV (.ref (cl C)) (.ref (cl C)) from rfl) hd) pa_nil s2) s1) (by decide) (by decide) s1 hp) fun σ H Q ⟨ρ, M, P, er, sm, t, f⟩ =>
    ⟨ρ, M, _, er, sm, t, fun d M1 v H1 q s sm1 r1 => by
      obtain ⟨a, C', fs, rfl, e1, rfl, q'⟩ := insAt_elim q
      obtain ⟨dx, vs, h1, h2⟩ := sm1 a _ e1
      refine ⟨v, .ref (cl C'), .ref (cl C'), .ref (cl C'), true, rfl, .own _, ?_, ?_, f _ _ _ _ q' s sm1 (.bl _)⟩
      · rw [r1.ref']; exact .base (.ins h1 ic.c ic.ha ic.hn ic.htk ic.hm)
      · unfold PySem.W.kitOne; rw [if_pos (by simp)]⟩⟩
/-! ### the == of a class -/
@[irreducible] def rEqOwn (C : String) (sp : DSp) : DR2 := fun x y M Q => insAt M x fun _ C' _ => C' = C ∧ insAt M y fun _ C2 _ => C2 = C ∧ sp [x, y] M fun r M' => asB r fun b => Q (.bl b) M'
theorem o_eqOwn {C : String} {k : Nat} {sp : DSp} (G : CalM cl X.prog X.w X.K X.mg X.base C "__eq__" k [] sp) (hr : Room k X.A) (hu : X.A.units < cLine) : DOp cl X (compareOp .Eq) (rEqOwn C sp) := by
  obtain ⟨f, fd, ps, ds, dvs, F, hm, hb, hd, hR⟩ := G.ex
  intro pins s σ H x y v u Q I rx ry h
  obtain ⟨d, e, M, P, r1, r2, sm, r, fin⟩ := h
  unfold rEqOwn at r
  obtain ⟨a, C', fs, rfl, e1, rfl, q1⟩ := insAt_elim r
  obtain ⟨b, C2, gs, rfl, e2, rfl, q2⟩ := insAt_elim q1
  obtain ⟨dx, vs, h1, _⟩ := sm a _ e1
  obtain ⟨dy, ws, h2, _⟩ := sm b _ e2
  rw [r1.ref'] at rx
  rw [r2.ref'] at ry
  cases rx
  cases ry
  obtain ⟨mA, J, _⟩ := ins_get I.hok h1
  obtain ⟨mB, J', _⟩ := ins_get I.hok h2
  obtain ⟨od, J, _⟩ := J.look
  obtain ⟨od', J', _⟩ := J'.look
  obtain ⟨m, hF⟩ := I.fr
  show wpAny (model X.prog X.w) X.A (richCompare .Eq (.ref a) (.ref b)) (EP X pins σ Q) X.xe s
  refine PySem.W.cmp_K (op := .Eq) (tb := .ref (cl C2)) hu hF I.ok.mod.kin J J'.type (by simp [PySem.W.notFirst]) hm.at_ hm.fn ?_
  have hdn : dvs = [] := (hR H).nil'
  subst hdn
  have hds : ds = [] := by cases hd; rfl
  subst hds
  refine wpAny_mono (run_fn (us := [.ref a, .ref b]) (vs := [.ref a, .ref b]) (E := E0) F hr hb hd pass0 I (.cons rfl (.cons rfl .nil)) (Q := fun w H' => (∃ z, w = .bl z) ∧ Q w H') ⟨_, M, _, .cons (.ref a) (.cons (.ref b) .nil), sm, q2, fun d' M' v' H' q' s' sm' r' => ?_⟩) (fun w s' z => ?_) fun _ _ z => z
  · obtain ⟨z, rfl, q'⟩ := asB_elim q'
    exact ⟨⟨z, r'.bl'⟩, fin _ _ _ _ q' s' sm' (by rw [r'.bl']; exact .bl z)⟩
  · obtain ⟨x', H', I', rw', ⟨z, rfl⟩, q'⟩ := z
    cases rw'
    exact ⟨.bl z, H', I', rfl, q'⟩
end EW

set_option maxRecDepth 100000
set_option maxHeartbeats 4000000
/-! EwTry: a try whose body raises nothing; get of a dict of the module. -/
namespace EW
open PySem PySem.Spec PyProof.Rows L2
variable {cl : String → Addr} {X : Cx}
theorem ps_tryN {body : List Stmt} {h₀ : ExceptHandler} {hds : List ExceptHandler} {pos : Pos} {tb : TS} (hb : ∀ (pn : List (Addr × Obj)) (xe : Value → Shared → Prop), PassesOwn (model X.prog X.w) X.A X.env xe → PSs (X.tr pn xe) body tb) : PS X (.Try body (h₀ :: hds) [] [] pos) tb := by
  refine ⟨fun pins s σ H D I h => ?_⟩
  have ok := I.ok
  refine wpAny_Try_except (wpAny_mono ((hb (X.pn ++ pins) (fun e s₁ => wpAny (model X.prog X.w) X.A (noteFrame e X.env) (fun _ s₂ => wpAny (model X.prog X.w) X.A (setFlight e none) (fun _ s₃ =>
    wpAny (model X.prog X.w) X.A (handleBy e X.env (h₀ :: hds)) (SP X pins D) X.xe s₃) X.xe s₂) X.xe s₁) PassesOwn.looking).run [] s σ H D (I.toTry _) h) (fun f s1 hsp => ?_) (fun e s1 he => he))
  cases f with
  | next => exact wpAny_execs_nil (let ⟨a, b, J, q⟩ := hsp; ⟨a, b, J.ofTry ok, q⟩)
  | brk => exact (let ⟨a, b, J, q⟩ := hsp; ⟨a, b, J.ofTry ok, q⟩)
  | cont => exact (let ⟨a, b, J, q⟩ := hsp; ⟨a, b, J.ofTry ok, q⟩)
  | ret u => exact (let ⟨v, a, b, J, r, q⟩ := hsp; ⟨v, a, b, J.ofTry ok, r, q⟩)
theorem ds_tryN {body : List Stmt} {h₀ : ExceptHandler} {hds : List ExceptHandler} {pos : Pos} {tb : DTS} (hb : ∀ (pn : List (Addr × Obj)) (xe : Value → Shared → Prop), PassesOwn (model X.prog X.w) X.A X.env xe → DSs cl (X.tr pn xe) body tb) : DS cl X (.Try body (h₀ :: hds) [] [] pos) tb :=
  ⟨ps_tryN fun pn xe hp => (hb pn xe hp).h⟩
/-! ### get of a dict of the module, its keys and values texts -/
structure KTab (X : Cx) (x : Str) (tab : List (Str × Str)) : Prop where
  ex : ∃ p es n, X.mg x = some (.ref p) ∧ X.K.lookup p = some ⟨.type "dict", none, .dict es n, #[]⟩ ∧ PySem.W.KeysLit X.w.params es.toList ∧ (p == sysModules) = false ∧ ∀ k v, tab.lookup k = some v → ∃ t, PySem.W.nsIn X.K p k = some (some (.str v t))
@[irreducible] def dKget (tab : List (Str × Str)) (te : DTE) : DTE := fun ρ M Q => te ρ M fun d M1 => match d with
  | .str k => match tab.lookup k with
    | some v => Q (.str v) M1
    | none => False
  | _ => False
theorem d_kget {x : Str} {tab : List (Str × Str)} {e : Expr} {te : DTE} {p0 apos cpos : Pos} (kt : KTab X x tab) (hg : Gl X x) (he : DE cl X e te) (hd : (x == ("__debug__" : Str)) = false := by decide) (hbase : attributeBase (.Name x p0) "get" X.env (eval (.Name x p0) X.env) = eval (.Name x p0) X.env := by rfl)
    (hline : (apos.endLine == cpos.line) = true := by rfl) (hs : starEach [e] X.env = [(false, eval e X.env)] := by rfl) : DE cl X (.Call (.Attribute (.Name x p0) "get" apos) [e] [] cpos) (dKget tab te) := by
  obtain ⟨p, es, n, hm, hk, hlit, hsys, htab⟩ := kt.ex
  refine ⟨⟨fun pins s σ H Q I ⟨ρ, M, P, er, sm, t, f⟩ => ?_⟩⟩
  unfold dKget at t
  refine wpAny_Call_method1_late hbase hline (by rw [hs]; rfl) (ld_glob I hg hm ?_ hd)
  have hm0 := PySem.W.mapOf_K (prog := X.prog) (w := X.w) I.kIn hk hlit
  refine ⟨"dict", "dict.get", F.plainAttrs_dict, F.slot_dict_get, F.type_dict_get, hm0.typeIs, fun a e => ?_, ?_⟩
  · cases e; exact ⟨_, I.kIn _ _ hk, rfl⟩
  · refine Calls.callWith_builtin rfl (Calls.evalArgs_plain ?_)
    have hA : PA X [e] (tCons (LE X.K cl te) tNil) := pa_cons he.h pa_nil hs
    have := hA.run cpos pins s σ H (fun xs H2 => ∃ k v M2, xs = [V.str k] ∧ tab.lookup k = some v ∧ Stab H H2 ∧ Sim X.K cl M2 H2 ∧ P (.str v) M2) I
      ⟨ρ, M, _, er, sm, t, fun d M2 v H2 q2 s2 sm2 r2 => by
        split at q2
        · next k =>
          split at q2
          · next w ew => exact ⟨k, w, M2, by rw [r2.str'], ew, s2, sm2, q2⟩
          · exact q2.elim
        · exact q2.elim⟩
    rw [hs] at this
    refine thn this fun us s2 ⟨xs, H2, I2, r2, k, v, M2, ex, ew, st2, sm2, q2⟩ => ?_
    subst ex
    obtain ⟨u, rfl, tk, rfl⟩ := vals1 r2
    obtain ⟨t2, en⟩ := htab k v ew
    have hm2 := PySem.W.mapOf_K (prog := X.prog) (w := X.w) I2.kIn hk hlit
    refine call_meetsIn PySem.F.slot_dict_get hm2.typeIs PySem.F.entry_dict_get (PySem.F.args_dict_get_2 _ _) (meets_dict_get (PySem.strKind X.prog X.w) p (PySem.strKind_is X.prog X.w k tk) hsys) ⟨_, hm2, ?_⟩
    rw [PySem.W.find_K hk en]
    exact ⟨.str v, H2, I2.tok _, ⟨t2, rfl⟩, f _ _ _ _ q2 st2 sm2 (.str v)⟩
end EW

set_option maxRecDepth 100000
set_option maxHeartbeats 4000000
/-! EwGlue: a def's entry, its promise from its body; a text walked. -/
namespace L2
open PySem
theorem Room.u65 {k : Nat} {A : Around} (r : Room k A) : A.units + 65 < cLine := by have := r.un; omega
theorem Room.u1 {k : Nat} {A : Around} (r : Room k A) : A.units + 1 < cLine := by have := r.un; omega
end L2
namespace EW
open PySem PySem.Spec PyProof.Rows L2
variable {cl : String → Addr} {X : Cx}
def signs (z : Str) : List D := z.cps.toList.map fun c => D.str ⟨#[c]⟩
def diStr (te : DTE) : DTI := fun ρ M Q => te ρ M fun d M1 => match d with
  | .str z => Q (signs z) (fun _ => True) M1
  | _ => False
theorem di_str {e : Expr} {te : DTE} {tg : Expr} (he : DE cl X e te) : DI cl X tg e (diStr te) :=
  ⟨imI (pi_str he.h) fun σ H R ⟨ρ, M, P, er, sm, t, f⟩ => ⟨ρ, M, _, er, sm, t, fun d M1 v H1 q s1 sm1 r1 => by
    split at q
    · next z =>
      refine ⟨z, r1.str', f _ _ _ _ _ q s1 sm1 ⟨fun H2 M2 s2 sm2 iv => ?_, fun i x H2 M2 hx s2 sm2 iv => ?_⟩⟩
      · show z.cps.size ≤ (signs z).length
        unfold signs
        simp
      · have hx' : (z.cps.toList.map fun c => D.str ⟨#[c]⟩)[i]? = some x := hx
        rw [List.getElem?_map] at hx'
        obtain ⟨c, hc, rfl⟩ := Option.map_eq_some_iff.mp hx'
        have hi : i < z.cps.size := by
          have := (List.getElem?_eq_some_iff.mp hc).1
          simpa using this
        refine ⟨hi, ?_⟩
        rintro v2 H3 ⟨rfl, c', h1, rfl⟩
        have : c' = c := by
          have e1 : z.cps.toList[i]? = some c' := by rw [Array.getElem?_toList]; exact h1
          rw [hc] at e1; cases e1; rfl
        subst this
        exact ⟨Stab.refl, sm2, .str _⟩
    · exact q.elim⟩⟩
/-! ### entries -/
def startD (N : List Str) (ds : List D) : Env := ds.map some ++ List.replicate (N.length - ds.length) none
theorem start_R {K : PySem.W.Frag} {H : Hp} {N : List Str} {ds : List D} {vs : List V} (r : RpL K H ds vs) : EnvR K H (startD N ds) (L2.start N vs) := by
  have hl := r.length
  refine ⟨by simp [startD, L2.start, hl], fun i d e => ?_⟩
  unfold startD at e
  unfold L2.start
  by_cases h : i < ds.length
  · rw [List.getElem?_append_left (by simpa using h), List.getElem?_map] at e
    obtain ⟨d', h1, h2⟩ := Option.map_eq_some_iff.mp e
    cases h2
    obtain ⟨v, h3, h4⟩ := r.get h1
    exact ⟨v, by rw [List.getElem?_append_left (by simp; omega), List.getElem?_map, h3]; rfl, h4⟩
  · rw [List.getElem?_append_right (by simpa using h)] at e
    rw [List.getElem?_replicate] at e
    split at e <;> cases e
/-- a def of the module, as the top wrote it -/
structure Glo (K : PySem.W.Frag) (mg : Str → Option Value) (x : Str) (st : Stmt) : Prop where
  ex : ∃ f fd, FunD K x x (defArgs st) (defBody st) (defScope st) [] [] f fd ∧ mg x = some (.ref f)
/-- .. of another name: x = y -/
structure GloA (K : PySem.W.Frag) (mg : Str → Option Value) (y x : Str) (st : Stmt) : Prop where
  ex : ∃ f fd, FunD K x x (defArgs st) (defBody st) (defScope st) [] [] f fd ∧ mg y = some (.ref f)
structure Mth (K : PySem.W.Frag) (C : Addr) (m qual : Str) (st : Stmt) (kws : List (Str × V)) : Prop where
  ex : ∃ f fd, FunD K m qual (defArgs st) (defBody st) (defScope st) [] kws f fd ∧ Meth K C m f
structure Ini (K : PySem.W.Frag) (mg : Str → Option Value) (C : Addr) (x qual : Str) (st : Stmt) : Prop where
  ex : ∃ f fd, FunD K "__init__" qual (defArgs st) (defBody st) (defScope st) [] [] f fd ∧ Mk K C f ∧ mg x = some (.ref C)
/-- what a body's walk says, whatever its frame -/
def Body (cl : String → Addr) (P : Program) (w : World) (K : PySem.W.Frag) (mg : Str → Option Value) (base : Heap) (N : List Str) (qual : Str) (st : Stmt) (k : Nat) (t : DTS) : Prop :=
  ∀ (f : Addr) (cdv : Value) (A : Around) (outer : List PySem.Env) (s : Shared) (H : Hp) (E : XK), Room k (A.deeper (envOfC qual (defScope st) s.heap.objs.size f cdv)) → DSs cl (cxOf CX0 P w K mg base N qual (defScope st) f cdv A outer s H E).nox (defBody st) t
/-- what the reading says, in plain Lean -/
def Pure (N ps : List Str) (sp : DSp) (t : DTS) : Prop := ∀ ds M P, sp ds M P → ds.length = ps.length ∧ t { nx := fun _ M' => P .non M', rt := P } (startD N ds) M
section
variable {P : Program} {w : World} {K : PySem.W.Frag} {mg : Str → Option Value} {base : Heap} {N ps : List Str} {qual x m : Str} {st : Stmt} {k : Nat} {sp : DSp} {t : DTS} {f : Addr} {fd : FuncData} {kws : List (Str × V)}
theorem fn_ok (F : FunD K x qual (defArgs st) (defBody st) (defScope st) [] kws f fd) (S : FnScope N ps (defScope st)) (hw : Body cl P w K mg base N qual st k t) (hp : Pure N ps sp t) : FnOk P w K mg base CX0 (k + 1) f fd ps (LSp K cl sp) := by
  refine F.ok S (fun vs H Q E h => ?_) (fun cdv A outer s H vs Q E hr h => ?_)
  · obtain ⟨ds, M, P', r, sm, q, _⟩ := h
    rw [← r.length]
    exact (hp ds M P' q).1
  · obtain ⟨ds, M, P', r, sm, q, fin⟩ := h
    refine ⟨LS K cl t, PSs.nox (hw f cdv A outer s H E hr).h, startD N ds, M, _, start_R r, sm, (hp ds M P' q).2, ⟨?_, ?_, ?_, ?_⟩⟩
    · exact fun ρ M' σ H' p st' er sm' => fin _ _ _ _ p st' sm' .non
    · exact fun d M' v H' p st' sm' r' => fin _ _ _ _ p st' sm' r'
    · exact fun ρ M' σ H' p => p.elim
    · exact fun ρ M' σ H' p => p.elim
theorem cal_of (G : Glo K mg x st) (S : FnScope N ps (defScope st)) (hb : ∀ (kV doc pm : Value) (an : Option Addr) (cdv ct : Value) (us : List Value), us.length = ps.length → bindArgs (PySem.W.fnOf x x (defArgs st) (defBody st) (defScope st) .none kV doc pm an cdv ct) ⟨us, []⟩ = pure (ps.zip us))
    (hw : Body cl P w K mg base N x st k t) (hp : Pure N ps sp t) : Cal cl P w K mg base x (k + 1) [] sp := by
  obtain ⟨f, fd, F, hm⟩ := G.ex
  exact ⟨f, fd, ps, [], [], fn_ok F S hw hp, hm, F.kp, F.bindsN hb, .nil, fun _ => .nil⟩
theorem calA_of {y : Str} (G : GloA K mg y x st) (S : FnScope N ps (defScope st)) (hb : ∀ (kV doc pm : Value) (an : Option Addr) (cdv ct : Value) (us : List Value), us.length = ps.length → bindArgs (PySem.W.fnOf x x (defArgs st) (defBody st) (defScope st) .none kV doc pm an cdv ct) ⟨us, []⟩ = pure (ps.zip us))
    (hw : Body cl P w K mg base N x st k t) (hp : Pure N ps sp t) : Cal cl P w K mg base y (k + 1) [] sp := by
  obtain ⟨f, fd, F, hm⟩ := G.ex
  exact ⟨f, fd, ps, [], [], fn_ok F S hw hp, hm, F.kp, F.bindsN hb, .nil, fun _ => .nil⟩
theorem calM_of {C : String} (G : Mth K (cl C) m qual st []) (S : FnScope N ps (defScope st)) (hb : ∀ (kV doc pm : Value) (an : Option Addr) (cdv ct : Value) (us : List Value), us.length = ps.length → bindArgs (PySem.W.fnOf m qual (defArgs st) (defBody st) (defScope st) .none kV doc pm an cdv ct) ⟨us, []⟩ = pure (ps.zip us))
    (hw : Body cl P w K mg base N qual st k t) (hp : Pure N ps sp t) : CalM cl P w K mg base C m (k + 1) [] sp := by
  obtain ⟨f, fd, F, hm⟩ := G.ex
  exact ⟨f, fd, ps, [], [], fn_ok F S hw hp, hm, F.bindsN hb, .nil, fun _ => .nil⟩
/-- .. with one keyword-only parameter that is left to its default, a truth value -/
theorem calMk_of {C : String} {y : Str} {b : Bool} (n : Nat) (G : Mth K (cl C) m qual st [(y, .bl b)]) (S : FnScope N ps (defScope st)) (hn : n + 1 = ps.length)
    (hb : ∀ (D : Addr) (doc pm : Value) (an : Option Addr) (cdv ct : Value) (us ks : List Value), us.length = n → ks.length = 1 → KwChain D (([(y, V.bl b)].map (·.1)).zip ks) (bindArgs (PySem.W.fnOf m qual (defArgs st) (defBody st) (defScope st) .none (.ref D) doc pm an cdv ct) ⟨us, []⟩) (ps.zip (us ++ ks)))
    (hw : Body cl P w K mg base N qual st k t) (hp : Pure N ps sp t) : CalM cl P w K mg base C m (k + 1) [.bl b] sp := by
  obtain ⟨f, fd, F, hm⟩ := G.ex
  obtain ⟨ds, hv, hbd⟩ := F.binds0 n (by simp) (by simpa using hn) hb
  exact ⟨f, fd, ps, ds, [.bl b], fn_ok F S hw hp, hm, hbd, hv, fun _ => .cons (.bl b) .nil⟩
theorem calI_of {C : String} (G : Ini K mg (cl C) x qual st) (S : FnScope N ps (defScope st)) (hb : ∀ (kV doc pm : Value) (an : Option Addr) (cdv ct : Value) (us : List Value), us.length = ps.length → bindArgs (PySem.W.fnOf "__init__" qual (defArgs st) (defBody st) (defScope st) .none kV doc pm an cdv ct) ⟨us, []⟩ = pure (ps.zip us))
    (hw : Body cl P w K mg base N qual st k t) (hp : Pure N ps sp t) : CalI cl P w K mg base C x (k + 1) [] sp := by
  obtain ⟨f, fd, F, hm, hg⟩ := G.ex
  exact ⟨f, fd, ps, [], [], fn_ok F S hw hp, hm, hg, F.bindsN hb, .nil, fun _ => .nil⟩
end
end EW

set_option maxRecDepth 100000
/-! EwEntry: how a law is entered. -/
namespace EW
open PySem PySem.Spec PyProof.Rows L2
def entry (K : PySem.W.Frag) (n : Nat) : Sp := fun vs H Q _ => ∃ (a : Addr) (ns : List Int), vs = [.ref a] ∧ Only H ∧ SqL K H a (ns.map V.int) ∧ ns.length ≤ n ∧ ∀ H', Q (.bl true) H'
theorem rp_ints {K : PySem.W.Frag} {H : Hp} : ∀ ns : List Int, RpL K H (ns.map D.int) (ns.map V.int)
  | [] => .nil
  | n :: ns => .cons (.int n) (rp_ints ns)
theorem rdL_only {K : PySem.W.Frag} {H : Hp} {a : Addr} {xs : List V} (o : Only H) (h : SqL K H a xs) : RdL K H a xs := by
  rcases h with h | h
  · rcases o a with q | ⟨ob, ys, q⟩
    · rcases h with h | ⟨ob', h⟩ <;> (rw [q] at h; cases h)
    · rcases h with h | ⟨ob', h⟩
      · rw [q] at h; cases h
      · exact .inl ⟨ob', h⟩
  · exact .inr h
theorem entry_of {cl : String → Addr} {P : Program} {w : World} {K : PySem.W.Frag} {mg : Str → Option Value} {base : Heap} {k n : Nat} {f : Addr} {fd : FuncData} {x : Str} {sp : DSp} (h : FnOk P w K mg base CX0 k f fd [x] (LSp K cl sp))
    (hsp : ∀ (d : D) (ns : List Int) (M : Mem), lsOf M d = some (ns.map D.int) → ns.length ≤ n → sp [d] M fun r _ => r = .bl true) : FnOk P w K mg base CX0 k f fd [x] (entry K n) :=
  ⟨fun vs H Q E ⟨a, ns, e, _⟩ => by rw [e]; rfl, fun A outer s H args us vs Q E rm ev bt vl ⟨a, ns, e, o, hS, hl, hQ⟩ =>
    h.run A outer s H args us vs Q E rm ev bt vl ⟨[.rl (ns.map D.int)], fun _ => none, fun r _ => r = .bl true, by
      rw [e]; exact .cons (.rl (rdL_only o hS) (rp_ints ns)) .nil, (fun _ _ z => nomatch z), hsp (.rl (ns.map D.int)) ns _ rfl hl, fun d M v H' hd _ _ hr => by
      (subst hd; cases hr; exact hQ H')⟩⟩
end EW

set_option maxRecDepth 100000
set_option maxHeartbeats 4000000
/-! EwLast: short forms that the printer uses. -/
namespace EW
open PySem PySem.Spec PyProof.Rows L2
variable {cl : String → Addr} {X : Cx}
theorem d_gintE {x : Str} {i : Int} {pos : Pos} (h : ∃ t, X.mg x = some (.int i t)) (hg : Gl X x) (hd : (x == ("__debug__" : Str)) = false := by decide) : DE cl X (.Name x pos) (dC (.int i)) :=
  let ⟨t, e⟩ := h; d_gint hg e ⟨t, rfl⟩ hd
theorem d_gstrE {x : Str} {i : Str} {pos : Pos} (h : ∃ t, X.mg x = some (.str i t)) (hg : Gl X x) (hd : (x == ("__debug__" : Str)) = false := by decide) : DE cl X (.Name x pos) (dC (.str i)) :=
  let ⟨t, e⟩ := h; d_gstr hg e ⟨t, rfl⟩ hd
theorem tab_tuple : IsTab "tuple" := by intro n h; simp only [List.mem_cons, List.not_mem_nil, or_false] at h; rcases h with rfl | rfl | rfl | rfl | rfl | rfl | rfl <;> decide +kernel
theorem tab_str : IsTab "str" := by intro n h; simp only [List.mem_cons, List.not_mem_nil, or_false] at h; rcases h with rfl | rfl | rfl | rfl | rfl | rfl | rfl <;> decide +kernel
theorem tab_int : IsTab "int" := by intro n h; simp only [List.mem_cons, List.not_mem_nil, or_false] at h; rcases h with rfl | rfl | rfl | rfl | rfl | rfl | rfl <;> decide +kernel
theorem tab_bool : IsTab "bool" := by intro n h; simp only [List.mem_cons, List.not_mem_nil, or_false] at h; rcases h with rfl | rfl | rfl | rfl | rfl | rfl | rfl <;> decide +kernel
theorem tab_list : IsTab "list" := by intro n h; simp only [List.mem_cons, List.not_mem_nil, or_false] at h; rcases h with rfl | rfl | rfl | rfl | rfl | rfl | rfl <;> decide +kernel
theorem tab_dict : IsTab "dict" := by intro n h; simp only [List.mem_cons, List.not_mem_nil, or_false] at h; rcases h with rfl | rfl | rfl | rfl | rfl | rfl | rfl <;> decide +kernel
def blkB (N : List Str) (sc scope : Scope) (own : List (Str × Nat)) : Bool := decide (scope.kind = .function) && scope.names.all (fun y => decide (scope.names.lookup y.1 = some y.2)) && own.all (fun p => decide (N[p.2]? = some p.1)) &&
  scope.names.all (fun y => decide (y.2 ≠ .free) || decide (sc.names.lookup y.1 = some .cell) || decide (sc.names.lookup y.1 = some .free)) && scope.names.all (fun y => decide (¬ (y.2 = .local ∨ y.2 = .cell)) || decide (y.1 ∈ own.map (·.1)) || decide (y.1 ∉ N))
theorem blk_ok {N : List Str} {sc scope : Scope} {own : List (Str × Nat)} (h : blkB N sc scope own = true) : BlkOk N sc scope own := by
  unfold blkB at h
  simp only [Bool.and_eq_true, List.all_eq_true, decide_eq_true_eq, Bool.or_eq_true] at h
  obtain ⟨⟨⟨⟨h1, h2⟩, h3⟩, h4⟩, h5⟩ := h
  exact ⟨h1, h2, h3, fun y hy e => (h4 y hy).elim (fun z => z.elim (fun n => absurd e n) .inl) .inr, fun y hy e => (h5 y hy).elim (fun z => z.elim (fun n => absurd e n) .inl) .inr⟩
theorem dss_nil : DSs cl X [] dNext := ds_nil
def gStar (n : Nat) (t : DTGs) : DTG := fun d ρ M Q => match tpl d with
  | some xs => n ≤ xs.length ∧ xs.length ≤ 16384 ∧ ∀ p, M p = none → t (xs.take n ++ [.ref p]) ρ (up M p (.lst (xs.drop n))) Q
  | none => False
theorem dg_star {k n : Nat} {gs : DTGs} {es es' : List Expr} {pos : Pos} (hc : X.calm = true) (h : DGs cl X es' gs) (he : (assignEach es X.env).map (·.2) = (assignEach es' X.env).map (·.2) := by rfl) (hn : (assignEach es X.env).length = n + 1 := by rfl) (hst : (assignEach es X.env).findIdx? (·.1) = some n := by rfl) : DG cl X (.Tuple es k pos) (gStar n gs) :=
  ⟨imG (pg_star hc h.h he hn hst) fun v σ H Q ⟨d, ρ, M, P, r, er, sm, t, f⟩ => by
    unfold gStar at t
    split at t
    · next xs e =>
      obtain ⟨p, vs, rfl, h1, h2⟩ := r.tpl e
      obtain ⟨t1, t2, t3⟩ := t
      refine ⟨p, vs, rfl, .inl h1, by rw [← h2.length]; exact t1, by rw [← h2.length]; exact t2, fun a ha => ?_⟩
      have st : Stab H (upd H a (.lst (vs.drop n))) := Stab.new ha
      exact ⟨_, ρ, _, P, (((h2.take n).mono st).append (.cons (.ref a) .nil)), er.mono st, sm.new (o := .lst _) ha ⟨_, upd_same, (h2.drop n).mono st⟩, t3 a (sm.free ha), f.from st⟩
    · exact t.elim⟩
end EW

set_option maxRecDepth 100000
set_option maxHeartbeats 4000000
/-! EwTool: what the plain laws lean on: memories that grow, loops and comprehensions by what each turn does. -/
namespace EW
open PySem PySem.Spec PyProof.Rows L2
/-- what stood still stands -/
def Ext (M M' : Mem) : Prop := ∀ a o, M a = some o → M' a = some o
/-- .. but for these places -/
def Fr (S : List Addr) (M M' : Mem) : Prop := ∀ a o, M a = some o → a ∉ S → M' a = some o
theorem Ext.refl {M : Mem} : Ext M M := fun _ _ h => h
theorem Ext.trans {M M1 M2 : Mem} (a : Ext M M1) (b : Ext M1 M2) : Ext M M2 := fun p o h => b p o (a p o h)
theorem Ext.new {M : Mem} {p : Addr} {o : MO} (h : M p = none) : Ext M (up M p o) := fun a u e => by
  rw [up_ne (fun q => by subst q; rw [h] at e; cases e)]; exact e
theorem Ext.fr {M M' : Mem} {S : List Addr} (h : Ext M M') : Fr S M M' := fun a o e _ => h a o e
theorem Fr.refl {S : List Addr} {M : Mem} : Fr S M M := fun _ _ h _ => h
theorem Fr.trans {S : List Addr} {M M1 M2 : Mem} (a : Fr S M M1) (b : Fr S M1 M2) : Fr S M M2 := fun p o h n => b p o (a p o h n) n
theorem Fr.ext {S : List Addr} {M M1 M2 : Mem} (a : Fr S M M1) (b : Ext M1 M2) : Fr S M M2 := a.trans b.fr
theorem Fr.wr {S : List Addr} {M : Mem} {p : Addr} {o : MO} (h : p ∈ S) : Fr S M (up M p o) := fun a u e n => by
  rw [up_ne (fun q => n (by rw [q]; exact h))]; exact e
theorem Fr.mono {S T : List Addr} {M M1 : Mem} (a : Fr S M M1) (h : ∀ x ∈ S, x ∈ T) : Fr T M M1 := fun p o e n => a p o e fun q => n (h p q)
/-- a place written, counted from an older memory where it was not -/
theorem Ext.wr {M M1 : Mem} {p : Addr} {o : MO} (a : Ext M M1) (h : M p = none) : Ext M (up M1 p o) := fun b u e => by
  rw [up_ne (fun q => by subst q; rw [h] at e; cases e)]; exact a b u e
theorem Fr.wrN {S : List Addr} {M M1 : Mem} {p : Addr} {o : MO} (a : Fr S M M1) (h : M p = none) : Fr S M (up M1 p o) := fun b u e n => by
  rw [up_ne (fun q => by subst q; rw [h] at e; cases e)]; exact a b u e n
/-! ### comprehensions -/
def item (pt : Pat) (tt : DTT) (te : DTE) (ρ : Env) (x : D) (M : Mem) (R : Option D → Mem → Prop) : Prop := bindP pt x ρ fun ρ2 => tt ρ2 M fun b M3 => if b = true then te ρ2 M3 fun y M4 => R (some y) M4 else R none M3
section
variable {inv : Mem → Prop} {pt : Pat} {tt : DTT} {te : DTE} {ρ : Env} {a : Addr} {Q : Mem → Prop} {xs : List D} {M M1 : Mem}
theorem wComp_cons {x : D} : wComp inv pt tt te ρ a Q (x :: xs) M ↔ inv M ∧ item pt tt te ρ x M (fun o M4 => match o with
    | some y => ∃ acc, M4 a = some (.lst acc) ∧ acc.length < sizeLine ∧ wComp inv pt tt te ρ a Q xs (up M4 a (.lst (acc ++ [y])))
    | none => wComp inv pt tt te ρ a Q xs M4) := Iff.rfl
theorem comp_go {f : D → Option D} (hi : ∀ M, Ext M1 M → inv M) (ha : M1 a = none) : ∀ (xs : List D) (acc : List D) (M : Mem), (∀ x ∈ xs, ∀ M, Ext M1 M → ∀ R : Option D → Mem → Prop, (∀ M', Ext M M' → R (f x) M') → item pt tt te ρ x M R) →
    Ext M1 M → M a = some (.lst acc) → acc.length + xs.length ≤ sizeLine → (∀ M', Ext M1 M' → M' a = some (.lst (acc ++ xs.filterMap f)) → Q M') → wComp inv pt tt te ρ a Q xs M
  | [], acc, M, _, e, h, _, hQ => ⟨hi M e, hQ M e (by simpa using h)⟩
  | x :: xs, acc, M, hx, e, h, hl, hQ => by
    refine wComp_cons.mpr ⟨hi M e, hx x (List.mem_cons_self ..) M e _ fun M' e' => ?_⟩
    have h' := e' _ _ h
    cases hf : f x with
    | none => exact comp_go hi ha xs acc M' (fun y hy => hx y (List.mem_cons_of_mem _ hy)) (e.trans e') h' (by simp only [List.length_cons] at hl; omega) (by simpa [List.filterMap_cons, hf] using hQ)
    | some y =>
      refine ⟨acc, h', by simp only [List.length_cons] at hl; omega, comp_go hi ha xs (acc ++ [y]) _ (fun y hy => hx y (List.mem_cons_of_mem _ hy)) ((e.trans e').wr ha) up_same (by simp only [List.length_cons, List.length_append, List.length_nil] at hl ⊢; omega) ?_⟩
      simpa [List.filterMap_cons, hf, List.append_assoc] using hQ
theorem item_yes {x : D} {R : Option D → Mem → Prop} (h : bindP pt x ρ fun ρ2 => te ρ2 M fun y M4 => R (some y) M4) : item pt dYes te ρ x M R := by
  unfold item dYes
  simp only [if_true]
  exact h
/-- each turn gives f x and leaves what stood -/
theorem comp_ext (f : D → Option D) (ha : M1 a = none) (hi : ∀ M, Ext M1 M → inv M) (hl : xs.length ≤ sizeLine) (hx : ∀ x ∈ xs, ∀ M, Ext M1 M → ∀ R : Option D → Mem → Prop, (∀ M', Ext M M' → R (f x) M') → item pt tt te ρ x M R)
    (hQ : ∀ M', Ext M1 M' → M' a = some (.lst (xs.filterMap f)) → Q M') : wComp inv pt tt te ρ a Q xs (up M1 a (.lst [])) :=
  comp_go hi ha xs [] _ hx (Ext.new ha) up_same (by simpa using hl) (by simpa using hQ)
/-- with a state of its own: J i acc M -/
theorem comp_st (J : List D → List D → Mem → Prop) (hi : ∀ d r acc M, xs = d ++ r → J d acc M → inv M) (hx : ∀ d x r acc M, xs = d ++ x :: r → J d acc M → ∀ R : Option D → Mem → Prop, (∀ y M', J (d ++ [x]) (acc ++ [y]) (up M' a (.lst (acc ++ [y]))) → M' a = some (.lst acc) → R (some y) M') → (∀ M', J (d ++ [x]) acc M' → R none M') → item pt tt te ρ x M R)
    (hl : ∀ d acc M, J d acc M → acc.length ≤ d.length) (hz : xs.length ≤ sizeLine) (h0 : J [] [] M) (hQ : ∀ acc M', J xs acc M' → Q M') : wComp inv pt tt te ρ a Q xs M := by
  have go : ∀ (r d acc : List D) (M : Mem), xs = d ++ r → J d acc M → wComp inv pt tt te ρ a Q r M := by
    intro r
    induction r with
    | nil => intro d acc M e j; exact ⟨hi d [] acc M e j, hQ acc M (by rw [e]; simpa using j)⟩
    | cons x r ih =>
      intro d acc M e j
      refine wComp_cons.mpr ⟨hi d _ acc M e j, hx d x r acc M e j _ (fun y M' j' h' => ⟨acc, h', ?_, ih (d ++ [x]) _ _ (by rw [e]; simp) j'⟩) fun M' j' => ih (d ++ [x]) acc M' (by rw [e]; simp) j'⟩
      have := hl d acc M j
      have e2 : xs.length = d.length + (r.length + 1) := by rw [e]; simp
      omega
  exact go xs [] [] M rfl h0
end
theorem dc_yes {k : Bool} {inv : Mem → Prop} {pt : Pat} {tk tv : DTE} {ρ : Env} {a : Addr} {Q : Mem → Prop} {xs : List D} {M : Mem} (J : List D → Mem → Prop) (hi : ∀ d r M, xs = d ++ r → J d M → inv M)
    (hx : ∀ d x r M, xs = d ++ x :: r → J d M → ∀ N : Mem → Prop, (∀ M', J (d ++ [x]) M' → N M') → bindP pt x ρ fun ρ2 => tk ρ2 M fun y M4 => tv ρ2 M4 fun z M5 => (match M5 a with | some (.dK _) => True | some (.dT _) => True | _ => False) ∧ dPut (.ref a) y z M5 N)
    (h0 : J [] M) (hQ : ∀ M', J xs M' → Q M') : wDc inv pt dYes tk tv ρ a Q xs M := by
  have go : ∀ (r d : List D) (M : Mem), xs = d ++ r → J d M → wDc inv pt dYes tk tv ρ a Q r M := by
    intro r
    induction r with
    | nil => intro d M e j; exact ⟨hi d [] M e j, hQ M (by rw [e]; simpa using j)⟩
    | cons x r ih =>
      intro d M e j
      refine ⟨hi d _ M e j, ?_⟩
      unfold dYes
      simp only [if_true]
      exact hx d x r M e j _ fun M' j' => ih (d ++ [x]) M' (by rw [e]; simp) j'
  exact go xs [] M rfl h0
theorem sort_pairs {M : Mem} {Q : DVK} {a : Addr} {ps : List (Int × Int)} (h : M a = some (.lst (pairsD ps))) (q : ∀ qs : List (Int × Int), qs.Perm ps → qs.Pairwise LexLe → ∀ p, M p = none → Q (.ref p) (up M p (.lst (pairsD qs)))) : rSortP [.ref a] M Q := by
  simp only [rSortP, as1]; exact ⟨ps, lstAt_of h, q⟩
/-! ### for -/
section
variable {inv : Mem → Prop} {g : DTG} {tb : DTS} {E : DEnds} {xs : List D} {ρ : Env} {M : Mem}
theorem for_ok (J : List D → Env → Mem → Prop) (hi : ∀ d r ρ M, xs = d ++ r → J d ρ M → inv M)
    (hx : ∀ d x r ρ M, xs = d ++ x :: r → J d ρ M → ∀ N : Env → Mem → Prop, (∀ ρ' M', J (d ++ [x]) ρ' M' → N ρ' M') → g x ρ M fun ρ' M' => tb { E with nx := N, ct := N, bk := E.nx } ρ' M')
    (h0 : J [] ρ M) (he : ∀ ρ M, J xs ρ M → E.nx ρ M) : wLoop inv g tb E xs ρ M := by
  have go : ∀ (r d : List D) (ρ : Env) (M : Mem), xs = d ++ r → J d ρ M → wLoop inv g tb E r ρ M := by
    intro r
    induction r with
    | nil => intro d ρ M e j; exact ⟨hi d [] ρ M e j, he ρ M (by rw [e]; simpa using j)⟩
    | cons x r ih => intro d ρ M e j; exact ⟨hi d _ ρ M e j, hx d x r ρ M e j _ fun ρ' M' j' => ih (d ++ [x]) ρ' M' (by rw [e]; simp) j'⟩
  exact go xs [] ρ M rfl h0
end
/-! ### what dicts of constant keys hold -/
theorem inr_ne {x y : Str} (h : x ≠ y) : ¬ (Sum.inr x : Key) = Sum.inr y := fun e => h (Sum.inr.inj e)
theorem valD_hd {κ : Type} [DecidableEq κ] {k : κ} {d : D} {r : List (κ × D)} : valD ((k, d) :: r) k = some d := by simp [valD]
theorem valD_tl {κ : Type} [DecidableEq κ] {k j : κ} {d : D} {r : List (κ × D)} (h : ¬ k = j) : valD ((k, d) :: r) j = valD r j := by simp [valD, h]
/-! ### operators, by what their arguments are -/
section
variable {M : Mem} {Q : DVK} {a : Addr}
theorem lstAt_some {xs : List D} (h : M a = some (.lst xs)) : lstAt M a = some xs := lstAt_of h
theorem ix_dK {kvs : List (Key × D)} {k : Str} {d : D} (h : M a = some (.dK kvs)) (hv : valD kvs (.inr k) = some d) (q : Q d M) : rIxA (.ref a) (.str k) M Q := by
  unfold rIxA; simp only [seqOf, lstAt, h]; unfold dFind; simp only [h, hv]; exact q
theorem ix_dT {kvs : List (List Key × D)} {ds : List D} {ks : List Key} {d : D} (h : M a = some (.dT kvs)) (hk : toKs ds = some ks) (hv : valD kvs ks = some d) (q : Q d M) : rIxA (.ref a) (.tup ds) M Q := by
  unfold rIxA; simp only [seqOf, lstAt, h]; unfold dFind; simp only [h, hk, hv]; exact q
theorem ix_lst {xs : List D} {i : Int} {d : D} (h : M a = some (.lst xs)) (hv : atI xs i = some d) (q : Q d M) : rIxA (.ref a) (.int i) M Q := by
  simp only [rIxA, seqOf, lstAt, asI, h, hv]; exact q
theorem ix_tup {xs : List D} {i : Int} {d : D} (hv : atI xs i = some d) (q : Q d M) : rIxA (.tup xs) (.int i) M Q := by
  simp only [rIxA, seqOf, asI, hv]; exact q
theorem ix_ft {xs : List D} {i : Int} {d : D} (hv : atI xs i = some d) (q : Q d M) : rIxA (.ft xs) (.int i) M Q := by
  simp only [rIxA, seqOf, asI, hv]; exact q
theorem ix_rl {xs : List D} {i : Int} {d : D} (hv : atI xs i = some d) (q : Q d M) : rIxA (.rl xs) (.int i) M Q := by
  simp only [rIxA, seqOf, asI, hv]; exact q
theorem ix_strD {z : Str} {i : Int} {c : Nat} (hz : z.length ≤ sizeLine) (hv : atI z.cps.toList i = some c) (q : Q (.str ⟨#[c]⟩) M) : rIxA (.str z) (.int i) M Q := by
  simp only [rIxA, asI, hv]; exact ⟨hz, q⟩
theorem atI_nat {α : Type} {xs : List α} {n : Nat} {d : α} (h : xs[n]? = some d) : atI xs (n : Int) = some d := by
  have hn := (List.getElem?_eq_some_iff.mp h).1
  have e : ixN xs.length (n : Int) = some n := by
    unfold ixN
    rw [if_pos (by omega), if_pos (by omega)]
    simp
  unfold atI; rw [e]; exact h
theorem ixN_nat {m n : Nat} (h : n < m) : ixN m (n : Int) = some n := by
  unfold ixN
  rw [if_pos (by omega), if_pos (by omega)]
  simp
theorem atI_int {α : Type} {xs : List α} {i : Int} {d : α} (h0 : 0 ≤ i) (h : xs[i.toNat]? = some d) : atI xs i = some d := by
  have := atI_nat h
  rwa [Int.toNat_of_nonneg h0] at this
theorem atI_last {α : Type} {xs : List α} {d : α} : atI (xs ++ [d]) (-1) = some d := by
  have e : ixN (xs ++ [d]).length (-1) = some xs.length := by
    unfold ixN
    rw [if_neg (by omega), if_pos (by simp; omega)]
    simp only [List.length_append, List.length_cons, List.length_nil, Option.some.injEq]
    omega
  unfold atI; rw [e]; simp
theorem len_lst {xs : List D} (h : M a = some (.lst xs)) (q : Q (.int xs.length) M) : rLen [.ref a] M Q := by
  simp only [rLen, as1, seqOf, lstAt, h]; exact q
theorem len_tup {xs : List D} (q : Q (.int xs.length) M) : rLen [.tup xs] M Q := by unfold rLen; exact q
theorem len_ft {xs : List D} (q : Q (.int xs.length) M) : rLen [.ft xs] M Q := by unfold rLen; exact q
theorem len_str {z : Str} (hz : z.length ≤ sizeLine) (q : Q (.int z.length) M) : rLen [.str z] M Q := by unfold rLen; exact ⟨hz, q⟩
theorem add_int {i j : Int} (q : Q (.int (i + j)) M) : rAdd (.int i) (.int j) M Q := by unfold rAdd; exact q
theorem add_str {i j : Str} (h : i.length + j.length ≤ sizeLine) (q : Q (.str (i ++ j)) M) : rAdd (.str i) (.str j) M Q := by unfold rAdd; exact ⟨h, q⟩
theorem add_lst {b : Addr} {xs ys : List D} (h : M a = some (.lst xs)) (h2 : M b = some (.lst ys)) (hz : xs.length + ys.length ≤ sizeLine) (q : ∀ p, M p = none → Q (.ref p) (up M p (.lst (xs ++ ys)))) : rAdd (.ref a) (.ref b) M Q := by
  simp only [rAdd, lstAt, h, h2]; exact ⟨hz, q⟩
theorem add_tup {xs ys : List D} (h : xs.length + ys.length ≤ sizeLine) (q : Q (.tup (xs ++ ys)) M) : rAdd (.tup xs) (.tup ys) M Q := by
  unfold rAdd
  refine ⟨h, q, fun e => ?_, fun e => ?_⟩
  · subst e; exact q
  · subst e; rw [List.append_nil] at q; exact q
theorem sub_int {i j : Int} (q : Q (.int (i - j)) M) : rSub (.int i) (.int j) M Q := by unfold rSub; exact q
theorem mul_int {i j : Int} (h : (-(2 ^ 64) < i ∧ i < 2 ^ 64) ∨ (-(2 ^ 64) < j ∧ j < 2 ^ 64)) (q : Q (.int (i * j)) M) : rMul (.int i) (.int j) M Q := by unfold rMul; exact ⟨h, q⟩
theorem mod_int {i j : Int} (h : j ≠ 0) (q : Q (.int (i.fmod j)) M) : rMod (.int i) (.int j) M Q := by unfold rMod; exact ⟨h, q⟩
theorem fdiv_int {i j : Int} (h : j ≠ 0 ∧ j.natAbs < 1073741824) (q : Q (.int (i.fdiv j)) M) : rFdiv (.int i) (.int j) M Q := by unfold rFdiv; exact ⟨h, q⟩
theorem eq_int {neg : Bool} {i j : Int} (q : Q (.bl (nb neg (i == j))) M) : rEqs neg (.int i) (.int j) M Q := by unfold rEqs; exact q
theorem eq_str {neg : Bool} {i j : Str} (q : Q (.bl (nb neg (i == j))) M) : rEqs neg (.str i) (.str j) M Q := by unfold rEqs; exact q
theorem lt_int {i j : Int} (q : Q (.bl (decide (i < j))) M) : rLt (.int i) (.int j) M Q := by unfold rLt; exact q
theorem le_int {i j : Int} (q : Q (.bl (decide (i ≤ j))) M) : rLe (.int i) (.int j) M Q := by unfold rLe; exact q
theorem gt_int {i j : Int} (q : Q (.bl (decide (j < i))) M) : rGt (.int i) (.int j) M Q := by unfold rGt; exact q
theorem ge_int {i j : Int} (q : Q (.bl (decide (j ≤ i))) M) : rGe (.int i) (.int j) M Q := by unfold rGe; exact q
theorem neg_int {i : Int} (q : Q (.int (-i)) M) : rNeg (.int i) M Q := by unfold rNeg; exact q
theorem int_bl {b : Bool} (q : Q (.int (if b then 1 else 0)) M) : rInt [.bl b] M Q := by unfold rInt; exact q
theorem append_lst {xs : List D} {d : D} (h : M a = some (.lst xs)) (hz : xs.length < sizeLine) (q : Q .non (up M a (.lst (xs ++ [d])))) : rAppend (.ref a) [d] M Q := by
  simp only [rAppend, as1, lstAt, h]; exact ⟨hz, q⟩
theorem extend_lst {b : Addr} {xs ys : List D} (h : M a = some (.lst xs)) (h2 : M b = some (.lst ys)) (hz : xs.length + ys.length ≤ sizeLine) (q : Q .non (up M a (.lst (xs ++ ys)))) : rExtend (.ref a) [.ref b] M Q := by
  simp only [rExtend, as1, lstAt, h, h2]; exact ⟨hz, q⟩
theorem pop_last {xs : List D} {d : D} (h : M a = some (.lst xs)) (hv : xs.getLast? = some d) (q : Q d (up M a (.lst xs.dropLast))) : rPop (.ref a) [] M Q := by
  simp only [rPop, lstAt, h, hv]; exact q
theorem pop_at {xs : List D} {i : Int} {d : D} (h : M a = some (.lst xs)) (h0 : 0 ≤ i) (h1 : i < 2 ^ 63) (hv : xs[i.toNat]? = some d) (q : Q d (up M a (.lst (xs.eraseIdx i.toNat)))) : rPop (.ref a) [.int i] M Q := by
  simp only [rPop, lstAt, h, hv]; exact ⟨h0, h1, q⟩
theorem list_of {d : D} {xs : List D} (h : seqOf M d = some xs) (q : ∀ p, M p = none → Q (.ref p) (up M p (.lst xs))) : rList [d] M Q := by
  simp only [rList, as1, h]; exact q
theorem tuple_of {xs : List D} (h : M a = some (.lst xs)) (q : Q (.tup xs) M) : rTuple [.ref a] M Q := by
  simp only [rTuple, as1, lsOf, lstAt, h]; exact .inl q
theorem tuple_ft {xs : List D} (h : M a = some (.lst xs)) (q : Q (.ft xs) M) : rTuple [.ref a] M Q := by
  simp only [rTuple, as1, lsOf, lstAt, h]; exact .inr q
theorem get1_dT {kvs : List (List Key × D)} {ds : List D} {ks : List Key} {z : D} (h : M a = some (.dT kvs)) (hk : toKs ds = some ks) (q : Q ((valD kvs ks).getD z) M) : rGet (.ref a) [.tup ds, z] M Q := by
  unfold rGet; unfold dFind; simp only [h, hk]; exact q
theorem put_dK {kvs : List (Key × D)} {k : Str} {v : D} {R : Mem → Prop} (h : M a = some (.dK kvs)) (hz : kvs.length < sizeLine) (q : R (up M a (.dK (putD kvs (.inr k) v)))) : dPut (.ref a) (.str k) v M R := by
  simp only [dPut, h, toK]; exact ⟨hz, q⟩
theorem put_dT {kvs : List (List Key × D)} {ds : List D} {ks : List Key} {v : D} {R : Mem → Prop} (h : M a = some (.dT kvs)) (hk : toKs ds = some ks) (hz : kvs.length < sizeLine) (q : R (up M a (.dT (putD kvs ks v)))) : dPut (.ref a) (.tup ds) v M R := by
  simp only [dPut, h, hk]; exact ⟨hz, q⟩
theorem put_lst {xs : List D} {i : Int} {v : D} {R : Mem → Prop} (h : M a = some (.lst xs)) (h0 : 0 ≤ i) (h1 : i < xs.length) (q : R (up M a (.lst (xs.set i.toNat v)))) : dPut (.ref a) (.int i) v M R := by
  unfold dPut
  have e : ixN xs.length i = some i.toNat := by
    unfold ixN
    rw [if_pos h0, if_pos h1]
  simp only [dPut, h, e]; exact q
theorem sl_str {z : Str} {lo hi : Option Int} (hz : z.length ≤ sizeLine) (q : Q (.str (cutS z lo hi)) M) : rSlD (.str z) lo hi M Q := by unfold rSlD; exact ⟨hz, q⟩
theorem sl_tup {xs : List D} {lo hi : Option Int} (q : Q (.tup (cutD xs lo hi)) M) (h : cutD xs lo hi = xs → Q (.tup xs) M) : rSlD (.tup xs) lo hi M Q := by unfold rSlD; exact ⟨q, h⟩
theorem sl_tup' {xs : List D} {lo hi : Option Int} (q : Q (.tup (cutD xs lo hi)) M) : rSlD (.tup xs) lo hi M Q := by unfold rSlD; exact ⟨q, fun h => by rw [h] at q; exact q⟩
theorem sl_lst {xs : List D} {lo hi : Option Int} (h : M a = some (.lst xs)) (q : ∀ p, M p = none → Q (.ref p) (up M p (.lst (cutD xs lo hi)))) : rSlD (.ref a) lo hi M Q := by
  simp only [rSlD, tpl, lsOf, lstAt, h]; exact q
theorem sl_rl {xs : List D} {lo hi : Option Int} (q : ∀ p, M p = none → Q (.ref p) (up M p (.lst (cutD xs lo hi)))) : rSlD (.rl xs) lo hi M Q := by unfold rSlD; exact q
theorem sum_lst {is : List Int} (h : M a = some (.lst (is.map D.int))) (q : Q (.int is.sum) M) : rSum [.ref a] M Q := by
  simp only [rSum, as1]; exact ⟨is, lstAt_of h, q⟩
theorem all_lst {bs : List Bool} (h : M a = some (.lst (bs.map D.bl))) (q : Q (.bl (bs.all id)) M) : rAll [.ref a] M Q := by
  simp only [rAll, as1]; exact ⟨bs, lstAt_of h, q⟩
theorem max_int {i j : Int} (q : Q (.int (if j > i then j else i)) M) : rMax2 [.int i, .int j] M Q := by unfold rMax2; exact q
theorem min_int {i j : Int} (q : Q (.int (if j < i then j else i)) M) : rMin2 [.int i, .int j] M Q := by unfold rMin2; exact q
theorem abs_int {i : Int} (q : Q (.int (if i < 0 then -i else i)) M) : rAbs [.int i] M Q := by unfold rAbs; exact q
theorem ty_lst {xs : List D} (h : M a = some (.lst xs)) : tyD "list" (.ref a) M := by unfold tyD; simp only [tyD, h]
theorem ty_dK {xs : List (Key × D)} (h : M a = some (.dK xs)) : tyD "dict" (.ref a) M := by unfold tyD; simp only [tyD, h]
theorem ty_dT {xs : List (List Key × D)} (h : M a = some (.dT xs)) : tyD "dict" (.ref a) M := by unfold tyD; simp only [tyD, h]
theorem ty_str {z : Str} : tyD "str" (.str z) M := by unfold tyD; exact rfl
theorem ite_tf {b : Bool} {A B : Prop} (h1 : b = true → A) (h2 : b = false → B) : if b = true then A else B := by cases b <;> simp_all
theorem ite_t {b : Bool} {A B : Prop} (e : b = true) (h : A) : if b = true then A else B := by rw [if_pos e]; exact h
theorem ite_f {b : Bool} {A B : Prop} (e : b = false) (h : B) : if b = true then A else B := by rw [if_neg (by rw [e]; decide)]; exact h
end
/-! ### plain data -/
mutual
def toP : D → PyData
  | .non => .none
  | .bl b => .bool b
  | .int i => .int i
  | .str z => .str z
  | .tup xs => .tuple (toPs xs)
  | .ft xs => .tuple (toPs xs)
  | .rl xs => .list (toPs xs)
  | .ref _ => .none
def toPs : List D → List PyData
  | [] => []
  | x :: xs => toP x :: toPs xs
end
def okN : Nat → D → Bool
  | _, .non => true
  | _, .bl _ => true
  | _, .int _ => true
  | _, .str z => PyData.strOk z
  | n + 1, .tup xs => xs.all (okN n)
  | n + 1, .ft xs => xs.all (okN n)
  | n + 1, .rl xs => xs.all (okN n)
  | _, _ => false
theorem okN_all {n : Nat} {M : Mem} (h : ∀ d, okN n d = true → DpD M d (toP d) ∧ PyData.canLay0 (toP d) = true ∧ PyData.depth (toP d) ≤ n) : ∀ xs : List D, xs.all (okN n) = true → DpDs M xs (toPs xs) ∧ PyData.canLayAll0 (toPs xs) = true ∧ PyData.depthAll (toPs xs) ≤ n
  | [], _ => ⟨.nil, rfl, Nat.zero_le _⟩
  | x :: xs, hx => by
    rw [List.all_cons, Bool.and_eq_true] at hx
    obtain ⟨a1, a2, a3⟩ := h x hx.1
    obtain ⟨b1, b2, b3⟩ := okN_all h xs hx.2
    refine ⟨.cons a1 b1, ?_, ?_⟩
    · show (PyData.canLay0 (toP x) && PyData.canLayAll0 (toPs xs)) = true
      rw [a2, b2]; rfl
    · show max (PyData.depth (toP x)) (PyData.depthAll (toPs xs)) ≤ n
      omega
theorem okN_dp {M : Mem} : ∀ (n : Nat) (d : D), okN n d = true → DpD M d (toP d) ∧ PyData.canLay0 (toP d) = true ∧ PyData.depth (toP d) ≤ n
  | n, .non, _ => by cases n <;> exact ⟨.non, rfl, Nat.zero_le _⟩
  | n, .bl b, _ => by cases n <;> exact ⟨.bl b, rfl, Nat.zero_le _⟩
  | n, .int b, _ => by cases n <;> exact ⟨.int b, rfl, Nat.zero_le _⟩
  | n, .str b, h => by cases n <;> exact ⟨.str b, h, Nat.zero_le _⟩
  | 0, .tup _, h => by cases h
  | 0, .ft _, h => by cases h
  | 0, .rl _, h => by cases h
  | n + 1, .tup xs, h => let ⟨a, b, c⟩ := okN_all (fun d => okN_dp n d) xs h; ⟨.tup a, b, Nat.succ_le_succ c⟩
  | n + 1, .ft xs, h => let ⟨a, b, c⟩ := okN_all (fun d => okN_dp n d) xs h; ⟨.ft a, b, Nat.succ_le_succ c⟩
  | n + 1, .rl xs, h => let ⟨a, b, c⟩ := okN_all (fun d => okN_dp n d) xs h; ⟨.rl a, b, Nat.succ_le_succ c⟩
  | n, .ref _, h => by cases n <;> cases h
theorem okN_mono : ∀ {n m : Nat} {d : D}, n ≤ m → okN n d = true → okN m d = true
  | n, m, .non, _, _ => by cases m <;> rfl
  | n, m, .bl b, _, _ => by cases m <;> rfl
  | n, m, .int b, _, _ => by cases m <;> rfl
  | n, m, .str b, _, h => by cases n <;> cases m <;> exact h
  | n + 1, m + 1, .tup xs, hl, h => List.all_eq_true.mpr fun x hx => okN_mono (Nat.le_of_succ_le_succ hl) (List.all_eq_true.mp h x hx)
  | n + 1, m + 1, .ft xs, hl, h => List.all_eq_true.mpr fun x hx => okN_mono (Nat.le_of_succ_le_succ hl) (List.all_eq_true.mp h x hx)
  | n + 1, m + 1, .rl xs, hl, h => List.all_eq_true.mpr fun x hx => okN_mono (Nat.le_of_succ_le_succ hl) (List.all_eq_true.mp h x hx)
  | 0, _, .tup _, _, h => by cases h
  | 0, _, .ft _, _, h => by cases h
  | 0, _, .rl _, _, h => by cases h
  | n + 1, 0, .tup _, hl, _ => by omega
  | n + 1, 0, .ft _, hl, _ => by omega
  | n + 1, 0, .rl _, hl, _ => by omega
  | n, _, .ref _, _, h => by cases n <;> cases h
section
variable {M : Mem} {Q : DVK} {a : Addr} {neg : Bool}
theorem shp {n : Nat} (hn : n ≤ 64) {d : PyData} (h1 : PyData.canLay0 d = true) (h2 : PyData.depth d ≤ n) : SeqAt.shaped d = true := by
  unfold SeqAt.shaped; rw [h1, decide_eq_true (by omega)]; rfl
theorem eq_dat {x y : D} (hx : okN 20 x = true) (hy : okN 20 y = true) (q : Q (.bl (nb neg (PyData.eqv (toP x) (toP y)))) M) : rEqs neg x y M Q := by
  have hh : ∀ (x y : D), okN 20 x = true → okN 20 y = true → Q (.bl (nb neg (PyData.eqv (toP x) (toP y)))) M → ∃ d e, DpD M x d ∧ DpD M y e ∧ SeqAt.shaped d = true ∧ SeqAt.shaped e = true ∧ Q (.bl (nb neg (PyData.eqv d e))) M := fun x y hx hy q =>
    let ⟨a1, a2, a3⟩ := okN_dp (M := M) 20 x hx
    let ⟨b1, b2, b3⟩ := okN_dp (M := M) 20 y hy
    ⟨_, _, a1, b1, shp (by omega) a2 a3, shp (by omega) b2 b3, q⟩
  unfold rEqs
  split
  · exact q
  · exact q
  · exact q
  · exact hh _ _ hx hy q
/-- equal data -/
theorem eqv_same {x : D} {n : Nat} (hx : okN n x = true) : PyData.eqv (toP x) (toP x) = true := PySem.SeqAt.eqv_refl _ (okN_dp (M := fun _ => none) n x hx).2.1
theorem eq_same {x : D} (hx : okN 20 x = true) (q : Q (.bl (nb neg true)) M) : rEqs neg x x M Q := eq_dat hx hx (by rw [eqv_same hx]; exact q)
theorem eq_lst {b : Addr} {xs ys : List D} (h : M a = some (.lst xs)) (h2 : M b = some (.lst ys)) (hx : xs.all (okN 20) = true) (hy : ys.all (okN 20) = true) (q : Q (.bl (nb neg (PyData.eqvAll (toPs xs) (toPs ys)))) M) : rEqs neg (.ref a) (.ref b) M Q := by
  unfold rEqs
  obtain ⟨a1, a2, a3⟩ := okN_all (M := M) (fun d => okN_dp 20 d) xs hx
  obtain ⟨b1, b2, b3⟩ := okN_all (M := M) (fun d => okN_dp 20 d) ys hy
  exact ⟨_, _, .ref h a1, .ref h2 b1, shp (n := 21) (by omega) a2 (Nat.succ_le_succ a3), shp (n := 21) (by omega) b2 (Nat.succ_le_succ b3), q⟩
theorem eqvAll_nil {xs : List D} : PyData.eqvAll (toPs xs) [] = xs.isEmpty := by cases xs <;> simp [toPs, PyData.eqvAll]
theorem in_lst {x : D} {xs : List D} (h : M a = some (.lst xs)) (hx : okN 20 x = true) (hxs : xs.all (okN 20) = true) (q : Q (.bl (nb neg ((toPs xs).any fun z => PyData.eqv z (toP x)))) M) : rIn neg x (.ref a) M Q := by
  unfold rIn
  obtain ⟨a1, a2, a3⟩ := okN_dp (M := M) 20 x hx
  obtain ⟨b1, b2, b3⟩ := okN_all (M := M) (fun d => okN_dp 20 d) xs hxs
  exact .inr (.inr ⟨_, _, _, a1, .ref h b1, .inl rfl, shp (by omega) a2 a3, shp (n := 21) (by omega) b2 (Nat.succ_le_succ b3), q⟩)
theorem in_tup {x : D} {xs : List D} (hx : okN 20 x = true) (hxs : xs.all (okN 20) = true) (q : Q (.bl (nb neg ((toPs xs).any fun z => PyData.eqv z (toP x)))) M) : rIn neg x (.tup xs) M Q := by
  unfold rIn
  obtain ⟨a1, a2, a3⟩ := okN_dp (M := M) 20 x hx
  obtain ⟨b1, b2, b3⟩ := okN_all (M := M) (fun d => okN_dp 20 d) xs hxs
  exact .inr (.inr ⟨_, _, _, a1, .tup b1, .inr rfl, shp (by omega) a2 a3, shp (n := 21) (by omega) b2 (Nat.succ_le_succ b3), q⟩)
theorem in_ft {x : D} {xs : List D} (hx : okN 20 x = true) (hxs : xs.all (okN 20) = true) (q : Q (.bl (nb neg ((toPs xs).any fun z => PyData.eqv z (toP x)))) M) : rIn neg x (.ft xs) M Q := by
  unfold rIn
  obtain ⟨a1, a2, a3⟩ := okN_dp (M := M) 20 x hx
  obtain ⟨b1, b2, b3⟩ := okN_all (M := M) (fun d => okN_dp 20 d) xs hxs
  exact .inr (.inr ⟨_, _, _, a1, .ft b1, .inr rfl, shp (by omega) a2 a3, shp (n := 21) (by omega) b2 (Nat.succ_le_succ b3), q⟩)
theorem in_sign {c : Nat} {z : Str} (q : Q (.bl (nb neg (decide (c ∈ z.cps.toList)))) M) : rIn neg (.str ⟨#[c]⟩) (.str z) M Q := by unfold rIn; exact .inl ⟨c, z, rfl, rfl, q⟩
end
/-- an encoding of plain values as data, with their equality -/
structure Enc (α : Type) [DecidableEq α] (e : α → D) : Prop where
  ok : ∀ x, okN 10 (e x) = true
  eq : ∀ x y, PyData.eqv (toP (e x)) (toP (e y)) = decide (x = y)
theorem toPs_map {α : Type} (e : α → D) (xs : List α) : toPs (xs.map e) = xs.map fun x => toP (e x) := by
  induction xs with
  | nil => rfl
  | cons x xs ih => simp [toPs, ih]
theorem Enc.any {α : Type} [DecidableEq α] {e : α → D} (E : Enc α e) (x : α) (xs : List α) : (toPs (xs.map e)).any (fun z => PyData.eqv z (toP (e x))) = decide (x ∈ xs) := by
  rw [toPs_map]
  induction xs with
  | nil => simp
  | cons y ys ih => simp only [List.map_cons, List.any_cons, ih, E.eq]; by_cases h : x = y <;> by_cases h2 : x ∈ ys <;> simp [h, h2, eq_comm]
theorem Enc.all {α : Type} [DecidableEq α] {e : α → D} (E : Enc α e) (xs : List α) : (xs.map e).all (okN 20) = true := List.all_eq_true.mpr fun d hd => by
  obtain ⟨x, _, rfl⟩ := List.mem_map.mp hd
  exact okN_mono (by omega) (E.ok x)
end EW

set_option maxRecDepth 100000
set_option maxHeartbeats 4000000
/-! EwSack: the laws' sack of numbers (k48-k50, k59-k63): what take and mixed do. -/
namespace EW
open PySem PySem.Spec PyProof.Rows L2
theorem ne_gn : ("great" : Str) ≠ "now" := by decide +kernel
theorem ne_gs : ("great" : Str) ≠ "seed" := by decide +kernel
theorem ne_gt : ("great" : Str) ≠ "turn" := by decide +kernel
theorem ne_ns : ("now" : Str) ≠ "seed" := by decide +kernel
theorem ne_nt : ("now" : Str) ≠ "turn" := by decide +kernel
theorem ne_st : ("seed" : Str) ≠ "turn" := by decide +kernel
def sackK (g : Addr) (now seed turn : Int) : List (Key × D) := [(.inr "great", .ref g), (.inr "now", .int now), (.inr "seed", .int seed), (.inr "turn", .int turn)]
section
variable {g : Addr} {now seed turn v : Int}
theorem sack_great : valD (sackK g now seed turn) (.inr "great") = some (.ref g) := valD_hd
theorem sack_now : valD (sackK g now seed turn) (.inr "now") = some (.int now) := by simp [sackK, valD, ne_gn]
theorem sack_seed : valD (sackK g now seed turn) (.inr "seed") = some (.int seed) := by simp [sackK, valD, ne_gs, ne_ns]
theorem sack_turn : valD (sackK g now seed turn) (.inr "turn") = some (.int turn) := by simp [sackK, valD, ne_gt, ne_nt, ne_st]
theorem sack_pnow : putD (sackK g now seed turn) (.inr "now") (.int v) = sackK g v seed turn := by
  unfold putD; rw [sack_now]; simp [sackK, ne_gn, ne_ns.symm, ne_nt.symm]
theorem sack_pseed : putD (sackK g now seed turn) (.inr "seed") (.int v) = sackK g now v turn := by
  unfold putD; rw [sack_seed]; simp [sackK, ne_gs, ne_ns, ne_st.symm]
theorem sack_pturn : putD (sackK g now seed turn) (.inr "turn") (.int v) = sackK g now seed v := by
  unfold putD; rw [sack_turn]; simp [sackK, ne_gt, ne_nt, ne_st]
end
theorem small4 : (4 : Nat) < sizeLine := by rw [sizeLine_eq]; omega
def SackAt (M : Mem) (a g : Addr) : Prop := ∃ (gs : List Int) (now seed turn : Int), M a = some (.dK (sackK g now seed turn)) ∧ M g = some (.lst (gs.map D.int))
theorem SackAt.ne {M : Mem} {a g : Addr} (h : SackAt M a g) : a ≠ g := fun e => by
  obtain ⟨gs, n, s, t, h1, h2⟩ := h
  rw [e, h2] at h1; cases h1
theorem SackAt.fr {M M' : Mem} {a g : Addr} {S : List Addr} (h : SackAt M a g) (f : Fr S M M') (ha : a ∉ S) (hg : g ∉ S) : SackAt M' a g := by
  obtain ⟨gs, n, s, t, h1, h2⟩ := h
  exact ⟨gs, n, s, t, f _ _ h1 ha, f _ _ h2 hg⟩
theorem SackAt.ext {M M' : Mem} {a g : Addr} (h : SackAt M a g) (f : Ext M M') : SackAt M' a g := h.fr (S := []) f.fr (by simp) (by simp)
theorem fmod_lt {i j : Int} (h : 0 < j) : 0 ≤ i.fmod j ∧ i.fmod j < j := ⟨Int.fmod_nonneg_of_pos i h, Int.fmod_lt_of_pos i h⟩
/-- a number below n -/
@[irreducible] def sp__law_take : DSp := fun ds M P => ∃ (a g : Addr) (n : Int), ds = [.ref a, .int n] ∧ 0 < n ∧ n < 1000000 ∧ SackAt M a g ∧ ∀ (i : Int) M', 0 ≤ i → i < n → SackAt M' a g → Fr [a, g] M M' → P (.int i) M'
def N__law_take : List Str := ["_law_sack_here", "_law_many", "_law_digit", "_law_one"]
def t__law_take : DTS := dSeq (dIfS (dAnd (dTest (dOp (rEqs false) (dOp rIxA (dVar 0) (dC (.str "now"))) (dC (.int 0)))) (dTest (dOp (rEqs true) (dOp rIxA (dVar 0) (dC (.str "great"))) (dLst (daNil))))) (dAsg (dBM0 "list" rPop (dOp rIxA (dVar 0) (dC (.str "great")))) (gSubD (dVar 0) (dC (.str "now")))) (dNext)) (dSeq (dIfS (dTest (dOp rGt (dOp rIxA (dVar 0) (dC (.str "now"))) (dC (.int 0)))) (dSeq (dAsg (dOp rMod (dOp rIxA (dVar 0) (dC (.str "now"))) (dVar 1)) (gN 2)) (dSeq (dAsg (dOp rFdiv (dOp rIxA (dVar 0) (dC (.str "now"))) (dVar 1)) (gSubD (dVar 0) (dC (.str "now")))) (dRet (dVar 2)))) (dNext)) (dSeq (dAsg (dOp rAdd (dOp rIxA (dVar 0) (dC (.str "turn"))) (dC (.int 1))) (gSubD (dVar 0) (dC (.str "turn")))) (dSeq (dAsg (dOp rMod (dOp rMul (dOp rMod (dOp rAdd (dOp rIxA (dVar 0) (dC (.str "seed"))) (dOp rMul (dC (.int 69621)) (dOp rIxA (dVar 0) (dC (.str "turn"))))) (dC (.int 2147483647))) (dC (.int 16807))) (dC (.int 2147483647))) (gN 3)) (dSeq (dAsg (dOp rAdd (dOp rMod (dOp rAdd (dVar 3) (dOp rMul (dC (.int 3)) (dOp rIxA (dVar 0) (dC (.str "seed"))))) (dC (.int 2147483629))) (dC (.int 1))) (gSubD (dVar 0) (dC (.str "seed")))) (dRet (dOp rMod (dOp rFdiv (dOp rAdd (dOp rMul (dVar 3) (dC (.int 30269))) (dOp rIxA (dVar 0) (dC (.str "seed")))) (dC (.int 4099))) (dVar 1)))))))
/-- from the second half on -/
theorem take_on {M0 M : Mem} {a g : Addr} {n : Int} {E : DEnds} (hn : 0 < n ∧ n < 1000000) (hs : SackAt M a g) (hf : Fr [a, g] M0 M) (hP : ∀ (i : Int) M', 0 ≤ i → i < n → SackAt M' a g → Fr [a, g] M0 M' → E.rt (.int i) M') :
    (dSeq (dIfS (dTest (dOp rGt (dOp rIxA (dVar 0) (dC (.str "now"))) (dC (.int 0)))) (dSeq (dAsg (dOp rMod (dOp rIxA (dVar 0) (dC (.str "now"))) (dVar 1)) (gN 2)) (dSeq (dAsg (dOp rFdiv (dOp rIxA (dVar 0) (dC (.str "now"))) (dVar 1)) (gSubD (dVar 0) (dC (.str "now")))) (dRet (dVar 2)))) (dNext)) (dSeq (dAsg (dOp rAdd (dOp rIxA (dVar 0) (dC (.str "turn"))) (dC (.int 1))) (gSubD (dVar 0) (dC (.str "turn")))) (dSeq (dAsg (dOp rMod (dOp rMul (dOp rMod (dOp rAdd (dOp rIxA (dVar 0) (dC (.str "seed"))) (dOp rMul (dC (.int 69621)) (dOp rIxA (dVar 0) (dC (.str "turn"))))) (dC (.int 2147483647))) (dC (.int 16807))) (dC (.int 2147483647))) (gN 3)) (dSeq (dAsg (dOp rAdd (dOp rMod (dOp rAdd (dVar 3) (dOp rMul (dC (.int 3)) (dOp rIxA (dVar 0) (dC (.str "seed"))))) (dC (.int 2147483629))) (dC (.int 1))) (gSubD (dVar 0) (dC (.str "seed")))) (dRet (dOp rMod (dOp rFdiv (dOp rAdd (dOp rMul (dVar 3) (dC (.int 30269))) (dOp rIxA (dVar 0) (dC (.str "seed")))) (dC (.int 4099))) (dVar 1))))))) E [some (.ref a), some (.int n), none, none] M := by
  have hne := hs.ne
  obtain ⟨gs, now, seed, turn, ha, hg⟩ := hs
  have n0 : n ≠ 0 := by omega
  refine ix_dK ha sack_now (gt_int (ite_tf (fun _ => ?_) (fun _ => ?_)))
  · refine ix_dK ha sack_now (mod_int n0 ?_)
    refine ix_dK ha sack_now (fdiv_int ⟨n0, by omega⟩ ?_)
    refine put_dK ha small4 ?_
    rw [sack_pnow]
    exact hP _ _ (fmod_lt hn.1).1 (fmod_lt hn.1).2 ⟨gs, _, seed, turn, up_same, by rw [up_ne hne.symm]; exact hg⟩ (hf.trans (Fr.wr (by simp)))
  · refine ix_dK ha sack_turn (add_int ?_)
    refine put_dK ha small4 ?_
    rw [sack_pturn]
    generalize hM1 : up M a (.dK (sackK g now seed (turn + 1))) = M1
    have ha1 : M1 a = some (.dK (sackK g now seed (turn + 1))) := by rw [← hM1]; exact up_same
    refine ix_dK ha1 sack_seed (ix_dK ha1 sack_turn (mul_int (.inl (by omega)) (add_int (mod_int (by decide) (mul_int (.inr (by omega)) (mod_int (by decide) ?_))))))
    refine ix_dK ha1 sack_seed (mul_int (.inl (by omega)) (add_int (mod_int (by decide) (add_int ?_))))
    refine put_dK ha1 small4 ?_
    rw [sack_pseed]
    refine mul_int (.inr (by omega)) (ix_dK up_same sack_seed (add_int (fdiv_int (by decide) (mod_int n0 ?_))))
    refine hP _ _ (fmod_lt hn.1).1 (fmod_lt hn.1).2 ⟨gs, _, _, _, up_same, ?_⟩ ?_
    · rw [up_ne hne.symm, ← hM1, up_ne hne.symm]; exact hg
    · rw [← hM1]; exact (hf.trans (Fr.wr (by simp))).trans (Fr.wr (by simp))
theorem pure__law_take : Pure N__law_take ["_law_sack_here", "_law_many"] sp__law_take t__law_take := by
  unfold sp__law_take
  rintro ds M P ⟨a, g, n, rfl, h0, h1, hs, hP⟩
  refine ⟨rfl, ?_⟩
  have hne := hs.ne
  obtain ⟨gs, now, seed, turn, ha, hg⟩ := id hs
  refine ix_dK ha sack_now (eq_int (ite_tf (fun _ => ?_) (fun _ => ite_f rfl (take_on ⟨h0, h1⟩ hs Fr.refl hP))))
  refine ix_dK ha sack_great fun p hp => ?_
  have hgp := Ext.new (o := .lst []) hp _ _ hg
  have hap := Ext.new (o := .lst []) hp _ _ ha
  have fp : Fr [a, g] M (up M p (.lst [])) := (Ext.new hp).fr
  refine eq_lst hgp up_same (List.all_eq_true.mpr fun d hd => ?_) rfl ?_
  · obtain ⟨i, _, rfl⟩ := List.mem_map.mp hd; rfl
  show asB _ _
  rw [show toPs ([] : List D) = [] from rfl, eqvAll_nil]
  refine ite_tf (fun h => ?_) (fun _ => take_on ⟨h0, h1⟩ ⟨gs, now, seed, turn, hap, hgp⟩ fp hP)
  cases hgs : gs.getLast? with
  | none =>
    have : gs = [] := List.getLast?_eq_none_iff.mp hgs
    subst this
    cases h
  | some i =>
    refine ix_dK hap sack_great ⟨ty_lst hgp, ?_⟩
    refine pop_last hgp (d := .int i) (by rw [List.getLast?_map, hgs]; rfl) ?_
    have ha2 : up (up M p (.lst [])) g (.lst (gs.map D.int).dropLast) a = some (.dK (sackK g now seed turn)) := by rw [up_ne hne]; exact hap
    refine put_dK ha2 small4 ?_
    rw [sack_pnow]
    refine take_on ⟨h0, h1⟩ ⟨gs.dropLast, i, seed, turn, up_same, ?_⟩ ((fp.trans (Fr.wr (by simp))).trans (Fr.wr (by simp))) hP
    rw [up_ne hne.symm, up_same, List.map_dropLast]
theorem take_call {M : Mem} {a g : Addr} {n : Int} {P : DVK} (hs : SackAt M a g) (h0 : 0 < n) (h1 : n < 1000000) (h : ∀ (i : Int) M', 0 ≤ i → i < n → SackAt M' a g → Fr [a, g] M M' → P (.int i) M') : sp__law_take [.ref a, .int n] M P := by unfold sp__law_take; exact ⟨a, g, n, rfl, h0, h1, hs, h⟩
/-- the items in some order, in a new list -/
@[irreducible] def sp__law_mixed : DSp := fun ds M P => ∃ (a g : Addr) (d : D) (xs : List D), ds = [.ref a, d] ∧ seqOf M d = some xs ∧ xs.length ≤ 1000 ∧ SackAt M a g ∧
  ∀ (p : Addr) (ys : List D) M', ys.Perm xs → M p = none → M' p = some (.lst ys) → SackAt M' a g → Fr [a, g] M M' → P (.ref p) M'
def N__law_mixed : List Str := ["_law_sack_here", "_law_some", "_law_left", "_law_found", "_law_turn"]
def t__law_mixed : DTS := dSeq (dPar 2 3 (dCallB rList (daCons (dVar 1) (daNil))) (dLst (daNil))) (dSeq (dFor (diRange (dCallB rLen (daCons (dVar 2) (daNil)))) (gN 4) (dDrop (dBM "list" rAppend (dVar 3) (daCons (dBM "list" rPop (dVar 2) (daCons (dCall sp__law_take [] (daCons (dVar 0) (daCons (dCallB rLen (daCons (dVar 2) (daNil))) (daNil)))) (daNil))) (daNil))))) (dRet (dVar 3)))
theorem perm_get : ∀ {α : Type} {ls : List α} {i : Nat} {d : α}, ls[i]? = some d → (d :: ls.eraseIdx i).Perm ls
  | _, [], _, _, e => by simp at e
  | _, x :: xs, 0, d, e => by simp at e; subst e; exact List.Perm.refl _
  | _, x :: xs, i + 1, d, e => by
    have ih := perm_get (ls := xs) (i := i) (d := d) (by simpa using e)
    exact (List.Perm.swap x d _).trans (ih.cons x)
theorem perm_pop {α : Type} {fs ls xs : List α} {i : Nat} {d : α} (h : (fs ++ ls).Perm xs) (e : ls[i]? = some d) : ((fs ++ [d]) ++ ls.eraseIdx i).Perm xs := by
  rw [List.append_assoc]
  exact ((perm_get e).append_left fs).trans h
theorem smallZ {n : Nat} (h : n ≤ 1000) : n < sizeLine := Nat.lt_of_le_of_lt h (by rw [sizeLine_eq]; omega)
theorem pure__law_mixed : Pure N__law_mixed ["_law_sack_here", "_law_some"] sp__law_mixed t__law_mixed := by
  unfold sp__law_mixed
  rintro ds M P ⟨a, g, d, xs, rfl, hd, hz, hs, hP⟩
  refine ⟨rfl, ?_⟩
  refine list_of hd fun l hl f hf => ?_
  obtain ⟨gs, now, seed, turn, ha, hg⟩ := id hs
  have el := Ext.new (o := .lst xs) hl
  have ef := Ext.new (o := .lst []) hf
  have hM2l : up (up M l (.lst xs)) f (.lst []) l = some (.lst xs) := ef _ _ up_same
  have hlf : l ≠ f := fun e => by subst e; rw [up_same] at hf; cases hf
  have hfM : M f = none := by rw [up_ne hlf.symm] at hf; exact hf
  have hal : a ≠ l := fun e => by subst e; rw [hl] at ha; cases ha
  have hgl : g ≠ l := fun e => by subst e; rw [hl] at hg; cases hg
  have haf : a ≠ f := fun e => by subst e; rw [hfM] at ha; cases ha
  have hgf : g ≠ f := fun e => by subst e; rw [hfM] at hg; cases hg
  refine len_lst hM2l ⟨⟨by omega, by have := smallZ hz; rw [sizeLine_eq] at this; omega⟩, ?_⟩
  refine for_ok (fun dn ρ M1 => (∃ z, ρ = [some (.ref a), some d, some (.ref l), some (.ref f), z]) ∧ ∃ ls fs, M1 l = some (.lst ls) ∧ M1 f = some (.lst fs) ∧ (fs ++ ls).Perm xs ∧ ls.length + dn.length = xs.length ∧ SackAt M1 a g ∧ Fr [a, g] M M1) (fun _ _ _ _ _ _ => trivial) ?_ ?_ ?_
  · rintro dn x r ρ M1 e ⟨⟨z, rfl⟩, ls, fs, h1, h2, h3, h4, h5, h6⟩ N hN
    have hlen : dn.length < xs.length := by
      have := congrArg List.length e
      rw [rangeD_length, List.length_append, List.length_cons] at this
      simp only [Int.toNat_natCast] at this
      omega
    refine ⟨ty_lst h2, ty_lst h1, len_lst h1 (take_call h5 (by omega) (by omega) fun i M2 i0 i1 hs2 hf2 => ?_)⟩
    have h1' := hf2 _ _ h1 (by simp [hal.symm, hgl.symm])
    have h2' := hf2 _ _ h2 (by simp [haf.symm, hgf.symm])
    have hi : i.toNat < ls.length := by omega
    refine pop_at h1' i0 (by omega) (d := ls[i.toNat]) (by simp [hi]) ?_
    have h2'' : up M2 l (.lst (ls.eraseIdx i.toNat)) f = some (.lst fs) := by rw [up_ne hlf.symm]; exact h2'
    have hfl : fs.length ≤ 1000 := by have := h3.length_eq; rw [List.length_append] at this; omega
    refine append_lst h2'' (smallZ hfl) (hN _ _ ⟨⟨_, rfl⟩, _, _, ?_, up_same, perm_pop h3 (i := i.toNat) (by simp [hi]), ?_, ?_, ?_⟩)
    · rw [up_ne hlf, up_same]
    · rw [List.length_eraseIdx_of_lt hi, List.length_append, List.length_singleton]; omega
    · refine hs2.fr (S := [l, f]) ?_ (by simp [hal, haf]) (by simp [hgl, hgf])
      exact (Fr.wr (by simp)).trans (Fr.wr (by simp))
    · exact ((h6.trans hf2).wrN hl).wrN hfM
  · exact ⟨⟨_, rfl⟩, xs, [], hM2l, up_same, by simp, by simp, (hs.ext el).ext ef, (el.trans ef).fr⟩
  · rintro ρ M1 ⟨⟨z, rfl⟩, ls, fs, h1, h2, h3, h4, h5, h6⟩
    rw [rangeD_length] at h4
    have : ls = [] := List.eq_nil_of_length_eq_zero (by simp only [Int.toNat_natCast] at h4; omega)
    subst this
    exact hP f fs M1 (by simpa using h3) hfM h2 h5 h6
end EW

set_option maxRecDepth 100000
set_option maxHeartbeats 4000000
/-! EwNames: the names that the laws draw: distinct, short, of small letters. -/
namespace EW
open PySem PySem.Spec PyProof.Rows L2
def codes (z : Str) : List Nat := z.cps.toList
def mk (l : List Nat) : Str := ⟨l.toArray⟩
theorem mk_inj {a b : List Nat} (h : mk a = mk b) : a = b := congrArg (fun x : Str => x.cps.toList) h
theorem codes_mk (l : List Nat) : codes (mk l) = l := by simp [codes, mk]
theorem mk_codes (z : Str) : mk (codes z) = z := by cases z; simp [codes, mk]
theorem codes_inj {x y : Str} (h : codes x = codes y) : x = y := by
  cases x; cases y
  have := congrArg List.toArray h
  simpa [codes] using this
theorem codes_app (x y : Str) : codes (x ++ y) = codes x ++ codes y := by
  show (x.cps ++ y.cps).toList = _
  simp [codes]
theorem codes_len (x : Str) : (codes x).length = x.length := by simp [codes, Str.length]
def alpha (c : Nat) : Prop := 97 ≤ c ∧ c < 123
/-- a name that the program takes -/
def nameOk (y : Str) : Prop := 1 ≤ y.length ∧ y.length ≤ 6 ∧ ∀ c ∈ codes y, alpha c
def lowers : Str := "abcdefghijklmnopqrstuvwxyz"
theorem lowers_len : lowers.length = 26 := by decide +kernel
theorem lowers_at : ∀ i, i < 26 → (codes lowers)[i]? = some (97 + i) := by decide +kernel
theorem codes_take {z : Str} {p : Nat} (h : p ≤ z.length) : codes (cutS z none (some (p : Int))) = (codes z).take p := by
  unfold cutS
  simp only [codes, HT.sIx_none, HT.sIx_nat, List.drop_zero, Nat.sub_zero]
  rw [Nat.min_eq_left h]
theorem codes_drop {z : Str} {p : Nat} (h : p ≤ z.length) : codes (cutS z (some (p : Int)) none) = (codes z).drop p := by
  unfold cutS
  simp only [codes, HT.sIx_none, HT.sIx_nat]
  rw [Nat.min_eq_left h]
  apply List.take_of_length_le
  rw [List.length_drop]
  show z.cps.toList.length - p ≤ z.cps.size - p
  simp
/-! ### the names by their codes -/
def ltr (f k : Nat) : Nat := 97 + (f + 7 * k) % 26
def nmE (s : List Nat) (p c : Nat) : List Nat := s.take p ++ [c] ++ s.drop p
def nmC (o : Bool) (s : List Nat) (p f k : Nat) : List Nat := if o = true ∧ k % 2 = 1 then nmE s p (ltr f (k - 1)) ++ [ltr f k] else nmE s p (ltr f k)
theorem ltr_inj {f i j : Nat} (hi : i < 20) (hj : j < 20) (h : ltr f i = ltr f j) : i = j := by
  unfold ltr at h
  omega
theorem nmE_len {s : List Nat} {p c : Nat} : (nmE s p c).length = s.length + 1 := by
  unfold nmE
  simp only [List.length_append, List.length_take, List.length_drop, List.length_cons, List.length_nil]
  omega
theorem nmE_inj {s : List Nat} {p c d : Nat} (h : nmE s p c = nmE s p d) : c = d := by
  unfold nmE at h
  rw [List.append_assoc, List.append_assoc] at h
  have := List.append_cancel_left h
  simpa using this
theorem nmC_inj {o : Bool} {s : List Nat} {p f i j : Nat} (hi : i < 20) (hj : j < 20) (h : nmC o s p f i = nmC o s p f j) : i = j := by
  unfold nmC at h
  by_cases h1 : o = true ∧ i % 2 = 1
  · by_cases h2 : o = true ∧ j % 2 = 1
    · rw [if_pos h1, if_pos h2] at h
      have hl := congrArg List.getLast? h
      simp only [List.getLast?_append, List.getLast?_singleton, Option.some_or, Option.some.injEq] at hl
      exact ltr_inj hi hj hl
    · rw [if_pos h1, if_neg h2] at h
      have hl := congrArg List.length h
      rw [List.length_append, nmE_len, nmE_len, List.length_singleton] at hl
      omega
  · by_cases h2 : o = true ∧ j % 2 = 1
    · rw [if_neg h1, if_pos h2] at h
      have hl := congrArg List.length h
      rw [List.length_append, nmE_len, nmE_len, List.length_singleton] at hl
      omega
    · rw [if_neg h1, if_neg h2] at h
      exact ltr_inj hi hj (nmE_inj h)
theorem ltr_alpha (f k : Nat) : alpha (ltr f k) := by unfold ltr alpha; omega
theorem nmE_alpha {s : List Nat} {p c : Nat} (hs : ∀ x ∈ s, alpha x) (hc : alpha c) : ∀ x ∈ nmE s p c, alpha x := by
  intro x hx
  unfold nmE at hx
  rcases List.mem_append.mp hx with hx | hx
  · rcases List.mem_append.mp hx with hx | hx
    · exact hs x (List.mem_of_mem_take hx)
    · rw [List.mem_singleton.mp hx]; exact hc
  · exact hs x (List.mem_of_mem_drop hx)
theorem nmC_ok {o : Bool} {s : List Nat} {p f k : Nat} (hs : ∀ x ∈ s, alpha x) (hl : s.length ≤ 5) (ho : o = true → s.length ≤ 4) : nameOk (mk (nmC o s p f k)) := by
  have hlen : (mk (nmC o s p f k)).length = (nmC o s p f k).length := by simp [Str.length, mk]
  have hc : codes (mk (nmC o s p f k)) = nmC o s p f k := codes_mk _
  unfold nameOk
  rw [hlen, hc]
  unfold nmC
  split
  · next h =>
    have := ho h.1
    refine ⟨by rw [List.length_append, nmE_len]; omega, by rw [List.length_append, nmE_len, List.length_singleton]; omega, fun c hc => ?_⟩
    rcases List.mem_append.mp hc with hc | hc
    · exact nmE_alpha hs (ltr_alpha _ _) c hc
    · rw [List.mem_singleton.mp hc]; exact ltr_alpha _ _
  · exact ⟨by rw [nmE_len]; omega, by rw [nmE_len]; omega, nmE_alpha hs (ltr_alpha _ _)⟩
def nms (o : Bool) (s : List Nat) (p f n : Nat) : List Str := (List.range n).map fun k => mk (nmC o s p f k)
/-- names: no two alike, each one that the program takes -/
structure Names (ys : List Str) : Prop where
  nd : ys.Nodup
  ok : ∀ y ∈ ys, nameOk y
theorem nodup_map_on {α β : Type} {f : α → β} : ∀ {l : List α}, l.Nodup → (∀ a ∈ l, ∀ b ∈ l, f a = f b → a = b) → (l.map f).Nodup
  | [], _, _ => List.nodup_nil
  | x :: xs, h, hf => by
    rw [List.map_cons, List.nodup_cons]
    rw [List.nodup_cons] at h
    refine ⟨fun hm => ?_, nodup_map_on h.2 fun a ha b hb => hf a (List.mem_cons_of_mem _ ha) b (List.mem_cons_of_mem _ hb)⟩
    obtain ⟨y, hy, e⟩ := List.mem_map.mp hm
    have := hf y (List.mem_cons_of_mem _ hy) x (List.mem_cons_self ..) e
    subst this
    exact h.1 hy
theorem nms_names {o : Bool} {s : List Nat} {p f n : Nat} (hs : ∀ x ∈ s, alpha x) (hl : s.length ≤ 5) (ho : o = true → s.length ≤ 4) (hn : n ≤ 20) : Names (nms o s p f n) := by
  refine ⟨nodup_map_on List.nodup_range fun i hi j hj e => ?_, fun y hy => ?_⟩
  · have hi := List.mem_range.mp hi
    have hj := List.mem_range.mp hj
    exact nmC_inj (by omega) (by omega) (mk_inj e)
  · obtain ⟨k, _, rfl⟩ := List.mem_map.mp hy
    exact nmC_ok hs hl ho
theorem Names.perm {xs ys : List Str} (h : Names xs) (p : ys.Perm xs) : Names ys := ⟨p.nodup_iff.mpr h.nd, fun y hy => h.ok y (p.mem_iff.mp hy)⟩
theorem Names.take {xs : List Str} (h : Names xs) (n : Nat) : Names (xs.take n) := ⟨h.nd.sublist (List.take_sublist n xs), fun y hy => h.ok y (List.mem_of_mem_take hy)⟩
def words1 : List Str := ["places", "path", "homes", "at", "crumb", "join", "go", "back", "undo", "home", "rest", "show"]
def words2 : List Str := ["a", "b", "aa", "ab", "ba", "bb", "aaa", "aab", "aba", "abb", "baa", "bab", "bba", "bbb"]
def nameB (y : Str) : Bool := decide (1 ≤ y.length) && decide (y.length ≤ 6) && (codes y).all fun c => decide (97 ≤ c) && decide (c < 123)
theorem nameB_ok {y : Str} (h : nameB y = true) : nameOk y := by
  unfold nameB at h
  simp only [Bool.and_eq_true, decide_eq_true_eq, List.all_eq_true] at h
  exact ⟨h.1.1, h.1.2, fun c hc => h.2 c hc⟩
theorem words1_b : ∀ y ∈ words1, nameB y = true := by decide +kernel
theorem words2_b : ∀ y ∈ words2, nameB y = true := by decide +kernel
theorem words1_names : Names words1 := ⟨by decide +kernel, fun y hy => nameB_ok (words1_b y hy)⟩
theorem words2_names : Names words2 := ⟨by decide +kernel, fun y hy => nameB_ok (words2_b y hy)⟩
theorem perm_map_inv {α β : Type} {f : α → β} (hf : ∀ a b, f a = f b → a = b) : ∀ {xs : List α} {zs : List β}, zs.Perm (xs.map f) → ∃ ys : List α, zs = ys.map f ∧ ys.Perm xs := by
  intro xs zs h
  have : ∀ {zs ws : List β}, zs.Perm ws → ∀ xs : List α, ws = xs.map f → ∃ ys : List α, zs = ys.map f ∧ ys.Perm xs := by
    intro zs ws h
    induction h with
    | nil => intro xs e; exact ⟨[], rfl, by cases xs <;> simp_all⟩
    | @cons x l1 l2 _ ih =>
      intro xs e
      cases xs with
      | nil => cases e
      | cons y ys =>
        simp only [List.map_cons, List.cons.injEq] at e
        obtain ⟨zs, h1, h2⟩ := ih ys e.2
        exact ⟨y :: zs, by rw [List.map_cons, ← e.1, h1], h2.cons y⟩
    | swap x y l =>
      intro xs e
      cases xs with
      | nil => cases e
      | cons a xs =>
        cases xs with
        | nil => simp at e
        | cons b xs =>
          simp only [List.map_cons, List.cons.injEq] at e
          refine ⟨b :: a :: xs, ?_, List.Perm.swap a b xs⟩
          rw [List.map_cons, List.map_cons, e.1, e.2.1, e.2.2]
    | trans _ _ ih1 ih2 =>
      intro xs e
      obtain ⟨ys, h1, h2⟩ := ih2 xs e
      obtain ⟨zs, h3, h4⟩ := ih1 ys h1
      exact ⟨zs, h3, h4.trans h2⟩
  exact this h xs rfl
/-- a permutation of the texts xs, in a new list -/
theorem mixed_str {M : Mem} {a g : Addr} {d : D} {xs : List Str} {P : DVK} (hd : seqOf M d = some (xs.map D.str)) (hz : xs.length ≤ 1000) (hs : SackAt M a g)
    (hP : ∀ (p : Addr) (ys : List Str) M', ys.Perm xs → M p = none → M' p = some (.lst (ys.map D.str)) → SackAt M' a g → Fr [a, g] M M' → P (.ref p) M') : sp__law_mixed [.ref a, d] M P := by
  unfold sp__law_mixed; exact
  ⟨a, g, d, _, rfl, hd, by rw [List.length_map]; exact hz, hs, fun p zs M' hp h0 h1 h2 h3 => by
    obtain ⟨ys, rfl, h⟩ := perm_map_inv (fun a b e => D.str.inj e) hp
    exact hP p ys M' h h0 h1 h2 h3⟩
theorem str_inj (a b : Str) (h : D.str a = D.str b) : a = b := D.str.inj h
theorem int_inj (a b : Int) (h : D.int a = D.int b) : a = b := D.int.inj h
/-! ### names -/
@[irreducible] def sp__law_names : DSp := fun ds M P => ∃ (a g : Addr) (n : Nat), ds = [.ref a, .int n] ∧ 1 ≤ n ∧ n ≤ 12 ∧ SackAt M a g ∧
  ∀ (p : Addr) (ys : List Str) M', Names ys → ys.length = n → M p = none → M' p = some (.lst (ys.map D.str)) → SackAt M' a g → Fr [a, g] M M' → P (.ref p) M'
def N__law_names : List Str := ["_law_sack_here", "_law_many", "_law_words", "_law_form", "_law_letters", "_law_found", "_law_stem", "_law_k", "_law_spot", "_law_first", "_law_letter", "_law_longer"]
def t__law_names : DTS := dSeq (dAsg (dLst (daCons (dC (.str "places")) (daCons (dC (.str "path")) (daCons (dC (.str "homes")) (daCons (dC (.str "at")) (daCons (dC (.str "crumb")) (daCons (dC (.str "join")) (daCons (dC (.str "go")) (daCons (dC (.str "back")) (daCons (dC (.str "undo")) (daCons (dC (.str "home")) (daCons (dC (.str "rest")) (daCons (dC (.str "show")) (daNil)))))))))))))) (gN 2)) (dSeq (dAsg (dTup (daCons (dCall sp__law_take [] (daCons (dVar 0) (daCons (dC (.int 5)) (daNil)))) (daCons (dC (.str "abcdefghijklmnopqrstuvwxyz")) (daCons (dLst (daNil)) (daNil))))) (gTn 3 (gsCons (gN 3) (gsCons (gN 4) (gsCons (gN 5) (gsNil)))))) (dSeq (dIfS (dTest (dOp (rEqs false) (dVar 3) (dC (.int 4)))) (dAsg (dLst (daCons (dC (.str "a")) (daCons (dC (.str "b")) (daCons (dC (.str "aa")) (daCons (dC (.str "ab")) (daCons (dC (.str "ba")) (daCons (dC (.str "bb")) (daCons (dC (.str "aaa")) (daCons (dC (.str "aab")) (daCons (dC (.str "aba")) (daCons (dC (.str "abb")) (daCons (dC (.str "baa")) (daCons (dC (.str "bab")) (daCons (dC (.str "bba")) (daCons (dC (.str "bbb")) (daNil)))))))))))))))) (gN 2)) (dNext)) (dSeq (dIfS (dTest (dOp (rIn false) (dVar 3) (dTup (daCons (dC (.int 0)) (daCons (dC (.int 4)) (daNil)))))) (dRet (dSl rSlD (dCall sp__law_mixed [] (daCons (dVar 0) (daCons (dVar 2) (daNil)))) (dNoPart) (dPart (dVar 1)))) (dNext)) (dSeq (dAsg (dBM "str" rJoin (dC (.str "")) (daCons (dComp (diRange (dCall sp__law_take [] (daCons (dVar 0) (daCons (dC (.int 5)) (daNil))))) [7] (.n 7) (dYes) (dOp rIxA (dVar 4) (dCall sp__law_take [] (daCons (dVar 0) (daCons (dC (.int 26)) (daNil)))))) (daNil))) (gN 6)) (dSeq (dPar 8 9 (dCall sp__law_take [] (daCons (dVar 0) (daCons (dOp rAdd (dCallB rLen (daCons (dVar 6) (daNil))) (dC (.int 1))) (daNil)))) (dCall sp__law_take [] (daCons (dVar 0) (daCons (dC (.int 26)) (daNil))))) (dSeq (dIfS (dAnd (dTest (dOp (rEqs false) (dVar 3) (dC (.int 3)))) (dTest (dOp (rEqs false) (dCallB rLen (daCons (dVar 6) (daNil))) (dC (.int 4))))) (dPar 6 8 (dOp rAdd (dVar 6) (dC (.str "q"))) (dOp rAdd (dVar 8) (dCall sp__law_take [] (daCons (dVar 0) (daCons (dC (.int 2)) (daNil)))))) (dNext)) (dSeq (dFor (diRange (dVar 1)) (gN 7) (dSeq (dAsg (dOp rIxA (dVar 4) (dOp rMod (dOp rAdd (dVar 9) (dOp rMul (dC (.int 7)) (dVar 7))) (dC (.int 26)))) (gN 10)) (dSeq (dAsg (dOp rAdd (dOp rIxA (dOp rAdd (dVar 5) (dLst (daCons (dC (.str "")) (daNil)))) (dOp rSub (dVar 7) (dC (.int 1)))) (dVar 10)) (gN 11)) (dDrop (dBM "list" rAppend (dVar 5) (daCons (dOp rIxA (dLst (daCons (dOp rAdd (dOp rAdd (dSl rSlD (dVar 6) (dNoPart) (dPart (dVar 8))) (dVar 10)) (dSl rSlD (dVar 6) (dPart (dVar 8)) (dNoPart))) (daCons (dVar 11) (daNil)))) (dOp rMul (dCallB rInt (daCons (dOp (rEqs false) (dVar 3) (dC (.int 1))) (daNil))) (dOp rMod (dVar 7) (dC (.int 2))))) (daNil))))))) (dRet (dCall sp__law_mixed [] (daCons (dVar 0) (daCons (dVar 5) (daNil))))))))))))
theorem names_len {ys xs : List Str} {n : Nat} (h : ys.Perm xs) (hn : n ≤ xs.length) : (ys.take n).length = n := by rw [List.length_take, h.length_eq]; omega
theorem cutD_take {xs : List D} {n : Nat} (h : n ≤ xs.length) : cutD xs none (some (n : Int)) = xs.take n := by
  unfold cutD
  simp only [HT.sIx_none, HT.sIx_nat, List.drop_zero, Nat.sub_zero]
  rw [Nat.min_eq_left h]
theorem small_len {z : Str} (h : z.length ≤ 1000) : z.length ≤ sizeLine := Nat.le_of_lt (smallZ h)
theorem lowers_ix {i : Int} (h0 : 0 ≤ i) (h1 : i < 26) : atI lowers.cps.toList i = some (97 + i.toNat) := atI_int h0 (lowers_at i.toNat (by omega))
end EW

set_option maxRecDepth 100000
set_option maxHeartbeats 4000000
namespace EW
open PySem PySem.Spec PyProof.Rows L2
theorem join_lst {M : Mem} {Q : DVK} {a : Str} {d : D} {ys : List Str} (h : seqOf M d = some (ys.map D.str)) (hz : (ys.map (·.length)).sum + ys.length * a.length ≤ 16777216) (q : Q (.str (Txt.join a ys)) M) : rJoin (.str a) [d] M Q := by
  simp only [rJoin, as1]; exact ⟨ys, h, hz, q⟩
theorem join_mk : ∀ cs : List Nat, Txt.join "" (cs.map fun c => mk [c]) = mk cs := by
  intro cs
  have e0 : ("" : Str).cps.toList = [] := by decide +kernel
  have e := TL.tl_join "" (cs.map fun c => mk [c])
  apply codes_inj
  rw [codes_mk]
  have e1 : ∀ l : List Nat, TL.joinL [] (l.map fun c => [c]) = l := by
    intro l
    induction l with
    | nil => rfl
    | cons x xs ih =>
      cases xs with
      | nil => rfl
      | cons y ys =>
        simp only [List.map_cons] at ih ⊢
        simp only [TL.joinL, List.nil_append]
        rw [ih]; rfl
  have e2 : codes (Txt.join "" (cs.map fun c => mk [c])) = TL.tl (Str.join "" (cs.map fun c => mk [c])) := by rw [TL.join_eq]; rfl
  rw [e2, e]
  have e3 : TL.tl ("" : Str) = [] := e0
  rw [e3, List.map_map]
  have e4 : (TL.tl ∘ fun c => mk [c]) = fun c => [c] := by
    funext c
    show (mk [c]).cps.toList = [c]
    simp [mk]
  rw [e4, e1]
theorem names_end {M0 M : Mem} {a g f : Addr} {n : Nat} {form spot first : Int} {s : List Nat} {z7 z10 z11 : Option D} {d0 : Option D} {E : DEnds} (n1 : 1 ≤ n) (n2 : n ≤ 12) (hs : SackAt M a g) (hf : Fr [a, g] M0 M)
    (ha : ∀ c ∈ s, alpha c) (hl : s.length ≤ 5) (ho : form = 1 → s.length ≤ 4) (p0 : 0 ≤ spot) (p1 : spot ≤ s.length) (f0 : 0 ≤ first) (hfd : M f = some (.lst [])) (fa : f ≠ a) (fg : f ≠ g) (f0' : M0 f = none)
    (hP : ∀ (p : Addr) (ys : List Str) M', Names ys → ys.length = n → M0 p = none → M' p = some (.lst (ys.map D.str)) → SackAt M' a g → Fr [a, g] M0 M' → E.rt (.ref p) M') :
    (dSeq (dFor (diRange (dVar 1)) (gN 7) (dSeq (dAsg (dOp rIxA (dVar 4) (dOp rMod (dOp rAdd (dVar 9) (dOp rMul (dC (.int 7)) (dVar 7))) (dC (.int 26)))) (gN 10)) (dSeq (dAsg (dOp rAdd (dOp rIxA (dOp rAdd (dVar 5) (dLst (daCons (dC (.str "")) (daNil)))) (dOp rSub (dVar 7) (dC (.int 1)))) (dVar 10)) (gN 11)) (dDrop (dBM "list" rAppend (dVar 5) (daCons (dOp rIxA (dLst (daCons (dOp rAdd (dOp rAdd (dSl rSlD (dVar 6) (dNoPart) (dPart (dVar 8))) (dVar 10)) (dSl rSlD (dVar 6) (dPart (dVar 8)) (dNoPart))) (daCons (dVar 11) (daNil)))) (dOp rMul (dCallB rInt (daCons (dOp (rEqs false) (dVar 3) (dC (.int 1))) (daNil))) (dOp rMod (dVar 7) (dC (.int 2))))) (daNil))))))) (dRet (dCall sp__law_mixed [] (daCons (dVar 0) (daCons (dVar 5) (daNil)))))) E [some (.ref a), some (.int n), d0, some (.int form), some (.str lowers), some (.ref f), some (.str (mk s)), z7, some (.int spot), some (.int first), z10, z11] M := by
  have hlen : (mk s).length = s.length := by simp [Str.length, mk]
  obtain ⟨p, rfl⟩ : ∃ p : Nat, spot = p := ⟨spot.toNat, by omega⟩
  obtain ⟨fi, rfl⟩ : ∃ p : Nat, first = p := ⟨first.toNat, by omega⟩
  have hp : p ≤ (mk s).length := by omega
  refine ⟨⟨by omega, by omega⟩, ?_⟩
  refine for_ok (fun dn ρ M1 => (∃ z7 z10 z11, ρ = [some (.ref a), some (.int n), d0, some (.int form), some (.str lowers), some (.ref f), some (.str (mk s)), z7, some (.int p), some (.int fi), z10, z11]) ∧ M1 f = some (.lst ((nms (decide (form = 1)) s p fi dn.length).map D.str)) ∧ SackAt M1 a g ∧ Fr [a, g] M0 M1) (fun _ _ _ _ _ _ => trivial) ?_ ?_ ?_
  · rintro dn x r ρ M1 e ⟨⟨z7, z10, z11, rfl⟩, h1, h2, h3⟩ N hN
    have hlen2 : dn.length < n := by
      have := congrArg List.length e
      rw [rangeD_length, List.length_append, List.length_cons] at this
      simp only [Int.toNat_natCast] at this
      omega
    have hx : x = .int (dn.length : Nat) := by
      have h0 : (rangeD 0 (n : Int).toNat)[dn.length]? = some x := by rw [e]; simp
      rw [rangeD_get _ _ _ (by simpa using hlen2)] at h0
      cases h0
      congr 1
      omega
    subst hx
    obtain ⟨k, hk⟩ : ∃ k, dn.length = k := ⟨_, rfl⟩
    rw [hk] at h1 hlen2 ⊢
    -- the letter
    have hlt : ∃ c, c = ltr fi k := ⟨_, rfl⟩
    refine mul_int (.inl (by omega)) (add_int (mod_int (by decide) ?_))
    have hm := fmod_lt (i := (fi : Int) + 7 * (k : Int)) (j := 26) (by decide)
    have hL : 97 + (((fi : Int) + 7 * (k : Int)).fmod 26).toNat = ltr fi k := by
      unfold ltr
      have : ((fi : Int) + 7 * (k : Int)).fmod 26 = (((fi + 7 * k) % 26 : Nat) : Int) := by
        rw [Int.fmod_eq_emod_of_nonneg _ (by decide)]
        omega
      rw [this, Int.toNat_natCast]
    refine ix_strD (small_len (by rw [lowers_len]; omega)) (lowers_ix hm.1 hm.2) ?_
    rw [hL]
    -- longer
    intro q hq
    have hq1 := Ext.new (o := .lst [.str ""]) hq
    have h1' := hq1 _ _ h1
    refine add_lst h1' up_same (by rw [List.length_map]; unfold nms; rw [List.length_map, List.length_range, sizeLine_eq]; simp; omega) fun q2 hq2 => ?_
    have hq3 := Ext.new (o := .lst ((nms (decide (form = 1)) s p fi k).map D.str ++ [.str ""])) hq2
    generalize hM2 : up (up M1 q (.lst [.str ""])) q2 (.lst ((nms (decide (form = 1)) s p fi k).map D.str ++ [.str ""])) = M2 at *
    have hq2v : M2 q2 = some (.lst ((nms (decide (form = 1)) s p fi k).map D.str ++ [.str ""])) := by rw [← hM2]; exact up_same
    have h1'' := hq3 _ _ h1'
    refine sub_int ?_
    have hprev : ∃ z : Str, z.length ≤ 6 ∧ (1 ≤ k → z = mk (nmC (decide (form = 1)) s p fi (k - 1))) ∧ atI ((nms (decide (form = 1)) s p fi k).map D.str ++ [.str ""]) ((k : Int) - 1) = some (.str z) := by
      by_cases hk0 : k = 0
      · subst hk0
        refine ⟨"", by decide +kernel, by omega, ?_⟩
        exact atI_last
      · refine ⟨mk (nmC (decide (form = 1)) s p fi (k - 1)), ?_, fun _ => rfl, ?_⟩
        · exact (nmC_ok ha hl (fun h => ho (of_decide_eq_true h))).2.1
        · have : (k : Int) - 1 = ((k - 1 : Nat) : Int) := by omega
          rw [this]
          apply atI_nat
          rw [List.getElem?_append_left (by simp [nms]; omega)]
          simp only [nms, List.map_map, List.getElem?_map]
          rw [List.getElem?_range (by omega)]
          rfl
    obtain ⟨z, hz, hzk, hzat⟩ := hprev
    refine ix_lst hq2v hzat ?_
    refine add_str (by rw [sizeLine_eq]; show z.length + 1 ≤ _; omega) ?_
    -- the append
    refine ⟨ty_lst h1'', ?_⟩
    refine sl_str (small_len (by omega)) (add_str ?_ (sl_str (small_len (by omega)) (add_str ?_ fun q3 hq3' => ?_)))
    · have := cutS_length (mk s) none (some (p : Int)); rw [sizeLine_eq]; show _ + 1 ≤ _; omega
    · have h5 := cutS_length (mk s) none (some (p : Int)); have h6 := cutS_length (mk s) (some (p : Int)) none; rw [sizeLine_eq]
      have h7 : (cutS (mk s) none (some (p : Int)) ++ (⟨#[ltr fi k]⟩ : Str)).length = (cutS (mk s) none (some (p : Int))).length + 1 := by
        show (_ ++ _ : Array Nat).size = _; rw [Array.size_append]; rfl
      rw [h7]; omega
    have hq5 := Ext.new (o := .lst [D.str (cutS (mk s) none (some (p : Int)) ++ (⟨#[ltr fi k]⟩ : Str) ++ cutS (mk s) (some (p : Int)) none), .str (z ++ (⟨#[ltr fi k]⟩ : Str))]) hq3'
    have h1f := hq5 _ _ h1''
    refine eq_int (int_bl (mod_int (by decide) (mul_int (.inr ?_) ?_)))
    · have := fmod_lt (i := (k : Int)) (j := 2) (by decide); omega
    have hE : codes (cutS (mk s) none (some (p : Int)) ++ (⟨#[ltr fi k]⟩ : Str) ++ cutS (mk s) (some (p : Int)) none) = nmE s p (ltr fi k) := by
      rw [codes_app, codes_app, codes_take hp, codes_drop hp, codes_mk]; rfl
    have hpick : atI [D.str (cutS (mk s) none (some (p : Int)) ++ (⟨#[ltr fi k]⟩ : Str) ++ cutS (mk s) (some (p : Int)) none), .str (z ++ (⟨#[ltr fi k]⟩ : Str))] ((if nb false (form == 1) = true then (1 : Int) else 0) * (k : Int).fmod 2) = some (.str (mk (nmC (decide (form = 1)) s p fi k))) := by
      have hb : nb false (form == 1) = decide (form = 1) := rfl
      rw [hb]
      have hmod : (k : Int).fmod 2 = ((k % 2 : Nat) : Int) := by rw [Int.fmod_eq_emod_of_nonneg _ (by decide)]; omega
      rw [hmod]
      unfold nmC
      by_cases hc : decide (form = 1) = true ∧ k % 2 = 1
      · rw [if_pos hc, if_pos hc.1, hc.2]
        have hk1 : (k - 1) % 2 = 0 := by omega
        have hz2 : z ++ (⟨#[ltr fi k]⟩ : Str) = mk (nmE s p (ltr fi (k - 1)) ++ [ltr fi k]) := by
          apply codes_inj
          rw [codes_app, codes_mk, hzk (by omega), codes_mk]
          unfold nmC
          rw [if_neg (by omega)]
          rfl
        rw [hz2]
        rfl
      · rw [if_neg hc]
        have hz2 : (cutS (mk s) none (some (p : Int)) ++ (⟨#[ltr fi k]⟩ : Str) ++ cutS (mk s) (some (p : Int)) none) = mk (nmE s p (ltr fi k)) := by
          apply codes_inj
          rw [hE, codes_mk]
        rw [hz2]
        by_cases h1 : decide (form = 1) = true
        · have : k % 2 = 0 := by
            have : ¬ k % 2 = 1 := fun h => hc ⟨h1, h⟩
            omega
          rw [this]; simp [atI, ixN]
        · rw [if_neg h1]; simp [atI, ixN]
    refine ix_lst up_same hpick ?_
    refine append_lst h1f (by rw [List.length_map]; unfold nms; rw [List.length_map, List.length_range]; exact smallZ (by omega)) (hN _ _ ⟨⟨_, _, _, rfl⟩, ?_, ?_, ?_⟩)
    · rw [up_same]
      congr 2
      rw [List.length_append, List.length_singleton, hk]
      unfold nms
      rw [List.range_succ, List.map_append, List.map_append]
      rfl
    · refine SackAt.fr (S := [f]) ((h2.ext (hq1.trans hq3)).ext hq5) (Fr.wr (by simp)) (by simp [fa.symm]) (by simp [fg.symm])
    · exact ((h3.ext (hq1.trans hq3)).ext hq5).wrN f0'
  · exact ⟨⟨_, _, _, rfl⟩, hfd, hs, hf⟩
  · rintro ρ M1 ⟨⟨z7, z10, z11, rfl⟩, h1, h2, h3⟩
    rw [rangeD_length] at h1
    simp only [Int.toNat_natCast] at h1
    have hnm : Names (nms (decide (form = 1)) s p fi n) := nms_names ha hl (fun h => ho (of_decide_eq_true h)) (by omega)
    have hnl : (nms (decide (form = 1)) s p fi n).length = n := by simp [nms]
    refine mixed_str (d := .ref f) (lstAt_of h1) (by rw [hnl]; omega) h2 fun q ys M' hp' q0 q1 q2 q3 => ?_
    refine hP q ys M' (hnm.perm hp') (by rw [hp'.length_eq, hnl]) ?_ q1 q2 (h3.trans q3)
    cases hM : M0 q with
    | none => rfl
    | some o =>
      exfalso
      by_cases hq : q ∈ [a, g]
      · obtain ⟨gs, now, seed, turn, k1, k2⟩ := h2
        rcases List.mem_cons.mp hq with rfl | hq
        · rw [q0] at k1; cases k1
        · rw [List.mem_singleton.mp hq] at q0; rw [q0] at k2; cases k2
      · have := h3 _ _ hM hq
        rw [q0] at this; cases this
theorem SackAt.free {M : Mem} {a g p : Addr} (hs : SackAt M a g) (h : M p = none) : p ≠ a ∧ p ≠ g := by
  obtain ⟨gs, now, seed, turn, h1, h2⟩ := hs
  exact ⟨(fun e => by subst e; rw [h] at h1; cases h1), (fun e => by subst e; rw [h] at h2; cases h2)⟩
/-- what is free now was free before -/
theorem Fr.back {M M' : Mem} {a g p : Addr} (hf : Fr [a, g] M M') (hs' : SackAt M' a g) (h : M' p = none) : M p = none := by
  obtain ⟨n1, n2⟩ := hs'.free h
  cases e : M p with
  | none => rfl
  | some u =>
    exfalso
    have := hf _ _ e (by simp [n1, n2])
    rw [h] at this; cases this
theorem Ext.back {M M' : Mem} {p : Addr} (hf : Ext M M') (h : M' p = none) : M p = none := by
  cases e : M p with
  | none => rfl
  | some u => rw [hf _ _ e] at h; cases h
theorem sum_ones : ∀ cs : List Nat, (List.map ((fun x => x.length) ∘ fun c => mk [c]) cs).sum = cs.length
  | [] => rfl
  | c :: cs => by rw [List.map_cons, List.sum_cons, sum_ones cs, List.length_cons]; show 1 + cs.length = _; omega
theorem pure__law_names : Pure N__law_names ["_law_sack_here", "_law_many"] sp__law_names t__law_names := by
  unfold sp__law_names
  rintro ds M P ⟨a, g, n, rfl, n1, n2, hs, hP⟩
  refine ⟨rfl, ?_⟩
  intro w hw
  have e1 := Ext.new (o := .lst (words1.map D.str)) hw
  have hs1 := hs.ext e1
  have hw1 : up M w (.lst (words1.map D.str)) w = some (.lst (words1.map D.str)) := up_same
  refine take_call (M := up M w (.lst (words1.map D.str))) hs1 (by decide) (by decide) fun form M2 f0 f1 hs2 hf2 => ?_
  intro f hf
  obtain ⟨wa, wg⟩ := hs.free hw
  have hw2 := hf2 _ _ hw1 (by simp [wa, wg])
  obtain ⟨fa, fg⟩ := hs2.free hf
  have hf0 : M f = none := e1.back (hf2.back hs2 hf)
  have e3 := Ext.new (o := .lst []) hf
  have hw3 := e3 _ _ hw2
  have hs3 := hs2.ext e3
  have hf3 : Fr [a, g] M (up M2 f (.lst [])) := (e1.fr.trans hf2).ext e3
  have hfd : up M2 f (.lst []) f = some (.lst []) := up_same
  generalize up M2 f (.lst []) = M3 at *
  refine ⟨rfl, ?_⟩
  -- the words
  have key : ∀ (w : Addr) (ws : List Str) (M4 : Mem), Names ws → 12 ≤ ws.length → ws.length ≤ 20 → M4 w = some (.lst (ws.map D.str)) → SackAt M4 a g → Fr [a, g] M M4 → M4 f = some (.lst []) →
      (dSeq (dIfS (dTest (dOp (rIn false) (dVar 3) (dTup (daCons (dC (.int 0)) (daCons (dC (.int 4)) (daNil)))))) (dRet (dSl rSlD (dCall sp__law_mixed [] (daCons (dVar 0) (daCons (dVar 2) (daNil)))) (dNoPart) (dPart (dVar 1)))) (dNext)) (dSeq (dAsg (dBM "str" rJoin (dC (.str "")) (daCons (dComp (diRange (dCall sp__law_take [] (daCons (dVar 0) (daCons (dC (.int 5)) (daNil))))) [7] (.n 7) (dYes) (dOp rIxA (dVar 4) (dCall sp__law_take [] (daCons (dVar 0) (daCons (dC (.int 26)) (daNil)))))) (daNil))) (gN 6)) (dSeq (dPar 8 9 (dCall sp__law_take [] (daCons (dVar 0) (daCons (dOp rAdd (dCallB rLen (daCons (dVar 6) (daNil))) (dC (.int 1))) (daNil)))) (dCall sp__law_take [] (daCons (dVar 0) (daCons (dC (.int 26)) (daNil))))) (dSeq (dIfS (dAnd (dTest (dOp (rEqs false) (dVar 3) (dC (.int 3)))) (dTest (dOp (rEqs false) (dCallB rLen (daCons (dVar 6) (daNil))) (dC (.int 4))))) (dPar 6 8 (dOp rAdd (dVar 6) (dC (.str "q"))) (dOp rAdd (dVar 8) (dCall sp__law_take [] (daCons (dVar 0) (daCons (dC (.int 2)) (daNil)))))) (dNext)) (dSeq (dFor (diRange (dVar 1)) (gN 7) (dSeq (dAsg (dOp rIxA (dVar 4) (dOp rMod (dOp rAdd (dVar 9) (dOp rMul (dC (.int 7)) (dVar 7))) (dC (.int 26)))) (gN 10)) (dSeq (dAsg (dOp rAdd (dOp rIxA (dOp rAdd (dVar 5) (dLst (daCons (dC (.str "")) (daNil)))) (dOp rSub (dVar 7) (dC (.int 1)))) (dVar 10)) (gN 11)) (dDrop (dBM "list" rAppend (dVar 5) (daCons (dOp rIxA (dLst (daCons (dOp rAdd (dOp rAdd (dSl rSlD (dVar 6) (dNoPart) (dPart (dVar 8))) (dVar 10)) (dSl rSlD (dVar 6) (dPart (dVar 8)) (dNoPart))) (daCons (dVar 11) (daNil)))) (dOp rMul (dCallB rInt (daCons (dOp (rEqs false) (dVar 3) (dC (.int 1))) (daNil))) (dOp rMod (dVar 7) (dC (.int 2))))) (daNil))))))) (dRet (dCall sp__law_mixed [] (daCons (dVar 0) (daCons (dVar 5) (daNil)))))))))) { nx := fun _ M' => P .non M', rt := P } [some (.ref a), some (.int n), some (.ref w), some (.int form), some (.str lowers), some (.ref f), none, none, none, none, none, none] M4 := by
    intro w ws M4 hws wl wu hw4 hs4 hf4 hfd4
    refine in_tup rfl rfl (ite_tf (fun _ => ?_) (fun _ => ?_))
    · refine mixed_str (d := .ref w) (lstAt_of hw4) (by omega) hs4 fun p ys M5 hp p0 p1 p2 p3 => ?_
      refine sl_lst p1 fun q hq => ?_
      rw [cutD_take (by rw [List.length_map, hp.length_eq]; omega), ← List.map_take]
      have e5 := Ext.new (o := .lst ((ys.take n).map D.str)) hq
      exact hP q (ys.take n) _ ((hws.perm hp).take n) (by rw [List.length_take, hp.length_eq]; omega) (hf4.back hs4 (p3.back p2 hq)) up_same (p2.ext e5) ((hf4.trans p3).ext e5)
    · refine ⟨ty_str, ?_⟩
      refine take_call hs4 (by decide) (by decide) fun m M5 m0 m1 hs5 hf5 => ⟨⟨by omega, by omega⟩, fun la hla => ?_⟩
      obtain ⟨laa, lag⟩ := hs5.free hla
      have hla0 : M la = none := hf4.back hs4 (hf5.back hs5 hla)
      have hfd5 := hf5 _ _ hfd4 (by simp [fa, fg])
      have hlf : f ≠ la := fun e => by subst e; rw [hla] at hfd5; cases hfd5
      refine comp_st (fun d acc M6 => ∃ cs : List Nat, acc = cs.map (fun c => D.str (mk [c])) ∧ (∀ c ∈ cs, alpha c) ∧ cs.length = d.length ∧ M6 la = some (.lst acc) ∧ SackAt M6 a g ∧ Fr [a, g] M M6 ∧ M6 f = some (.lst [])) (fun _ _ _ _ _ _ => trivial) ?_ ?_ ?_ ?_ ?_
      · rintro d x r acc M6 e ⟨cs, rfl, c1, c2, c3, c4, c5, c6⟩ R hR hR'
        refine item_yes (take_call c4 (by decide) (by decide) fun i M7 i0 i1 hs7 hf7 => ix_strD (z := lowers) (small_len (by rw [lowers_len]; omega)) (lowers_ix i0 i1) ?_)
        have hl7 := hf7 _ _ c3 (by simp [laa, lag])
        have hfd7 := hf7 _ _ c6 (by simp [fa, fg])
        refine hR _ _ ⟨cs ++ [97 + i.toNat], by rw [List.map_append]; rfl, fun c hc => ?_, by simp [c2], up_same, ?_, ?_, by rw [up_ne hlf]; exact hfd7⟩ hl7
        · rcases List.mem_append.mp hc with hc | hc
          · exact c1 c hc
          · rw [List.mem_singleton.mp hc]; unfold alpha; omega
        · exact hs7.fr (S := [la]) (Fr.wr (by simp)) (by simp [laa.symm]) (by simp [lag.symm])
        · exact (c5.trans hf7).wrN hla0
      · rintro d acc M6 ⟨cs, rfl, _, c2, _⟩
        rw [List.length_map, c2]; exact Nat.le_refl _
      · rw [rangeD_length, sizeLine_eq]; omega
      · have e6 := Ext.new (o := .lst []) hla
        exact ⟨[], rfl, by simp, rfl, up_same, hs5.ext e6, (hf4.trans hf5).ext e6, e6 _ _ hfd5⟩
      · rintro acc M6 ⟨cs, rfl, c1, c2, c3, c4, c5, c6⟩
        rw [rangeD_length] at c2
        have c2' : cs.length ≤ 4 := by omega
        refine join_lst (ys := cs.map fun c => mk [c]) (by rw [List.map_map]; exact lstAt_of c3) ?_ ?_
        · rw [List.map_map, List.length_map]
          have e0 : ("" : Str).length = 0 := by decide +kernel
          rw [e0]
          have := sum_ones cs
          have e1 : (List.map ((fun x => x.length) ∘ fun c => mk [c]) cs).sum = cs.length := this
          rw [e1]
          omega
        rw [join_mk]
        have hcl : (mk cs).length = cs.length := by simp [Str.length, mk]
        refine len_str (small_len (by omega)) (add_int (take_call c4 (by omega) (by omega) fun spot M7 s0 s1 hs7 hf7 => ?_))
        refine take_call hs7 (by decide) (by decide) fun fi M8 t0 t1 hs8 hf8 => ?_
        have hfd8 := hf8 _ _ (hf7 _ _ c6 (by simp [fa, fg])) (by simp [fa, fg])
        have hF8 := (c5.trans hf7).trans hf8
        rw [hcl] at s1
        refine eq_int (ite_tf (fun h3 => len_str (small_len (by omega)) (eq_int (ite_tf (fun h4 => ?_) (fun h4 => ?_)))) (fun h3 => ite_f rfl ?_))
        · have h3' : form = 3 := by simpa [nb] using h3
          have h4' : cs.length = 4 := by
            rw [hcl] at h4
            have : (cs.length : Int) = 4 := by simpa [nb] using h4
            omega
          refine add_str (by rw [sizeLine_eq]; show _ + 1 ≤ _; omega) (take_call hs8 (by decide) (by decide) fun j M9 j0 j1 hs9 hf9 => add_int ?_)
          have hq : mk cs ++ ("q" : Str) = mk (cs ++ [113]) := by
            apply codes_inj
            rw [codes_app, codes_mk, codes_mk]
            have : codes ("q" : Str) = [113] := by decide +kernel
            rw [this]
          rw [hq]
          refine names_end n1 n2 hs9 (hF8.trans hf9) (fun c hc => ?_) (by simp; omega) (fun h => by omega) (by omega) (by simp; omega) t0 (hf9 _ _ hfd8 (by simp [fa, fg])) fa fg hf0 hP
          rcases List.mem_append.mp hc with hc | hc
          · exact c1 c hc
          · rw [List.mem_singleton.mp hc]; unfold alpha; omega
        · exact names_end n1 n2 hs8 hF8 c1 (by omega) (fun _ => by omega) s0 (by omega) t0 hfd8 fa fg hf0 hP
        · exact names_end n1 n2 hs8 hF8 c1 (by omega) (fun _ => by omega) s0 (by omega) t0 hfd8 fa fg hf0 hP
  refine eq_int (ite_tf (fun _ => ?_) (fun _ => key w words1 M3 words1_names (by decide) (by decide) hw3 hs3 hf3 hfd))
  intro w2 hw2'
  have e4 := Ext.new (o := .lst (words2.map D.str)) hw2'
  exact key w2 words2 _ words2_names (by decide) (by decide) up_same (hs3.ext e4) (hf3.ext e4) (e4 _ _ hfd)
theorem names_call {M : Mem} {a g : Addr} {n : Nat} {P : DVK} (n1 : 1 ≤ n) (n2 : n ≤ 12) (hs : SackAt M a g)
    (hP : ∀ (p : Addr) (ys : List Str) M', Names ys → ys.length = n → M p = none → M' p = some (.lst (ys.map D.str)) → SackAt M' a g → Fr [a, g] M M' → P (.ref p) M') : sp__law_names [.ref a, .int n] M P := by unfold sp__law_names; exact ⟨a, g, n, rfl, n1, n2, hs, hP⟩
end EW

set_option maxRecDepth 100000
set_option maxHeartbeats 4000000
/-! EwGround: pairs of names, the ground that the laws draw. -/
namespace EW
open PySem PySem.Spec PyProof.Rows L2
def pD (p : Str × Str) : D := .tup [.str p.1, .str p.2]
theorem pD_inj (a b : Str × Str) (h : pD a = pD b) : a = b := by
  unfold pD at h
  injection h with h
  injection h with h1 h2
  injection h2 with h2 h3
  injection h1 with h1
  injection h2 with h2
  exact Prod.ext h1 h2
/-- all ordered pairs of two that differ -/
def prs (ys : List Str) : List (Str × Str) := ys.flatMap fun a => (ys.filter fun b => decide (b ≠ a)).map fun b => (a, b)
theorem mem_prs {ys : List Str} {p : Str × Str} : p ∈ prs ys ↔ p.1 ∈ ys ∧ p.2 ∈ ys ∧ p.1 ≠ p.2 := by
  obtain ⟨a, b⟩ := p
  simp only [prs, List.mem_flatMap, List.mem_map, List.mem_filter, decide_eq_true_eq, Prod.mk.injEq]
  constructor
  · rintro ⟨x, hx, y, ⟨hy, hne⟩, rfl, rfl⟩
    exact ⟨hx, hy, fun e => hne e.symm⟩
  · rintro ⟨h1, h2, h3⟩
    exact ⟨a, h1, b, ⟨h2, fun e => h3 e.symm⟩, rfl, rfl⟩
theorem nodup_flat {α β : Type} {f : α → List β} : ∀ {l : List α}, l.Nodup → (∀ a ∈ l, (f a).Nodup) → (∀ a ∈ l, ∀ b ∈ l, ∀ x, x ∈ f a → x ∈ f b → a = b) → (l.flatMap f).Nodup
  | [], _, _, _ => List.nodup_nil
  | x :: xs, h, h1, h2 => by
    rw [List.flatMap_cons, List.nodup_append]
    rw [List.nodup_cons] at h
    refine ⟨h1 x (List.mem_cons_self ..), nodup_flat h.2 (fun a ha => h1 a (List.mem_cons_of_mem _ ha)) (fun a ha b hb => h2 a (List.mem_cons_of_mem _ ha) b (List.mem_cons_of_mem _ hb)), fun u hu v hv e => ?_⟩
    subst e
    obtain ⟨b, hb, hv⟩ := List.mem_flatMap.mp hv
    have := h2 x (List.mem_cons_self ..) b (List.mem_cons_of_mem _ hb) u hu hv
    subst this
    exact h.1 hb
theorem prs_nd {ys : List Str} (h : ys.Nodup) : (prs ys).Nodup := by
  refine nodup_flat h (fun a _ => nodup_map_on (h.filter _) fun x _ y _ e => (Prod.mk.inj e).2) fun a _ b _ x hx hy => ?_
  obtain ⟨y, _, rfl⟩ := List.mem_map.mp hx
  obtain ⟨z, _, e⟩ := List.mem_map.mp hy
  exact (Prod.mk.inj e).1.symm
theorem len_flat {α β : Type} {f : α → List β} {n : Nat} : ∀ {l : List α}, (∀ a ∈ l, (f a).length ≤ n) → (l.flatMap f).length ≤ l.length * n
  | [], _ => by simp
  | x :: xs, h => by
    rw [List.flatMap_cons, List.length_append, List.length_cons, Nat.add_mul, Nat.one_mul]
    have h1 := h x (List.mem_cons_self ..)
    have h2 := len_flat (f := f) (n := n) (l := xs) fun a ha => h a (List.mem_cons_of_mem _ ha)
    omega
theorem prs_len (ys : List Str) : (prs ys).length ≤ ys.length * ys.length := len_flat fun a _ => by rw [List.length_map]; exact List.length_filter_le _ _
theorem seqOf_fr {S : List Addr} {M M' : Mem} {d : D} {xs : List D} (h : seqOf M d = some xs) (f : Fr S M M') (hd : ∀ a, d = .ref a → a ∉ S) : seqOf M' d = some xs := by
  cases d <;> first | exact h | skip
  · next a =>
    exact lstAt_of (f _ _ (lstAt_eq h) (hd a rfl))
theorem seqOf_ext {M M' : Mem} {d : D} {xs : List D} (h : seqOf M d = some xs) (f : Ext M M') : seqOf M' d = some xs := seqOf_fr (S := []) h f.fr fun _ _ => by simp
/-- all pairs, in a new list -/
@[irreducible] def sp__law_pairs : DSp := fun ds M P => ∃ (d : D) (ys : List Str), ds = [d] ∧ seqOf M d = some (ys.map D.str) ∧ ys.length ≤ 30 ∧
  ∀ (p : Addr) M', M p = none → M' p = some (.lst ((prs ys).map pD)) → Ext M M' → P (.ref p) M'
def N__law_pairs : List Str := ["_law_names_here", "_law_found", "_law_tail", "_law_head"]
def t__law_pairs : DTS := (dSeq (dAsg (dLst (daNil)) (gN 1)) (dSeq (dFor (diSeq (dVar 0)) (gN 2) (dDrop (dBM "list" rExtend (dVar 1) (daCons (dComp (diSeq (dVar 0)) [3] (.n 3) (dTest (dOp (rEqs true) (dVar 3) (dVar 2))) (dTup (daCons (dVar 2) (daCons (dVar 3) (daNil))))) (daNil))))) (dRet (dVar 1))))
theorem prs_len2 {ys : List Str} (h : ys.length ≤ 30) : (prs ys).length ≤ 900 := Nat.le_trans (prs_len ys) (Nat.mul_le_mul h h)
theorem pairs_fm (t : Str) : ∀ ys : List Str, (ys.map D.str).filterMap (fun y => match y with | .str b => if b ≠ t then some (pD (t, b)) else none | _ => none) = ((ys.filter fun b => decide (b ≠ t)).map fun b => (t, b)).map pD
  | [] => rfl
  | y :: ys => by
    have ih := pairs_fm t ys
    simp only [List.map_cons, List.filterMap_cons]
    by_cases h : y = t
    · rw [List.filter_cons_of_neg (by simp [h]), ← ih]
      simp [h]
    · rw [List.filter_cons_of_pos (by simp [h])]
      simp only [h, ne_eq, not_false_eq_true, if_true, List.map_cons]
      rw [← ih]
theorem pure__law_pairs : Pure N__law_pairs ["_law_names_here"] sp__law_pairs t__law_pairs := by
  unfold sp__law_pairs
  rintro ds M P ⟨d, ys, rfl, hd, hz, hP⟩
  refine ⟨rfl, ?_⟩
  intro f hf
  have e1 := Ext.new (o := .lst []) hf
  have hd1 := seqOf_ext hd e1
  have hdf : ∀ a, d = .ref a → a ≠ f := fun a e => by
    subst e
    intro e; subst e
    have := lstAt_eq hd
    rw [hf] at this; cases this
  refine on_seq hd1 ?_
  refine for_ok (fun dn ρ M1 => (∃ z z2, ρ = [some d, some (.ref f), z, z2]) ∧ ∃ xs : List Str, dn = xs.map D.str ∧ (∀ x ∈ xs, x ∈ ys) ∧ xs.length ≤ ys.length ∧ M1 f = some (.lst ((xs.flatMap fun a => (ys.filter fun b => decide (b ≠ a)).map fun b => (a, b)).map pD)) ∧ Ext M M1) ?_ ?_ ?_ ?_
  · rintro dn r ρ M1 e ⟨_, xs, _, _, _, _, h⟩
    exact seqOf_ext hd h
  · rintro dn x r ρ M1 e ⟨⟨z, z2, rfl⟩, xs, rfl, hxs, hxl, h1, h2⟩ N hN
    obtain ⟨t, ht, rfl⟩ : ∃ t, t ∈ ys ∧ x = .str t := by
      have : x ∈ ys.map D.str := by rw [e]; simp
      obtain ⟨t, ht, rfl⟩ := List.mem_map.mp this
      exact ⟨t, ht, rfl⟩
    have hl : xs.length + 1 ≤ ys.length := by
      have := congrArg List.length e
      simp only [List.length_map, List.length_append, List.length_cons] at this
      omega
    have hdM1 := seqOf_ext hd h2
    refine ⟨ty_lst h1, ?_⟩
    refine on_seq hdM1 fun c hc => ?_
    refine comp_ext (fun y => match y with | .str b => if b ≠ t then some (pD (t, b)) else none | _ => none) hc (fun M2 h => seqOf_ext hdM1 h) (by rw [List.length_map]; exact Nat.le_of_lt (smallZ (by omega))) (fun y hy M2 hM2 R hR => ?_) fun M2 hM2 hc2 => ?_
    · obtain ⟨b, hb, rfl⟩ := List.mem_map.mp hy
      refine eq_str (ite_tf (fun h => ?_) (fun h => ?_))
      · have : b ≠ t := by simpa [nb] using h
        have := hR M2 Ext.refl
        simp only [if_pos ‹b ≠ t›] at this
        exact this
      · have hbt : ¬ b ≠ t := by simpa [nb] using h
        have := hR M2 Ext.refl
        simp only [if_neg hbt] at this
        exact this
    · have hfm := pairs_fm t ys
      rw [hfm] at hc2
      have h1' := hM2 _ _ h1
      refine extend_lst h1' hc2 ?_ (hN _ _ ⟨⟨_, _, rfl⟩, xs ++ [t], by simp, ?_, by simpa using hl, ?_, ?_⟩)
      · rw [List.length_map, List.length_map, List.length_map, sizeLine_eq]
        have a1 := len_flat (f := fun a => (ys.filter fun b => decide (b ≠ a)).map fun b => (a, b)) (n := 30) (l := xs) fun a _ => by rw [List.length_map]; exact Nat.le_trans (List.length_filter_le _ _) hz
        have a2 := List.length_filter_le (fun b => decide (b ≠ t)) ys
        have : xs.length * 30 ≤ 30 * 30 := Nat.mul_le_mul (by omega) (Nat.le_refl _)
        omega
      · intro x hx
        rcases List.mem_append.mp hx with hx | hx
        · exact hxs x hx
        · rw [List.mem_singleton.mp hx]; exact ht
      · rw [up_same, List.flatMap_append, List.map_append]; simp
      · exact (h2.trans hM2).wr hf
  · exact ⟨⟨_, _, rfl⟩, [], rfl, by simp, by simp, up_same, e1⟩
  · rintro ρ M1 ⟨⟨z, z2, rfl⟩, xs, hx, _, _, h1, h2⟩
    have : xs = ys := by
      exact (List.map_inj_right (fun a b h => D.str.inj h)).mp hx.symm
    subst this
    exact hP f M1 hf h1 h2
end EW

set_option maxRecDepth 100000
set_option maxHeartbeats 4000000
/-! EwState: the ground drawn, the laws' own state of a company. -/
namespace EW
open PySem PySem.Spec PyProof.Rows L2
theorem pairs_call {M : Mem} {d : D} {ys : List Str} {P : DVK} (hd : seqOf M d = some (ys.map D.str)) (hz : ys.length ≤ 30) (hP : ∀ (p : Addr) M', M p = none → M' p = some (.lst ((prs ys).map pD)) → Ext M M' → P (.ref p) M') : sp__law_pairs [d] M P := by unfold sp__law_pairs; exact ⟨d, ys, rfl, hd, hz, hP⟩
def groundD (names : List Str) (paths : List (Str × Str)) : D := .tup [.ft (names.map D.str), .tup (paths.map pD)]
/-- a ground that the program takes -/
structure Ground (names : List Str) (paths : List (Str × Str)) : Prop where
  nm : Names names
  lo : 1 ≤ names.length
  hi : names.length ≤ 12
  nd : paths.Nodup
  sub : ∀ p ∈ paths, p ∈ prs names
theorem mixed_prs {M : Mem} {a g : Addr} {d : D} {xs : List (Str × Str)} {P : DVK} (hd : seqOf M d = some (xs.map pD)) (hz : xs.length ≤ 1000) (hs : SackAt M a g)
    (hP : ∀ (p : Addr) (ys : List (Str × Str)) M', ys.Perm xs → M p = none → M' p = some (.lst (ys.map pD)) → SackAt M' a g → Fr [a, g] M M' → P (.ref p) M') : sp__law_mixed [.ref a, d] M P := by
  unfold sp__law_mixed
  exact ⟨a, g, d, _, rfl, hd, by rw [List.length_map]; exact hz, hs, fun p zs M' hp h0 h1 h2 h3 => by
    obtain ⟨ys, rfl, h⟩ := perm_map_inv pD_inj hp
    exact hP p ys M' h h0 h1 h2 h3⟩
@[irreducible] def sp__law_ground : DSp := fun ds M P => ∃ (a g : Addr) (many most : Nat), ds = [.ref a, .int many, .int most] ∧ 1 ≤ many ∧ many ≤ 12 ∧ most ≤ 100 ∧ SackAt M a g ∧
  ∀ (names : List Str) (paths : List (Str × Str)) M', Ground names paths → names.length ≤ many → paths.length ≤ most → SackAt M' a g → Fr [a, g] M M' → P (groundD names paths) M'
def N__law_ground : List Str := ["_law_sack_here", "_law_many", "_law_most", "_law_names_here", "_law_pairs_here", "_law_room"]
def t__law_ground : DTS := (dSeq (dAsg (dCall sp__law_names [] (daCons (dVar 0) (daCons (dOp rAdd (dC (.int 1)) (dCall sp__law_take [] (daCons (dVar 0) (daCons (dVar 1) (daNil))))) (daNil)))) (gN 3)) (dSeq (dAsg (dCall sp__law_mixed [] (daCons (dVar 0) (daCons (dCall sp__law_pairs [] (daCons (dVar 3) (daNil))) (daNil)))) (gN 4)) (dSeq (dAsg (dOp rAdd (dCallB rMin2 (daCons (dVar 2) (daCons (dCallB rLen (daCons (dVar 4) (daNil))) (daNil)))) (dC (.int 1))) (gN 5)) (dRet (dTup (daCons (dCallB rTuple (daCons (dVar 3) (daNil))) (daCons (dCallB rTuple (daCons (dSl rSlD (dVar 4) (dNoPart) (dPart (dCallB rMax2 (daCons (dCall sp__law_take [] (daCons (dVar 0) (daCons (dVar 5) (daNil)))) (daCons (dCall sp__law_take [] (daCons (dVar 0) (daCons (dVar 5) (daNil)))) (daNil)))))) (daNil))) (daNil))))))))
theorem pure__law_ground : Pure N__law_ground ["_law_sack_here", "_law_many", "_law_most"] sp__law_ground t__law_ground := by
  unfold sp__law_ground
  rintro ds M P ⟨a, g, many, most, rfl, m1, m2, m3, hs, hP⟩
  refine ⟨rfl, ?_⟩
  refine take_call hs (by omega) (by omega) fun i M1 i0 i1 hs1 hf1 => add_int ?_
  obtain ⟨n, hn⟩ : ∃ n : Nat, 1 + i = n := ⟨(1 + i).toNat, by omega⟩
  rw [hn]
  refine names_call (by omega) (by omega) hs1 fun p ys M2 hy hyl p0 p1 hs2 hf2 => ?_
  obtain ⟨pa, pg⟩ := hs1.free p0
  refine pairs_call (d := .ref p) (ys := ys) (lstAt_of p1) (by omega) fun q M3 q0 q1 he3 => ?_
  refine mixed_prs (d := .ref q) (xs := prs ys) (lstAt_of q1) (Nat.le_trans (prs_len2 (by omega)) (by omega)) (hs2.ext he3) fun r zs M4 hp r0 r1 hs4 hf4 => ?_
  have p1' := hf4 _ _ (he3 _ _ p1) (by simp [pa, pg])
  refine len_lst r1 (min_int (add_int ?_))
  rw [List.length_map]
  obtain ⟨m, hm, hml, hmm⟩ : ∃ m : Nat, (if ((zs.length : Nat) : Int) < (most : Int) then ((zs.length : Nat) : Int) else (most : Int)) = m ∧ m ≤ zs.length ∧ m ≤ most := by
    by_cases h : ((zs.length : Nat) : Int) < (most : Int)
    · exact ⟨zs.length, by rw [if_pos h], Nat.le_refl _, by omega⟩
    · exact ⟨most, by rw [if_neg h], by omega, Nat.le_refl _⟩
  rw [hm]
  refine tuple_ft p1' ?_
  refine take_call hs4 (by omega) (by omega) fun u M5 u0 u1 hs5 hf5 => take_call hs5 (by omega) (by omega) fun v M6 v0 v1 hs6 hf6 => max_int ?_
  obtain ⟨k, hk, hkm⟩ : ∃ k : Nat, (if v > u then v else u) = k ∧ k ≤ m := by
    by_cases h : v > u
    · exact ⟨v.toNat, by rw [if_pos h]; omega, by omega⟩
    · exact ⟨u.toNat, by rw [if_neg h]; omega, by omega⟩
  rw [hk]
  obtain ⟨ra, rg⟩ := hs2.ext he3 |>.free r0
  have r1' := hf6 _ _ (hf5 _ _ r1 (by simp [ra, rg])) (by simp [ra, rg])
  refine sl_lst r1' fun w hw => ?_
  rw [cutD_take (by rw [List.length_map]; omega), ← List.map_take]
  refine tuple_of up_same ?_
  have ew := Ext.new (o := .lst ((zs.take k).map pD)) hw
  refine hP ys (zs.take k) _ ⟨hy, by omega, by omega, (hp.nodup_iff.mpr (prs_nd hy.nd)).sublist (List.take_sublist k zs), fun x hx => hp.mem_iff.mp (List.mem_of_mem_take hx)⟩ (by omega) (by rw [List.length_take]; omega) (hs6.ext ew) ?_
  exact (((((hf1.trans hf2).ext he3).trans hf4).trans hf5).trans hf6).ext ew
theorem ground_call {M : Mem} {a g : Addr} {many most : Nat} {P : DVK} (m1 : 1 ≤ many) (m2 : many ≤ 12) (m3 : most ≤ 100) (hs : SackAt M a g)
    (hP : ∀ (names : List Str) (paths : List (Str × Str)) M', Ground names paths → names.length ≤ many → paths.length ≤ most → SackAt M' a g → Fr [a, g] M M' → P (groundD names paths) M') : sp__law_ground [.ref a, .int many, .int most] M P := by unfold sp__law_ground; exact ⟨a, g, many, most, rfl, m1, m2, m3, hs, hP⟩
/-! ### the state -/
theorem ne_gh : ("ground" : Str) ≠ "homes" := by decide +kernel
theorem ne_gs2 : ("ground" : Str) ≠ "standing" := by decide +kernel
theorem ne_gc : ("ground" : Str) ≠ "crumbs" := by decide +kernel
theorem ne_hs : ("homes" : Str) ≠ "standing" := by decide +kernel
theorem ne_hc : ("homes" : Str) ≠ "crumbs" := by decide +kernel
theorem ne_sc : ("standing" : Str) ≠ "crumbs" := by decide +kernel
def staK (G : D) (h s c : Addr) : List (Key × D) := [(.inr "ground", G), (.inr "homes", .ref h), (.inr "standing", .ref s), (.inr "crumbs", .ref c)]
section
variable {G : D} {h s c v : Addr}
theorem sta_ground : valD (staK G h s c) (.inr "ground") = some G := valD_hd
theorem sta_homes : valD (staK G h s c) (.inr "homes") = some (.ref h) := by simp [staK, valD, ne_gh]
theorem sta_stand : valD (staK G h s c) (.inr "standing") = some (.ref s) := by simp [staK, valD, ne_gs2, ne_hs]
theorem sta_crumbs : valD (staK G h s c) (.inr "crumbs") = some (.ref c) := by simp [staK, valD, ne_gc, ne_hc, ne_sc]
theorem sta_phomes : putD (staK G h s c) (.inr "homes") (.ref v) = staK G v s c := by
  unfold putD; rw [sta_homes]; simp [staK, ne_gh, ne_hs.symm, ne_hc.symm]
end
abbrev Kvs := List (List Key × D)
abbrev kk (a b : Str) : List Key := [.inr a, .inr b]
def cnt (kvs : Kvs) (a b : Str) : Int := match valD kvs (kk a b) with
  | some (.int n) => n
  | _ => 0
structure Sta where
  homes : List Int
  stand : List Str
  kvs : Kvs
structure Wf (names : List Str) (S : Sta) : Prop where
  hl : S.homes.length = names.length
  st : ∀ x ∈ S.stand, x ∈ names
  sl : S.stand.length ≤ 6
  kv : ∀ p ∈ S.kvs, ∃ a b n, p = (kk a b, D.int n) ∧ a ∈ names ∧ b ∈ names ∧ 0 ≤ n
  nd : (S.kvs.map (·.1)).Nodup
structure StAt (M : Mem) (t h s c : Addr) (G : D) (S : Sta) : Prop where
  at_ : M t = some (.dK (staK G h s c))
  ah : M h = some (.lst (S.homes.map D.int))
  as_ : M s = some (.lst (S.stand.map D.str))
  ac : M c = some (.dT S.kvs)
  ne : h ≠ s
section
variable {M M' : Mem} {t h s c : Addr} {G : D} {S : Sta} {T : List Addr}
theorem StAt.fr (x : StAt M t h s c G S) (f : Fr T M M') (ht : t ∉ T) (hh : h ∉ T) (hs : s ∉ T) (hc : c ∉ T) : StAt M' t h s c G S := ⟨f _ _ x.at_ ht, f _ _ x.ah hh, f _ _ x.as_ hs, f _ _ x.ac hc, x.ne⟩
theorem StAt.ext (x : StAt M t h s c G S) (f : Ext M M') : StAt M' t h s c G S := ⟨f _ _ x.at_, f _ _ x.ah, f _ _ x.as_, f _ _ x.ac, x.ne⟩
theorem StAt.th (x : StAt M t h s c G S) : t ≠ h := fun e => by have := x.at_; rw [e, x.ah] at this; cases this
theorem StAt.ts (x : StAt M t h s c G S) : t ≠ s := fun e => by have := x.at_; rw [e, x.as_] at this; cases this
theorem StAt.tc (x : StAt M t h s c G S) : t ≠ c := fun e => by have := x.at_; rw [e, x.ac] at this; cases this
theorem StAt.hc (x : StAt M t h s c G S) : h ≠ c := fun e => by have := x.ah; rw [e, x.ac] at this; cases this
theorem StAt.sc (x : StAt M t h s c G S) : s ≠ c := fun e => by have := x.as_; rw [e, x.ac] at this; cases this
theorem StAt.free (x : StAt M t h s c G S) {p : Addr} (e : M p = none) : p ∉ [t, h, s, c] := by
  simp only [List.mem_cons, List.not_mem_nil, or_false, not_or]
  refine ⟨fun q => ?_, fun q => ?_, fun q => ?_, fun q => ?_⟩ <;> subst q
  · have := x.at_; rw [e] at this; cases this
  · have := x.ah; rw [e] at this; cases this
  · have := x.as_; rw [e] at this; cases this
  · have := x.ac; rw [e] at this; cases this
end
section
variable {names : List Str} {S : Sta}
theorem putD_keys {kvs : Kvs} {k : List Key} {v : D} (h : (kvs.map (·.1)).Nodup) : ((putD kvs k v).map (·.1)).Nodup := by
  unfold putD
  split
  · have : (kvs.map fun kv => if kv.1 = k then (kv.1, v) else kv).map (·.1) = kvs.map (·.1) := by
      rw [List.map_map]
      apply List.map_congr_left
      intro p _
      simp only [Function.comp]
      split <;> rfl
    rw [this]; exact h
  · next hn =>
    rw [List.map_append, List.nodup_append]
    refine ⟨h, by simp, fun x hx y hy e => ?_⟩
    simp only [List.map_cons, List.map_nil, List.mem_singleton] at hy
    subst hy
    subst e
    obtain ⟨p, hp, hpk⟩ := List.mem_map.mp hx
    apply hn
    clear hn h hx
    induction kvs with
    | nil => cases hp
    | cons q r ih =>
      obtain ⟨a, d⟩ := q
      unfold valD
      by_cases ha : a = x
      · rw [if_pos ha]; rfl
      · rw [if_neg ha]
        rcases List.mem_cons.mp hp with e | hp
        · subst e; exact absurd hpk ha
        · exact ih hp
theorem putD_mem {kvs : Kvs} {k : List Key} {v : D} {p : List Key × D} (h : p ∈ putD kvs k v) : p ∈ kvs ∨ p = (k, v) := by
  unfold putD at h
  split at h
  · obtain ⟨q, hq, e⟩ := List.mem_map.mp h
    by_cases hk : q.1 = k
    · rw [if_pos hk] at e; right; rw [← e, hk]
    · rw [if_neg hk] at e; left; rw [← e]; exact hq
  · rcases List.mem_append.mp h with h | h
    · exact .inl h
    · exact .inr (List.mem_singleton.mp h)
theorem cnt_put (kvs : Kvs) (a b x y : Str) (n : Int) : cnt (putD kvs (kk a b) (.int n)) x y = if a = x ∧ b = y then n else cnt kvs x y := by
  unfold cnt
  rw [valD_put]
  by_cases h : a = x ∧ b = y
  · obtain ⟨rfl, rfl⟩ := h
    simp
  · have : ¬ kk a b = kk x y := fun e => h ⟨Sum.inr.inj (List.cons.inj e).1, Sum.inr.inj (List.cons.inj (List.cons.inj e).2).1⟩
    rw [if_neg this, if_neg h]
theorem Wf.val (w : Wf names S) (a b : Str) : (valD S.kvs (kk a b)).getD (.int 0) = .int (cnt S.kvs a b) := by
  unfold cnt
  cases h : valD S.kvs (kk a b) with
  | none => rfl
  | some d =>
    obtain ⟨x, y, n, e, _⟩ := w.kv _ (mem_valD h)
    obtain ⟨_, rfl⟩ := Prod.mk.inj e
    rfl
theorem Wf.valS (w : Wf names S) {a b : Str} (h : 0 < cnt S.kvs a b) : valD S.kvs (kk a b) = some (.int (cnt S.kvs a b)) := by
  have := w.val a b
  cases e : valD S.kvs (kk a b) with
  | none => unfold cnt at h; rw [e] at h; simp at h
  | some d => rw [e] at this; simpa using this
theorem Wf.nn (w : Wf names S) (a b : Str) : 0 ≤ cnt S.kvs a b := by
  unfold cnt
  cases h : valD S.kvs (kk a b) with
  | none => exact Int.le_refl _
  | some d =>
    obtain ⟨x, y, n, e, _, _, h0⟩ := w.kv _ (mem_valD h)
    obtain ⟨_, rfl⟩ := Prod.mk.inj e
    exact h0
theorem Wf.inN (w : Wf names S) {a b : Str} (h : 0 < cnt S.kvs a b) : a ∈ names ∧ b ∈ names := by
  obtain ⟨x, y, n, e, h1, h2, _⟩ := w.kv _ (mem_valD (w.valS h))
  have e1 := (Prod.mk.inj e).1
  obtain rfl : a = x := Sum.inr.inj (List.cons.inj e1).1
  obtain rfl : b = y := Sum.inr.inj (List.cons.inj (List.cons.inj e1).2).1
  exact ⟨h1, h2⟩
theorem nodup_le {α : Type} [DecidableEq α] : ∀ {l m : List α}, l.Nodup → (∀ x ∈ l, x ∈ m) → l.length ≤ m.length
  | [], _, _, _ => Nat.zero_le _
  | x :: xs, m, h, hm => by
    rw [List.nodup_cons] at h
    have hx := hm x (List.mem_cons_self ..)
    have := nodup_le (l := xs) (m := m.erase x) h.2 fun y hy => by
      have hne : y ≠ x := fun e => h.1 (e ▸ hy)
      exact (List.mem_erase_of_ne hne).mpr (hm y (List.mem_cons_of_mem _ hy))
    rw [List.length_erase_of_mem hx] at this
    have := List.length_pos_of_mem hx
    rw [List.length_cons]
    omega
theorem Wf.klen (w : Wf names S) : S.kvs.length ≤ names.length * names.length := by
  have h1 := nodup_le (m := names.flatMap fun a => names.map fun b => kk a b) w.nd fun k hk => by
    obtain ⟨p, hp, rfl⟩ := List.mem_map.mp hk
    obtain ⟨a, b, n, rfl, h1, h2, _⟩ := w.kv p hp
    exact List.mem_flatMap.mpr ⟨a, h1, List.mem_map.mpr ⟨b, h2, rfl⟩⟩
  rw [List.length_map] at h1
  exact Nat.le_trans h1 (len_flat fun a _ => by rw [List.length_map]; exact Nat.le_refl _)
theorem Wf.ksmall (w : Wf names S) (h : names.length ≤ 12) : S.kvs.length < sizeLine := by
  have := w.klen
  have : names.length * names.length ≤ 12 * 12 := Nat.mul_le_mul h h
  exact smallZ (by omega)
theorem Wf.put (w : Wf names S) {a b : Str} {n : Int} (ha : a ∈ names) (hb : b ∈ names) (hn : 0 ≤ n) : Wf names ⟨S.homes, S.stand, putD S.kvs (kk a b) (.int n)⟩ :=
  ⟨w.hl, w.st, w.sl, fun p hp => (putD_mem hp).elim (w.kv p) fun e => ⟨a, b, n, e, ha, hb, hn⟩, putD_keys w.nd⟩
end
end EW

set_option maxRecDepth 100000
set_option maxHeartbeats 4000000
namespace EW
open PySem PySem.Spec PyProof.Rows L2
theorem mul_lst {M : Mem} {Q : DVK} {a : Addr} {xs : List D} {k : Int} (h : M a = some (.lst xs)) (hk : -(2 ^ 63) ≤ k ∧ k < 2 ^ 63 ∧ xs.length * k.toNat ≤ sizeLine) (q : ∀ p, M p = none → Q (.ref p) (up M p (.lst (List.replicate k.toNat xs).flatten))) : rMul (.ref a) (.int k) M Q := by
  simp only [rMul, lstAt, h]; exact ⟨hk, q⟩
theorem sumVals_dT {M : Mem} {a : Addr} {kvs : Kvs} {is : List Int} {k : Int → Prop} (h : M a = some (.dT kvs)) (e : kvs.map (·.2) = is.map D.int) (q : k is.sum) : sumOf M (.ref a) k := by
  simp only [sumOf, sumAt, h]; exact ⟨is, e, q⟩
theorem flat_zeros : ∀ n : Nat, (List.replicate n [D.int 0]).flatten = (List.replicate n (0 : Int)).map D.int
  | 0 => rfl
  | n + 1 => by rw [List.replicate_succ, List.replicate_succ, List.flatten_cons, flat_zeros n]; rfl
theorem merge_sta {G : D} {h s c : Addr} : mergeD [] [(.inr "ground", G), (.inr "homes", .ref h), (.inr "standing", .ref s), (.inr "crumbs", .ref c)] = staK G h s c := by
  simp [mergeD, putD, valD, staK, ne_gh, ne_gs2, ne_gc, ne_hs, ne_hc, ne_sc]
/-- a new state, nobody there -/
@[irreducible] def sp__law_begun : DSp := fun ds M P => ∃ (names : List Str) (paths : List (Str × Str)), ds = [groundD names paths] ∧ names.length ≤ 12 ∧
  ∀ (t h s c : Addr) M', StAt M' t h s c (groundD names paths) ⟨List.replicate names.length 0, [], []⟩ → (∀ p ∈ [t, h, s, c], M p = none) → Ext M M' → P (.ref t) M'
def N__law_begun : List Str := ["_law_ground_here"]
def t__law_begun : DTS := (dRet (dDisp [(.inr "ground", dVar 0), (.inr "homes", dOp rMul (dLst (daCons (dC (.int 0)) (daNil))) (dCallB rLen (daCons (dOp rIxA (dVar 0) (dC (.int 0))) (daNil)))), (.inr "standing", dLst (daNil)), (.inr "crumbs", dNewT)]))
theorem pure__law_begun : Pure N__law_begun ["_law_ground_here"] sp__law_begun t__law_begun := by
  unfold sp__law_begun
  rintro ds M P ⟨names, paths, rfl, hl, hP⟩
  refine ⟨rfl, ?_⟩
  intro t ht
  have e1 := Ext.new (o := .dK []) ht
  intro q hq
  have e2 := Ext.new (o := .lst [.int 0]) hq
  refine ix_tup (xs := [.ft (names.map D.str), .tup (paths.map pD)]) rfl (len_ft ?_)
  refine mul_lst up_same ⟨by omega, by rw [List.length_map]; omega, by rw [sizeLine_eq, List.length_map]; simp; omega⟩ fun h hh => ?_
  have e3 := Ext.new (o := .lst (List.replicate ((names.map D.str).length : Int).toNat [D.int 0]).flatten) hh
  have ht3 : up (up (up M t (.dK [])) q (.lst [.int 0])) h (.lst (List.replicate ((names.map D.str).length : Int).toNat [D.int 0]).flatten) t = some (.dK []) := e3 _ _ (e2 _ _ up_same)
  have hh3 : up (up (up M t (.dK [])) q (.lst [.int 0])) h (.lst (List.replicate ((names.map D.str).length : Int).toNat [D.int 0]).flatten) h = some (.lst ((List.replicate names.length (0 : Int)).map D.int)) := by
    rw [up_same, List.length_map, Int.toNat_natCast, flat_zeros]
  have hE := (e1.trans e2).trans e3
  have hM : M h = none := e1.back (e2.back hh)
  generalize up (up (up M t (.dK [])) q (.lst [.int 0])) h (.lst (List.replicate ((names.map D.str).length : Int).toNat [D.int 0]).flatten) = M3 at *
  intro s hs
  have e4 := Ext.new (o := .lst []) hs
  intro c hc
  have e5 := Ext.new (o := .dT []) hc
  have ht5 := e5 _ _ (e4 _ _ ht3)
  have hh5 := e5 _ _ (e4 _ _ hh3)
  have hs5 := e5 _ _ (up_same (M := M3) (a := s) (o := .lst []))
  have hc5 := up_same (M := up M3 s (.lst [])) (a := c) (o := .dT [])
  generalize hM5 : up (up M3 s (.lst [])) c (.dT []) = M5 at *
  refine ⟨ht5, ?_⟩
  rw [merge_sta]
  have hth : h ≠ t := fun e => by subst e; rw [ht5] at hh5; cases hh5
  have hts : s ≠ t := fun e => by subst e; rw [ht5] at hs5; cases hs5
  have htc : c ≠ t := fun e => by subst e; rw [ht5] at hc5; cases hc5
  have hhs : h ≠ s := fun e => by subst e; rw [hs] at hh3; cases hh3
  have hs0 : M s = none := hE.back hs
  have hc0 : M c = none := hE.back (e4.back hc)
  refine hP t h s c _ ⟨up_same, by rw [up_ne hth]; exact hh5, by rw [up_ne hts]; exact hs5, by rw [up_ne htc]; exact hc5, hhs⟩ ?_ (((hE.trans e4).trans e5).wr ht)
  intro p hp
  simp only [List.mem_cons, List.not_mem_nil, or_false] at hp
  rcases hp with rfl | rfl | rfl | rfl
  · exact ht
  · exact hM
  · exact hs0
  · exact hc0
theorem begun_call {M : Mem} {names : List Str} {paths : List (Str × Str)} {P : DVK} (hl : names.length ≤ 12)
    (hP : ∀ (t h s c : Addr) M', StAt M' t h s c (groundD names paths) ⟨List.replicate names.length 0, [], []⟩ → (∀ p ∈ [t, h, s, c], M p = none) → Ext M M' → P (.ref t) M') : sp__law_begun [groundD names paths] M P := by unfold sp__law_begun; exact ⟨names, paths, rfl, hl, hP⟩
theorem begun_wf (names : List Str) : Wf names ⟨List.replicate names.length 0, [], []⟩ := ⟨by simp, by simp, by simp, by simp, by simp⟩
/-! ### total -/
@[irreducible] def sp__law_total : DSp := fun ds M P => ∃ (names : List Str) (t h s c : Addr) (G : D) (S : Sta), ds = [.ref t] ∧ StAt M t h s c G S ∧ Wf names S ∧ ∀ n : Int, P (.int n) M
def N__law_total : List Str := ["_law_state"]
def t__law_total : DTS := (dRet (dSumVals (dOp rIxA (dVar 0) (dC (.str "crumbs")))))
theorem vals_int {names : List Str} : ∀ {kvs : Kvs}, (∀ p ∈ kvs, ∃ a b n, p = (kk a b, D.int n) ∧ a ∈ names ∧ b ∈ names ∧ 0 ≤ n) → ∃ is : List Int, kvs.map (·.2) = is.map D.int
  | [], _ => ⟨[], rfl⟩
  | p :: r, h => by
    obtain ⟨a, b, n, rfl, _⟩ := h p (List.mem_cons_self ..)
    obtain ⟨is, e⟩ := vals_int (kvs := r) fun q hq => h q (List.mem_cons_of_mem _ hq)
    exact ⟨n :: is, by rw [List.map_cons, List.map_cons, e]⟩
theorem pure__law_total : Pure N__law_total ["_law_state"] sp__law_total t__law_total := by
  unfold sp__law_total
  rintro ds M P ⟨names, t, h, s, c, G, S, rfl, hst, w, hP⟩
  refine ⟨rfl, ?_⟩
  obtain ⟨is, e⟩ := vals_int w.kv
  exact ix_dK hst.at_ sta_crumbs (sumVals_dT hst.ac e (hP _))
theorem total_call {names : List Str} {M : Mem} {t h s c : Addr} {G : D} {S : Sta} {P : DVK} (hst : StAt M t h s c G S) (w : Wf names S) (hP : ∀ n : Int, P (.int n) M) : sp__law_total [.ref t] M P := by unfold sp__law_total; exact ⟨names, t, h, s, c, G, S, rfl, hst, w, hP⟩
/-! ### what is eaten -/
def eat (names : List Str) (f : Str → Str → Int) (a : Str) : List Str := names.filter fun b => decide (0 < f a b)
theorem get_cnt {names : List Str} {S : Sta} (w : Wf names S) {M : Mem} {c : Addr} {a b : Str} {Q : DVK} (h : M c = some (.dT S.kvs)) (q : Q (.int (cnt S.kvs a b)) M) : rGet (.ref c) [.tup [.str a, .str b], .int 0] M Q :=
  get1_dT h (ks := kk a b) rfl (by rw [w.val]; exact q)
theorem filt_fm {α β : Type} (p : α → Bool) (f : α → β) (g : D → Option β) (e : α → D) (hg : ∀ x, g (e x) = if p x = true then some (f x) else none) : ∀ xs : List α, (xs.map e).filterMap g = (xs.filter p).map f
  | [] => rfl
  | x :: xs => by
    rw [List.map_cons, List.filterMap_cons, hg]
    by_cases h : p x = true
    · rw [if_pos h, List.filter_cons_of_pos h, List.map_cons, filt_fm p f g e hg xs]
    · rw [if_neg h, List.filter_cons_of_neg h, filt_fm p f g e hg xs]
@[irreducible] def sp__law_eaten : DSp := fun ds M P => ∃ (names : List Str) (paths : List (Str × Str)) (t h s c : Addr) (S : Sta) (a : Str), ds = [.ref t, .str a] ∧ names.length ≤ 12 ∧ StAt M t h s c (groundD names paths) S ∧ Wf names S ∧
  ∀ (p : Addr) M', M p = none → M' p = some (.lst ((eat names (cnt S.kvs) a).map D.str)) → Ext M M' → P (.ref p) M'
def N__law_eaten : List Str := ["_law_state", "_law_at", "_law_named"]
def t__law_eaten : DTS := (dRet (dComp (diSeq (dOp rIxA (dOp rIxA (dVar 0) (dC (.str "ground"))) (dC (.int 0)))) [2] (.n 2) (dTest (dOp rGt (dBM "dict" rGet (dOp rIxA (dVar 0) (dC (.str "crumbs"))) (daCons (dTup (daCons (dVar 1) (daCons (dVar 2) (daNil)))) (daCons (dC (.int 0)) (daNil)))) (dC (.int 0)))) (dVar 2)))
theorem pure__law_eaten : Pure N__law_eaten ["_law_state", "_law_at"] sp__law_eaten t__law_eaten := by
  unfold sp__law_eaten
  rintro ds M P ⟨names, paths, t, h, s, c, S, a, rfl, hl, hst, w, hP⟩
  refine ⟨rfl, ?_⟩
  refine ix_dK hst.at_ sta_ground (ix_tup (xs := [.ft (names.map D.str), .tup (paths.map pD)]) rfl (on_seq rfl fun p hp => ?_))
  refine comp_ext (fun y => match y with | .str b => if decide (0 < cnt S.kvs a b) = true then some (.str b) else none | _ => none) hp (fun _ _ => rfl) (by rw [List.length_map]; exact Nat.le_of_lt (smallZ (by omega))) (fun y hy M2 hM2 R hR => ?_) fun M2 hM2 hp2 => ?_
  · obtain ⟨b, hb, rfl⟩ := List.mem_map.mp hy
    have hst2 := hst.ext hM2
    refine ix_dK hst2.at_ sta_crumbs ⟨ty_dT hst2.ac, get_cnt w hst2.ac (gt_int ?_)⟩
    have := hR M2 Ext.refl
    refine ite_tf (fun h => ?_) (fun h => ?_)
    · simp only [h, if_true] at this; exact this
    · simp only [h, Bool.false_eq_true, if_false] at this; exact this
  · rw [filt_fm (fun b => decide (0 < cnt S.kvs a b)) D.str _ D.str fun _ => rfl] at hp2
    exact hP p M2 hp hp2 hM2
theorem eaten_call {names : List Str} {paths : List (Str × Str)} {M : Mem} {t h s c : Addr} {S : Sta} {a : Str} {P : DVK} (hl : names.length ≤ 12) (hst : StAt M t h s c (groundD names paths) S) (w : Wf names S)
    (hP : ∀ (p : Addr) M', M p = none → M' p = some (.lst ((eat names (cnt S.kvs) a).map D.str)) → Ext M M' → P (.ref p) M') : sp__law_eaten [.ref t, .str a] M P := by unfold sp__law_eaten; exact ⟨names, paths, t, h, s, c, S, a, rfl, hl, hst, w, hP⟩
/-! ### the scene -/
def row (names : List Str) (f : Str → Str → Int) (a : Str) : List D := (eat names f a).map fun b => .tup [.str a, .str b, .int (f a b)]
def lay (names : List Str) (f : Str → Str → Int) : List D := names.flatMap (row names f)
def sceneD (names : List Str) (homes : List Int) (stand : List Str) (f : Str → Str → Int) : D := .tup [.tup (homes.map D.int), .tup (stand.map D.str), .tup (lay names f)]
@[irreducible] def sp__law_view : DSp := fun ds M P => ∃ (names : List Str) (paths : List (Str × Str)) (t h s c : Addr) (S : Sta), ds = [.ref t] ∧ names.length ≤ 12 ∧ StAt M t h s c (groundD names paths) S ∧ Wf names S ∧
  ∀ M', Ext M M' → P (sceneD names S.homes S.stand (cnt S.kvs)) M'
def N__law_view : List Str := ["_law_state", "_law_found", "_law_names_here", "_law_at", "_law_kinds", "_law_named", "_law_kind"]
def t__law_view : DTS := (dSeq (dPar 1 2 (dLst (daNil)) (dOp rIxA (dOp rIxA (dVar 0) (dC (.str "ground"))) (dC (.int 0)))) (dSeq (dFor (diSeq (dVar 2)) (gN 3) (dSeq (dAsg (dComp (diSeq (dVar 2)) [5] (.n 5) (dTest (dOp rGt (dBM "dict" rGet (dOp rIxA (dVar 0) (dC (.str "crumbs"))) (daCons (dTup (daCons (dVar 3) (daCons (dVar 5) (daNil)))) (daCons (dC (.int 0)) (daNil)))) (dC (.int 0)))) (dTup (daCons (dVar 3) (daCons (dVar 5) (daNil))))) (gN 4)) (dDrop (dBM "list" rExtend (dVar 1) (daCons (dComp (diSeq (dVar 4)) [6] (.n 6) (dYes) (dOp rAdd (dVar 6) (dTup (daCons (dOp rIxA (dOp rIxA (dVar 0) (dC (.str "crumbs"))) (dVar 6)) (daNil))))) (daNil)))))) (dRet (dTup (daCons (dCallB rTuple (daCons (dOp rIxA (dVar 0) (dC (.str "homes"))) (daNil))) (daCons (dCallB rTuple (daCons (dOp rIxA (dVar 0) (dC (.str "standing"))) (daNil))) (daCons (dCallB rTuple (daCons (dVar 1) (daNil))) (daNil))))))))
theorem row_len {names : List Str} {f : Str → Str → Int} {a : Str} : (row names f a).length ≤ names.length := by
  unfold row eat; rw [List.length_map]; exact List.length_filter_le _ _
theorem pure__law_view : Pure N__law_view ["_law_state"] sp__law_view t__law_view := by
  unfold sp__law_view
  rintro ds M P ⟨names, paths, t, h, s, c, S, rfl, hl, hst, w, hP⟩
  refine ⟨rfl, ?_⟩
  intro f hf
  have e1 := Ext.new (o := .lst []) hf
  have hst1 := hst.ext e1
  refine ix_dK hst1.at_ sta_ground (ix_tup (xs := [.ft (names.map D.str), .tup (paths.map pD)]) rfl (on_seq rfl ?_))
  refine for_ok (fun dn ρ M1 => (∃ z3 z4 z5 z6, ρ = [some (.ref t), some (.ref f), some (.ft (names.map D.str)), z3, z4, z5, z6]) ∧ ∃ xs : List Str, dn = xs.map D.str ∧ xs.length ≤ names.length ∧ M1 f = some (.lst (xs.flatMap (row names (cnt S.kvs)))) ∧ Ext M M1) (fun _ _ _ _ _ _ => rfl) ?_ ?_ ?_
  · rintro dn x r ρ M1 e ⟨⟨z3, z4, z5, z6, rfl⟩, xs, rfl, hxl, h1, h2⟩ N hN
    obtain ⟨a, ha, rfl⟩ : ∃ a, a ∈ names ∧ x = .str a := by
      have : x ∈ names.map D.str := by rw [e]; simp
      obtain ⟨a, ha, rfl⟩ := List.mem_map.mp this
      exact ⟨a, ha, rfl⟩
    have hxl' : xs.length + 1 ≤ names.length := by
      have := congrArg List.length e
      simp only [List.length_map, List.length_append, List.length_cons] at this
      omega
    refine on_seq rfl fun k hk => ?_
    refine comp_ext (fun y => match y with | .str b => if decide (0 < cnt S.kvs a b) = true then some (.tup [.str a, .str b]) else none | _ => none) hk (fun _ _ => rfl) (by rw [List.length_map]; exact Nat.le_of_lt (smallZ (by omega))) (fun y hy M2 hM2 R hR => ?_) fun M2 hM2 hk2 => ?_
    · obtain ⟨b, hb, rfl⟩ := List.mem_map.mp hy
      have hst2 := (hst.ext h2).ext hM2
      refine ix_dK hst2.at_ sta_crumbs ⟨ty_dT hst2.ac, get_cnt w hst2.ac (gt_int ?_)⟩
      have := hR M2 Ext.refl
      refine ite_tf (fun h => ?_) (fun h => ?_)
      · simp only [h, if_true] at this; exact this
      · simp only [h, Bool.false_eq_true, if_false] at this; exact this
    · rw [filt_fm (fun b => decide (0 < cnt S.kvs a b)) (fun b => .tup [.str a, .str b]) _ D.str fun _ => rfl] at hk2
      have h1' := hM2 _ _ h1
      refine ⟨ty_lst h1', ?_⟩
      refine on_seq (lstAt_of hk2) fun k2 hk2' => ?_
      refine comp_ext (fun y => match y with | .tup [.str a, .str b] => some (.tup [.str a, .str b, .int (cnt S.kvs a b)]) | _ => none) hk2' (fun M3 h3 => lstAt_of (h3 _ _ hk2)) (by rw [List.length_map]; exact Nat.le_of_lt (smallZ (Nat.le_trans (List.length_filter_le _ _) (by omega)))) (fun y hy M3 hM3 R hR => ?_) fun M3 hM3 hk3 => ?_
      · obtain ⟨b, hb, rfl⟩ := List.mem_map.mp hy
        have hb0 : 0 < cnt S.kvs a b := by simpa using (List.mem_filter.mp hb).2
        have hst3 := ((hst.ext h2).ext hM2).ext hM3
        refine item_yes (ix_dK hst3.at_ sta_crumbs (ix_dT hst3.ac (ks := kk a b) rfl (w.valS hb0) ?_))
        exact add_tup (by rw [sizeLine_eq]; simp) (hR M3 Ext.refl)
      · have hfm : ((names.filter fun b => decide (0 < cnt S.kvs a b)).map fun b => D.tup [.str a, .str b]).filterMap (fun y => match y with | .tup [.str a, .str b] => some (D.tup [.str a, .str b, .int (cnt S.kvs a b)]) | _ => none) = row names (cnt S.kvs) a := by
          rw [List.filterMap_map]
          unfold row eat
          rw [← List.filterMap_eq_map]
          rfl
        rw [hfm] at hk3
        refine extend_lst (hM3 _ _ h1') hk3 ?_ (hN _ _ ⟨⟨_, _, _, _, rfl⟩, xs ++ [a], by simp, by simpa using hxl', ?_, ?_⟩)
        · have a1 := len_flat (f := row names (cnt S.kvs)) (n := 12) (l := xs) fun a _ => Nat.le_trans row_len hl
          have a2 := row_len (names := names) (f := cnt S.kvs) (a := a)
          have : xs.length * 12 ≤ 12 * 12 := Nat.mul_le_mul (by omega) (Nat.le_refl _)
          rw [sizeLine_eq]; omega
        · rw [up_same, List.flatMap_append]; simp
        · exact ((h2.trans hM2).trans hM3).wr hf
  · exact ⟨⟨_, _, _, _, rfl⟩, [], rfl, by simp, up_same, e1⟩
  · rintro ρ M1 ⟨⟨z3, z4, z5, z6, rfl⟩, xs, hx, _, h1, h2⟩
    have : xs = names := ((List.map_inj_right (fun a b h => D.str.inj h)).mp hx).symm
    subst this
    have hst2 := hst.ext h2
    exact ix_dK hst2.at_ sta_homes (tuple_of hst2.ah (ix_dK hst2.at_ sta_stand (tuple_of hst2.as_ (tuple_of h1 (hP M1 h2)))))
theorem view_call {names : List Str} {paths : List (Str × Str)} {M : Mem} {t h s c : Addr} {S : Sta} {P : DVK} (hl : names.length ≤ 12) (hst : StAt M t h s c (groundD names paths) S) (w : Wf names S)
    (hP : ∀ M', Ext M M' → P (sceneD names S.homes S.stand (cnt S.kvs)) M') : sp__law_view [.ref t] M P := by unfold sp__law_view; exact ⟨names, paths, t, h, s, c, S, rfl, hl, hst, w, hP⟩
end EW

set_option maxRecDepth 100000
set_option maxHeartbeats 4000000
/-! EwMake: deeds. -/
namespace EW
open PySem PySem.Spec PyProof.Rows L2
inductive Deed where
  | join (x : Str)
  | go (i : Nat) (x : Str)
  | back (i : Nat) (x : Str)
def deedD : Deed → D
  | .join x => .tup [.str "join", .str x]
  | .go i x => .tup [.str "go", .int i, .str x]
  | .back i x => .tup [.str "back", .int i, .str x]
def Sta.at (S : Sta) (i : Nat) : Str := S.stand.getD i ""
def Sta.after (names : List Str) (S : Sta) : Deed → Sta
  | .join x => ⟨S.homes.set (names.idxOf x) (S.homes.getD (names.idxOf x) 0 + 1), S.stand ++ [x], S.kvs⟩
  | .go i x => ⟨S.homes, S.stand.set i x, putD S.kvs (kk x (S.at i)) (.int (cnt S.kvs x (S.at i) + 1))⟩
  | .back i x => ⟨S.homes, S.stand.set i x, putD S.kvs (kk (S.at i) x) (.int (cnt S.kvs (S.at i) x - 1))⟩
def Sta.may (names : List Str) (S : Sta) : Deed → Prop
  | .join x => x ∈ names ∧ S.stand.length < 6
  | .go i x => i < S.stand.length ∧ x ∈ names
  | .back i x => i < S.stand.length ∧ 0 < cnt S.kvs (S.at i) x
section
variable {names : List Str} {S : Sta}
theorem Sta.at_get {i : Nat} (h : i < S.stand.length) : S.stand[i]? = some (S.at i) := by
  unfold Sta.at
  rw [List.getD_eq_getElem?_getD, List.getElem?_eq_getElem h]; rfl
theorem Wf.at (w : Wf names S) {i : Nat} (h : i < S.stand.length) : S.at i ∈ names := w.st _ (List.mem_of_getElem? (Sta.at_get h))
theorem Wf.move (w : Wf names S) {a b x : Str} {n : Int} {i : Nat} (ha : a ∈ names) (hb : b ∈ names) (hn : 0 ≤ n) (hx : x ∈ names) : Wf names ⟨S.homes, S.stand.set i x, putD S.kvs (kk a b) (.int n)⟩ := by
  have w' := w.put ha hb hn
  refine ⟨w'.hl, fun y hy => ?_, by rw [List.length_set]; exact w'.sl, w'.kv, w'.nd⟩
  rcases List.mem_or_eq_of_mem_set hy with h | h
  · exact w.st y h
  · rw [h]; exact hx
theorem Wf.after (w : Wf names S) {d : Deed} (m : S.may names d) : Wf names (S.after names d) := by
  cases d with
  | join x =>
    obtain ⟨m1, m2⟩ := m
    refine ⟨by show (S.homes.set _ _).length = _; rw [List.length_set]; exact w.hl, fun y hy => ?_, by show (S.stand ++ [x]).length ≤ 6; rw [List.length_append, List.length_singleton]; omega, w.kv, w.nd⟩
    rcases List.mem_append.mp hy with h | h
    · exact w.st y h
    · rw [List.mem_singleton.mp h]; exact m1
  | go i x =>
    obtain ⟨m1, m2⟩ := m
    exact w.move m2 (w.at m1) (by have := w.nn x (S.at i); omega) m2
  | back i x =>
    obtain ⟨m1, m2⟩ := m
    have h := w.inN m2
    exact w.move h.1 h.2 (by omega) h.2
end
theorem ne_jg : ("join" : Str) ≠ "go" := by decide +kernel
theorem ne_jb : ("join" : Str) ≠ "back" := by decide +kernel
theorem ne_gb : ("go" : Str) ≠ "back" := by decide +kernel
theorem idx_first {names : List Str} {x : Str} (h : x ∈ names) : names[names.idxOf x]? = some x ∧ (∀ m, m < names.idxOf x → names[m]? ≠ some x) ∧ names.idxOf x < names.length := by
  induction names with
  | nil => cases h
  | cons y ys ih =>
    by_cases e : y = x
    · subst e
      rw [List.idxOf_cons_self]
      exact ⟨rfl, fun m hm => by omega, by simp⟩
    · have hx : x ∈ ys := by
        rcases List.mem_cons.mp h with h | h
        · exact absurd h.symm e
        · exact h
      obtain ⟨h1, h2, h3⟩ := ih hx
      rw [show List.idxOf x (y :: ys) = List.idxOf x ys + 1 by rw [List.idxOf_cons, beq_false_of_ne e]; rfl]
      refine ⟨by simpa using h1, fun m hm => ?_, by simp; omega⟩
      cases m with
      | zero => simp [e]
      | succ m => simpa using h2 m (by omega)
@[irreducible] def sp__law_make : DSp := fun ds M P => ∃ (names : List Str) (paths : List (Str × Str)) (t h s c : Addr) (S : Sta) (d : Deed), ds = [.ref t, deedD d] ∧ names.length ≤ 12 ∧ StAt M t h s c (groundD names paths) S ∧ Wf names S ∧ S.may names d ∧
  ∀ (r : D) M', StAt M' t h s c (groundD names paths) (S.after names d) → Fr [t, h, s, c] M M' → P r M'
def N__law_make : List Str := ["_law_state", "_law_deed_here", "_law_at", "_law_kind", "_law_change"]
def t__law_make : DTS := (dSeq (dIfS (dTest (dOp (rEqs false) (dOp rIxA (dVar 1) (dC (.int 0))) (dC (.str "join")))) (dSeq (dAsg (dTidx (dOp rIxA (dOp rIxA (dVar 0) (dC (.str "ground"))) (dC (.int 0))) (dOp rIxA (dVar 1) (dC (.int 1)))) (gN 2)) (dSeq (dAsg (dOp rAdd (dOp rIxA (dOp rIxA (dVar 0) (dC (.str "homes"))) (dVar 2)) (dC (.int 1))) (gSubD (dOp rIxA (dVar 0) (dC (.str "homes"))) (dVar 2))) (dSeq (dDrop (dBM "list" rAppend (dOp rIxA (dVar 0) (dC (.str "standing"))) (daCons (dOp rIxA (dVar 1) (dC (.int 1))) (daNil)))) (dRet (dOp rSub (dCallB rLen (daCons (dOp rIxA (dVar 0) (dC (.str "standing"))) (daNil))) (dC (.int 1))))))) (dNext)) (dSeq (dAsg (dOp rIxA (dOp rIxA (dVar 0) (dC (.str "standing"))) (dOp rIxA (dVar 1) (dC (.int 1)))) (gN 2)) (dSeq (dAsg (dOp rIxA (dLst (daCons (dTup (daCons (dTup (daCons (dVar 2) (daCons (dOp rIxA (dVar 1) (dC (.int 2))) (daNil)))) (daCons (dOp rSub (dC (.int 0)) (dC (.int 1))) (daNil)))) (daCons (dTup (daCons (dTup (daCons (dOp rIxA (dVar 1) (dC (.int 2))) (daCons (dVar 2) (daNil)))) (daCons (dC (.int 1)) (daNil)))) (daNil)))) (dCallB rInt (daCons (dOp (rEqs false) (dOp rIxA (dVar 1) (dC (.int 0))) (dC (.str "go"))) (daNil)))) (gTn 2 (gsCons (gN 3) (gsCons (gN 4) (gsNil))))) (dSeq (dAsg (dOp rAdd (dBM "dict" rGet (dOp rIxA (dVar 0) (dC (.str "crumbs"))) (daCons (dVar 3) (daCons (dC (.int 0)) (daNil)))) (dVar 4)) (gSubD (dOp rIxA (dVar 0) (dC (.str "crumbs"))) (dVar 3))) (dSeq (dAsg (dOp rIxA (dVar 1) (dC (.int 2))) (gSubD (dOp rIxA (dVar 0) (dC (.str "standing"))) (dOp rIxA (dVar 1) (dC (.int 1))))) (dRet (dC .non)))))))
theorem make_move {names : List Str} {paths : List (Str × Str)} {M : Mem} {t h s c : Addr} {S : Sta} {word : Str} {i : Nat} {x a b : Str} {z2 : D} {n m : Int} {E : DEnds} (hl : names.length ≤ 12) (hst : StAt M t h s c (groundD names paths) S) (w : Wf names S) (hn : 0 ≤ n)
    (hi : i < S.stand.length) (hx : x ∈ names) (ha : a ∈ names) (hb : b ∈ names) (hk : n = cnt S.kvs a b + m) (hP : ∀ M', StAt M' t h s c (groundD names paths) ⟨S.homes, S.stand.set i x, putD S.kvs (kk a b) (.int n)⟩ → Fr [t, h, s, c] M M' → E.rt .non M') :
    (dSeq (dAsg (dOp rAdd (dBM "dict" rGet (dOp rIxA (dVar 0) (dC (.str "crumbs"))) (daCons (dVar 3) (daCons (dC (.int 0)) (daNil)))) (dVar 4)) (gSubD (dOp rIxA (dVar 0) (dC (.str "crumbs"))) (dVar 3))) (dSeq (dAsg (dOp rIxA (dVar 1) (dC (.int 2))) (gSubD (dOp rIxA (dVar 0) (dC (.str "standing"))) (dOp rIxA (dVar 1) (dC (.int 1))))) (dRet (dC .non)))) E [some (.ref t), some (.tup [.str word, .int i, .str x]), some z2, some (.tup [.str a, .str b]), some (.int m)] M := by
  refine ix_dK hst.at_ sta_crumbs ⟨ty_dT hst.ac, get_cnt w hst.ac (add_int ?_)⟩
  rw [← hk]
  refine ix_dK hst.at_ sta_crumbs (put_dT hst.ac (ks := kk a b) rfl (w.ksmall hl) ?_)
  have ht : up M c (.dT (putD S.kvs (kk a b) (.int n))) t = some (.dK (staK (groundD names paths) h s c)) := by rw [up_ne hst.tc]; exact hst.at_
  have hs : up M c (.dT (putD S.kvs (kk a b) (.int n))) s = some (.lst (S.stand.map D.str)) := by rw [up_ne hst.sc]; exact hst.as_
  refine ix_tup (xs := [.str word, .int i, .str x]) rfl (ix_dK ht sta_stand (ix_tup (xs := [.str word, .int i, .str x]) rfl (put_lst hs (by omega) (by rw [List.length_map]; omega) ?_)))
  refine hP _ ⟨?_, ?_, ?_, ?_, hst.ne⟩ ?_
  · rw [up_ne hst.ts]; exact ht
  · rw [up_ne hst.ne, up_ne hst.hc]; exact hst.ah
  · rw [up_same, List.map_set]; rfl
  · rw [up_ne hst.sc.symm, up_same]
  · exact (Fr.wr (by simp)).trans (Fr.wr (by simp))
theorem pure__law_make : Pure N__law_make ["_law_state", "_law_deed_here"] sp__law_make t__law_make := by
  unfold sp__law_make
  rintro ds M P ⟨names, paths, t, h, s, c, S, d, rfl, hl, hst, w, m, hP⟩
  refine ⟨rfl, ?_⟩
  cases d with
  | join x =>
    obtain ⟨m1, m2⟩ := m
    obtain ⟨j1, j2, j3⟩ := idx_first m1
    have hj : names.idxOf x < S.homes.length := by rw [w.hl]; exact j3
    refine ix_tup (xs := [.str "join", .str x]) rfl (eq_str ?_)
    refine ix_dK hst.at_ sta_ground (ix_tup (xs := [.ft (names.map D.str), .tup (paths.map pD)]) rfl (ix_tup (xs := [.str "join", .str x]) rfl ⟨names, x, names.idxOf x, rfl, rfl, j1, j2, ?_⟩))
    refine ix_dK hst.at_ sta_homes (ix_lst hst.ah (d := .int (S.homes.getD (names.idxOf x) 0)) (atI_nat (by rw [List.getElem?_map, List.getD_eq_getElem?_getD, List.getElem?_eq_getElem hj]; rfl)) (add_int ?_))
    refine ix_dK hst.at_ sta_homes (put_lst hst.ah (by omega) (by rw [List.length_map]; omega) ?_)
    generalize hM1 : up M h (.lst ((S.homes.map D.int).set ((names.idxOf x : Nat) : Int).toNat (.int (S.homes.getD (names.idxOf x) 0 + 1)))) = M1
    have ht1 : M1 t = some (.dK (staK (groundD names paths) h s c)) := by rw [← hM1, up_ne hst.th]; exact hst.at_
    have hs1 : M1 s = some (.lst (S.stand.map D.str)) := by rw [← hM1, up_ne hst.ne.symm]; exact hst.as_
    have hh1 : M1 h = some (.lst ((S.homes.set (names.idxOf x) (S.homes.getD (names.idxOf x) 0 + 1)).map D.int)) := by rw [← hM1, up_same, List.map_set]; rfl
    have hc1 : M1 c = some (.dT S.kvs) := by rw [← hM1, up_ne hst.hc.symm]; exact hst.ac
    have hf1 : Fr [t, h, s, c] M M1 := by rw [← hM1]; exact Fr.wr (by simp)
    refine ix_dK ht1 sta_stand ⟨ty_lst hs1, ix_tup (xs := [.str "join", .str x]) rfl (append_lst hs1 (by rw [List.length_map]; exact smallZ (by omega)) ?_)⟩
    have ht2 : up M1 s (.lst (S.stand.map D.str ++ [.str x])) t = some (.dK (staK (groundD names paths) h s c)) := by rw [up_ne hst.ts]; exact ht1
    refine ix_dK ht2 sta_stand (len_lst up_same (sub_int ?_))
    refine hP _ _ ⟨ht2, ?_, ?_, ?_, hst.ne⟩ (hf1.trans (Fr.wr (by simp)))
    · rw [up_ne hst.ne]; exact hh1
    · rw [up_same]; simp [Sta.after]
    · rw [up_ne hst.sc.symm]; exact hc1
  | go i x =>
    obtain ⟨m1, m2⟩ := m
    refine ix_tup (xs := [.str "go", .int i, .str x]) rfl (eq_str ?_)
    refine ix_dK hst.at_ sta_stand (ix_tup (xs := [.str "go", .int i, .str x]) rfl (ix_lst hst.as_ (d := .str (S.at i)) (atI_nat (by rw [List.getElem?_map, Sta.at_get m1]; rfl)) ?_))
    refine ix_tup (xs := [.str "go", .int i, .str x]) rfl (sub_int (ix_tup (xs := [.str "go", .int i, .str x]) rfl fun p hp => ?_))
    have ep := Ext.new (o := .lst [.tup [.tup [.str (S.at i), .str x], .int (0 - 1)], .tup [.tup [.str x, .str (S.at i)], .int 1]]) hp
    refine ix_tup (xs := [.str "go", .int i, .str x]) rfl (eq_str (int_bl (ix_lst up_same (d := .tup [.tup [.str x, .str (S.at i)], .int 1]) ?_ ⟨rfl, ?_⟩)))
    · rw [show nb false (("go" : Str) == "go") = true by simp [nb]]; rfl
    · exact make_move hl (hst.ext ep) w (by have := w.nn x (S.at i); omega) m1 m2 m2 (w.at m1) rfl fun M' h1 h2 => hP _ M' h1 ((Ext.fr ep).trans h2)
  | back i x =>
    obtain ⟨m1, m2⟩ := m
    have hin := w.inN m2
    refine ix_tup (xs := [.str "back", .int i, .str x]) rfl (eq_str ?_)
    refine ix_dK hst.at_ sta_stand (ix_tup (xs := [.str "back", .int i, .str x]) rfl (ix_lst hst.as_ (d := .str (S.at i)) (atI_nat (by rw [List.getElem?_map, Sta.at_get m1]; rfl)) ?_))
    refine ix_tup (xs := [.str "back", .int i, .str x]) rfl (sub_int (ix_tup (xs := [.str "back", .int i, .str x]) rfl fun p hp => ?_))
    have ep := Ext.new (o := .lst [.tup [.tup [.str (S.at i), .str x], .int (0 - 1)], .tup [.tup [.str x, .str (S.at i)], .int 1]]) hp
    refine ix_tup (xs := [.str "back", .int i, .str x]) rfl (eq_str (int_bl (ix_lst up_same (d := .tup [.tup [.str (S.at i), .str x], .int (0 - 1)]) ?_ ⟨rfl, ?_⟩)))
    · rw [show nb false (("back" : Str) == "go") = false by simp [nb, ne_gb.symm]]; rfl
    · exact make_move hl (hst.ext ep) w (by omega) m1 hin.2 hin.1 hin.2 (by omega) fun M' h1 h2 => hP _ M' h1 ((Ext.fr ep).trans h2)
theorem make_call {names : List Str} {paths : List (Str × Str)} {M : Mem} {t h s c : Addr} {S : Sta} {d : Deed} {P : DVK} (hl : names.length ≤ 12) (hst : StAt M t h s c (groundD names paths) S) (w : Wf names S) (m : S.may names d)
    (hP : ∀ (r : D) M', StAt M' t h s c (groundD names paths) (S.after names d) → Fr [t, h, s, c] M M' → P r M') : sp__law_make [.ref t, deedD d] M P := by unfold sp__law_make; exact ⟨names, paths, t, h, s, c, S, d, rfl, hl, hst, w, m, hP⟩
end EW

set_option maxRecDepth 100000
set_option maxHeartbeats 4000000
/-! EwWander: a deed drawn, a wander. -/
namespace EW
open PySem PySem.Spec PyProof.Rows L2
theorem nameOk.so {x : Str} (h : nameOk x) : PyData.strOk x = true := by
  unfold PyData.strOk
  rw [Array.all_eq_true_iff_forall_mem]
  intro c hc
  have := h.2.2 c (by unfold codes; exact Array.mem_toList_iff.mpr hc)
  unfold alpha at this
  simp; omega
theorem Names.all {xs names : List Str} (h : Names names) (hs : ∀ x ∈ xs, x ∈ names) : (xs.map D.str).all (okN 20) = true := List.all_eq_true.mpr fun d hd => by
  obtain ⟨x, hx, rfl⟩ := List.mem_map.mp hd
  exact (h.ok x (hs x hx)).so
/-- xs == [], xs != [] of a list -/
theorem eq_none {M : Mem} {Q : DVK} {neg : Bool} {a : Addr} {xs : List D} (h : M a = some (.lst xs)) (hx : xs.all (okN 20) = true) {p : Addr} (hp : M p = some (.lst [])) (q : Q (.bl (nb neg xs.isEmpty)) M) : rEqs neg (.ref a) (.ref p) M Q :=
  eq_lst h hp hx rfl (by rw [show toPs ([] : List D) = [] from rfl, eqvAll_nil]; exact q)
/-- what a deed drawn may be -/
def Sta.want (names : List Str) (paths : List (Str × Str)) (S : Sta) : Deed → Prop
  | .join x => x ∈ names
  | .go i x => i < S.stand.length ∧ (S.at i, x) ∈ paths
  | .back i x => i < S.stand.length ∧ 0 < cnt S.kvs (S.at i) x
/-- the two regions have nothing in common -/
def Dj (xs ys : List Addr) : Prop := ∀ x ∈ xs, x ∉ ys
theorem Dj.sym {xs ys : List Addr} (h : Dj xs ys) : Dj ys xs := fun x hx hy => h x hy hx
theorem StAt.keep {M M' : Mem} {t h s c : Addr} {G : D} {S : Sta} {T : List Addr} (x : StAt M t h s c G S) (f : Fr T M M') (d : Dj [t, h, s, c] T) : StAt M' t h s c G S :=
  x.fr f (d t (by simp)) (d h (by simp)) (d s (by simp)) (d c (by simp))
theorem SackAt.keep {M M' : Mem} {a g : Addr} {T : List Addr} (x : SackAt M a g) (f : Fr T M M') (d : Dj [a, g] T) : SackAt M' a g := x.fr f (d a (by simp)) (d g (by simp))
/-- paths as they are handed on: a tuple or a list, of a place that stays -/
def PathsAt (M : Mem) (d : D) (paths : List (Str × Str)) (T : List Addr) : Prop := seqOf M d = some (paths.map pD) ∧ ∀ a, d = .ref a → a ∉ T
theorem PathsAt.keep {M M' : Mem} {d : D} {paths : List (Str × Str)} {T T' : List Addr} (h : PathsAt M d paths T) (f : Fr T' M M') (hT : ∀ x ∈ T', x ∈ T) : PathsAt M' d paths T := ⟨seqOf_fr h.1 f fun a e hx => h.2 a e (hT a hx), h.2⟩
@[irreducible] def sp__law_deed : DSp := fun ds M P => ∃ (a g t h s c : Addr) (dp : D) (names : List Str) (gp paths : List (Str × Str)) (S : Sta), ds = [.ref a, .ref t, dp] ∧ Names names ∧ 1 ≤ names.length ∧ names.length ≤ 12 ∧ SackAt M a g ∧ StAt M t h s c (groundD names gp) S ∧ Wf names S ∧ Dj [a, g] [t, h, s, c] ∧
  PathsAt M dp paths [a, g] ∧ (∀ p ∈ paths, p ∈ prs names) ∧ paths.length ≤ 1000 ∧ ∀ (d : Deed) M', S.want names paths d → SackAt M' a g → Fr [a, g] M M' → P (deedD d) M'
def N__law_deed : List Str := ["_law_sack_here", "_law_state", "_law_paths", "_law_form", "_law_names_here", "_law_traveller", "_law_at", "_law_goals", "_law_eaten_here", "_law_tail", "_law_head"]
def t__law_deed : DTS := (dSeq (dPar 3 4 (dCall sp__law_take [] (daCons (dVar 0) (daCons (dC (.int 8)) (daNil)))) (dOp rIxA (dOp rIxA (dVar 1) (dC (.str "ground"))) (dC (.int 0)))) (dSeq (dIfS (dOr (dTest (dOp (rEqs false) (dOp rIxA (dVar 1) (dC (.str "standing"))) (dLst (daNil)))) (dAnd (dTest (dOp (rEqs false) (dVar 3) (dC (.int 0)))) (dTest (dOp rLt (dCallB rLen (daCons (dOp rIxA (dVar 1) (dC (.str "standing"))) (daNil))) (dC (.int 6)))))) (dRet (dTup (daCons (dC (.str "join")) (daCons (dOp rIxA (dVar 4) (dCall sp__law_take [] (daCons (dVar 0) (daCons (dCallB rLen (daCons (dVar 4) (daNil))) (daNil))))) (daNil))))) (dNext)) (dSeq (dAsg (dCall sp__law_take [] (daCons (dVar 0) (daCons (dCallB rLen (daCons (dOp rIxA (dVar 1) (dC (.str "standing"))) (daNil))) (daNil)))) (gN 5)) (dSeq (dAsg (dOp rIxA (dOp rIxA (dVar 1) (dC (.str "standing"))) (dVar 5)) (gN 6)) (dSeq (dPar 7 8 (dComp (diSeq (dVar 2)) [9, 10] (.t [.n 9, .n 10]) (dTest (dOp (rEqs false) (dVar 9) (dVar 6))) (dVar 10)) (dCall sp__law_eaten [] (daCons (dVar 1) (daCons (dVar 6) (daNil))))) (dSeq (dIfS (dAnd (dTest (dOp (rEqs true) (dVar 8) (dLst (daNil)))) (dOr (dTest (dOp rLt (dVar 3) (dC (.int 3)))) (dTest (dOp (rEqs false) (dVar 7) (dLst (daNil)))))) (dRet (dTup (daCons (dC (.str "back")) (daCons (dVar 5) (daCons (dOp rIxA (dVar 8) (dCall sp__law_take [] (daCons (dVar 0) (daCons (dCallB rLen (daCons (dVar 8) (daNil))) (daNil))))) (daNil)))))) (dNext)) (dSeq (dIfS (dTest (dOp (rEqs true) (dVar 7) (dLst (daNil)))) (dRet (dTup (daCons (dC (.str "go")) (daCons (dVar 5) (daCons (dOp rIxA (dVar 7) (dCall sp__law_take [] (daCons (dVar 0) (daCons (dCallB rLen (daCons (dVar 7) (daNil))) (daNil))))) (daNil)))))) (dNext)) (dRet (dTup (daCons (dC (.str "join")) (daCons (dOp rIxA (dVar 4) (dCall sp__law_take [] (daCons (dVar 0) (daCons (dCallB rLen (daCons (dVar 4) (daNil))) (daNil))))) (daNil))))))))))))
theorem deed_join {names : List Str} {M M0 : Mem} {a g : Addr} {Q : DVK} (h1 : 1 ≤ names.length) (h2 : names.length ≤ 12) (hs : SackAt M a g) (hf : Fr [a, g] M0 M) (hQ : ∀ x M', x ∈ names → SackAt M' a g → Fr [a, g] M0 M' → Q (.str x) M') :
    sp__law_take [.ref a, .int (names.map D.str).length] M fun i M1 => rIxA (.ft (names.map D.str)) i M1 Q := by
  rw [List.length_map]
  refine take_call hs (by omega) (by omega) fun i M1 i0 i1 hs1 hf1 => ?_
  have hi : i.toNat < names.length := by omega
  refine ix_ft (d := .str names[i.toNat]) (atI_int i0 (by rw [List.getElem?_map, List.getElem?_eq_getElem hi]; rfl)) (hQ _ M1 (List.getElem_mem hi) hs1 (hf.trans hf1))
theorem pick {xs : List Str} {M M0 : Mem} {a g p : Addr} {Q : DVK} (h1 : xs ≠ []) (h2 : xs.length ≤ 1000) (hs : SackAt M a g) (hf : Fr [a, g] M0 M) (hp : M p = some (.lst (xs.map D.str))) (hpa : p ∉ [a, g]) (hQ : ∀ x M', x ∈ xs → SackAt M' a g → Fr [a, g] M0 M' → Q (.str x) M') :
    sp__law_take [.ref a, .int (xs.map D.str).length] M fun i M1 => rIxA (.ref p) i M1 Q := by
  rw [List.length_map]
  have := List.length_pos_iff.mpr h1
  refine take_call hs (by omega) (by omega) fun i M1 i0 i1 hs1 hf1 => ?_
  have hi : i.toNat < xs.length := by omega
  exact ix_lst (hf1 _ _ hp hpa) (d := .str xs[i.toNat]) (atI_int i0 (by rw [List.getElem?_map, List.getElem?_eq_getElem hi]; rfl)) (hQ _ M1 (List.getElem_mem hi) hs1 (hf.trans hf1))
theorem goals_fm (a : Str) : ∀ ps : List (Str × Str), (ps.map pD).filterMap (fun y => match y with | .tup [.str x, .str z] => if x = a then some (D.str z) else none | _ => none) = ((ps.filter fun p => decide (p.1 = a)).map (·.2)).map D.str
  | [] => rfl
  | (x, z) :: ps => by
    rw [List.map_cons, List.filterMap_cons]
    by_cases h : x = a
    · rw [List.filter_cons_of_pos (by simp [h]), List.map_cons, List.map_cons, ← goals_fm a ps]
      simp [pD, h]
    · rw [List.filter_cons_of_neg (by simp [h]), ← goals_fm a ps]
      simp [pD, h]
theorem pure__law_deed : Pure N__law_deed ["_law_sack_here", "_law_state", "_law_paths"] sp__law_deed t__law_deed := by
  unfold sp__law_deed
  rintro ds M P ⟨a, g, t, h, s, c, dp, names, gp, paths, S, rfl, nm, n1, n2, hs, hst, w, dj, hpa, hsub, hpl, hP⟩
  refine ⟨rfl, ?_⟩
  refine take_call hs (by decide) (by decide) fun form M1 f0 f1 hs1 hf1 => ?_
  have hst1 := hst.keep hf1 dj.sym
  have hpa1 := hpa.keep hf1 fun _ h => h
  refine ix_dK hst1.at_ sta_ground (ix_tup (xs := [.ft (names.map D.str), .tup (gp.map pD)]) rfl ?_)
  refine ix_dK hst1.at_ sta_stand fun p hp => ?_
  have ep := Ext.new (o := .lst []) hp
  have hst2 := hst1.ext ep
  have hs2 := hs1.ext ep
  have hf2 : Fr [a, g] M (up M1 p (.lst [])) := hf1.ext ep
  have hpa2 := hpa1.keep ep.fr (T' := []) (by simp)
  have hpe := up_same (M := M1) (a := p) (o := .lst [])
  generalize up M1 p (.lst []) = M2 at *
  have join : ∀ (E : DEnds) (ρ : Env) (z : Env → Prop), E.rt = P → ∀ M3, SackAt M3 a g → Fr [a, g] M M3 → sp__law_take [.ref a, .int (names.map D.str).length] M3 fun i M4 => rIxA (.ft (names.map D.str)) i M4 fun x M5 => E.rt (.tup [.str "join", x]) M5 := by
    rintro E ρ z rfl M3 k1 k2
    exact deed_join n1 n2 k1 k2 fun x M' hx k3 k4 => hP (.join x) M' hx k3 k4
  refine eq_none hst2.as_ (nm.all w.st) hpe (ite_tf (fun _ => ?_) (fun he => ?_))
  · exact len_ft (join _ [] (fun _ => True) rfl M2 hs2 hf2)
  · have rest : (dSeq (dAsg (dCall sp__law_take [] (daCons (dVar 0) (daCons (dCallB rLen (daCons (dOp rIxA (dVar 1) (dC (.str "standing"))) (daNil))) (daNil)))) (gN 5)) (dSeq (dAsg (dOp rIxA (dOp rIxA (dVar 1) (dC (.str "standing"))) (dVar 5)) (gN 6)) (dSeq (dPar 7 8 (dComp (diSeq (dVar 2)) [9, 10] (.t [.n 9, .n 10]) (dTest (dOp (rEqs false) (dVar 9) (dVar 6))) (dVar 10)) (dCall sp__law_eaten [] (daCons (dVar 1) (daCons (dVar 6) (daNil))))) (dSeq (dIfS (dAnd (dTest (dOp (rEqs true) (dVar 8) (dLst (daNil)))) (dOr (dTest (dOp rLt (dVar 3) (dC (.int 3)))) (dTest (dOp (rEqs false) (dVar 7) (dLst (daNil)))))) (dRet (dTup (daCons (dC (.str "back")) (daCons (dVar 5) (daCons (dOp rIxA (dVar 8) (dCall sp__law_take [] (daCons (dVar 0) (daCons (dCallB rLen (daCons (dVar 8) (daNil))) (daNil))))) (daNil)))))) (dNext)) (dSeq (dIfS (dTest (dOp (rEqs true) (dVar 7) (dLst (daNil)))) (dRet (dTup (daCons (dC (.str "go")) (daCons (dVar 5) (daCons (dOp rIxA (dVar 7) (dCall sp__law_take [] (daCons (dVar 0) (daCons (dCallB rLen (daCons (dVar 7) (daNil))) (daNil))))) (daNil)))))) (dNext)) (dRet (dTup (daCons (dC (.str "join")) (daCons (dOp rIxA (dVar 4) (dCall sp__law_take [] (daCons (dVar 0) (daCons (dCallB rLen (daCons (dVar 4) (daNil))) (daNil))))) (daNil)))))))))) { nx := fun _ M' => P .non M', rt := P } [some (.ref a), some (.ref t), some dp, some (.int form), some (.ft (names.map D.str)), none, none, none, none, none, none] M2 := by
      have hne : S.stand ≠ [] := by
        intro e
        rw [e] at he
        simp [nb] at he
      have hpos := List.length_pos_iff.mpr hne
      refine ix_dK hst2.at_ sta_stand (len_lst hst2.as_ ?_)
      rw [List.length_map]
      refine take_call hs2 (by omega) (by have := w.sl; omega) fun i M3 i0 i1 hs3 hf3 => ?_
      obtain ⟨k, rfl⟩ : ∃ k : Nat, i = k := ⟨i.toNat, by omega⟩
      have hk : k < S.stand.length := by omega
      have hst3 := hst2.keep hf3 dj.sym
      have hpa3 := hpa2.keep hf3 fun _ h => h
      refine ix_dK hst3.at_ sta_stand (ix_lst hst3.as_ (d := .str (S.at k)) (atI_nat (by rw [List.getElem?_map, Sta.at_get hk]; rfl)) ?_)
      refine on_seq hpa3.1 fun q hq => ?_
      have hF3 := hf2.trans hf3
      refine comp_ext (fun y => match y with | .tup [.str x, .str z] => if x = S.at k then some (D.str z) else none | _ => none) hq (fun M4 e4 => (hpa3.keep e4.fr (T' := []) (by simp)).1) (by rw [List.length_map]; exact Nat.le_of_lt (smallZ hpl)) (fun y hy M4 hM4 R hR => ?_) fun M4 hM4 hq4 => ?_
      · obtain ⟨⟨x, z⟩, _, rfl⟩ := List.mem_map.mp hy
        have hR0 := hR M4 Ext.refl
        refine eq_str (ite_tf (fun e => ?_) (fun e => ?_))
        · have : x = S.at k := by simpa [nb] using e
          simp only [pD, this, if_true] at hR0; exact hR0
        · have : ¬ x = S.at k := by simpa [nb] using e
          simp only [pD, this, if_false] at hR0; exact hR0
      · rw [goals_fm] at hq4
        generalize hgo : (paths.filter fun p => decide (p.1 = S.at k)).map (·.2) = goals at hq4
        have hgm : ∀ x ∈ goals, (S.at k, x) ∈ paths ∧ x ∈ names := by
          intro x hx
          rw [← hgo] at hx
          obtain ⟨⟨u, v⟩, hu, rfl⟩ := List.mem_map.mp hx
          obtain ⟨h1, h2⟩ := List.mem_filter.mp hu
          have : u = S.at k := by simpa using h2
          subst this
          exact ⟨h1, (mem_prs.mp (hsub _ h1)).2.1⟩
        have hgl : goals.length ≤ 1000 := by rw [← hgo, List.length_map]; exact Nat.le_trans (List.length_filter_le _ _) hpl
        have hst4 := hst3.ext hM4
        have hs4 := hs3.ext hM4
        have hF4 := hF3.ext hM4
        have hqa : q ∉ [a, g] := by
          obtain ⟨u, v⟩ := hs3.free hq
          simp [u, v]
        refine eaten_call n2 hst4 w fun e M5 he0 he5 hM5 => ?_
        have hst5 := hst4.ext hM5
        have hs5 := hs4.ext hM5
        have hF5 := hF4.ext hM5
        have hea : e ∉ [a, g] := by
          obtain ⟨u, v⟩ := hs4.free he0
          simp [u, v]
        have hem : ∀ x ∈ eat names (cnt S.kvs) (S.at k), x ∈ names := fun x hx => (List.mem_filter.mp hx).1
        intro p6 hp6
        have e6 := Ext.new (o := .lst []) hp6
        have hst6 := hst5.ext e6
        have hs6 := hs5.ext e6
        have hF6 := hF5.ext e6
        have he6 := e6 _ _ he5
        have hq6 := e6 _ _ (hM5 _ _ hq4)
        have hp6' := up_same (M := M5) (a := p6) (o := .lst [])
        generalize up M5 p6 (.lst []) = M6 at *
        have goR : ∀ M7, SackAt M7 a g → Fr [a, g] M M7 → StAt M7 t h s c (groundD names gp) S → M7 q = some (.lst (goals.map D.str)) →
            (dSeq (dIfS (dTest (dOp (rEqs true) (dVar 7) (dLst (daNil)))) (dRet (dTup (daCons (dC (.str "go")) (daCons (dVar 5) (daCons (dOp rIxA (dVar 7) (dCall sp__law_take [] (daCons (dVar 0) (daCons (dCallB rLen (daCons (dVar 7) (daNil))) (daNil))))) (daNil)))))) (dNext)) (dRet (dTup (daCons (dC (.str "join")) (daCons (dOp rIxA (dVar 4) (dCall sp__law_take [] (daCons (dVar 0) (daCons (dCallB rLen (daCons (dVar 4) (daNil))) (daNil))))) (daNil)))))) { nx := fun _ M' => P .non M', rt := P } [some (.ref a), some (.ref t), some dp, some (.int form), some (.ft (names.map D.str)), some (.int k), some (.str (S.at k)), some (.ref q), some (.ref e), none, none] M7 := by
          intro M7 hs7 hF7 hst7 hq7 p8 hp8
          have e8 := Ext.new (o := .lst []) hp8
          have hq8 := e8 _ _ hq7
          refine eq_none hq8 (nm.all fun x hx => (hgm x hx).2) up_same (ite_tf (fun hb => ?_) (fun hb => ?_))
          · have hgne : goals ≠ [] := by
              intro e0; rw [e0] at hb; simp [nb] at hb
            exact len_lst hq8 (pick hgne hgl (hs7.ext e8) (hF7.ext e8) hq8 hqa fun x M' hx k3 k4 => hP (.go k x) M' ⟨hk, (hgm x hx).1⟩ k3 k4)
          · exact len_ft (join _ [] (fun _ => True) rfl _ (hs7.ext e8) (hF7.ext e8))
        have bk : ∀ M7, eat names (cnt S.kvs) (S.at k) ≠ [] → SackAt M7 a g → Fr [a, g] M M7 → M7 e = some (.lst ((eat names (cnt S.kvs) (S.at k)).map D.str)) → rLen [.ref e] M7 fun d M8 => sp__law_take [.ref a, d] M8 fun i M1 => rIxA (.ref e) i M1 fun x M5 => P (.tup [.str "back", .int k, x]) M5 := by
          intro M7 hne hs7 hF7 he7
          refine len_lst he7 (pick hne (Nat.le_trans (List.length_filter_le _ _) (by omega)) hs7 hF7 he7 hea fun x M' hx k3 k4 => hP (.back k x) M' ⟨hk, ?_⟩ k3 k4)
          simpa using (List.mem_filter.mp hx).2
        refine eq_none he6 (nm.all hem) hp6' (ite_tf (fun hb => ?_) (fun hb => ?_))
        · have hne2 : eat names (cnt S.kvs) (S.at k) ≠ [] := by
            intro e0; rw [e0] at hb; simp [nb] at hb
          refine lt_int (ite_tf (fun _ => bk M6 hne2 hs6 hF6 he6) (fun _ => ?_))
          intro p7 hp7
          have e7 := Ext.new (o := .lst []) hp7
          refine eq_none (e7 _ _ hq6) (nm.all fun x hx => (hgm x hx).2) up_same (ite_tf (fun _ => bk _ hne2 (hs6.ext e7) (hF6.ext e7) (e7 _ _ he6)) (fun _ => goR _ (hs6.ext e7) (hF6.ext e7) (hst6.ext e7) (e7 _ _ hq6)))
        · exact goR M6 hs6 hF6 hst6 hq6
    refine eq_int (ite_tf (fun _ => ?_) (fun _ => ite_f rfl rest))
    refine ix_dK hst2.at_ sta_stand (len_lst hst2.as_ (lt_int (ite_tf (fun _ => len_ft (join _ [] (fun _ => True) rfl M2 hs2 hf2)) (fun _ => rest))))
end EW

set_option maxRecDepth 100000
set_option maxHeartbeats 4000000
namespace EW
open PySem PySem.Spec PyProof.Rows L2
theorem deed_call {M : Mem} {a g t h s c : Addr} {dp : D} {names : List Str} {gp paths : List (Str × Str)} {S : Sta} {P : DVK} (nm : Names names) (n1 : 1 ≤ names.length) (n2 : names.length ≤ 12) (hs : SackAt M a g) (hst : StAt M t h s c (groundD names gp) S) (w : Wf names S) (dj : Dj [a, g] [t, h, s, c])
    (hpa : PathsAt M dp paths [a, g]) (hsub : ∀ p ∈ paths, p ∈ prs names) (hpl : paths.length ≤ 1000) (hP : ∀ (d : Deed) M', S.want names paths d → SackAt M' a g → Fr [a, g] M M' → P (deedD d) M') : sp__law_deed [.ref a, .ref t, dp] M P := by unfold sp__law_deed; exact
  ⟨a, g, t, h, s, c, dp, names, gp, paths, S, rfl, nm, n1, n2, hs, hst, w, dj, hpa, hsub, hpl, hP⟩
/-- deeds one after the other, each as it may be drawn and made -/
inductive Runs (names : List Str) (paths : List (Str × Str)) : Sta → List Deed → Sta → Prop
  | nil (S : Sta) : Runs names paths S [] S
  | snoc {S S' : Sta} {ds : List Deed} {d : Deed} : Runs names paths S ds S' → S'.want names paths d → S'.may names d → Runs names paths S (ds ++ [d]) (S'.after names d)
theorem Runs.wf {names : List Str} {paths : List (Str × Str)} {S S' : Sta} {ds : List Deed} (r : Runs names paths S ds S') (w : Wf names S) : Wf names S' := by
  induction r with
  | nil => exact w
  | snoc _ _ m ih => exact ih.after m
theorem deedD_hd (d : Deed) : ∃ z xs, deedD d = .tup (.str z :: xs) ∧ (z = "go" ↔ ∃ i x, d = .go i x) ∧ (z = "join" ↔ ∃ x, d = .join x) := by
  cases d with
  | join x => exact ⟨"join", [.str x], rfl, ⟨fun h => absurd h ne_jg, fun ⟨i, y, e⟩ => nomatch e⟩, ⟨fun _ => ⟨x, rfl⟩, fun _ => rfl⟩⟩
  | go i x => exact ⟨"go", [.int i, .str x], rfl, ⟨fun _ => ⟨i, x, rfl⟩, fun _ => rfl⟩, ⟨fun h => absurd h ne_jg.symm, fun ⟨y, e⟩ => nomatch e⟩⟩
  | back i x => exact ⟨"back", [.int i, .str x], rfl, ⟨fun h => absurd h ne_gb.symm, fun ⟨i, y, e⟩ => nomatch e⟩, ⟨fun h => absurd h ne_jb.symm, fun ⟨y, e⟩ => nomatch e⟩⟩
@[irreducible] def sp__law_wander : DSp := fun ds M P => ∃ (a g t h s c : Addr) (dp : D) (names : List Str) (gp paths : List (Str × Str)) (S : Sta) (steps most : Int), ds = [.ref a, .ref t, dp, .int steps, .int most] ∧ Names names ∧ 1 ≤ names.length ∧ names.length ≤ 12 ∧ SackAt M a g ∧ StAt M t h s c (groundD names gp) S ∧ Wf names S ∧ Dj [a, g] [t, h, s, c] ∧
  PathsAt M dp paths [a, g, t, h, s, c] ∧ (∀ p ∈ paths, p ∈ prs names) ∧ paths.length ≤ 1000 ∧ 0 ≤ steps ∧ steps ≤ 1000 ∧
  ∀ (p : Addr) (es : List Deed) (S' : Sta) M', Runs names paths S es S' → (es.length : Int) ≤ steps → M p = none → M' p = some (.lst (es.map deedD)) → StAt M' t h s c (groundD names gp) S' → SackAt M' a g → Fr [a, g, t, h, s, c] M M' → P (.ref p) M'
def N__law_wander : List Str := ["_law_sack_here", "_law_state", "_law_paths", "_law_steps", "_law_most", "_law_found", "_law_turn", "_law_deed_here", "_law_full"]
def t__law_wander : DTS := (dSeq (dAsg (dLst (daNil)) (gN 5)) (dSeq (dFor (diRange (dVar 3)) (gN 6) (dSeq (dAsg (dCall sp__law_deed [] (daCons (dVar 0) (daCons (dVar 1) (daCons (dVar 2) (daNil))))) (gN 7)) (dSeq (dAsg (dOrV (dAndV (dOp (rEqs false) (dOp rIxA (dVar 7) (dC (.int 0))) (dC (.str "go"))) (dOp rGe (dCall sp__law_total [] (daCons (dVar 1) (daNil))) (dVar 4))) (dAndV (dOp (rEqs false) (dOp rIxA (dVar 7) (dC (.int 0))) (dC (.str "join"))) (dOp (rEqs false) (dCallB rLen (daCons (dOp rIxA (dVar 1) (dC (.str "standing"))) (daNil))) (dC (.int 6))))) (gN 8)) (dIfS (dNot (dTest (dVar 8))) (dSeq (dDrop (dCall sp__law_make [] (daCons (dVar 1) (daCons (dVar 7) (daNil))))) (dDrop (dBM "list" rAppend (dVar 5) (daCons (dVar 7) (daNil))))) (dNext))))) (dRet (dVar 5))))
theorem atI_zero {α : Type} {d : α} {xs : List α} : atI (d :: xs) 0 = some d := atI_nat (n := 0) rfl
theorem sub_ag {a g t h s c : Addr} : ∀ x ∈ [a, g], x ∈ [a, g, t, h, s, c] := fun x hx => by
  rcases List.mem_cons.mp hx with q | q
  · simp [q]
  · simp only [List.mem_cons, List.not_mem_nil, or_false] at q; simp [q]
theorem sub_st {a g t h s c : Addr} : ∀ x ∈ [t, h, s, c], x ∈ [a, g, t, h, s, c] := fun x hx => List.mem_cons_of_mem _ (List.mem_cons_of_mem _ hx)
theorem pure__law_wander : Pure N__law_wander ["_law_sack_here", "_law_state", "_law_paths", "_law_steps", "_law_most"] sp__law_wander t__law_wander := by
  unfold sp__law_wander
  rintro ds M P ⟨a, g, t, h, s, c, dp, names, gp, paths, S, steps, most, rfl, nm, n1, n2, hs, hst, w, dj, hpa, hsub, hpl, z0, z1, hP⟩
  refine ⟨rfl, ?_⟩
  intro f hf
  have e0 := Ext.new (o := .lst []) hf
  have hfa : f ∉ [a, g] := by obtain ⟨u, v⟩ := hs.free hf; simp [u, v]
  have hft : f ∉ [t, h, s, c] := hst.free hf
  have hfall : f ∉ [a, g, t, h, s, c] := by
    intro hm
    rcases List.mem_cons.mp hm with e | hm
    · exact hfa (by simp [e])
    · rcases List.mem_cons.mp hm with e | hm
      · exact hfa (by simp [e])
      · exact hft hm
  refine ⟨⟨by omega, by omega⟩, ?_⟩
  refine for_ok (fun dn ρ M1 => (∃ z6 z7 z8, ρ = [some (.ref a), some (.ref t), some dp, some (.int steps), some (.int most), some (.ref f), z6, z7, z8]) ∧ ∃ es S', Runs names paths S es S' ∧ es.length ≤ dn.length ∧ M1 f = some (.lst (es.map deedD)) ∧ StAt M1 t h s c (groundD names gp) S' ∧ SackAt M1 a g ∧ Fr [a, g, t, h, s, c] M M1) (fun _ _ _ _ _ _ => trivial) ?_ ?_ ?_
  · rintro dn x r ρ M1 e ⟨⟨z6, z7, z8, rfl⟩, es, S', hr, hl, h1, h2, h3, h4⟩ N hN
    have hdl : dn.length < 1000 := by
      have := congrArg List.length e
      rw [rangeD_length, List.length_append, List.length_cons] at this
      omega
    have w' := hr.wf w
    have hpa1 := hpa.keep h4 fun _ h => h
    refine deed_call nm n1 n2 h3 h2 w' dj ⟨hpa1.1, fun x e hx => hpa1.2 x e (sub_ag x hx)⟩ hsub hpl fun d M2 hw hs2 hf2 => ?_
    have hst2 := h2.keep hf2 dj.sym
    have h1' := hf2 _ _ h1 hfa
    have h4' : Fr [a, g, t, h, s, c] M M2 := h4.trans (hf2.mono sub_ag)
    obtain ⟨z, xs, hd, zg, zj⟩ := deedD_hd d
    have fin : ∀ (b : Bool), (b = false → S'.may names d) → (dIfS (dNot (dTest (dVar 8))) (dSeq (dDrop (dCall sp__law_make [] (daCons (dVar 1) (daCons (dVar 7) (daNil))))) (dDrop (dBM "list" rAppend (dVar 5) (daCons (dVar 7) (daNil))))) (dNext)) { nx := N, ct := N, bk := dRet (dVar 5) { nx := fun _ M' => P .non M', rt := P }, rt := P } [some (.ref a), some (.ref t), some dp, some (.int steps), some (.int most), some (.ref f), some x, some (deedD d), some (.bl b)] M2 := by
      intro b hb
      cases b with
      | true => exact hN _ _ ⟨⟨_, _, _, rfl⟩, es, S', hr, by simp; omega, h1', hst2, hs2, h4'⟩
      | false =>
        have hm := hb rfl
        refine make_call n2 hst2 w' hm fun r' M3 hst3 hf3 => ?_
        have h1'' := hf3 _ _ h1' hft
        refine ⟨ty_lst h1'', append_lst h1'' (by rw [List.length_map]; exact smallZ (by omega)) (hN _ _ ⟨⟨_, _, _, rfl⟩, es ++ [d], _, hr.snoc hw hm, by simp; omega, by rw [up_same, List.map_append]; rfl, ?_, ?_, ?_⟩)⟩
        · exact hst3.keep (T := [f]) (Fr.wr (by simp)) fun y hy hy2 => hft (by rw [List.mem_singleton.mp hy2] at hy; exact hy)
        · refine (hs2.keep hf3 dj).keep (T := [f]) (Fr.wr (by simp)) fun y hy hy2 => hfa (by rw [List.mem_singleton.mp hy2] at hy; exact hy)
        · exact (h4'.trans (hf3.mono (by intro x hx; exact List.mem_cons_of_mem _ (List.mem_cons_of_mem _ hx)))).wrN hf
    have hjoin : ∀ b : Bool, b = false → (z = "join" → b = (decide (S'.stand.length = 6))) → S'.may names d := by
      intro b hb hz
      cases d with
      | join x =>
        have := hz (zj.mpr ⟨x, rfl⟩)
        rw [hb] at this
        have h6 : ¬ S'.stand.length = 6 := of_decide_eq_false this.symm
        have := w'.sl
        exact ⟨hw, by omega⟩
      | go i x => exact ⟨hw.1, (mem_prs.mp (hsub _ hw.2)).2.1⟩
      | back i x => exact hw
    have second : (dSeq (dAsg (dOrV (dAndV (dOp (rEqs false) (dOp rIxA (dVar 7) (dC (.int 0))) (dC (.str "go"))) (dOp rGe (dCall sp__law_total [] (daCons (dVar 1) (daNil))) (dVar 4))) (dAndV (dOp (rEqs false) (dOp rIxA (dVar 7) (dC (.int 0))) (dC (.str "join"))) (dOp (rEqs false) (dCallB rLen (daCons (dOp rIxA (dVar 1) (dC (.str "standing"))) (daNil))) (dC (.int 6))))) (gN 8)) (dIfS (dNot (dTest (dVar 8))) (dSeq (dDrop (dCall sp__law_make [] (daCons (dVar 1) (daCons (dVar 7) (daNil))))) (dDrop (dBM "list" rAppend (dVar 5) (daCons (dVar 7) (daNil))))) (dNext))) { nx := N, ct := N, bk := dRet (dVar 5) { nx := fun _ M' => P .non M', rt := P }, rt := P } [some (.ref a), some (.ref t), some dp, some (.int steps), some (.int most), some (.ref f), some x, some (deedD d), z8] M2 := by
      rw [hd]
      have two : ∀ (Q : DVK), (∀ b : Bool, (z = "join" → b = (decide (S'.stand.length = 6))) → Q (.bl b) M2) → (dAndV (dOp (rEqs false) (dOp rIxA (dVar 7) (dC (.int 0))) (dC (.str "join"))) (dOp (rEqs false) (dCallB rLen (daCons (dOp rIxA (dVar 1) (dC (.str "standing"))) (daNil))) (dC (.int 6)))) [some (.ref a), some (.ref t), some dp, some (.int steps), some (.int most), some (.ref f), some x, some (.tup (.str z :: xs)), z8] M2 Q := by
        intro Q hQ
        refine ix_tup (xs := .str z :: xs) atI_zero (eq_str (ite_tf (fun e => ?_) (fun e => hQ false fun ez => ?_)))
        · refine ix_dK hst2.at_ sta_stand (len_lst hst2.as_ (eq_int (hQ _ fun _ => ?_)))
          rw [List.length_map]
          show (_ == _) = _
          rw [Bool.eq_iff_iff]; simp; omega
        · rw [ez] at e; simp [nb] at e
      refine ix_tup (xs := .str z :: xs) atI_zero (eq_str (ite_tf (fun e => ?_) (fun e => ?_)))
      · have hz : z = "go" := by simpa [nb] using e
        refine total_call hst2 w' fun n => ge_int (ite_tf (fun _ => ?_) (fun _ => ?_))
        · rw [← hd]; exact fin true fun h => nomatch h
        · refine two _ fun b hb => ?_
          rw [← hd]; exact fin b fun h => hjoin b h hb
      · refine two _ fun b hb => ?_
        rw [← hd]; exact fin b fun h => hjoin b h hb
    exact second
  · exact ⟨⟨_, _, _, rfl⟩, [], S, .nil S, by simp, up_same, hst.ext e0, hs.ext e0, e0.fr⟩
  · rintro ρ M1 ⟨⟨z6, z7, z8, rfl⟩, es, S', hr, hl, h1, h2, h3, h4⟩
    rw [rangeD_length] at hl
    exact hP f es S' M1 hr (by omega) hf h1 h2 h3 h4
end EW

set_option maxRecDepth 100000
set_option maxHeartbeats 4000000
/-! EwBal: rings added, a balanced state, a loosened one. -/
namespace EW
open PySem PySem.Spec PyProof.Rows L2
theorem wander_call {M : Mem} {a g t h s c : Addr} {dp : D} {names : List Str} {gp paths : List (Str × Str)} {S : Sta} {steps most : Int} {P : DVK} (nm : Names names) (n1 : 1 ≤ names.length) (n2 : names.length ≤ 12) (hs : SackAt M a g) (hst : StAt M t h s c (groundD names gp) S) (w : Wf names S) (dj : Dj [a, g] [t, h, s, c])
    (hpa : PathsAt M dp paths [a, g, t, h, s, c]) (hsub : ∀ p ∈ paths, p ∈ prs names) (hpl : paths.length ≤ 1000) (z0 : 0 ≤ steps) (z1 : steps ≤ 1000)
    (hP : ∀ (p : Addr) (es : List Deed) (S' : Sta) M', Runs names paths S es S' → (es.length : Int) ≤ steps → M p = none → M' p = some (.lst (es.map deedD)) → StAt M' t h s c (groundD names gp) S' → SackAt M' a g → Fr [a, g, t, h, s, c] M M' → P (.ref p) M') : sp__law_wander [.ref a, .ref t, dp, .int steps, .int most] M P := by unfold sp__law_wander; exact
  ⟨a, g, t, h, s, c, dp, names, gp, paths, S, steps, most, rfl, nm, n1, n2, hs, hst, w, dj, hpa, hsub, hpl, z0, z1, hP⟩
theorem cutD_drop {xs : List D} {n : Nat} (h : n ≤ xs.length) : cutD xs (some (n : Int)) none = xs.drop n := by
  unfold cutD
  simp only [HT.sIx_none, HT.sIx_nat]
  rw [Nat.min_eq_left h]
  apply List.take_of_length_le
  rw [List.length_drop]; omega
@[irreducible] def sp__law_ringed : DSp := fun ds M P => ∃ (a g t h s c : Addr) (names : List Str) (gp : List (Str × Str)) (S : Sta), ds = [.ref a, .ref t] ∧ Names names ∧ 1 ≤ names.length ∧ names.length ≤ 12 ∧ SackAt M a g ∧ StAt M t h s c (groundD names gp) S ∧ Wf names S ∧ Dj [a, g] [t, h, s, c] ∧
  ∀ (r : D) (kvs : Kvs) M', Wf names ⟨S.homes, S.stand, kvs⟩ → StAt M' t h s c (groundD names gp) ⟨S.homes, S.stand, kvs⟩ → SackAt M' a g → Fr [a, g, t, h, s, c] M M' → P r M'
def N__law_ringed : List Str := ["_law_sack_here", "_law_state", "_law_names_here", "_law_ring", "_law_at", "_law_named"]
def t__law_ringed : DTS := (dSeq (dAsg (dOp rIxA (dOp rIxA (dVar 1) (dC (.str "ground"))) (dC (.int 0))) (gN 2)) (dIfS (dTest (dOp rGt (dCallB rLen (daCons (dVar 2) (daNil))) (dC (.int 1)))) (dSeq (dAsg (dSl rSlD (dCall sp__law_mixed [] (daCons (dVar 0) (daCons (dVar 2) (daNil)))) (dNoPart) (dPart (dOp rAdd (dC (.int 2)) (dCall sp__law_take [] (daCons (dVar 0) (daCons (dOp rSub (dCallB rLen (daCons (dVar 2) (daNil))) (dC (.int 1))) (daNil))))))) (gN 3)) (dFor (diZip (dVar 3) (dOp rAdd (dSl rSlD (dVar 3) (dPart (dC (.int 1))) (dNoPart)) (dSl rSlD (dVar 3) (dNoPart) (dPart (dC (.int 1)))))) (gTn 2 (gsCons (gN 4) (gsCons (gN 5) (gsNil)))) (dAsg (dOp rAdd (dBM "dict" rGet (dOp rIxA (dVar 1) (dC (.str "crumbs"))) (daCons (dTup (daCons (dVar 4) (daCons (dVar 5) (daNil)))) (daCons (dC (.int 0)) (daNil)))) (dC (.int 1))) (gSubD (dOp rIxA (dVar 1) (dC (.str "crumbs"))) (dTup (daCons (dVar 4) (daCons (dVar 5) (daNil)))))))) (dNext)))
theorem StAt.putC {M : Mem} {t h s c : Addr} {G : D} {S : Sta} {kvs : Kvs} (x : StAt M t h s c G S) : StAt (up M c (.dT kvs)) t h s c G ⟨S.homes, S.stand, kvs⟩ :=
  ⟨by rw [up_ne x.tc]; exact x.at_, by rw [up_ne x.hc]; exact x.ah, by rw [up_ne x.sc]; exact x.as_, up_same, x.ne⟩
theorem zip_mem {xs ys : List Str} {names : List Str} (h1 : ∀ x ∈ xs, x ∈ names) (h2 : ∀ y ∈ ys, y ∈ names) {d : D} (h : d ∈ List.zipWith (fun x y => D.tup [x, y]) (xs.map D.str) (ys.map D.str)) : ∃ x y, d = .tup [.str x, .str y] ∧ x ∈ names ∧ y ∈ names := by
  rw [List.zipWith_map] at h
  rw [← List.map_uncurry_zip_eq_zipWith] at h
  obtain ⟨⟨x, y⟩, hxy, rfl⟩ := List.mem_map.mp h
  exact ⟨x, y, rfl, h1 x (List.of_mem_zip hxy).1, h2 y (List.of_mem_zip hxy).2⟩
theorem pure__law_ringed : Pure N__law_ringed ["_law_sack_here", "_law_state"] sp__law_ringed t__law_ringed := by
  unfold sp__law_ringed
  rintro ds M P ⟨a, g, t, h, s, c, names, gp, S, rfl, nm, n1, n2, hs, hst, w, dj, hP⟩
  refine ⟨rfl, ?_⟩
  refine ix_dK hst.at_ sta_ground (ix_tup (xs := [.ft (names.map D.str), .tup (gp.map pD)]) rfl ?_)
  refine len_ft (gt_int (ite_tf (fun hb => ?_) (fun _ => hP _ S.kvs M w hst hs Fr.refl)))
  have hlen : 1 < names.length := by
    have := of_decide_eq_true hb
    rw [List.length_map] at this
    omega
  refine mixed_str (d := .ft (names.map D.str)) (xs := names) rfl (by omega) hs fun p ys M1 hp p0 p1 hs1 hf1 => ?_
  have hpa : p ∉ [a, g] := by obtain ⟨u, v⟩ := hs.free p0; simp [u, v]
  refine len_ft (sub_int ?_)
  rw [List.length_map]
  refine take_call hs1 (by omega) (by omega) fun i M2 i0 i1 hs2 hf2 => add_int ?_
  obtain ⟨k, hk⟩ : ∃ k : Nat, 2 + i = k := ⟨(2 + i).toNat, by omega⟩
  rw [hk]
  have hp2 := hf2 _ _ p1 hpa
  have hst2 := (hst.keep hf1 dj.sym).keep hf2 dj.sym
  have hF2 := hf1.trans hf2
  have hyl : ys.length = names.length := hp.length_eq
  refine sl_lst hp2 fun q hq => ?_
  rw [cutD_take (by rw [List.length_map]; omega), ← List.map_take]
  generalize hrs : ys.take k = rs
  have hrm : ∀ x ∈ rs, x ∈ names := fun x hx => hp.mem_iff.mp (List.mem_of_mem_take (hrs ▸ hx))
  have hrl : 2 ≤ rs.length ∧ rs.length ≤ 12 := by rw [← hrs, List.length_take]; omega
  have e3 := Ext.new (o := .lst (rs.map D.str)) hq
  have hq3 := up_same (M := M2) (a := q) (o := .lst (rs.map D.str))
  have hst3 := hst2.ext e3
  have hs3 := hs2.ext e3
  have hF3 := hF2.ext e3
  have hq0 : M q = none := hf1.back hs1 (hf2.back hs2 hq)
  generalize up M2 q (.lst (rs.map D.str)) = M3 at *
  refine sl_lst hq3 fun q1 hq1 => ?_
  rw [show cutD (rs.map D.str) (some 1) none = (rs.map D.str).drop 1 from cutD_drop (n := 1) (by rw [List.length_map]; omega), ← List.map_drop]
  have e4 := Ext.new (o := .lst ((rs.drop 1).map D.str)) hq1
  refine sl_lst (e4 _ _ hq3) fun q2 hq2 => ?_
  rw [show cutD (rs.map D.str) none (some 1) = (rs.map D.str).take 1 from cutD_take (n := 1) (by rw [List.length_map]; omega), ← List.map_take]
  have e5 := Ext.new (o := .lst ((rs.take 1).map D.str)) hq2
  refine add_lst (e5 _ _ up_same) up_same (by rw [List.length_map, List.length_map, List.length_drop, List.length_take, sizeLine_eq]; omega) fun z hz => ?_
  rw [← List.map_append]
  have e6 := Ext.new (o := .lst ((rs.drop 1 ++ rs.take 1).map D.str)) hz
  have hz6 := up_same (M := up (up M3 q1 (.lst ((rs.drop 1).map D.str))) q2 (.lst ((rs.take 1).map D.str))) (a := z) (o := .lst ((rs.drop 1 ++ rs.take 1).map D.str))
  have hq6 := e6 _ _ (e5 _ _ (e4 _ _ hq3))
  have hst6 := ((hst3.ext e4).ext e5).ext e6
  have hs6 := ((hs3.ext e4).ext e5).ext e6
  have hF6 := ((hF3.ext e4).ext e5).ext e6
  generalize up (up (up M3 q1 (.lst ((rs.drop 1).map D.str))) q2 (.lst ((rs.take 1).map D.str))) z (.lst ((rs.drop 1 ++ rs.take 1).map D.str)) = M6 at *
  refine on_zip (M := M6) (d := .ref q) (e := .ref z) (xs := rs.map D.str) (ys := (rs.drop 1 ++ rs.take 1).map D.str) (lstAt_of hq6) (lstAt_of hz6) ?_
  refine for_ok (fun dn ρ M7 => (∃ z4 z5, ρ = [some (.ref a), some (.ref t), some (.ft (names.map D.str)), some (.ref q), z4, z5]) ∧ ∃ kvs, Wf names ⟨S.homes, S.stand, kvs⟩ ∧ StAt M7 t h s c (groundD names gp) ⟨S.homes, S.stand, kvs⟩ ∧ SackAt M7 a g ∧ Fr [a, g, t, h, s, c] M M7 ∧ M7 q = some (.lst (rs.map D.str)) ∧ M7 z = some (.lst ((rs.drop 1 ++ rs.take 1).map D.str))) ?_ ?_ ?_ ?_
  · rintro dn r ρ M7 e ⟨_, kvs, _, _, _, _, h1, h2⟩
    exact ⟨lstAt_of h1, lstAt_of h2⟩
  · rintro dn x r ρ M7 e ⟨⟨z4, z5, rfl⟩, kvs, k1, k2, k3, k4, k5, k6⟩ N hN
    obtain ⟨u, v, rfl, hu, hv⟩ := zip_mem (names := names) (xs := rs) (ys := rs.drop 1 ++ rs.take 1) hrm (fun y hy => by
      rcases List.mem_append.mp hy with hy | hy
      · exact hrm y (List.mem_of_mem_drop hy)
      · exact hrm y (List.mem_of_mem_take hy)) (d := x) (by rw [e]; simp)
    refine ⟨rfl, ?_⟩
    refine ix_dK k2.at_ sta_crumbs ⟨ty_dT k2.ac, get_cnt (S := ⟨S.homes, S.stand, kvs⟩) k1 k2.ac (add_int ?_)⟩
    refine ix_dK k2.at_ sta_crumbs (put_dT k2.ac (ks := kk u v) rfl (k1.ksmall n2) ?_)
    have w2 := k1.put hu hv (n := cnt kvs u v + 1) (by have := k1.nn u v; show 0 ≤ cnt kvs u v + 1; have h0 : 0 ≤ cnt kvs u v := this; omega)
    have hqc : q ≠ c := fun e => by subst e; rw [k2.ac] at k5; cases k5
    have hzc : z ≠ c := fun e => by subst e; rw [k2.ac] at k6; cases k6
    refine hN _ _ ⟨⟨_, _, rfl⟩, _, w2, k2.putC, ?_, ?_, by rw [up_ne hqc]; exact k5, by rw [up_ne hzc]; exact k6⟩
    · exact k3.keep (T := [t, h, s, c]) (Fr.wr (by simp)) dj
    · exact k4.trans (Fr.wr (by simp))
  · exact ⟨⟨_, _, rfl⟩, S.kvs, w, hst6, hs6, hF6.mono sub_ag, hq6, hz6⟩
  · rintro ρ M7 ⟨⟨z4, z5, rfl⟩, kvs, k1, k2, k3, k4, k5, k6⟩
    exact hP _ kvs M7 k1 k2 k3 k4
theorem ringed_call {M : Mem} {a g t h s c : Addr} {names : List Str} {gp : List (Str × Str)} {S : Sta} {P : DVK} (nm : Names names) (n1 : 1 ≤ names.length) (n2 : names.length ≤ 12) (hs : SackAt M a g) (hst : StAt M t h s c (groundD names gp) S) (w : Wf names S) (dj : Dj [a, g] [t, h, s, c])
    (hP : ∀ (r : D) (kvs : Kvs) M', Wf names ⟨S.homes, S.stand, kvs⟩ → StAt M' t h s c (groundD names gp) ⟨S.homes, S.stand, kvs⟩ → SackAt M' a g → Fr [a, g, t, h, s, c] M M' → P r M') : sp__law_ringed [.ref a, .ref t] M P := by unfold sp__law_ringed; exact ⟨a, g, t, h, s, c, names, gp, S, rfl, nm, n1, n2, hs, hst, w, dj, hP⟩
/-! ### balanced -/
@[irreducible] def sp__law_balanced : DSp := fun ds M P => ∃ (a g : Addr) (names : List Str) (gp : List (Str × Str)) (steps most : Int), ds = [.ref a, groundD names gp, .int steps, .int most] ∧ Ground names gp ∧ gp.length ≤ 1000 ∧ SackAt M a g ∧ 0 ≤ steps ∧ steps ≤ 1000 ∧
  ∀ (t h s c : Addr) (S : Sta) M', Wf names S → StAt M' t h s c (groundD names gp) S → (∀ p ∈ [t, h, s, c], M p = none) → SackAt M' a g → Fr [a, g] M M' → P (.ref t) M'
def N__law_balanced : List Str := ["_law_sack_here", "_law_ground_here", "_law_steps", "_law_most", "_law_state", "_law_paths", "_law_turn"]
def t__law_balanced : DTS := (dSeq (dAsg (dCall sp__law_begun [] (daCons (dVar 1) (daNil))) (gN 4)) (dSeq (dAsg (dIf (dTest (dOp (rEqs false) (dCall sp__law_take [] (daCons (dVar 0) (daCons (dC (.int 2)) (daNil)))) (dC (.int 0)))) (dOp rIxA (dVar 1) (dC (.int 1))) (dCall sp__law_pairs [] (daCons (dOp rIxA (dVar 1) (dC (.int 0))) (daNil)))) (gN 5)) (dSeq (dDrop (dCall sp__law_wander [] (daCons (dVar 0) (daCons (dVar 4) (daCons (dVar 5) (daCons (dVar 2) (daCons (dVar 3) (daNil)))))))) (dSeq (dFor (diRange (dOp rIxA (dLst (daCons (dC (.int 0)) (daCons (dC (.int 0)) (daCons (dC (.int 1)) (daCons (dC (.int 2)) (daNil)))))) (dCall sp__law_take [] (daCons (dVar 0) (daCons (dC (.int 4)) (daNil)))))) (gN 6) (dDrop (dCall sp__law_ringed [] (daCons (dVar 0) (daCons (dVar 4) (daNil)))))) (dRet (dVar 4))))))
theorem fresh_dj {M : Mem} {a g : Addr} {T : List Addr} (hs : SackAt M a g) (hT : ∀ p ∈ T, M p = none) : Dj [a, g] T := fun x hx hxT => by
  have := hT x hxT
  obtain ⟨u, v⟩ := hs.free this
  simp only [List.mem_cons, List.not_mem_nil, or_false] at hx
  rcases hx with e | e
  · exact u e
  · exact v e
/-- a frame whose further places were free -/
theorem Fr.drop {S T : List Addr} {M M' : Mem} (h : Fr (S ++ T) M M') (hT : ∀ p ∈ T, M p = none) : Fr S M M' := fun p o e n => h p o e fun hm => by
  rcases List.mem_append.mp hm with q | q
  · exact n q
  · rw [hT p q] at e; cases e
theorem pure__law_balanced : Pure N__law_balanced ["_law_sack_here", "_law_ground_here", "_law_steps", "_law_most"] sp__law_balanced t__law_balanced := by
  unfold sp__law_balanced
  rintro ds M P ⟨a, g, names, gp, steps, most, rfl, G, gl, hs, z0, z1, hP⟩
  refine ⟨rfl, ?_⟩
  refine begun_call G.hi fun t h s c M1 hst hfr e1 => ?_
  have hs1 := hs.ext e1
  have dj := fresh_dj hs hfr
  refine take_call hs1 (by decide) (by decide) fun i M2 i0 i1 hs2 hf2 => ?_
  have hst2 := hst.keep hf2 dj.sym
  have hF2 : Fr [a, g] M M2 := e1.fr.trans hf2
  -- once the paths are there
  have key : ∀ (dp : D) (paths : List (Str × Str)) (M3 : Mem), PathsAt M3 dp paths [a, g, t, h, s, c] → (∀ p ∈ paths, p ∈ prs names) → paths.length ≤ 1000 → SackAt M3 a g → StAt M3 t h s c (groundD names gp) ⟨List.replicate names.length 0, [], []⟩ → Fr [a, g] M M3 →
      (dSeq (dDrop (dCall sp__law_wander [] (daCons (dVar 0) (daCons (dVar 4) (daCons (dVar 5) (daCons (dVar 2) (daCons (dVar 3) (daNil)))))))) (dSeq (dFor (diRange (dOp rIxA (dLst (daCons (dC (.int 0)) (daCons (dC (.int 0)) (daCons (dC (.int 1)) (daCons (dC (.int 2)) (daNil)))))) (dCall sp__law_take [] (daCons (dVar 0) (daCons (dC (.int 4)) (daNil)))))) (gN 6) (dDrop (dCall sp__law_ringed [] (daCons (dVar 0) (daCons (dVar 4) (daNil)))))) (dRet (dVar 4)))) { nx := fun _ M' => P .non M', rt := P } [some (.ref a), some (groundD names gp), some (.int steps), some (.int most), some (.ref t), some dp, none] M3 := by
    intro dp paths M3 hpa hsub hpl hs3 hst3 hF3
    refine wander_call G.nm G.lo G.hi hs3 hst3 (begun_wf names) dj hpa hsub hpl z0 z1 fun p es S' M4 hr _ p0 p1 hst4 hs4 hf4 => ?_
    have w4 := hr.wf (begun_wf names)
    have hF4 : Fr [a, g] M M4 := Fr.drop (T := [t, h, s, c]) ((hF3.mono sub_ag).trans hf4) hfr
    intro q hq
    have e5 := Ext.new (o := .lst [.int 0, .int 0, .int 1, .int 2]) hq
    refine take_call (hs4.ext e5) (by decide) (by decide) fun j M5 j0 j1 hs5 hf5 => ?_
    have hqa : q ∉ [a, g] := by obtain ⟨u, v⟩ := hs4.free hq; simp [u, v]
    have hq5 := hf5 _ _ (up_same (M := M4) (a := q) (o := .lst [.int 0, .int 0, .int 1, .int 2])) hqa
    obtain ⟨n, hn, hn2⟩ : ∃ n : Nat, atI [D.int 0, .int 0, .int 1, .int 2] j = some (.int n) ∧ n ≤ 2 := by
      have : j = 0 ∨ j = 1 ∨ j = 2 ∨ j = 3 := by omega
      rcases this with rfl | rfl | rfl | rfl
      · exact ⟨0, rfl, by omega⟩
      · exact ⟨0, rfl, by omega⟩
      · exact ⟨1, rfl, by omega⟩
      · exact ⟨2, rfl, by omega⟩
    refine ix_lst hq5 hn ⟨⟨by omega, by omega⟩, ?_⟩
    have hst5 := (hst4.ext e5).keep hf5 dj.sym
    have hF5 := (hF4.ext e5).trans hf5
    refine for_ok (fun dn ρ M7 => (∃ z6, ρ = [some (.ref a), some (groundD names gp), some (.int steps), some (.int most), some (.ref t), some dp, z6]) ∧ ∃ S, Wf names S ∧ StAt M7 t h s c (groundD names gp) S ∧ SackAt M7 a g ∧ Fr [a, g] M M7) (fun _ _ _ _ _ _ => trivial) ?_ ?_ ?_
    · rintro dn x r ρ M7 e ⟨⟨z6, rfl⟩, S, k1, k2, k3, k4⟩ N hN
      refine ringed_call G.nm G.lo G.hi k3 k2 k1 dj fun r kvs M8 l1 l2 l3 l4 => hN _ _ ⟨⟨_, rfl⟩, _, l1, l2, l3, ?_⟩
      exact Fr.drop (T := [t, h, s, c]) ((k4.mono sub_ag).trans l4) hfr
    · exact ⟨⟨_, rfl⟩, S', w4, hst5, hs5, hF5⟩
    · rintro ρ M7 ⟨⟨z6, rfl⟩, S, k1, k2, k3, k4⟩
      exact hP t h s c S M7 k1 k2 hfr k3 k4
  refine eq_int (ite_tf (fun _ => ?_) (fun _ => ?_))
  · exact ix_tup (xs := [.ft (names.map D.str), .tup (gp.map pD)]) rfl (key (.tup (gp.map pD)) gp M2 ⟨rfl, fun _ e => nomatch e⟩ G.sub gl hs2 hst2 hF2)
  · refine ix_tup (xs := [.ft (names.map D.str), .tup (gp.map pD)]) rfl (pairs_call (d := .ft (names.map D.str)) (ys := names) rfl (by have := G.hi; omega) fun p M3 p0 p1 e3 => ?_)
    refine key (.ref p) (prs names) M3 ⟨lstAt_of p1, fun x e hx => ?_⟩ (fun p hp => hp) (Nat.le_trans (prs_len2 (by have := G.hi; omega)) (by omega)) (hs2.ext e3) (hst2.ext e3) (hF2.ext e3)
    cases e
    rcases List.mem_append.mp (show p ∈ [a, g] ++ [t, h, s, c] from hx) with q | q
    · obtain ⟨u, v⟩ := hs2.free p0; simp [u, v] at q
    · exact hst2.free p0 q
theorem balanced_call {M : Mem} {a g : Addr} {names : List Str} {gp : List (Str × Str)} {steps most : Int} {P : DVK} (G : Ground names gp) (gl : gp.length ≤ 1000) (hs : SackAt M a g) (z0 : 0 ≤ steps) (z1 : steps ≤ 1000)
    (hP : ∀ (t h s c : Addr) (S : Sta) M', Wf names S → StAt M' t h s c (groundD names gp) S → (∀ p ∈ [t, h, s, c], M p = none) → SackAt M' a g → Fr [a, g] M M' → P (.ref t) M') : sp__law_balanced [.ref a, groundD names gp, .int steps, .int most] M P := by unfold sp__law_balanced; exact ⟨a, g, names, gp, steps, most, rfl, G, gl, hs, z0, z1, hP⟩
end EW

set_option maxRecDepth 100000
set_option maxHeartbeats 4000000
/-! EwLoose: a state loosened. -/
namespace EW
open PySem PySem.Spec PyProof.Rows L2
@[irreducible] def sp__law_loosened : DSp := fun ds M P => ∃ (a g t h s c : Addr) (names : List Str) (gp : List (Str × Str)) (S : Sta), ds = [.ref a, .ref t] ∧ Names names ∧ 1 ≤ names.length ∧ names.length ≤ 12 ∧ SackAt M a g ∧ StAt M t h s c (groundD names gp) S ∧ Wf names S ∧ Dj [a, g] [t, h, s, c] ∧
  ∀ (h' : Addr) (S' : Sta) M', Wf names S' → StAt M' t h' s c (groundD names gp) S' → SackAt M' a g → Dj [a, g] [t, h', s, c] → (h' = h ∨ M h' = none) → Fr [a, g, t, h, s, c] M M' → P (.ref t) M'
def N__law_loosened : List Str := ["_law_sack_here", "_law_state", "_law_names_here", "_law_form", "_law_traveller", "_law_at", "_law_turn", "_law_pairs_here", "_law_kind"]
def t__law_loosened : DTS := (dSeq (dPar 2 3 (dOp rIxA (dOp rIxA (dVar 1) (dC (.str "ground"))) (dC (.int 0))) (dCall sp__law_take [] (daCons (dVar 0) (daCons (dC (.int 3)) (daNil))))) (dSeq (dIfS (dTest (dOp (rEqs false) (dVar 3) (dC (.int 1)))) (dSeq (dAsg (dOp rMul (dLst (daCons (dC (.int 0)) (daNil))) (dCallB rLen (daCons (dVar 2) (daNil)))) (gSubD (dVar 1) (dC (.str "homes")))) (dFor (diSeq (dOp rIxA (dVar 1) (dC (.str "standing")))) (gN 4) (dSeq (dAsg (dCall sp__law_take [] (daCons (dVar 0) (daCons (dCallB rLen (daCons (dVar 2) (daNil))) (daNil)))) (gN 5)) (dAsg (dOp rAdd (dOp rIxA (dOp rIxA (dVar 1) (dC (.str "homes"))) (dVar 5)) (dC (.int 1))) (gSubD (dOp rIxA (dVar 1) (dC (.str "homes"))) (dVar 5)))))) (dNext)) (dSeq (dFor (diRange (dOp rIxA (dLst (daCons (dC (.int 0)) (daCons (dC (.int 0)) (daCons (dOp rAdd (dC (.int 1)) (dCall sp__law_take [] (daCons (dVar 0) (daCons (dC (.int 4)) (daNil))))) (daNil))))) (dVar 3))) (gN 6) (dSeq (dAsg (dCall sp__law_pairs [] (daCons (dVar 2) (daNil))) (gN 7)) (dIfS (dTest (dOp (rEqs true) (dVar 7) (dLst (daNil)))) (dSeq (dAsg (dOp rIxA (dVar 7) (dCall sp__law_take [] (daCons (dVar 0) (daCons (dCallB rLen (daCons (dVar 7) (daNil))) (daNil))))) (gN 8)) (dAsg (dCallB rMax2 (daCons (dC (.int 0)) (daCons (dOp rAdd (dBM "dict" rGet (dOp rIxA (dVar 1) (dC (.str "crumbs"))) (daCons (dVar 8) (daCons (dC (.int 0)) (daNil)))) (dOp rIxA (dLst (daCons (dC (.int 1)) (daCons (dOp rSub (dC (.int 0)) (dC (.int 1))) (daNil)))) (dCall sp__law_take [] (daCons (dVar 0) (daCons (dC (.int 2)) (daNil)))))) (daNil)))) (gSubD (dOp rIxA (dVar 1) (dC (.str "crumbs"))) (dVar 8)))) (dNext)))) (dRet (dVar 1)))))
theorem dj_new {a g t h s c h' : Addr} {M : Mem} (dj : Dj [a, g] [t, h, s, c]) (hs : SackAt M a g) (hh : M h' = none) : Dj [a, g] [t, h', s, c] := fun x hx hm => by
  obtain ⟨u, v⟩ := hs.free hh
  have hxh : x ≠ h' := by
    simp only [List.mem_cons, List.not_mem_nil, or_false] at hx
    rcases hx with rfl | rfl
    · exact u.symm
    · exact v.symm
  have := dj x hx
  simp only [List.mem_cons, List.not_mem_nil, or_false, not_or] at this hm
  rcases hm with q | q | q | q
  · exact this.1 q
  · exact hxh q
  · exact this.2.2.1 q
  · exact this.2.2.2 q
theorem Fr.newh {a g t h s c h' : Addr} {M M' M0 : Mem} (f0 : Fr [a, g, t, h, s, c] M0 M) (hh : h' = h ∨ M0 h' = none) (f : Fr [a, g, t, h', s, c] M M') : Fr [a, g, t, h, s, c] M0 M' := fun p o e n => by
  refine f p o (f0 p o e n) fun hm => ?_
  simp only [List.mem_cons, List.not_mem_nil, or_false, not_or] at n hm
  rcases hm with q | q | q | q | q | q
  · exact n.1 q
  · exact n.2.1 q
  · exact n.2.2.1 q
  · rcases hh with e' | e'
    · exact n.2.2.2.1 (q.trans e')
    · rw [q, e'] at e; cases e
  · exact n.2.2.2.2.1 q
  · exact n.2.2.2.2.2 q
theorem loose_end {M0 M : Mem} {a g t h s c h' : Addr} {names : List Str} {gp : List (Str × Str)} {S : Sta} {form : Int} {z4 z5 z6 z7 z8 : Option D} {E : DEnds} (nm : Names names) (n1 : 1 ≤ names.length) (n2 : names.length ≤ 12) (f0 : 0 ≤ form) (f1 : form < 3) (hs : SackAt M a g) (hst : StAt M t h' s c (groundD names gp) S) (w : Wf names S) (dj : Dj [a, g] [t, h', s, c])
    (hh : h' = h ∨ M0 h' = none) (hF : Fr [a, g, t, h, s, c] M0 M) (hP : ∀ (S' : Sta) M', Wf names S' → StAt M' t h' s c (groundD names gp) S' → SackAt M' a g → Fr [a, g, t, h, s, c] M0 M' → E.rt (.ref t) M') :
    (dSeq (dFor (diRange (dOp rIxA (dLst (daCons (dC (.int 0)) (daCons (dC (.int 0)) (daCons (dOp rAdd (dC (.int 1)) (dCall sp__law_take [] (daCons (dVar 0) (daCons (dC (.int 4)) (daNil))))) (daNil))))) (dVar 3))) (gN 6) (dSeq (dAsg (dCall sp__law_pairs [] (daCons (dVar 2) (daNil))) (gN 7)) (dIfS (dTest (dOp (rEqs true) (dVar 7) (dLst (daNil)))) (dSeq (dAsg (dOp rIxA (dVar 7) (dCall sp__law_take [] (daCons (dVar 0) (daCons (dCallB rLen (daCons (dVar 7) (daNil))) (daNil))))) (gN 8)) (dAsg (dCallB rMax2 (daCons (dC (.int 0)) (daCons (dOp rAdd (dBM "dict" rGet (dOp rIxA (dVar 1) (dC (.str "crumbs"))) (daCons (dVar 8) (daCons (dC (.int 0)) (daNil)))) (dOp rIxA (dLst (daCons (dC (.int 1)) (daCons (dOp rSub (dC (.int 0)) (dC (.int 1))) (daNil)))) (dCall sp__law_take [] (daCons (dVar 0) (daCons (dC (.int 2)) (daNil)))))) (daNil)))) (gSubD (dOp rIxA (dVar 1) (dC (.str "crumbs"))) (dVar 8)))) (dNext)))) (dRet (dVar 1))) E [some (.ref a), some (.ref t), some (.ft (names.map D.str)), some (.int form), z4, z5, z6, z7, z8] M := by
  refine take_call hs (by decide) (by decide) fun i M1 i0 i1 hs1 hf1 => add_int fun q hq => ?_
  have e1 := Ext.new (o := .lst [.int 0, .int 0, .int (1 + i)]) hq
  obtain ⟨n, hn, hn2⟩ : ∃ n : Nat, atI [D.int 0, .int 0, .int (1 + i)] form = some (.int n) ∧ n ≤ 5 := by
    have : form = 0 ∨ form = 1 ∨ form = 2 := by omega
    rcases this with rfl | rfl | rfl
    · exact ⟨0, rfl, by omega⟩
    · exact ⟨0, rfl, by omega⟩
    · exact ⟨(1 + i).toNat, by show some (D.int (1 + i)) = _; congr 2; omega, by omega⟩
  refine ix_lst up_same hn ⟨⟨by omega, by omega⟩, ?_⟩
  have hst1 := (hst.keep hf1 dj.sym).ext e1
  have hs2 := hs1.ext e1
  have hF1 := (hF.trans (hf1.mono sub_ag)).ext e1
  generalize up M1 q (.lst [.int 0, .int 0, .int (1 + i)]) = M2 at *
  refine for_ok (fun dn ρ M7 => (∃ z6 z7 z8, ρ = [some (.ref a), some (.ref t), some (.ft (names.map D.str)), some (.int form), z4, z5, z6, z7, z8]) ∧ ∃ S, Wf names S ∧ StAt M7 t h' s c (groundD names gp) S ∧ SackAt M7 a g ∧ Fr [a, g, t, h, s, c] M0 M7) (fun _ _ _ _ _ _ => trivial) ?_ ?_ ?_
  · rintro dn x r ρ M3 e ⟨⟨z6, z7, z8, rfl⟩, S, w3, hst3, hs3, hF3⟩ N hN
    refine pairs_call (d := .ft (names.map D.str)) (ys := names) rfl (by omega) fun p M4 p0 p1 e4 => ?_
    have hst4 := hst3.ext e4
    have hs4 := hs3.ext e4
    have hF4 := hF3.ext e4
    have hpa : p ∉ [a, g] := by obtain ⟨u, v⟩ := hs3.free p0; simp [u, v]
    intro p2 hp2
    have e5 := Ext.new (o := .lst []) hp2
    have hall : ((prs names).map pD).all (okN 20) = true := List.all_eq_true.mpr fun d hd => by
      obtain ⟨⟨u, v⟩, huv, rfl⟩ := List.mem_map.mp hd
      obtain ⟨k1, k2, _⟩ := mem_prs.mp huv
      show ([D.str u, D.str v].all (okN 19)) = true
      rw [List.all_cons, List.all_cons, List.all_nil]
      rw [show okN 19 (.str u) = true from (nm.ok u k1).so, show okN 19 (.str v) = true from (nm.ok v k2).so]; rfl
    refine eq_none (e5 _ _ p1) hall up_same (ite_tf (fun hb => ?_) (fun _ => hN _ _ ⟨⟨_, _, _, rfl⟩, S, w3, hst4.ext e5, hs4.ext e5, hF4.ext e5⟩))
    have hne : prs names ≠ [] := fun e => by rw [e] at hb; simp [nb] at hb
    have hp5 := e5 _ _ p1
    have hst5 := hst4.ext e5
    have hs5 := hs4.ext e5
    have hF5 := hF4.ext e5
    generalize up M4 p2 (.lst []) = M5 at *
    refine len_lst hp5 ?_
    rw [List.length_map]
    have hlp := List.length_pos_iff.mpr hne
    have hlp2 := prs_len2 (ys := names) (by omega)
    refine take_call hs5 (by omega) (by omega) fun j M6 j0 j1 hs6 hf6 => ?_
    have hj : j.toNat < (prs names).length := by omega
    obtain ⟨k1, k2, k3⟩ := mem_prs.mp (List.getElem_mem hj)
    generalize hpr : (prs names)[j.toNat] = pr at k1 k2 k3
    refine ix_lst (hf6 _ _ hp5 hpa) (d := pD pr) (atI_int j0 (by rw [List.getElem?_map, List.getElem?_eq_getElem hj, hpr]; rfl)) ?_
    have hst6 := hst5.keep hf6 dj.sym
    refine ix_dK hst6.at_ sta_crumbs ⟨ty_dT hst6.ac, get_cnt w3 hst6.ac ?_⟩
    refine sub_int fun q8 hq8 => ?_
    have e8 := Ext.new (o := .lst [.int 1, .int (0 - 1)]) hq8
    have hq8a : q8 ∉ [a, g] := by obtain ⟨u, v⟩ := hs6.free hq8; simp [u, v]
    refine take_call (hs6.ext e8) (by decide) (by decide) fun u M9 u0 u1 hs9 hf9 => ?_
    obtain ⟨m, hm⟩ : ∃ m : Int, atI [D.int 1, .int (0 - 1)] u = some (.int m) := by
      have : u = 0 ∨ u = 1 := by omega
      rcases this with rfl | rfl
      · exact ⟨1, rfl⟩
      · exact ⟨0 - 1, rfl⟩
    refine ix_lst (hf9 _ _ up_same hq8a) hm (add_int (max_int ?_))
    have hst9 := (hst6.ext e8).keep hf9 dj.sym
    have hv : ∃ v : Int, (if cnt S.kvs pr.1 pr.2 + m > 0 then cnt S.kvs pr.1 pr.2 + m else 0) = v ∧ 0 ≤ v := ⟨_, rfl, by split <;> omega⟩
    obtain ⟨v, hv, hv0⟩ := hv
    rw [hv]
    refine ix_dK hst9.at_ sta_crumbs (put_dT hst9.ac (ks := kk pr.1 pr.2) rfl (w3.ksmall n2) (hN _ _ ⟨⟨_, _, _, rfl⟩, _, w3.put k1 k2 hv0, hst9.putC, ?_, ?_⟩))
    · exact hs9.keep (T := [t, h', s, c]) (Fr.wr (by simp)) dj
    · exact (((hF5.trans (hf6.mono sub_ag)).ext e8).trans (hf9.mono sub_ag)).trans (Fr.wr (by simp))
  · exact ⟨⟨_, _, _, rfl⟩, S, w, hst1, hs2, hF1⟩
  · rintro ρ M7 ⟨⟨z6, z7, z8, rfl⟩, S, w7, hst7, hs7, hF7⟩
    exact hP S M7 w7 hst7 hs7 hF7
theorem pure__law_loosened : Pure N__law_loosened ["_law_sack_here", "_law_state"] sp__law_loosened t__law_loosened := by
  unfold sp__law_loosened
  rintro ds M P ⟨a, g, t, h, s, c, names, gp, S, rfl, nm, n1, n2, hs, hst, w, dj, hP⟩
  refine ⟨rfl, ?_⟩
  refine ix_dK hst.at_ sta_ground (ix_tup (xs := [.ft (names.map D.str), .tup (gp.map pD)]) rfl ?_)
  refine take_call hs (by decide) (by decide) fun form M1 f0 f1 hs1 hf1 => ?_
  have hst1 := hst.keep hf1 dj.sym
  have hF1 : Fr [a, g, t, h, s, c] M M1 := hf1.mono sub_ag
  refine eq_int (ite_tf (fun _ => ?_) (fun _ => loose_end nm n1 n2 f0 f1 hs1 hst1 w dj (.inl rfl) hF1 fun S' M' k1 k2 k3 k4 => hP h S' M' k1 k2 k3 dj (.inl rfl) k4))
  intro q hq
  have e2 := Ext.new (o := .lst [.int 0]) hq
  refine len_ft (mul_lst up_same ⟨by omega, by rw [List.length_map]; omega, by rw [sizeLine_eq, List.length_map]; simp; omega⟩ fun h' hh' => ?_)
  have e3 := Ext.new (o := .lst (List.replicate ((names.map D.str).length : Int).toNat [D.int 0]).flatten) hh'
  have hst3 := (hst1.ext e2).ext e3
  have hs3 := (hs1.ext e2).ext e3
  have hF3 := (hF1.ext e2).ext e3
  have hh3 : up (up M1 q (.lst [.int 0])) h' (.lst (List.replicate ((names.map D.str).length : Int).toNat [D.int 0]).flatten) h' = some (.lst ((List.replicate names.length (0 : Int)).map D.int)) := by
    rw [up_same, List.length_map, Int.toNat_natCast, flat_zeros]
  have hM1h : M1 h' = none := e2.back hh'
  have hMh : M h' = none := hf1.back hs1 hM1h
  generalize up (up M1 q (.lst [.int 0])) h' (.lst (List.replicate ((names.map D.str).length : Int).toNat [D.int 0]).flatten) = M3 at *
  have dj' : Dj [a, g] [t, h', s, c] := dj_new dj hs1 hM1h
  have hnot := hst1.free hM1h
  simp only [List.mem_cons, List.not_mem_nil, or_false, not_or] at hnot
  refine put_dK hst3.at_ small4 ?_
  rw [sta_phomes]
  have hst4 : StAt (up M3 t (.dK (staK (groundD names gp) h' s c))) t h' s c (groundD names gp) ⟨List.replicate names.length 0, S.stand, S.kvs⟩ :=
    ⟨up_same, by rw [up_ne hnot.1]; exact hh3, by rw [up_ne hst3.ts.symm]; exact hst3.as_, by rw [up_ne hst3.tc.symm]; exact hst3.ac, hnot.2.2.1⟩
  have hs4 : SackAt (up M3 t (.dK (staK (groundD names gp) h' s c))) a g := hs3.keep (T := [t, h, s, c]) (Fr.wr (by simp)) dj
  have hF4 : Fr [a, g, t, h, s, c] M (up M3 t (.dK (staK (groundD names gp) h' s c))) := hF3.trans (Fr.wr (by simp))
  generalize up M3 t (.dK (staK (groundD names gp) h' s c)) = M4 at *
  have w4 : Wf names ⟨List.replicate names.length 0, S.stand, S.kvs⟩ := ⟨by simp, w.st, w.sl, w.kv, w.nd⟩
  refine ix_dK hst4.at_ sta_stand (on_seq (lstAt_of hst4.as_) ?_)
  refine for_ok (fun dn ρ M7 => (∃ z4 z5, ρ = [some (.ref a), some (.ref t), some (.ft (names.map D.str)), some (.int form), z4, z5, none, none, none]) ∧ ∃ homes, Wf names ⟨homes, S.stand, S.kvs⟩ ∧ StAt M7 t h' s c (groundD names gp) ⟨homes, S.stand, S.kvs⟩ ∧ SackAt M7 a g ∧ Fr [a, g, t, h, s, c] M M7) ?_ ?_ ?_ ?_
  · rintro dn r ρ M7 e ⟨_, homes, _, k, _, _⟩
    exact lstAt_of k.as_
  · rintro dn x r ρ M7 e ⟨⟨z4, z5, rfl⟩, homes, w7, hst7, hs7, hF7⟩ N hN
    refine len_ft ?_
    rw [List.length_map]
    refine take_call hs7 (by omega) (by omega) fun i M8 i0 i1 hs8 hf8 => ?_
    have hst8 := hst7.keep hf8 dj'.sym
    have hi : i.toNat < homes.length := by have := w7.hl; simp only at this; omega
    refine ix_dK hst8.at_ sta_homes (ix_lst hst8.ah (d := .int homes[i.toNat]) (atI_int i0 (by rw [List.getElem?_map, List.getElem?_eq_getElem hi]; rfl)) (add_int ?_))
    refine ix_dK hst8.at_ sta_homes (put_lst hst8.ah i0 (by rw [List.length_map]; show i < (homes.length : Int); omega) (hN _ _ ⟨⟨_, _, rfl⟩, homes.set i.toNat (homes[i.toNat] + 1), ⟨by show (homes.set _ _).length = _; rw [List.length_set]; exact w7.hl, w7.st, w7.sl, w7.kv, w7.nd⟩, ⟨?_, ?_, ?_, ?_, hst8.ne⟩, ?_, ?_⟩))
    · rw [up_ne hst8.th]; exact hst8.at_
    · rw [up_same, List.map_set]
    · rw [up_ne hst8.ne.symm]; exact hst8.as_
    · rw [up_ne hst8.hc.symm]; exact hst8.ac
    · exact hs8.keep (T := [t, h', s, c]) (Fr.wr (by simp)) dj'
    · exact (hF7.trans (hf8.mono sub_ag)).wrN hMh
  · exact ⟨⟨_, _, rfl⟩, _, w4, hst4, hs4, hF4⟩
  · rintro ρ M7 ⟨⟨z4, z5, rfl⟩, homes, w7, hst7, hs7, hF7⟩
    exact loose_end nm n1 n2 f0 f1 hs7 hst7 w7 dj' (.inr hMh) hF7 fun S' M' k1 k2 k3 k4 => hP h' S' M' k1 k2 k3 dj' (.inr hMh) k4
theorem loosened_call {M : Mem} {a g t h s c : Addr} {names : List Str} {gp : List (Str × Str)} {S : Sta} {P : DVK} (nm : Names names) (n1 : 1 ≤ names.length) (n2 : names.length ≤ 12) (hs : SackAt M a g) (hst : StAt M t h s c (groundD names gp) S) (w : Wf names S) (dj : Dj [a, g] [t, h, s, c])
    (hP : ∀ (h' : Addr) (S' : Sta) M', Wf names S' → StAt M' t h' s c (groundD names gp) S' → SackAt M' a g → Dj [a, g] [t, h', s, c] → (h' = h ∨ M h' = none) → Fr [a, g, t, h, s, c] M M' → P (.ref t) M') : sp__law_loosened [.ref a, .ref t] M P := by unfold sp__law_loosened; exact ⟨a, g, t, h, s, c, names, gp, S, rfl, nm, n1, n2, hs, hst, w, dj, hP⟩
end EW

set_option maxRecDepth 100000
set_option maxHeartbeats 4000000
/-! EwRun: moves drawn and made; their other orders. -/
namespace EW
open PySem PySem.Spec PyProof.Rows L2
abbrev Mv := Nat × Str
def mvD (m : Mv) : D := .tup [.int m.1, .str m.2]
theorem mvD_inj (a b : Mv) (h : mvD a = mvD b) : a = b := by
  unfold mvD at h
  injection h with h
  injection h with h1 h2
  injection h2 with h2 h3
  injection h1 with h1
  injection h2 with h2
  exact Prod.ext (Int.ofNat.inj h1) h2
def back (m : Mv) : Deed := .back m.1 m.2
/-! ### one step -/
@[irreducible] def sp__law_stepped : DSp := fun ds M P => ∃ (names : List Str) (gp : List (Str × Str)) (t h s c : Addr) (S : Sta) (m : Mv), ds = [.ref t, .int m.1, .str m.2] ∧ names.length ≤ 12 ∧ StAt M t h s c (groundD names gp) S ∧ Wf names S ∧ S.may names (back m) ∧
  ∀ M', StAt M' t h s c (groundD names gp) (S.after names (back m)) → Fr [t, h, s, c] M M' → P (.bl true) M'
def N__law_stepped : List Str := ["_law_state", "_law_traveller", "_law_named", "_law_at"]
def t__law_stepped : DTS := (dSeq (dIfS (dOr (dTest (dOp rLt (dVar 1) (dC (.int 0)))) (dTest (dOp rGe (dVar 1) (dCallB rLen (daCons (dOp rIxA (dVar 0) (dC (.str "standing"))) (daNil)))))) (dRet (dC (.bl false))) (dNext)) (dSeq (dAsg (dOp rIxA (dOp rIxA (dVar 0) (dC (.str "standing"))) (dVar 1)) (gN 3)) (dSeq (dIfS (dTest (dOp (rEqs false) (dBM "dict" rGet (dOp rIxA (dVar 0) (dC (.str "crumbs"))) (daCons (dTup (daCons (dVar 3) (daCons (dVar 2) (daNil)))) (daCons (dC (.int 0)) (daNil)))) (dC (.int 0)))) (dRet (dC (.bl false))) (dNext)) (dSeq (dDrop (dCall sp__law_make [] (daCons (dVar 0) (daCons (dTup (daCons (dC (.str "back")) (daCons (dVar 1) (daCons (dVar 2) (daNil))))) (daNil))))) (dRet (dC (.bl true)))))))
theorem pure__law_stepped : Pure N__law_stepped ["_law_state", "_law_traveller", "_law_named"] sp__law_stepped t__law_stepped := by
  unfold sp__law_stepped
  rintro ds M P ⟨names, gp, t, h, s, c, S, ⟨i, x⟩, rfl, n2, hst, w, m, hP⟩
  refine ⟨rfl, ?_⟩
  obtain ⟨m1, m2⟩ := id m
  have m1 : i < S.stand.length := m1
  have m2 : 0 < cnt S.kvs (S.at i) x := m2
  refine lt_int ?_
  refine ix_dK hst.at_ sta_stand (len_lst hst.as_ (ge_int (ite_tf (fun e => ?_) (fun _ => ?_))))
  · have := of_decide_eq_true e; rw [List.length_map] at this; simp only at this; omega
  refine ix_dK hst.at_ sta_stand (ix_lst hst.as_ (d := .str (S.at i)) (atI_nat (by rw [List.getElem?_map, Sta.at_get m1]; rfl)) ?_)
  refine ix_dK hst.at_ sta_crumbs ⟨ty_dT hst.ac, get_cnt w hst.ac (eq_int (ite_tf (fun e => ?_) (fun _ => ?_)))⟩
  · simp [nb] at e; omega
  exact make_call n2 hst w m fun r M' k1 k2 => hP M' k1 k2
theorem stepped_call {names : List Str} {gp : List (Str × Str)} {M : Mem} {t h s c : Addr} {S : Sta} {m : Mv} {P : DVK} (n2 : names.length ≤ 12) (hst : StAt M t h s c (groundD names gp) S) (w : Wf names S) (hm : S.may names (back m))
    (hP : ∀ M', StAt M' t h s c (groundD names gp) (S.after names (back m)) → Fr [t, h, s, c] M M' → P (.bl true) M') : sp__law_stepped [.ref t, .int m.1, .str m.2] M P := by unfold sp__law_stepped; exact ⟨names, gp, t, h, s, c, S, m, rfl, n2, hst, w, hm, hP⟩
/-! ### what may be done -/
@[irreducible] def sp__law_options : DSp := fun ds M P => ∃ (names : List Str) (gp : List (Str × Str)) (t h s c : Addr) (S : Sta), ds = [.ref t] ∧ names.length ≤ 12 ∧ StAt M t h s c (groundD names gp) S ∧ Wf names S ∧
  ∀ (p : Addr) (ms : List Mv) M', (∀ m ∈ ms, S.may names (back m)) → ms.length ≤ 1000 → M p = none → M' p = some (.lst (ms.map mvD)) → Ext M M' → P (.ref p) M'
def N__law_options : List Str := ["_law_state", "_law_found", "_law_traveller", "_law_at", "_law_named"]
def t__law_options : DTS := (dSeq (dAsg (dLst (daNil)) (gN 1)) (dSeq (dFor (diEnum (dOp rIxA (dVar 0) (dC (.str "standing")))) (gTn 2 (gsCons (gN 2) (gsCons (gN 3) (gsNil)))) (dDrop (dBM "list" rExtend (dVar 1) (daCons (dComp (diSeq (dCall sp__law_eaten [] (daCons (dVar 0) (daCons (dVar 3) (daNil))))) [4] (.n 4) (dYes) (dTup (daCons (dVar 2) (daCons (dVar 4) (daNil))))) (daNil))))) (dRet (dVar 1))))
theorem pure__law_options : Pure N__law_options ["_law_state"] sp__law_options t__law_options := by
  unfold sp__law_options
  rintro ds M P ⟨names, gp, t, h, s, c, S, rfl, n2, hst, w, hP⟩
  refine ⟨rfl, ?_⟩
  intro f hf
  have e1 := Ext.new (o := .lst []) hf
  have hst1 := hst.ext e1
  refine ix_dK hst1.at_ sta_stand (on_src (lstAt_of hst1.as_) ?_)
  refine for_ok (fun dn ρ M1 => (∃ z2 z3 z4, ρ = [some (.ref t), some (.ref f), z2, z3, z4]) ∧ ∃ ms : List Mv, (∀ m ∈ ms, S.may names (back m)) ∧ ms.length ≤ dn.length * 12 ∧ M1 f = some (.lst (ms.map mvD)) ∧ Ext M M1) ?_ ?_ ?_ ?_
  · rintro dn r ρ M1 e ⟨_, ms, _, _, _, k⟩
    exact lstAt_of (hst.ext k).as_
  · rintro dn x r ρ M1 e ⟨⟨z2, z3, z4, rfl⟩, ms, hms, hml, h1, h2⟩ N hN
    have hdl : dn.length < S.stand.length := by
      have := congrArg List.length e
      rw [pairsE_length, List.length_map, List.length_append, List.length_cons] at this
      omega
    have hx : x = .tup [.int (dn.length : Nat), .str (S.at dn.length)] := by
      have h0 : (pairsE 0 (S.stand.map D.str))[dn.length]? = some x := by rw [e]; simp
      rw [pairsE_get, List.getElem?_map, Sta.at_get hdl] at h0
      simp only [Option.map_some, Option.some.injEq] at h0
      rw [← h0]; simp
    subst hx
    generalize hk : dn.length = k at hdl
    refine ⟨rfl, ?_⟩
    refine ⟨ty_lst h1, ?_⟩
    refine eaten_call n2 (hst.ext h2) w fun q M2 q0 q1 e2 => on_seq (lstAt_of q1) fun c2 hc2 => ?_
    refine comp_ext (fun y => match y with | .str b => some (mvD (k, b)) | _ => none) hc2 (fun M3 e3 => lstAt_of (e3 _ _ q1)) (by rw [List.length_map]; exact Nat.le_of_lt (smallZ (Nat.le_trans (List.length_filter_le _ _) (by omega)))) (fun y hy M3 hM3 R hR => ?_) fun M3 hM3 hc3 => ?_
    · obtain ⟨b, hb, rfl⟩ := List.mem_map.mp hy
      exact item_yes (hR M3 Ext.refl)
    · have hfm : ((eat names (cnt S.kvs) (S.at k)).map D.str).filterMap (fun y => match y with | .str b => some (mvD (k, b)) | _ => none) = ((eat names (cnt S.kvs) (S.at k)).map fun b => (k, b)).map mvD := by
        rw [List.filterMap_map, List.map_map]
        rw [← List.filterMap_eq_map]
        rfl
      rw [hfm] at hc3
      have hel : (eat names (cnt S.kvs) (S.at k)).length ≤ 12 := Nat.le_trans (List.length_filter_le _ _) n2
      have hsl := w.sl
      have h1' := hM3 _ _ (e2 _ _ h1)
      refine extend_lst h1' hc3 (by rw [List.length_map, List.length_map, List.length_map, sizeLine_eq]; omega) (hN _ _ ⟨⟨_, _, _, rfl⟩, ms ++ (eat names (cnt S.kvs) (S.at k)).map (fun b => (k, b)), ?_, ?_, by rw [up_same, List.map_append], ((h2.trans e2).trans hM3).wr hf⟩)
      · intro m hm
        rcases List.mem_append.mp hm with hm | hm
        · exact hms m hm
        · obtain ⟨b, hb, rfl⟩ := List.mem_map.mp hm
          refine ⟨hdl, ?_⟩
          simpa using (List.mem_filter.mp hb).2
      · rw [List.length_append, List.length_map, List.length_append, List.length_singleton]; omega
  · exact ⟨⟨_, _, _, rfl⟩, [], by simp, by simp, up_same, e1⟩
  · rintro ρ M1 ⟨⟨z2, z3, z4, rfl⟩, ms, hms, hml, h1, h2⟩
    rw [pairsE_length, List.length_map] at hml
    have := w.sl
    exact hP f ms M1 hms (by omega) hf h1 h2
theorem options_call {names : List Str} {gp : List (Str × Str)} {M : Mem} {t h s c : Addr} {S : Sta} {P : DVK} (n2 : names.length ≤ 12) (hst : StAt M t h s c (groundD names gp) S) (w : Wf names S)
    (hP : ∀ (p : Addr) (ms : List Mv) M', (∀ m ∈ ms, S.may names (back m)) → ms.length ≤ 1000 → M p = none → M' p = some (.lst (ms.map mvD)) → Ext M M' → P (.ref p) M') : sp__law_options [.ref t] M P := by unfold sp__law_options; exact ⟨names, gp, t, h, s, c, S, rfl, n2, hst, w, hP⟩
/-! ### a run -/
inductive Moves (names : List Str) : Sta → List Mv → Sta → Prop
  | nil (S : Sta) : Moves names S [] S
  | snoc {S S' : Sta} {ms : List Mv} {m : Mv} : Moves names S ms S' → S'.may names (back m) → Moves names S (ms ++ [m]) (S'.after names (back m))
theorem Moves.wf {names : List Str} {S S' : Sta} {ms : List Mv} (r : Moves names S ms S') (w : Wf names S) : Wf names S' := by
  induction r with
  | nil => exact w
  | snoc _ m ih => exact ih.after m
@[irreducible] def sp__law_run : DSp := fun ds M P => ∃ (a g t h s c : Addr) (names : List Str) (gp : List (Str × Str)) (S : Sta) (most : Int), ds = [.ref a, .ref t, .int most] ∧ Names names ∧ names.length ≤ 12 ∧ SackAt M a g ∧ StAt M t h s c (groundD names gp) S ∧ Wf names S ∧ Dj [a, g] [t, h, s, c] ∧ 0 ≤ most ∧ most ≤ 100 ∧
  ∀ (p : Addr) (ms : List Mv) (S' : Sta) M', Moves names S ms S' → ms.length ≤ 100 → M p = none → M' p = some (.lst (ms.map mvD)) → StAt M' t h s c (groundD names gp) S' → SackAt M' a g → Fr [a, g, t, h, s, c] M M' → P (.ref p) M'
def N__law_run : List Str := ["_law_sack_here", "_law_state", "_law_most", "_law_found", "_law_turn", "_law_options_here"]
def t__law_run : DTS := (dSeq (dAsg (dLst (daNil)) (gN 3)) (dSeq (dFor (diRange (dVar 2)) (gN 4) (dSeq (dAsg (dCall sp__law_options [] (daCons (dVar 1) (daNil))) (gN 5)) (dIfS (dTest (dOp (rEqs true) (dVar 5) (dLst (daNil)))) (dSeq (dDrop (dBM "list" rAppend (dVar 3) (daCons (dOp rIxA (dVar 5) (dCall sp__law_take [] (daCons (dVar 0) (daCons (dCallB rLen (daCons (dVar 5) (daNil))) (daNil))))) (daNil)))) (dDrop (dCall sp__law_stepped [] (daCons (dVar 1) (daCons (dOp rIxA (dOp rIxA (dVar 3) (dUn rNeg (dC (.int 1)))) (dC (.int 0))) (daCons (dOp rIxA (dOp rIxA (dVar 3) (dUn rNeg (dC (.int 1)))) (dC (.int 1))) (daNil))))))) (dNext)))) (dRet (dVar 3))))
theorem mvs_all {names : List Str} (nm : Names names) {ms : List Mv} (h : ∀ m ∈ ms, m.2 ∈ names) : (ms.map mvD).all (okN 20) = true := List.all_eq_true.mpr fun d hd => by
  obtain ⟨m, hm, rfl⟩ := List.mem_map.mp hd
  show ([D.int m.1, D.str m.2].all (okN 19)) = true
  rw [List.all_cons, List.all_cons, List.all_nil]
  rw [show okN 19 (.str m.2) = true from (nm.ok _ (h m hm)).so]; rfl
theorem pure__law_run : Pure N__law_run ["_law_sack_here", "_law_state", "_law_most"] sp__law_run t__law_run := by
  unfold sp__law_run
  rintro ds M P ⟨a, g, t, h, s, c, names, gp, S, most, rfl, nm, n2, hs, hst, w, dj, z0, z1, hP⟩
  refine ⟨rfl, ?_⟩
  intro f hf
  have e0 := Ext.new (o := .lst []) hf
  have hfa : f ∉ [a, g] := by obtain ⟨u, v⟩ := hs.free hf; simp [u, v]
  have hft : f ∉ [t, h, s, c] := hst.free hf
  refine ⟨⟨by omega, by omega⟩, ?_⟩
  refine for_ok (fun dn ρ M1 => (∃ z4 z5, ρ = [some (.ref a), some (.ref t), some (.int most), some (.ref f), z4, z5]) ∧ ∃ ms S', Moves names S ms S' ∧ ms.length ≤ dn.length ∧ M1 f = some (.lst (ms.map mvD)) ∧ StAt M1 t h s c (groundD names gp) S' ∧ SackAt M1 a g ∧ Fr [a, g, t, h, s, c] M M1) (fun _ _ _ _ _ _ => trivial) ?_ ?_ ?_
  · rintro dn x r ρ M1 e ⟨⟨z4, z5, rfl⟩, ms, S', hr, hl, h1, h2, h3, h4⟩ N hN
    have hdl : dn.length < 100 := by
      have := congrArg List.length e
      rw [rangeD_length, List.length_append, List.length_cons] at this
      omega
    have w' := hr.wf w
    refine options_call n2 h2 w' fun p os M2 hos hol p0 p1 e2 => ?_
    have hpa : p ∉ [a, g] := by obtain ⟨u, v⟩ := h3.free p0; simp [u, v]
    have hpt := h2.free p0
    intro q hq
    have e3 := Ext.new (o := .lst []) hq
    have hpf : f ≠ p := fun e => by subst e; rw [p0] at h1; cases h1
    refine eq_none (e3 _ _ p1) (mvs_all nm fun m hm => (w'.inN (hos m hm).2).2) up_same (ite_tf (fun hb => ?_) (fun _ => hN _ _ ⟨⟨_, _, rfl⟩, ms, S', hr, by simp; omega, e3 _ _ (e2 _ _ h1), (h2.ext e2).ext e3, (h3.ext e2).ext e3, (h4.ext e2).ext e3⟩))
    have hne : os ≠ [] := fun e => by rw [e] at hb; simp [nb] at hb
    have hlp := List.length_pos_iff.mpr hne
    have hp3 := e3 _ _ p1
    have hf3 := e3 _ _ (e2 _ _ h1)
    have hst3 := (h2.ext e2).ext e3
    have hs3 := (h3.ext e2).ext e3
    have hF3 := (h4.ext e2).ext e3
    generalize up M2 q (.lst []) = M3 at *
    refine ⟨ty_lst hf3, len_lst hp3 ?_⟩
    rw [List.length_map]
    refine take_call hs3 (by omega) (by omega) fun i M4 i0 i1 hs4 hf4 => ?_
    have hi : i.toNat < os.length := by omega
    have hmay := hos _ (List.getElem_mem hi)
    generalize hmv : os[i.toNat] = m at hmay
    refine ix_lst (hf4 _ _ hp3 hpa) (d := mvD m) (atI_int i0 (by rw [List.getElem?_map, List.getElem?_eq_getElem hi, hmv]; rfl)) ?_
    have hst4 := hst3.keep hf4 dj.sym
    have hff4 := hf4 _ _ hf3 hfa
    refine append_lst hff4 (by rw [List.length_map]; exact smallZ (by omega)) ?_
    have hst5 : StAt (up M4 f (.lst (ms.map mvD ++ [mvD m]))) t h s c (groundD names gp) S' := hst4.keep (T := [f]) (Fr.wr (by simp)) fun y hy hy2 => hft (by rw [List.mem_singleton.mp hy2] at hy; exact hy)
    have hs5 : SackAt (up M4 f (.lst (ms.map mvD ++ [mvD m]))) a g := hs4.keep (T := [f]) (Fr.wr (by simp)) fun y hy hy2 => hfa (by rw [List.mem_singleton.mp hy2] at hy; exact hy)
    have hF5 : Fr [a, g, t, h, s, c] M (up M4 f (.lst (ms.map mvD ++ [mvD m]))) := (hF3.trans (hf4.mono sub_ag)).wrN hf
    have hf5 := up_same (M := M4) (a := f) (o := .lst (ms.map mvD ++ [mvD m]))
    generalize up M4 f (.lst (ms.map mvD ++ [mvD m])) = M5 at *
    refine neg_int (ix_lst hf5 (atI_last (xs := ms.map mvD) (d := mvD m)) (ix_tup (xs := [.int m.1, .str m.2]) rfl ?_))
    refine neg_int (ix_lst hf5 (atI_last (xs := ms.map mvD) (d := mvD m)) (ix_tup (xs := [.int m.1, .str m.2]) rfl ?_))
    refine stepped_call n2 hst5 w' hmay fun M6 hst6 hf6 => hN _ _ ⟨⟨_, _, rfl⟩, ms ++ [m], _, hr.snoc hmay, by simp; omega, ?_, hst6, hs5.keep hf6 dj, hF5.trans (hf6.mono sub_st)⟩
    rw [hf6 _ _ hf5 hft, List.map_append]; rfl
  · exact ⟨⟨_, _, rfl⟩, [], S, .nil S, by simp, up_same, hst.ext e0, hs.ext e0, e0.fr⟩
  · rintro ρ M1 ⟨⟨z4, z5, rfl⟩, ms, S', hr, hl, h1, h2, h3, h4⟩
    rw [rangeD_length] at hl
    exact hP f ms S' M1 hr (by omega) hf h1 h2 h3 h4
theorem run_call {M : Mem} {a g t h s c : Addr} {names : List Str} {gp : List (Str × Str)} {S : Sta} {most : Int} {P : DVK} (nm : Names names) (n2 : names.length ≤ 12) (hs : SackAt M a g) (hst : StAt M t h s c (groundD names gp) S) (w : Wf names S) (dj : Dj [a, g] [t, h, s, c]) (z0 : 0 ≤ most) (z1 : most ≤ 100)
    (hP : ∀ (p : Addr) (ms : List Mv) (S' : Sta) M', Moves names S ms S' → ms.length ≤ 100 → M p = none → M' p = some (.lst (ms.map mvD)) → StAt M' t h s c (groundD names gp) S' → SackAt M' a g → Fr [a, g, t, h, s, c] M M' → P (.ref p) M') : sp__law_run [.ref a, .ref t, .int most] M P := by unfold sp__law_run; exact ⟨a, g, t, h, s, c, names, gp, S, most, rfl, nm, n2, hs, hst, w, dj, z0, z1, hP⟩
end EW

set_option maxRecDepth 100000
set_option maxHeartbeats 4000000
/-! EwOrder: the moves in another order, each traveller's own order kept. -/
namespace EW
open PySem PySem.Spec PyProof.Rows L2
abbrev Rw := Addr × List Mv
/-- rows that stand: a list of lists of moves -/
structure RowsAt (M : Mem) (r : Addr) (rws : List Rw) : Prop where
  l : M r = some (.lst (rws.map fun x => D.ref x.1))
  e : ∀ x ∈ rws, M x.1 = some (.lst (x.2.map mvD))
  nd : (rws.map (·.1)).Nodup
theorem RowsAt.ext {M M' : Mem} {r : Addr} {rws : List Rw} (h : RowsAt M r rws) (e : Ext M M') : RowsAt M' r rws := ⟨e _ _ h.l, fun x hx => e _ _ (h.e x hx), h.nd⟩
theorem RowsAt.keep {M M' : Mem} {r : Addr} {rws : List Rw} {T : List Addr} (h : RowsAt M r rws) (f : Fr T M M') (hr : r ∉ T) (hx : ∀ x ∈ rws, x.1 ∉ T) : RowsAt M' r rws := ⟨f _ _ h.l hr, fun x m => f _ _ (h.e x m) (hx x m), h.nd⟩
/-- the moves of one traveller -/
def own (t : Nat) (ms : List Mv) : List Mv := ms.filter fun m => decide (m.1 = t)
theorem own_sum : ∀ (ms : List Mv), (∀ m ∈ ms, m.1 < 6) → (own 0 ms).length + (own 1 ms).length + (own 2 ms).length + (own 3 ms).length + (own 4 ms).length + (own 5 ms).length = ms.length
  | [], _ => rfl
  | m :: ms, h => by
    have ih := own_sum ms fun x hx => h x (List.mem_cons_of_mem _ hx)
    have hm := h m (List.mem_cons_self ..)
    unfold own at ih ⊢
    have hc : m.1 = 0 ∨ m.1 = 1 ∨ m.1 = 2 ∨ m.1 = 3 ∨ m.1 = 4 ∨ m.1 = 5 := by omega
    rcases hc with e | e | e | e | e | e <;> simp [List.filter_cons, e] <;> omega
theorem own_fm (t : Nat) : ∀ ms : List Mv, (ms.map mvD).filterMap (fun y => match y with | .tup (.int i :: r) => if i = (t : Int) then some (.tup (.int i :: r)) else none | _ => none) = (own t ms).map mvD
  | [] => rfl
  | (i, x) :: ms => by
    rw [List.map_cons, List.filterMap_cons]
    unfold own
    by_cases h : i = t
    · rw [List.filter_cons_of_pos (by simp [h]), List.map_cons]
      have := own_fm t ms
      unfold own at this
      rw [← this]
      simp [mvD, h]
    · rw [List.filter_cons_of_neg (by simp [h])]
      have h' : ¬ (i : Int) = (t : Int) := fun e => h (Int.ofNat.inj e)
      have := own_fm t ms
      unfold own at this
      rw [← this]
      simp [mvD, h']
/-- the rows that are left, against what has been taken -/
structure Left (ms fs : List Mv) (rws : List Rw) : Prop where
  n : rws.length = 6
  o : ∀ t x, rws[t]? = some x → own t fs ++ x.2 = own t ms
  c : fs.length + (rws.map fun x => x.2.length).sum = ms.length
  s : ∀ m ∈ fs, m ∈ ms
@[irreducible] def sp__law_other_order : DSp := fun ds M P => ∃ (a g p : Addr) (names : List Str) (ms : List Mv), ds = [.ref a, .ref p] ∧ Names names ∧ SackAt M a g ∧ M p = some (.lst (ms.map mvD)) ∧ p ∉ [a, g] ∧ ms.length ≤ 100 ∧ (∀ m ∈ ms, m.1 < 6 ∧ m.2 ∈ names) ∧
  ∀ (q : Addr) (fs : List Mv) M', (∀ t, own t fs = own t ms) → fs.length = ms.length → M q = none → M' q = some (.lst (fs.map mvD)) → SackAt M' a g → Fr [a, g] M M' → P (.ref q) M'
def N__law_other_order : List Str := ["_law_sack_here", "_law_moves", "_law_rows", "_law_traveller", "_law_move", "_law_found", "_law_waiting", "_law_row"]
def t__law_other_order : DTS := (dSeq (dAsg (dLst (daNil)) (gN 2)) (dSeq (dFor (diRange (dC (.int 6))) (gN 3) (dDrop (dBM "list" rAppend (dVar 2) (daCons (dComp (diSeq (dVar 1)) [4] (.n 4) (dTest (dOp (rEqs false) (dOp rIxA (dVar 4) (dC (.int 0))) (dVar 3))) (dVar 4)) (daNil))))) (dSeq (dAsg (dLst (daNil)) (gN 5)) (dSeq (dWhile (dTest (dOp rLt (dCallB rLen (daCons (dVar 5) (daNil))) (dCallB rLen (daCons (dVar 1) (daNil))))) (dSeq (dAsg (dComp (diSeq (dVar 2)) [7] (.n 7) (dTest (dOp (rEqs true) (dVar 7) (dLst (daNil)))) (dVar 7)) (gN 6)) (dDrop (dBM "list" rAppend (dVar 5) (daCons (dBM "list" rPop (dOp rIxA (dVar 6) (dCall sp__law_take [] (daCons (dVar 0) (daCons (dCallB rLen (daCons (dVar 6) (daNil))) (daNil))))) (daCons (dC (.int 0)) (daNil))) (daNil)))))) (dRet (dVar 5))))))
theorem sum_set {l : List Nat} {j n v : Nat} (h : l[j]? = some (n + 1)) : (l.set j n).sum + 1 = l.sum := by
  induction l generalizing j with
  | nil => simp at h
  | cons x xs ih =>
    cases j with
    | zero => simp at h; subst h; simp; omega
    | succ j =>
      have := ih (j := j) (by simpa using h)
      simp only [List.set_cons_succ, List.sum_cons]; omega
theorem Left.take {ms fs : List Mv} {rws : List Rw} {t : Nat} {ad : Addr} {m : Mv} {rest : List Mv} (h : Left ms fs rws) (e : rws[t]? = some (ad, m :: rest)) : Left ms (fs ++ [m]) (rws.set t (ad, rest)) ∧ m.1 = t := by
  have ho := h.o t _ e
  have hmt : m ∈ own t ms := by rw [← ho]; simp
  have hm1 : m.1 = t := by simpa using (List.mem_filter.mp hmt).2
  refine ⟨⟨by rw [List.length_set]; exact h.n, fun t' x hx => ?_, ?_, fun x hx => ?_⟩, hm1⟩
  · by_cases ht : t = t'
    · subst ht
      have hl : t < rws.length := (List.getElem?_eq_some_iff.mp e).1
      rw [List.getElem?_set_self hl] at hx
      cases hx
      have : own t (fs ++ [m]) = own t fs ++ [m] := by unfold own; rw [List.filter_append]; simp [hm1]
      rw [this, List.append_assoc]
      exact ho
    · rw [List.getElem?_set_ne ht] at hx
      have : own t' (fs ++ [m]) = own t' fs := by
        unfold own; rw [List.filter_append]
        have : ¬ m.1 = t' := fun q => ht (hm1.symm.trans q)
        simp [this]
      rw [this]
      exact h.o t' x hx
  · rw [List.length_append, List.length_singleton, List.map_set]
    show fs.length + 1 + ((rws.map fun x => x.2.length).set t rest.length).sum = ms.length
    have := sum_set (l := rws.map fun x => x.2.length) (j := t) (n := rest.length) (v := 0) (by rw [List.getElem?_map, e]; rfl)
    have := h.c
    omega
  · rcases List.mem_append.mp hx with hx | hx
    · exact h.s x hx
    · rw [List.mem_singleton.mp hx]; exact (List.mem_filter.mp hmt).1
theorem Left.done {ms fs : List Mv} {rws : List Rw} (h : Left ms fs rws) (hl : ms.length ≤ fs.length) (h6 : ∀ m ∈ ms, m.1 < 6) : (∀ t, own t fs = own t ms) ∧ fs.length = ms.length := by
  have hc := h.c
  have hz : (rws.map fun x => x.2.length).sum = 0 := by omega
  refine ⟨fun t => ?_, by omega⟩
  by_cases ht : t < 6
  · have hlt : t < rws.length := by rw [h.n]; exact ht
    have ho := h.o t rws[t] (by simp [hlt])
    have h0 : rws[t].2 = [] := by
      have hm : rws[t].2.length ∈ rws.map fun x => x.2.length := List.mem_map.mpr ⟨_, List.getElem_mem hlt, rfl⟩
      have := List.sum_eq_zero_iff_forall_eq_nat.mp hz _ hm
      exact List.eq_nil_of_length_eq_zero this
    rw [h0, List.append_nil] at ho
    exact ho
  · have e1 : own t fs = [] := List.filter_eq_nil_iff.mpr fun m hm => by have := h6 m (h.s m hm); simp; omega
    have e2 : own t ms = [] := List.filter_eq_nil_iff.mpr fun m hm => by have := h6 m hm; simp; omega
    rw [e1, e2]
theorem nodup_at {rws : List Rw} (h : (rws.map (·.1)).Nodup) {i j : Nat} {x y : Rw} (hi : rws[i]? = some x) (hj : rws[j]? = some y) (e : x.1 = y.1) : i = j := by
  have hi' : (rws.map (·.1))[i]? = some x.1 := by rw [List.getElem?_map, hi]; rfl
  have hj' : (rws.map (·.1))[j]? = some x.1 := by rw [List.getElem?_map, hj, e]; rfl
  have l1 := (List.getElem?_eq_some_iff.mp hi').1
  exact (List.getElem?_inj l1 h).mp (hi'.trans hj'.symm)
theorem pure__law_other_order : Pure N__law_other_order ["_law_sack_here", "_law_moves"] sp__law_other_order t__law_other_order := by
  unfold sp__law_other_order
  rintro ds M P ⟨a, g, p, names, ms, rfl, nm, hs, hp, hpa, hml, hms, hP⟩
  refine ⟨rfl, ?_⟩
  intro r hr
  have er := Ext.new (o := .lst []) hr
  have hra : r ∉ [a, g] := by obtain ⟨u, v⟩ := hs.free hr; simp [u, v]
  refine ⟨⟨by omega, by omega⟩, ?_⟩
  refine for_ok (fun dn ρ M1 => (∃ z3 z4 z6 z7, ρ = [some (.ref a), some (.ref p), some (.ref r), z3, z4, none, z6, z7]) ∧ ∃ rws : List Rw, rws.length = dn.length ∧ RowsAt M1 r rws ∧ (∀ x ∈ rws, M x.1 = none ∧ x.1 ≠ r) ∧ (∀ t x, rws[t]? = some x → x.2 = own t ms) ∧ Ext M M1) (fun _ _ _ _ _ _ => trivial) ?_ ?_ ?_
  · rintro dn x rr ρ M1 e ⟨⟨z3, z4, z6, z7, rfl⟩, rws, hl, hR, hfr, ho, h2⟩ N hN
    have hdl : dn.length < 6 := by
      have := congrArg List.length e
      rw [rangeD_length, List.length_append, List.length_cons] at this
      omega
    have hx : x = .int (dn.length : Nat) := by
      have h0 : (rangeD 0 (6 : Int).toNat)[dn.length]? = some x := by rw [e]; simp
      rw [rangeD_get _ _ _ (by simpa using hdl)] at h0
      cases h0
      congr 1
      omega
    subst hx
    generalize hk : dn.length = k at *
    refine ⟨ty_lst hR.l, ?_⟩
    have hp1 := h2 _ _ hp
    refine on_seq (lstAt_of hp1) fun q hq => ?_
    refine comp_ext (fun y => match y with | .tup (.int i :: r) => if i = (k : Int) then some (.tup (.int i :: r)) else none | _ => none) hq (fun M3 e3 => lstAt_of (e3 _ _ hp1)) (by rw [List.length_map]; exact Nat.le_of_lt (smallZ (by omega))) (fun y hy M3 hM3 R hR => ?_) fun M3 hM3 hq3 => ?_
    · obtain ⟨⟨i, b⟩, hb, rfl⟩ := List.mem_map.mp hy
      have hR0 := hR M3 Ext.refl
      refine ix_tup (xs := [.int i, .str b]) rfl (eq_int (ite_tf (fun e => ?_) (fun e => ?_)))
      · have : (i : Int) = (k : Int) := by simpa [nb] using e
        simp only [mvD, this, if_true] at hR0
        simp only [mvD, this]; exact hR0
      · have : ¬ (i : Int) = (k : Int) := by simpa [nb] using e
        simp only [mvD, this, if_false] at hR0; exact hR0
    · rw [own_fm] at hq3
      have hRr := hM3 _ _ hR.l
      refine append_lst hRr (by rw [List.length_map, hl]; exact smallZ (by omega)) ?_
      have hqM : M q = none := h2.back hq
      have hqr : q ≠ r := fun e => by subst e; rw [hR.l] at hq; cases hq
      have hqn : ∀ x ∈ rws, x.1 ≠ q := fun x hx e => by have := hR.e x hx; rw [e, hq] at this; cases this
      refine hN _ _ ⟨⟨_, _, _, _, rfl⟩, rws ++ [(q, own k ms)], by simp [hl, hk], ⟨?_, ?_, ?_⟩, ?_, ?_, (h2.trans hM3).wr hr⟩
      · rw [up_same, List.map_append]; rfl
      · intro x hx
        rcases List.mem_append.mp hx with hx | hx
        · rw [up_ne (hfr x hx).2]; exact hM3 _ _ (hR.e x hx)
        · rw [List.mem_singleton.mp hx, up_ne hqr]; exact hq3
      · rw [List.map_append, List.nodup_append]
        refine ⟨hR.nd, by simp, fun x hx y hy e => ?_⟩
        obtain ⟨z, hz, rfl⟩ := List.mem_map.mp hx
        simp only [List.map_cons, List.map_nil, List.mem_singleton] at hy
        exact hqn z hz (e.trans hy)
      · intro x hx
        rcases List.mem_append.mp hx with hx | hx
        · exact hfr x hx
        · rw [List.mem_singleton.mp hx]; exact ⟨hqM, hqr⟩
      · intro t x hx
        by_cases ht : t < rws.length
        · rw [List.getElem?_append_left ht] at hx; exact ho t x hx
        · rw [List.getElem?_append_right (by omega)] at hx
          have : t - rws.length = 0 := by
            have := (List.getElem?_eq_some_iff.mp hx).1
            simp at this; omega
          rw [this] at hx
          cases hx
          have : t = k := by
            rw [hl] at *
            omega
          rw [this]
  · exact ⟨⟨_, _, _, _, rfl⟩, [], rfl, ⟨up_same, by simp, by simp⟩, by simp, by simp, er⟩
  · rintro ρ M1 ⟨⟨z3, z4, z6, z7, rfl⟩, rws, hl, hR, hfr, ho, h2⟩
    rw [rangeD_length] at hl
    have hl6 : rws.length = 6 := hl
    -- found
    intro f hf
    have ef := Ext.new (o := .lst []) hf
    have hfM : M f = none := h2.back hf
    have hfa : f ∉ [a, g] := by obtain ⟨u, v⟩ := hs.free hfM; simp [u, v]
    have hL0 : Left ms [] rws := by
      refine ⟨hl6, fun t x hx => by rw [ho t x hx]; rfl, ?_, by simp⟩
      obtain ⟨x0, x1, x2, x3, x4, x5, rfl⟩ : ∃ x0 x1 x2 x3 x4 x5, rws = [x0, x1, x2, x3, x4, x5] := by
        match rws, hl6 with
        | [x0, x1, x2, x3, x4, x5], _ => exact ⟨x0, x1, x2, x3, x4, x5, rfl⟩
      have := own_sum ms fun m hm => (hms m hm).1
      simp only [List.map_cons, List.map_nil, List.sum_cons, List.sum_nil, List.length_nil]
      rw [ho 0 x0 rfl, ho 1 x1 rfl, ho 2 x2 rfl, ho 3 x3 rfl, ho 4 x4 rfl, ho 5 x5 rfl]
      omega
    have hfr0 : f ≠ r := fun e => by subst e; rw [hR.l] at hf; cases hf
    have hfrw : ∀ x ∈ rws, x.1 ≠ f := fun x hx e => by have := hR.e x hx; rw [e, hf] at this; cases this
    refine ⟨fun n ρ M2 => (∃ z3 z4 z6 z7, ρ = [some (.ref a), some (.ref p), some (.ref r), z3, z4, some (.ref f), z6, z7]) ∧ ∃ (rws : List Rw) (fs : List Mv), n + fs.length = ms.length ∧ RowsAt M2 r rws ∧ (∀ x ∈ rws, M x.1 = none ∧ x.1 ≠ r ∧ x.1 ≠ f) ∧ Left ms fs rws ∧ M2 f = some (.lst (fs.map mvD)) ∧ SackAt M2 a g ∧ Fr [a, g] M M2, ⟨ms.length, ⟨_, _, _, _, rfl⟩, rws, [], rfl, hR.ext ef, fun x hx => ⟨(hfr x hx).1, (hfr x hx).2, hfrw x hx⟩, hL0, up_same, (hs.ext h2).ext ef, (h2.trans ef).fr⟩, ?_⟩
    rintro n ρ M2 ⟨⟨z3, z4, z6, z7, rfl⟩, rws, fs, hn, hR2, hfr2, hL, hf2, hs2, hF2⟩
    have hp2 := hF2 _ _ hp hpa
    refine len_lst hf2 (len_lst hp2 (lt_int (ite_tf (fun hb => ?_) (fun hb => ?_))))
    · have hlt : fs.length < ms.length := by
        have := of_decide_eq_true hb
        rw [List.length_map, List.length_map] at this
        omega
      refine ⟨fun ρ' M' => (∃ z3 z4 z6 z7, ρ' = [some (.ref a), some (.ref p), some (.ref r), z3, z4, some (.ref f), z6, z7]) ∧ ∃ (rws : List Rw) (fs : List Mv), (n - 1) + fs.length = ms.length ∧ RowsAt M' r rws ∧ (∀ x ∈ rws, M x.1 = none ∧ x.1 ≠ r ∧ x.1 ≠ f) ∧ Left ms fs rws ∧ M' f = some (.lst (fs.map mvD)) ∧ SackAt M' a g ∧ Fr [a, g] M M', fun ρ' M' h => ⟨n - 1, by omega, h⟩, ?_⟩
      refine on_seq (lstAt_of hR2.l) fun w hw => ?_
      have hwM : M w = none := hF2.back hs2 hw
      have hwr : r ≠ w := fun e => by subst e; rw [hR2.l] at hw; cases hw
      have hwrw : ∀ x ∈ rws, x.1 ≠ w := fun x hx e => by have := hR2.e x hx; rw [e, hw] at this; cases this
      have hwf : f ≠ w := fun e => by subst e; rw [hf2] at hw; cases hw
      have ew := Ext.new (o := .lst []) hw
      refine comp_st (fun d acc M3 => acc = ((rws.take d.length).filter fun x => !x.2.isEmpty).map (fun x => D.ref x.1) ∧ M3 w = some (.lst acc) ∧ Ext M2 M3) (fun d r' acc M3 _ j => lstAt_of (j.2.2 _ _ hR2.l)) ?_ ?_ ?_ ?_ ?_
      · rintro d x r' acc M3 e ⟨rfl, j2, j3⟩ R hRy hRn
        have hdl : d.length < rws.length := by
          have := congrArg List.length e
          rw [List.length_map, List.length_append, List.length_cons] at this
          omega
        have hx : x = .ref rws[d.length].1 := by
          have h0 : (rws.map fun x => D.ref x.1)[d.length]? = some x := by rw [e]; simp
          rw [List.getElem?_map, List.getElem?_eq_getElem hdl] at h0
          exact (Option.some.inj h0).symm
        have htk : rws.take (d.length + 1) = rws.take d.length ++ [rws[d.length]] := by rw [List.take_succ_eq_append_getElem hdl]
        generalize hrw : rws[d.length] = y at hx htk
        have hym : y ∈ rws := hrw ▸ List.getElem_mem hdl
        subst hx
        intro q hq
        have eq := Ext.new (o := .lst []) hq
        have hy3 := j3 _ _ (hR2.e y hym)
        refine eq_none (eq _ _ hy3) (mvs_all nm fun m hm => ?_) up_same (ite_tf (fun hb => ?_) (fun hb => ?_))
        · obtain ⟨t, ht⟩ := List.getElem?_of_mem hym
          have := hL.o t y ht
          have : m ∈ own t ms := by rw [← this]; exact List.mem_append_right _ hm
          exact (hms m (List.mem_filter.mp this).1).2
        · have hb' : (!y.2.isEmpty) = true := by simpa [nb] using hb
          refine hRy _ _ ⟨?_, up_same, ?_⟩ (eq _ _ j2)
          · rw [List.length_append, List.length_singleton, htk, List.filter_append, List.map_append, List.filter_cons_of_pos (p := fun x : Rw => !x.2.isEmpty) hb']; rfl
          · exact (j3.trans eq).wr hw
        · have hb' : ¬ (!y.2.isEmpty) = true := by simpa [nb] using hb
          refine hRn _ ⟨?_, eq _ _ j2, j3.trans eq⟩
          rw [List.length_append, List.length_singleton, htk, List.filter_append, List.map_append, List.filter_cons_of_neg (p := fun x : Rw => !x.2.isEmpty) hb']; simp
      · rintro d acc M3 ⟨rfl, _, _⟩
        rw [List.length_map]
        exact Nat.le_trans (List.length_filter_le _ _) (by rw [List.length_take]; omega)
      · rw [List.length_map, hL.n, sizeLine_eq]; omega
      · exact ⟨by simp, up_same, ew⟩
      · rintro acc M3 ⟨rfl, j2, j3⟩
        rw [List.length_map, List.take_length] at j2
        generalize hws : (rws.filter fun x => !x.2.isEmpty) = ws at j2
        have hwsm : ∀ x ∈ ws, x ∈ rws ∧ x.2 ≠ [] := by
          intro x hx
          rw [← hws] at hx
          obtain ⟨h1, h2⟩ := List.mem_filter.mp hx
          exact ⟨h1, by simpa using h2⟩
        have hwl : ws.length ≤ 6 := by rw [← hws]; exact Nat.le_trans (List.length_filter_le _ _) (by rw [hL.n]; omega)
        have hwne : 0 < ws.length := by
          rcases Nat.eq_zero_or_pos ws.length with h0 | h0
          · exfalso
            have h0 : ws = [] := List.eq_nil_of_length_eq_zero h0
            rw [← hws] at h0
            have hz : (rws.map fun x => x.2.length).sum = 0 := by
              apply List.sum_eq_zero_iff_forall_eq_nat.mpr
              intro v hv
              obtain ⟨x, hx, rfl⟩ := List.mem_map.mp hv
              have := List.filter_eq_nil_iff.mp h0 x hx
              simpa using this
            have := hL.c
            omega
          · exact h0
        have hF3 := hF2.ext j3
        have hs3 := hs2.ext j3
        have hR3 := hR2.ext j3
        have hf3 := j3 _ _ hf2
        have hwa : w ∉ [a, g] := by obtain ⟨u, v⟩ := hs2.free hw; simp [u, v]
        refine ⟨ty_lst hf3, ?_⟩
        refine len_lst j2 ?_
        rw [List.length_map]
        refine take_call hs3 (by omega) (by omega) fun i M4 i0 i1 hs4 hf4 => ?_
        have hi : i.toNat < ws.length := by omega
        obtain ⟨hym, hyne⟩ := hwsm _ (List.getElem_mem hi)
        generalize hyi : ws[i.toNat] = y at hym hyne
        refine ix_lst (hf4 _ _ j2 hwa) (d := .ref y.1) (atI_int i0 (by rw [List.getElem?_map, List.getElem?_eq_getElem hi, hyi]; rfl)) ?_
        have hrwa : ∀ x ∈ rws, x.1 ∉ [a, g] := fun x hx => by
          obtain ⟨u, v⟩ := hs.free (hfr2 x hx).1
          simp [u, v]
        have hR4 := hR3.keep hf4 hra hrwa
        obtain ⟨ad, ys⟩ := y
        obtain ⟨m, rest, rfl⟩ : ∃ m rest, ys = m :: rest := by
          cases ys with
          | nil => exact absurd rfl hyne
          | cons m rest => exact ⟨m, rest, rfl⟩
        obtain ⟨t, ht⟩ := List.getElem?_of_mem hym
        obtain ⟨hL', hmt⟩ := hL.take ht
        have had := hR4.e _ hym
        refine ⟨ty_lst had, pop_at had (Int.le_refl 0) (by decide) (d := mvD m) rfl ?_⟩
        have hfr2' := hfr2 _ hym
        have hf4' := hf4 _ _ hf3 hfa
        have hf5 : up M4 ad (.lst (((m :: rest).map mvD).eraseIdx (0 : Int).toNat)) f = some (.lst (fs.map mvD)) := by rw [up_ne hfr2'.2.2.symm]; exact hf4'
        refine append_lst hf5 (by rw [List.length_map]; exact smallZ (by omega)) ⟨⟨_, _, _, _, rfl⟩, rws.set t (ad, rest), fs ++ [m], ?_, ⟨?_, ?_, ?_⟩, ?_, hL', ?_, ?_, ?_⟩
        · rw [List.length_append, List.length_singleton]; omega
        · rw [up_ne hfr0.symm, up_ne hfr2'.2.1.symm, hR4.l]
          congr 2
          rw [List.map_set]
          apply List.ext_getElem?
          intro j
          by_cases hj : t = j
          · subst hj
            have hlt := (List.getElem?_eq_some_iff.mp ht).1
            rw [List.getElem?_set_self (by rw [List.length_map]; exact hlt), List.getElem?_map, ht]; rfl
          · rw [List.getElem?_set_ne hj]
        · intro x hx
          obtain ⟨j, hj⟩ := List.getElem?_of_mem hx
          by_cases hjt : t = j
          · subst hjt
            have hlt := (List.getElem?_eq_some_iff.mp ht).1
            rw [List.getElem?_set_self hlt] at hj
            cases hj
            rw [up_ne hfr2'.2.2, up_same]; rfl
          · rw [List.getElem?_set_ne hjt] at hj
            have hxm := List.mem_of_getElem? hj
            have hne : x.1 ≠ ad := fun e => hjt (nodup_at hR2.nd ht hj e.symm)
            rw [up_ne (hfr2 x hxm).2.2, up_ne hne]
            exact hR4.e x hxm
        · have : (rws.set t (ad, rest)).map (·.1) = rws.map (·.1) := by
            rw [List.map_set]
            apply List.ext_getElem?
            intro j
            by_cases hj : t = j
            · subst hj
              have hlt := (List.getElem?_eq_some_iff.mp ht).1
              rw [List.getElem?_set_self (by rw [List.length_map]; exact hlt), List.getElem?_map, ht]; rfl
            · rw [List.getElem?_set_ne hj]
          rw [this]; exact hR2.nd
        · intro x hx
          obtain ⟨j, hj⟩ := List.getElem?_of_mem hx
          by_cases hjt : t = j
          · subst hjt
            have hlt := (List.getElem?_eq_some_iff.mp ht).1
            rw [List.getElem?_set_self hlt] at hj
            cases hj
            exact hfr2'
          · rw [List.getElem?_set_ne hjt] at hj
            exact hfr2 x (List.mem_of_getElem? hj)
        · rw [up_same, List.map_append]; rfl
        · refine hs4.fr (S := [ad, f]) ((Fr.wr (by simp)).trans (Fr.wr (by simp))) ?_ ?_
          · have h1 := hrwa _ hym
            simp only [List.mem_cons, List.not_mem_nil, or_false, not_or] at h1 hfa ⊢
            exact ⟨fun e => h1.1 e.symm, fun e => hfa.1 e.symm⟩
          · have h1 := hrwa _ hym
            simp only [List.mem_cons, List.not_mem_nil, or_false, not_or] at h1 hfa ⊢
            exact ⟨fun e => h1.2 e.symm, fun e => hfa.2 e.symm⟩
        · exact ((hF3.trans hf4).wrN hfr2'.1).wrN hfM
    · have hge : ms.length ≤ fs.length := by
        have := of_decide_eq_false hb
        rw [List.length_map, List.length_map] at this
        omega
      obtain ⟨d1, d2⟩ := hL.done hge fun m hm => (hms m hm).1
      exact hP f fs M2 d1 d2 hfM hf2 hs2 hF2
theorem order_call {M : Mem} {a g p : Addr} {names : List Str} {ms : List Mv} {P : DVK} (nm : Names names) (hs : SackAt M a g) (hp : M p = some (.lst (ms.map mvD))) (hpa : p ∉ [a, g]) (hml : ms.length ≤ 100) (hms : ∀ m ∈ ms, m.1 < 6 ∧ m.2 ∈ names)
    (hP : ∀ (q : Addr) (fs : List Mv) M', (∀ t, own t fs = own t ms) → fs.length = ms.length → M q = none → M' q = some (.lst (fs.map mvD)) → SackAt M' a g → Fr [a, g] M M' → P (.ref q) M') : sp__law_other_order [.ref a, .ref p] M P := by unfold sp__law_other_order; exact ⟨a, g, p, names, ms, rfl, nm, hs, hp, hpa, hml, hms, hP⟩
end EW

set_option maxRecDepth 100000
set_option maxHeartbeats 4000000
/-! EwProg: the program's small functions. -/
namespace EW
open PySem PySem.Spec PyProof.Rows L2
theorem sl_ft {M : Mem} {Q : DVK} {xs : List D} {lo hi : Option Int} (q : Q (.tup (cutD xs lo hi)) M) (h : cutD xs lo hi ≠ xs) : rSlD (.ft xs) lo hi M Q := by unfold rSlD; exact ⟨q, fun e => absurd e h⟩
theorem isB_tt : isB "tuple" "tuple" = true := by decide +kernel
theorem isB_ss : isB "str" "str" = true := by decide +kernel
theorem isB_ii : isB "int" "int" = true := by decide +kernel
theorem isB_ib : isB "int" "bool" = false := by decide +kernel
theorem any_str (x : Str) (xs : List Str) : (toPs (xs.map D.str)).any (fun z => PyData.eqv z (toP (.str x))) = decide (x ∈ xs) := by
  rw [toPs_map]
  induction xs with
  | nil => simp
  | cons y ys ih =>
    simp only [List.map_cons, List.any_cons, ih]
    have : PyData.eqv (toP (.str y)) (toP (.str x)) = (y == x) := rfl
    rw [this, Bool.eq_iff_iff]
    simp only [Bool.or_eq_true, beq_iff_eq, decide_eq_true_eq, List.mem_cons]
    exact ⟨fun h => h.elim (fun e => .inl e.symm) .inr, fun h => h.elim (fun e => .inl e.symm) .inr⟩
theorem eqv_pD (p q : Str × Str) : PyData.eqv (toP (pD p)) (toP (pD q)) = decide (p = q) := by
  have : PyData.eqv (toP (pD p)) (toP (pD q)) = ((p.1 == q.1) && ((p.2 == q.2) && true)) := rfl
  rw [this]
  obtain ⟨a, b⟩ := p
  obtain ⟨c, d⟩ := q
  rw [Bool.eq_iff_iff]
  simp only [Bool.and_true, Bool.and_eq_true, beq_iff_eq, decide_eq_true_eq, Prod.mk.injEq]
theorem any_pD (x : Str × Str) (xs : List (Str × Str)) : (toPs (xs.map pD)).any (fun z => PyData.eqv z (toP (pD x))) = decide (x ∈ xs) := by
  rw [toPs_map]
  induction xs with
  | nil => simp
  | cons y ys ih =>
    simp only [List.map_cons, List.any_cons, ih, eqv_pD]
    rw [Bool.eq_iff_iff]
    simp only [Bool.or_eq_true, decide_eq_true_eq, List.mem_cons]
    exact ⟨fun h => h.elim (fun e => .inl e.symm) .inr, fun h => h.elim (fun e => .inl e.symm) .inr⟩
/-! ### require -/
@[irreducible] def sp_require : DSp := fun ds M P => ∃ w i, ds = [.bl true, w, i] ∧ P .non M
def N_require : List Str := ["condition", "word", "at"]
def t_require : DTS := (dIfS (dNot (dTest (dVar 0))) (dNever) (dNext))
theorem pure_require : Pure N_require ["condition", "word", "at"] sp_require t_require := by
  unfold sp_require
  rintro ds M P ⟨w, i, rfl, hP⟩
  exact ⟨rfl, hP⟩
/-! ### is_name -/
@[irreducible] def sp_is_name : DSp := fun ds M P => ∃ x, ds = [.str x] ∧ nameOk x ∧ ∀ M', Ext M M' → P (.bl true) M'
def N_is_name : List Str := ["text", "letter"]
def t_is_name : DTS := (dRet (dAndV (dChain rLe rLe (dC (.int 1)) (dCallB rLen (daCons (dVar 0) (daNil))) (dC (.int (6)))) (dCallB rAll (daCons (dComp (diStr (dVar 0)) [1] (.n 1) (dYes) (dOp (rIn false) (dVar 1) (dC (.str "abcdefghijklmnopqrstuvwxyz")))) (daNil)))))
theorem lowers_mem : ∀ i, i < 26 → 97 + i ∈ lowers.cps.toList := by decide +kernel
theorem fm_const : ∀ xs : List D, xs.filterMap (fun _ => some (D.bl true)) = (xs.map fun _ => true).map D.bl
  | [] => rfl
  | x :: xs => by rw [List.filterMap_cons, List.map_cons, List.map_cons, fm_const xs]
theorem trues {α : Type} (xs : List α) : (xs.map fun _ => true).all id = true := by induction xs <;> simp_all
theorem pure_is_name : Pure N_is_name ["text"] sp_is_name t_is_name := by
  unfold sp_is_name
  rintro ds M P ⟨x, rfl, h, hP⟩
  refine ⟨rfl, ?_⟩
  refine len_str (small_len (by have := h.2.1; omega)) (le_int (ite_tf (fun _ => ?_) (fun e => ?_)))
  · refine le_int (ite_tf (fun _ => ?_) (fun e => ?_))
    · intro p hp
      refine comp_ext (fun _ => some (.bl true)) hp (fun _ _ => trivial) ?_ (fun y hy M2 hM2 R hR => ?_) fun M2 hM2 h2 => ?_
      · show (x.cps.toList.map _).length ≤ _
        rw [List.length_map]
        have := h.2.1
        exact small_len (z := x) (by omega)
      · obtain ⟨c, hc, rfl⟩ := List.mem_map.mp (show y ∈ x.cps.toList.map (fun c => D.str ⟨#[c]⟩) from hy)
        have ha := h.2.2 c hc
        unfold alpha at ha
        have hm : c ∈ lowers.cps.toList := by
          have := lowers_mem (c - 97) (by omega)
          rwa [show 97 + (c - 97) = c by omega] at this
        refine item_yes (in_sign ?_)
        show R (some (.bl (nb false (decide (c ∈ lowers.cps.toList))))) M2
        rw [show nb false (decide (c ∈ lowers.cps.toList)) = true by simp only [nb, hm, Bool.false_eq_true, if_false, decide_true]]
        exact hR M2 Ext.refl
      · refine all_lst (bs := (signs x).map fun _ => true) ?_ ?_
        · rw [h2, fm_const]
        · rw [trues]; exact hP M2 hM2
    · have := of_decide_eq_false e
      have := h.2.1
      omega
  · have := of_decide_eq_false e
    have := h.1
    omega
theorem is_name_call {M : Mem} {x : Str} {P : DVK} (h : nameOk x) (hP : ∀ M', Ext M M' → P (.bl true) M') : sp_is_name [.str x] M P := by unfold sp_is_name; exact ⟨x, rfl, h, hP⟩
/-! ### are_strings, has_form -/
@[irreducible] def sp_are_strings : DSp := fun ds M P => ∃ (d : D) (xs : List Str), ds = [d] ∧ tpl d = some (xs.map D.str) ∧ xs.length ≤ 1000 ∧ ∀ M', Ext M M' → P (.bl true) M'
def N_are_strings : List Str := ["value", "item"]
def t_are_strings : DTS := (dRet (dAndV (dIsi "tuple" (dVar 0)) (dCallB rAll (daCons (dComp (diSeq (dVar 0)) [1] (.n 1) (dYes) (dIsi "str" (dVar 1))) (daNil)))))
theorem tpl_seq {M : Mem} {d : D} {xs : List D} (h : tpl d = some xs) : seqOf M d = some xs ∧ tyN M d = some "tuple" := by
  cases d <;> first | (cases h; done) | (cases h; exact ⟨rfl, rfl⟩)
theorem pure_are_strings : Pure N_are_strings ["value"] sp_are_strings t_are_strings := by
  unfold sp_are_strings
  rintro ds M P ⟨d, xs, rfl, hd, hl, hP⟩
  refine ⟨rfl, ?_⟩
  have key : (dCallB rAll (daCons (dComp (diSeq (dVar 0)) [1] (.n 1) (dYes) (dIsi "str" (dVar 1))) (daNil))) [some d, none] M P := by
    refine on_seq (tpl_seq hd).1 fun p hp => ?_
    refine comp_ext (fun _ => some (.bl true)) hp (fun M' _ => (tpl_seq hd).1) (by rw [List.length_map]; exact Nat.le_of_lt (smallZ hl)) (fun y hy M2 hM2 R hR => ?_) fun M2 hM2 h2 => ?_
    · obtain ⟨c, hc, rfl⟩ := List.mem_map.mp hy
      refine item_yes ?_
      exact on_isi (n := "str") rfl isB_ss (hR M2 Ext.refl)
    · refine all_lst (bs := (xs.map D.str).map fun _ => true) ?_ ?_
      · rw [h2, fm_const]
      · rw [trues]; exact hP M2 hM2
  exact on_isi (tpl_seq hd).2 isB_tt key
theorem are_strings_call {M : Mem} {d : D} {xs : List Str} {P : DVK} (hd : tpl d = some (xs.map D.str)) (hl : xs.length ≤ 1000) (hP : ∀ M', Ext M M' → P (.bl true) M') : sp_are_strings [d] M P := by unfold sp_are_strings; exact ⟨d, xs, rfl, hd, hl, hP⟩
end EW

set_option maxRecDepth 100000
set_option maxHeartbeats 4000000
namespace EW
open PySem PySem.Spec PyProof.Rows L2
theorem require_call {M : Mem} {w i : D} {P : DVK} (hP : P .non M) : sp_require [.bl true, w, i] M P := by unfold sp_require; exact ⟨w, i, rfl, hP⟩
/-! ### has_form of a yard -/
@[irreducible] def sp_has_form_yards : DSp := fun ds M P => ∃ (names : List Str) (paths : List (Str × Str)), ds = [groundD names paths] ∧ names.length ≤ 1000 ∧ paths.length ≤ 1000 ∧ ∀ M', Ext M M' → P (.bl true) M'
def N_has_form_yards : List Str := ["value", "path"]
def t_has_form_yards : DTS := (dSeq (dIfS (dOr (dNot (dTest (dIsi "tuple" (dVar 0)))) (dOr (dTest (dOp (rEqs true) (dCallB rLen (daCons (dVar 0) (daNil))) (dC (.int 2)))) (dNot (dTest (dIsi "tuple" (dOp rIxA (dVar 0) (dC (.int 1)))))))) (dRet (dC (.bl false))) (dNext)) (dRet (dAndV (dCall sp_are_strings [] (daCons (dOp rIxA (dVar 0) (dC (.int 0))) (daNil))) (dCallB rAll (daCons (dComp (diSeq (dOp rIxA (dVar 0) (dC (.int 1)))) [1] (.n 1) (dYes) (dAndV (dCall sp_are_strings [] (daCons (dVar 1) (daNil))) (dOp (rEqs false) (dCallB rLen (daCons (dVar 1) (daNil))) (dC (.int 2))))) (daNil))))))
theorem pure_has_form_yards : Pure N_has_form_yards ["value"] sp_has_form_yards t_has_form_yards := by
  unfold sp_has_form_yards
  rintro ds M P ⟨names, paths, rfl, nl, pl, hP⟩
  refine ⟨rfl, ?_⟩
  refine on_isi (n := "tuple") rfl isB_tt ?_
  refine len_tup (eq_int ?_)
  refine ix_tup (xs := [.ft (names.map D.str), .tup (paths.map pD)]) (d := .tup (paths.map pD)) rfl ?_
  refine on_isi (n := "tuple") rfl isB_tt ?_
  refine ix_tup (xs := [.ft (names.map D.str), .tup (paths.map pD)]) (d := .ft (names.map D.str)) rfl (are_strings_call (d := .ft (names.map D.str)) (xs := names) rfl nl fun M1 e1 => ?_)
  refine ix_tup (xs := [.ft (names.map D.str), .tup (paths.map pD)]) (d := .tup (paths.map pD)) rfl (on_seq rfl fun p hp => ?_)
  refine comp_ext (fun _ => some (.bl true)) hp (fun _ _ => rfl) (by rw [List.length_map]; exact Nat.le_of_lt (smallZ pl)) (fun y hy M2 hM2 R hR => ?_) fun M2 hM2 h2 => ?_
  · obtain ⟨⟨u, v⟩, _, rfl⟩ := List.mem_map.mp hy
    refine item_yes (are_strings_call (d := .tup [.str u, .str v]) (xs := [u, v]) rfl (by simp) fun M3 e3 => ?_)
    exact len_tup (eq_int (hR M3 e3))
  · refine all_lst (bs := (paths.map pD).map fun _ => true) (by rw [h2, fm_const]) ?_
    rw [trues]; exact hP M2 (e1.trans hM2)
theorem has_form_yards_call {M : Mem} {names : List Str} {paths : List (Str × Str)} {P : DVK} (nl : names.length ≤ 1000) (pl : paths.length ≤ 1000) (hP : ∀ M', Ext M M' → P (.bl true) M') : sp_has_form_yards [groundD names paths] M P := by unfold sp_has_form_yards; exact ⟨names, paths, rfl, nl, pl, hP⟩
/-! ### check_yard -/
@[irreducible] def sp_check_yard : DSp := fun ds M P => ∃ (names : List Str) (paths : List (Str × Str)), ds = [groundD names paths] ∧ Ground names paths ∧ names.length ≤ 8 ∧ paths.length ≤ 24 ∧ ∀ M', Ext M M' → P (.bl true) M'
def N_check_yard : List Str := ["value", "places", "paths", "index", "place", "tail", "head", "is_new"]
def t_check_yard : DTS := (dSeq (dDrop (dCall sp_require [] (daCons (dCall sp_has_form_yards [] (daCons (dVar 0) (daNil))) (daCons (dC (.str "form")) (daCons (dC (.int 0)) (daNil)))))) (dSeq (dAsg (dVar 0) (gTn 2 (gsCons (gN 1) (gsCons (gN 2) (gsNil))))) (dSeq (dDrop (dCall sp_require [] (daCons (dChain rLe rLe (dC (.int 1)) (dCallB rLen (daCons (dVar 1) (daNil))) (dC (.int (8)))) (daCons (dC (.str "places")) (daCons (dC (.int 0)) (daNil)))))) (dSeq (dDrop (dCall sp_require [] (daCons (dOp rLe (dCallB rLen (daCons (dVar 2) (daNil))) (dC (.int (24)))) (daCons (dC (.str "paths")) (daCons (dC (.int 0)) (daNil)))))) (dSeq (dFor (diEnum (dVar 1)) (gTn 2 (gsCons (gN 3) (gsCons (gN 4) (gsNil)))) (dDrop (dCall sp_require [] (daCons (dAndV (dCall sp_is_name [] (daCons (dVar 4) (daNil))) (dOp (rIn true) (dVar 4) (dSl rSlD (dVar 1) (dNoPart) (dPart (dVar 3))))) (daCons (dC (.str "place")) (daCons (dVar 3) (daNil))))))) (dSeq (dFor (diEnum (dVar 2)) (gTn 2 (gsCons (gN 3) (gsCons (gTn 2 (gsCons (gN 5) (gsCons (gN 6) (gsNil)))) (gsNil)))) (dSeq (dAsg (dOp (rIn true) (dTup (daCons (dVar 5) (daCons (dVar 6) (daNil)))) (dSl rSlD (dVar 2) (dNoPart) (dPart (dVar 3)))) (gN 7)) (dDrop (dCall sp_require [] (daCons (dAndV (dOp (rIn false) (dVar 5) (dVar 1)) (dAndV (dOp (rIn false) (dVar 6) (dVar 1)) (dAndV (dOp (rEqs true) (dVar 5) (dVar 6)) (dVar 7)))) (daCons (dC (.str "path")) (daCons (dVar 3) (daNil)))))))) (dRet (dC (.bl true)))))))))
theorem nodup_take {α : Type} {xs : List α} {k : Nat} {x : α} (h : xs.Nodup) (e : xs[k]? = some x) : x ∉ xs.take k := fun hm => by
  obtain ⟨j, hj⟩ := List.getElem?_of_mem hm
  have hjk : j < k := by
    have := (List.getElem?_eq_some_iff.mp hj).1
    rw [List.length_take] at this; omega
  rw [List.getElem?_take_of_lt hjk] at hj
  have l1 := (List.getElem?_eq_some_iff.mp hj).1
  have := (List.getElem?_inj l1 h).mp (hj.trans e.symm)
  omega
theorem Ground.okN (G : Ground names paths) : (names.map D.str).all (okN 20) = true := G.nm.all fun _ h => h
theorem pD_ok {names : List Str} (nm : Names names) {p : Str × Str} (h1 : p.1 ∈ names) (h2 : p.2 ∈ names) : EW.okN 20 (pD p) = true := by
  show ([D.str p.1, D.str p.2].all (EW.okN 19)) = true
  rw [List.all_cons, List.all_cons, List.all_nil]
  rw [show EW.okN 19 (.str p.1) = true from (nm.ok _ h1).so, show EW.okN 19 (.str p.2) = true from (nm.ok _ h2).so]; rfl
theorem pDs_ok {names : List Str} (nm : Names names) {ps : List (Str × Str)} (h : ∀ p ∈ ps, p.1 ∈ names ∧ p.2 ∈ names) : (ps.map pD).all (EW.okN 20) = true := List.all_eq_true.mpr fun d hd => by
  obtain ⟨p, hp, rfl⟩ := List.mem_map.mp hd
  exact pD_ok nm (h p hp).1 (h p hp).2
theorem Names.so {names : List Str} (nm : Names names) {x : Str} (h : x ∈ names) : EW.okN 20 (.str x) = true := (nm.ok x h).so
theorem pure_check_yard : Pure N_check_yard ["value"] sp_check_yard t_check_yard := by
  unfold sp_check_yard
  rintro ds M P ⟨names, paths, rfl, G, n8, p24, hP⟩
  refine ⟨rfl, ?_⟩
  refine has_form_yards_call (by omega) (by omega) fun M1 e1 => require_call ⟨rfl, ?_⟩
  refine len_ft ?_
  refine le_int ?_
  rw [decide_eq_true (show (1 : Int) ≤ ((names.map D.str).length : Int) by rw [List.length_map]; have := G.lo; omega)]
  refine le_int ?_
  rw [decide_eq_true (show ((names.map D.str).length : Int) ≤ 8 by rw [List.length_map]; omega)]
  refine require_call (len_tup (le_int ?_))
  rw [decide_eq_true (show ((paths.map pD).length : Int) ≤ 24 by rw [List.length_map]; omega)]
  refine require_call (on_src (d := .ft (names.map D.str)) rfl ?_)
  have hsub : ∀ p ∈ paths, p.1 ∈ names ∧ p.2 ∈ names ∧ p.1 ≠ p.2 := fun p hp => mem_prs.mp (G.sub p hp)
  refine for_ok (fun dn ρ M2 => (∃ z3 z4, ρ = [some (groundD names paths), some (.ft (names.map D.str)), some (.tup (paths.map pD)), z3, z4, none, none, none]) ∧ Ext M M2) (fun _ _ _ _ _ _ => rfl) ?_ ⟨⟨_, _, rfl⟩, e1⟩ ?_
  · rintro dn x r ρ M2 e ⟨⟨z3, z4, rfl⟩, h2⟩ N hN
    have hdl : dn.length < names.length := by
      have := congrArg List.length e
      rw [pairsE_length, List.length_map, List.length_append, List.length_cons] at this
      omega
    have hx : x = .tup [.int (dn.length : Nat), .str names[dn.length]] := by
      have h0 : (pairsE 0 (names.map D.str))[dn.length]? = some x := by rw [e]; simp
      rw [pairsE_get, List.getElem?_map, List.getElem?_eq_getElem hdl] at h0
      simp only [Option.map_some, Option.some.injEq] at h0
      rw [← h0]; simp
    have hmem := List.getElem_mem hdl
    have hget : names[dn.length]? = some names[dn.length] := List.getElem?_eq_getElem hdl
    generalize names[dn.length] = y at hx hmem hget
    generalize hk : dn.length = k at hdl hx hget
    subst hx
    refine ⟨rfl, ?_⟩
    refine is_name_call (G.nm.ok y hmem) fun M3 e3 => ?_
    refine sl_ft ?_ (fun h => ?_)
    · rw [cutD_take (by rw [List.length_map]; omega), ← List.map_take]
      refine in_tup (G.nm.so hmem) (G.nm.all fun x hx => List.mem_of_mem_take hx) ?_
      rw [any_str, decide_eq_false (nodup_take G.nm.nd hget)]
      exact require_call (hN _ _ ⟨⟨_, _, rfl⟩, h2.trans e3⟩)
    · rw [cutD_take (by rw [List.length_map]; omega)] at h
      have := congrArg List.length h
      rw [List.length_take, List.length_map] at this
      omega
  · rintro ρ M2 ⟨⟨z3, z4, rfl⟩, h2⟩
    refine on_src (d := .tup (paths.map pD)) rfl ?_
    refine for_ok (fun dn ρ M2 => (∃ z3 z5 z6 z7, ρ = [some (groundD names paths), some (.ft (names.map D.str)), some (.tup (paths.map pD)), z3, z4, z5, z6, z7]) ∧ Ext M M2) (fun _ _ _ _ _ _ => rfl) ?_ ⟨⟨_, _, _, _, rfl⟩, h2⟩ ?_
    · rintro dn x r ρ M2 e ⟨⟨z3, z5, z6, z7, rfl⟩, h2⟩ N hN
      have hdl : dn.length < paths.length := by
        have := congrArg List.length e
        rw [pairsE_length, List.length_map, List.length_append, List.length_cons] at this
        omega
      have hx : x = .tup [.int (dn.length : Nat), pD paths[dn.length]] := by
        have h0 : (pairsE 0 (paths.map pD))[dn.length]? = some x := by rw [e]; simp
        rw [pairsE_get, List.getElem?_map, List.getElem?_eq_getElem hdl] at h0
        simp only [Option.map_some, Option.some.injEq] at h0
        rw [← h0]; simp
      have hmem := List.getElem_mem hdl
      have hget : paths[dn.length]? = some paths[dn.length] := List.getElem?_eq_getElem hdl
      generalize paths[dn.length] = y at hx hmem hget
      generalize hk : dn.length = k at hdl hx hget
      subst hx
      obtain ⟨u, v⟩ := y
      obtain ⟨hu, hv, huv⟩ := hsub _ hmem
      refine ⟨rfl, rfl, ?_⟩
      refine sl_tup' ?_
      rw [cutD_take (by rw [List.length_map]; omega), ← List.map_take]
      refine in_tup (x := .tup [.str u, .str v]) (pD_ok (p := (u, v)) G.nm hu hv) (pDs_ok G.nm fun p hp => ⟨(hsub p (List.mem_of_mem_take hp)).1, (hsub p (List.mem_of_mem_take hp)).2.1⟩) ?_
      rw [show toP (.tup [.str u, .str v]) = toP (pD (u, v)) from rfl, any_pD, decide_eq_false (nodup_take G.nd hget)]
      refine in_ft (G.nm.so hu) (G.nm.all fun _ h => h) ?_
      rw [any_str, decide_eq_true hu]
      refine in_ft (G.nm.so hv) (G.nm.all fun _ h => h) ?_
      rw [any_str, decide_eq_true hv]
      refine eq_str ?_
      rw [show (u == v) = false from beq_false_of_ne huv]
      exact require_call (hN _ _ ⟨⟨_, _, _, _, rfl⟩, h2⟩)
    · rintro ρ M2 ⟨⟨z3, z5, z6, z7, rfl⟩, h2⟩
      exact hP M2 h2
theorem check_yard_call {M : Mem} {names : List Str} {paths : List (Str × Str)} {P : DVK} (G : Ground names paths) (n8 : names.length ≤ 8) (p24 : paths.length ≤ 24) (hP : ∀ M', Ext M M' → P (.bl true) M') : sp_check_yard [groundD names paths] M P := by unfold sp_check_yard; exact ⟨names, paths, rfl, G, n8, p24, hP⟩
/-! ### require_place, crumb_total, moved -/
@[irreducible] def sp_require_place : DSp := fun ds M P => ∃ (names : List Str) (paths : List (Str × Str)) (x : Str), ds = [groundD names paths, .str x] ∧ Names names ∧ x ∈ names ∧ P .non M
def N_require_place : List Str := ["yard", "place"]
def t_require_place : DTS := (dIfS (dTest (dOp (rIn true) (dVar 1) (dOp rIxA (dVar 0) (dC (.int 0))))) (dNever) (dNext))
theorem pure_require_place : Pure N_require_place ["yard", "place"] sp_require_place t_require_place := by
  unfold sp_require_place
  rintro ds M P ⟨names, paths, x, rfl, nm, hx, hP⟩
  refine ⟨rfl, ?_⟩
  refine ix_tup (xs := [.ft (names.map D.str), .tup (paths.map pD)]) (d := .ft (names.map D.str)) rfl (in_ft (nm.so hx) (nm.all fun _ h => h) ?_)
  rw [any_str, decide_eq_true hx]
  exact hP
theorem require_place_call {M : Mem} {names : List Str} {paths : List (Str × Str)} {x : Str} {P : DVK} (nm : Names names) (hx : x ∈ names) (hP : P .non M) : sp_require_place [groundD names paths, .str x] M P := by unfold sp_require_place; exact ⟨names, paths, x, rfl, nm, hx, hP⟩
@[irreducible] def sp_moved : DSp := fun ds M P => ∃ (stand : List Str) (i : Nat) (x : Str), ds = [.tup (stand.map D.str), .int i, .str x] ∧ i < stand.length ∧ stand.length ≤ 1000 ∧ P (.tup ((stand.set i x).map D.str)) M
def N_moved : List Str := ["standing", "traveller", "place"]
def t_moved : DTS := (dRet (dOp rAdd (dOp rAdd (dSl rSlD (dVar 0) (dNoPart) (dPart (dVar 1))) (dTup (daCons (dVar 2) (daNil)))) (dSl rSlD (dVar 0) (dPart (dOp rAdd (dVar 1) (dC (.int 1)))) (dNoPart))))
theorem set_take_drop {α : Type} : ∀ {xs : List α} {i : Nat} {x : α}, i < xs.length → xs.take i ++ [x] ++ xs.drop (i + 1) = xs.set i x
  | [], _, _, h => by simp at h
  | y :: ys, 0, x, _ => by simp
  | y :: ys, i + 1, x, h => by
    have := set_take_drop (xs := ys) (i := i) (x := x) (by simpa using h)
    simp only [List.take_succ_cons, List.drop_succ_cons, List.set_cons_succ, List.cons_append, ← this]
theorem pure_moved : Pure N_moved ["standing", "traveller", "place"] sp_moved t_moved := by
  unfold sp_moved
  rintro ds M P ⟨stand, i, x, rfl, hi, hl, hP⟩
  refine ⟨rfl, ?_⟩
  refine sl_tup' (add_tup ?_ (add_int (sl_tup' (add_tup ?_ ?_))))
  · rw [cutD_take (by rw [List.length_map]; omega), List.length_take, List.length_map, sizeLine_eq]; simp; omega
  · rw [cutD_take (by rw [List.length_map]; omega), show ((i : Int) + 1) = ((i + 1 : Nat) : Int) by omega, cutD_drop (by rw [List.length_map]; omega), sizeLine_eq]; simp; omega
  · rw [cutD_take (by rw [List.length_map]; omega), show ((i : Int) + 1) = ((i + 1 : Nat) : Int) by omega, cutD_drop (by rw [List.length_map]; omega)]
    rw [set_take_drop (by rw [List.length_map]; exact hi), ← List.map_set]
    exact hP
theorem moved_call {M : Mem} {stand : List Str} {i : Nat} {x : Str} {P : DVK} (hi : i < stand.length) (hl : stand.length ≤ 1000) (hP : P (.tup ((stand.set i x).map D.str)) M) : sp_moved [.tup (stand.map D.str), .int i, .str x] M P := by unfold sp_moved; exact ⟨stand, i, x, rfl, hi, hl, hP⟩
end EW

set_option maxRecDepth 100000
set_option maxHeartbeats 4000000
/-! EwMath: crumbs laid by places, in order; what is changed. -/
namespace EW
open PySem PySem.Spec PyProof.Rows L2
abbrev Pr := Str × Str
abbrev Cf := Str → Str → Int
/-- the kinds that are laid, in order -/
def laid (names : List Str) (f : Cf) : List Pr := names.flatMap fun a => (eat names f a).map fun b => (a, b)
def triD (f : Cf) (p : Pr) : D := .tup [.str p.1, .str p.2, .int (f p.1 p.2)]
theorem lay_eq (names : List Str) (f : Cf) : lay names f = (laid names f).map (triD f) := by
  unfold lay laid
  rw [List.map_flatMap]
  apply congrArg (fun g => names.flatMap g)
  funext a
  unfold row
  rw [List.map_map]
  rfl
theorem mem_laid {names : List Str} {f : Cf} {p : Pr} : p ∈ laid names f ↔ p.1 ∈ names ∧ p.2 ∈ names ∧ 0 < f p.1 p.2 := by
  obtain ⟨a, b⟩ := p
  simp only [laid, eat, List.mem_flatMap, List.mem_map, List.mem_filter, decide_eq_true_eq, Prod.mk.injEq]
  constructor
  · rintro ⟨x, hx, y, ⟨hy, h0⟩, rfl, rfl⟩
    exact ⟨hx, hy, h0⟩
  · rintro ⟨h1, h2, h3⟩
    exact ⟨a, h1, b, ⟨h2, h3⟩, rfl, rfl⟩
theorem laid_nd {names : List Str} {f : Cf} (h : names.Nodup) : (laid names f).Nodup := by
  refine nodup_flat h (fun a _ => nodup_map_on (h.filter _) fun x _ y _ e => (Prod.mk.inj e).2) fun a _ b _ x hx hy => ?_
  obtain ⟨y, _, rfl⟩ := List.mem_map.mp hx
  obtain ⟨z, _, e⟩ := List.mem_map.mp hy
  exact (Prod.mk.inj e).1.symm
theorem laid_len (names : List Str) (f : Cf) : (laid names f).length ≤ names.length * names.length := len_flat fun a _ => by rw [List.length_map]; exact List.length_filter_le _ _
theorem flat_congr {α β : Type} {f g : α → List β} : ∀ {l : List α}, (∀ a ∈ l, f a = g a) → l.flatMap f = l.flatMap g
  | [], _ => rfl
  | x :: xs, h => by rw [List.flatMap_cons, List.flatMap_cons, h x (List.mem_cons_self ..), flat_congr fun a ha => h a (List.mem_cons_of_mem _ ha)]
theorem laid_congr {names : List Str} {f g : Cf} (h : ∀ a ∈ names, ∀ b ∈ names, f a b = g a b) : lay names f = lay names g := by
  unfold lay
  apply flat_congr
  intro a ha
  unfold row eat
  have : (names.filter fun b => decide (0 < f a b)) = names.filter fun b => decide (0 < g a b) := List.filter_congr fun b hb => by rw [h a ha b hb]
  rw [this]
  apply List.map_congr_left
  intro b hb
  rw [h a ha b (List.mem_filter.mp hb).1]
/-! ### order by the places -/
def ltI (names : List Str) (p q : Pr) : Prop := names.idxOf p.1 < names.idxOf q.1 ∨ (names.idxOf p.1 = names.idxOf q.1 ∧ names.idxOf p.2 < names.idxOf q.2)
theorem pw_flat {α β : Type} {R : α → α → Prop} {T : β → β → Prop} {f : α → List β} : ∀ {l : List α}, l.Pairwise R → (∀ a ∈ l, (f a).Pairwise T) → (∀ a b, R a b → ∀ x ∈ f a, ∀ y ∈ f b, T x y) → (l.flatMap f).Pairwise T
  | [], _, _, _ => .nil
  | x :: xs, h, h1, h2 => by
    rw [List.flatMap_cons, List.pairwise_append]
    rw [List.pairwise_cons] at h
    refine ⟨h1 x (List.mem_cons_self ..), pw_flat h.2 (fun a ha => h1 a (List.mem_cons_of_mem _ ha)) h2, fun u hu v hv => ?_⟩
    obtain ⟨b, hb, hv⟩ := List.mem_flatMap.mp hv
    exact h2 x b (h.1 b hb) u hu v hv
theorem idx_at {names : List Str} (h : names.Nodup) {i : Nat} {x : Str} (e : names[i]? = some x) : names.idxOf x = i := by
  have hx := List.mem_of_getElem? e
  obtain ⟨j1, _, j3⟩ := idx_first hx
  exact (List.getElem?_inj j3 h).mp (j1.trans e.symm)
theorem names_pw {names : List Str} (h : names.Nodup) : names.Pairwise fun a b => names.idxOf a < names.idxOf b := by
  rw [List.pairwise_iff_getElem]
  intro i j hi hj hij
  rw [idx_at h (List.getElem?_eq_getElem hi), idx_at h (List.getElem?_eq_getElem hj)]
  exact hij
theorem laid_pw {names : List Str} {f : Cf} (h : names.Nodup) : (laid names f).Pairwise (ltI names) := by
  refine pw_flat (names_pw h) (fun a _ => ?_) fun a b hab x hx y hy => ?_
  · rw [List.pairwise_map]
    exact ((names_pw h).filter _).imp fun hxy => .inr ⟨rfl, hxy⟩
  · obtain ⟨u, _, rfl⟩ := List.mem_map.mp hx
    obtain ⟨v, _, rfl⟩ := List.mem_map.mp hy
    exact .inl hab
theorem ltI_irr {names : List Str} {p : Pr} : ¬ ltI names p p := by unfold ltI; omega
theorem ltI_asym {names : List Str} {p q : Pr} (h : ltI names p q) : ¬ ltI names q p := by unfold ltI at *; omega
theorem sorted_ext {α : Type} {lt : α → α → Prop} (irr : ∀ a, ¬ lt a a) (asym : ∀ a b, lt a b → ¬ lt b a) : ∀ {l m : List α}, l.Pairwise lt → m.Pairwise lt → (∀ x, x ∈ l ↔ x ∈ m) → l = m
  | [], [], _, _, _ => rfl
  | [], y :: ys, _, _, h => by have := (h y).mpr (List.mem_cons_self ..); cases this
  | x :: xs, [], _, _, h => by have := (h x).mp (List.mem_cons_self ..); cases this
  | x :: xs, y :: ys, h1, h2, h => by
    rw [List.pairwise_cons] at h1 h2
    have e : x = y := by
      rcases List.mem_cons.mp ((h x).mp (List.mem_cons_self ..)) with e | e
      · exact e
      · rcases List.mem_cons.mp ((h y).mpr (List.mem_cons_self ..)) with e' | e'
        · exact e'.symm
        · exact absurd (h1.1 y e') (asym _ _ (h2.1 x e))
    subst e
    rw [sorted_ext irr asym h1.2 h2.2 fun z => ?_]
    constructor
    · intro hz
      rcases List.mem_cons.mp ((h z).mp (List.mem_cons_of_mem _ hz)) with e | e
      · subst e; exact absurd (h1.1 _ hz) (irr _)
      · exact e
    · intro hz
      rcases List.mem_cons.mp ((h z).mpr (List.mem_cons_of_mem _ hz)) with e | e
      · subst e; exact absurd (h2.1 _ hz) (irr _)
      · exact e
theorem perm_map' {α β : Type} {f : α → β} {xs : List α} {zs : List β} (h : zs.Perm (xs.map f)) : ∃ ys : List α, zs = ys.map f ∧ ys.Perm xs := by
  have : ∀ {zs ws : List β}, zs.Perm ws → ∀ xs : List α, ws = xs.map f → ∃ ys : List α, zs = ys.map f ∧ ys.Perm xs := by
    intro zs ws h
    induction h with
    | nil => intro xs e; exact ⟨[], rfl, by cases xs <;> simp_all⟩
    | @cons x l1 l2 _ ih =>
      intro xs e
      cases xs with
      | nil => cases e
      | cons y ys =>
        simp only [List.map_cons, List.cons.injEq] at e
        obtain ⟨zs, h1, h2⟩ := ih ys e.2
        exact ⟨y :: zs, by rw [List.map_cons, ← e.1, h1], h2.cons y⟩
    | swap x y l =>
      intro xs e
      cases xs with
      | nil => cases e
      | cons a xs =>
        cases xs with
        | nil => simp at e
        | cons b xs =>
          simp only [List.map_cons, List.cons.injEq] at e
          refine ⟨b :: a :: xs, ?_, List.Perm.swap a b xs⟩
          rw [List.map_cons, List.map_cons, e.1, e.2.1, e.2.2]
    | trans _ _ ih1 ih2 =>
      intro xs e
      obtain ⟨ys, h1, h2⟩ := ih2 xs e
      obtain ⟨zs, h3, h4⟩ := ih1 ys h1
      exact ⟨zs, h3, h4.trans h2⟩
  exact this h xs rfl
def ixP (names : List Str) (p : Pr) : Int × Int := ((names.idxOf p.1 : Nat), (names.idxOf p.2 : Nat))
theorem idx_inj {names : List Str} {x y : Str} (hx : x ∈ names) (hy : y ∈ names) (e : names.idxOf x = names.idxOf y) : x = y := by
  have h1 := (idx_first hx).1
  have h2 := (idx_first hy).1
  rw [e, h2] at h1
  exact (Option.some.inj h1).symm
theorem sorted_lt {names : List Str} : ∀ {K : List Pr}, K.Nodup → (∀ p ∈ K, p.1 ∈ names ∧ p.2 ∈ names) → (K.map (ixP names)).Pairwise LexLe → K.Pairwise (ltI names)
  | [], _, _, _ => .nil
  | p :: K, h, hm, hs => by
    rw [List.map_cons, List.pairwise_cons] at hs
    rw [List.nodup_cons] at h
    rw [List.pairwise_cons]
    refine ⟨fun q hq => ?_, sorted_lt h.2 (fun q hq => hm q (List.mem_cons_of_mem _ hq)) hs.2⟩
    have hle := hs.1 _ (List.mem_map.mpr ⟨q, hq, rfl⟩)
    unfold LexLe ixP at hle
    simp only at hle
    have hne : p ≠ q := fun e => h.1 (e ▸ hq)
    have mp := hm p (List.mem_cons_self ..)
    have mq := hm q (List.mem_cons_of_mem _ hq)
    have : ¬ (names.idxOf p.1 = names.idxOf q.1 ∧ names.idxOf p.2 = names.idxOf q.2) := fun ⟨e1, e2⟩ => hne (Prod.ext (idx_inj mp.1 mq.1 e1) (idx_inj mp.2 mq.2 e2))
    unfold ltI
    omega
/-! ### a kind changed -/
def bump (f : Cf) (a b : Str) (v : Int) : Cf := fun x y => if x = a ∧ y = b then f x y + v else f x y
def ent (f : Cf) (p : Pr) : List Key × D := (kk p.1 p.2, .int (f p.1 p.2))
theorem kk_inj {a b c d : Str} (h : kk a b = kk c d) : a = c ∧ b = d := ⟨Sum.inr.inj (List.cons.inj h).1, Sum.inr.inj (List.cons.inj (List.cons.inj h).2).1⟩
theorem val_ent (f : Cf) (x y : Str) : ∀ L : List Pr, valD (L.map (ent f)) (kk x y) = if (x, y) ∈ L then some (.int (f x y)) else none
  | [] => rfl
  | (a, b) :: L => by
    rw [List.map_cons]
    unfold ent valD
    have ih := val_ent f x y L
    unfold ent at ih
    by_cases h : a = x ∧ b = y
    · obtain ⟨rfl, rfl⟩ := h
      simp
    · have h1 : ¬ kk a b = kk x y := fun e => h (kk_inj e)
      have h2 : ¬ (x, y) = (a, b) := fun e => h ⟨(Prod.mk.inj e).1.symm, (Prod.mk.inj e).2.symm⟩
      rw [if_neg h1, ih]
      simp [h2]
/-- the kinds, with that one -/
def withK (L : List Pr) (p : Pr) : List Pr := if p ∈ L then L else L ++ [p]
theorem put_ent {names : List Str} {f : Cf} {a b : Str} {v : Int} (L : List Pr) : putD (L.map (ent f)) (kk a b) (.int (f a b + v)) = (withK L (a, b)).map (ent (bump f a b v)) := by
  unfold putD withK
  rw [val_ent]
  by_cases h : (a, b) ∈ L
  · rw [if_pos h, if_pos h, if_pos (show (some (D.int (f a b))).isSome = true from rfl), List.map_map]
    apply List.map_congr_left
    rintro ⟨x, y⟩ _
    unfold ent bump
    simp only [Function.comp]
    by_cases e : x = a ∧ y = b
    · obtain ⟨rfl, rfl⟩ := e
      simp
    · have : ¬ kk x y = kk a b := fun q => e (kk_inj q)
      rw [if_neg this, if_neg e]
  · rw [if_neg h, if_neg (by decide), if_neg h, List.map_append]
    congr 1
    · apply List.map_congr_left
      rintro ⟨x, y⟩ hm
      unfold ent bump
      have e : ¬ (x = a ∧ y = b) := fun ⟨e1, e2⟩ => h (by rw [← e1, ← e2]; exact hm)
      simp only [if_neg e]
    · simp [ent, bump]
theorem withK_nd {L : List Pr} {p : Pr} (h : L.Nodup) : (withK L p).Nodup := by
  unfold withK
  split
  · exact h
  · next hn => rw [List.nodup_append]; exact ⟨h, by simp, fun x hx y hy e => by rw [List.mem_singleton.mp hy] at e; exact hn (e ▸ hx)⟩
theorem mem_withK {L : List Pr} {p q : Pr} : q ∈ withK L p ↔ q ∈ L ∨ q = p := by
  unfold withK
  split
  · next h => exact ⟨.inl, fun h' => h'.elim id fun e => e ▸ h⟩
  · simp
theorem withK_len {L : List Pr} {p : Pr} : (withK L p).length ≤ L.length + 1 := by unfold withK; split <;> simp
/-- the sorted kinds that are positive are those laid after the change -/
theorem changed_eq {names : List Str} {f : Cf} {a b : Str} {v : Int} {K : List Pr} (nd : names.Nodup) (ha : a ∈ names) (hb : b ∈ names) (hf : ∀ x y, 0 ≤ f x y) (hK : K.Perm (withK (laid names f) (a, b))) (hs : (K.map (ixP names)).Pairwise LexLe) :
    K.filter (fun p => decide (0 < bump f a b v p.1 p.2)) = laid names (bump f a b v) := by
  have hm : ∀ p ∈ K, p.1 ∈ names ∧ p.2 ∈ names := fun p hp => by
    rcases mem_withK.mp (hK.mem_iff.mp hp) with h | h
    · exact ⟨(mem_laid.mp h).1, (mem_laid.mp h).2.1⟩
    · rw [h]; exact ⟨ha, hb⟩
  have hKn : K.Nodup := hK.nodup_iff.mpr (withK_nd (laid_nd nd))
  refine sorted_ext (fun _ => ltI_irr) (fun _ _ => ltI_asym) ((sorted_lt hKn hm hs).filter _) (laid_pw nd) fun p => ?_
  rw [List.mem_filter, mem_laid, decide_eq_true_eq]
  constructor
  · rintro ⟨h1, h2⟩
    exact ⟨(hm p h1).1, (hm p h1).2, h2⟩
  · rintro ⟨h1, h2, h3⟩
    refine ⟨hK.mem_iff.mpr (mem_withK.mpr ?_), h3⟩
    by_cases e : p = (a, b)
    · exact .inr e
    · left
      rw [mem_laid]
      refine ⟨h1, h2, ?_⟩
      unfold bump at h3
      have : ¬ (p.1 = a ∧ p.2 = b) := fun ⟨e1, e2⟩ => e (Prod.ext e1 e2)
      rwa [if_neg this] at h3
end EW

set_option maxRecDepth 100000
set_option maxHeartbeats 4000000
/-! EwCrumbs: changed_crumbs. -/
namespace EW
open PySem PySem.Spec PyProof.Rows L2
@[irreducible] def sp_changed_crumbs : DSp := fun ds M P => ∃ (names : List Str) (paths : List Pr) (f : Cf) (a b : Str) (v : Int), ds = [groundD names paths, .tup (lay names f), .tup [.str a, .str b], .int v] ∧ names.Nodup ∧ names.length ≤ 12 ∧ a ∈ names ∧ b ∈ names ∧ (∀ x y, 0 ≤ f x y) ∧
  ∀ M', Ext M M' → P (.tup (lay names (bump f a b v))) M'
def N_changed_crumbs : List Str := ["yard", "crumbs", "kind", "change", "places", "counts", "at", "named", "count", "kinds", "found", "first", "second"]
def t_changed_crumbs : DTS := (dSeq (dAsg (dOp rIxA (dVar 0) (dC (.int 0))) (gN 4)) (dSeq (dAsg (dDc true (diSeq (dVar 1)) [6, 7, 8] (.t [.n 6, .n 7, .n 8]) (dYes) (dTup (daCons (dVar 6) (daCons (dVar 7) (daNil)))) (dVar 8)) (gN 5)) (dSeq (dAsg (dOp rAdd (dBM "dict" rGet (dVar 5) (daCons (dVar 2) (daCons (dC (.int 0)) (daNil)))) (dVar 3)) (gSubD (dVar 5) (dVar 2))) (dSeq (dLock (dAsg (dComp (diKeys (dVar 5)) [6, 7] (.t [.n 6, .n 7]) (dYes) (dTup (daCons (dTidx (dVar 4) (dVar 6)) (daCons (dTidx (dVar 4) (dVar 7)) (daNil))))) (gN 9))) (dSeq (dAsg (dComp (diSeq (dCallB rSortP (daCons (dVar 9) (daNil)))) [11, 12] (.t [.n 11, .n 12]) (dYes) (dTup (daCons (dOp rIxA (dVar 4) (dVar 11)) (daCons (dOp rIxA (dVar 4) (dVar 12)) (daNil))))) (gN 10)) (dRet (dCallB rTuple (daCons (dComp (diSeq (dVar 10)) [6, 7] (.t [.n 6, .n 7]) (dTest (dOp rGt (dOp rIxA (dVar 5) (dTup (daCons (dVar 6) (daCons (dVar 7) (daNil))))) (dC (.int 0)))) (dTup (daCons (dVar 6) (daCons (dVar 7) (daCons (dOp rIxA (dVar 5) (dTup (daCons (dVar 6) (daCons (dVar 7) (daNil))))) (daNil)))))) (daNil)))))))))
theorem fmap_congr {α β : Type} {f g : α → Option β} : ∀ {l : List α}, (∀ a ∈ l, f a = g a) → l.filterMap f = l.filterMap g
  | [], _ => rfl
  | x :: xs, h => by rw [List.filterMap_cons, List.filterMap_cons, h x (List.mem_cons_self ..), fmap_congr fun a ha => h a (List.mem_cons_of_mem _ ha)]
theorem pairs_ix (names : List Str) (K : List Pr) : (K.map fun p => D.tup [.int (ixP names p).1, .int (ixP names p).2]) = pairsD (K.map (ixP names)) := by
  unfold pairsD; rw [List.map_map]; rfl
theorem pure_changed_crumbs : Pure N_changed_crumbs ["yard", "crumbs", "kind", "change"] sp_changed_crumbs t_changed_crumbs := by
  unfold sp_changed_crumbs
  rintro ds M P ⟨names, paths, f, a, b, v, rfl, nd, n2, ha, hb, hf, hP⟩
  refine ⟨rfl, ?_⟩
  refine ix_tup (xs := [.ft (names.map D.str), .tup (paths.map pD)]) (d := .ft (names.map D.str)) rfl ?_
  rw [lay_eq]
  have hLn : (laid names f).Nodup := laid_nd nd
  have hLl : (laid names f).length ≤ 144 := Nat.le_trans (laid_len names f) (Nat.mul_le_mul n2 n2)
  have hLm : ∀ p ∈ laid names f, p.1 ∈ names ∧ p.2 ∈ names := fun p hp => ⟨(mem_laid.mp hp).1, (mem_laid.mp hp).2.1⟩
  have hget0 : ((valD ((laid names f).map (ent f)) (kk a b)).getD (.int 0)) = .int (f a b) := by
    rw [val_ent]
    by_cases h : (a, b) ∈ laid names f
    · rw [if_pos h]; rfl
    · rw [if_neg h]
      have : ¬ 0 < f a b := fun h0 => h (mem_laid.mpr ⟨ha, hb, h0⟩)
      have := hf a b
      show D.int 0 = _
      congr 1; omega
  have heq := @changed_eq names f a b v
  generalize hL : laid names f = L at hLn hLl hLm hget0 heq
  refine on_seq rfl fun c hc => ?_
  have ec := Ext.new (o := .dT []) hc
  refine dc_yes (k := true) (fun d M1 => M1 c = some (.dT ((L.take d.length).map (ent f))) ∧ Ext M M1) (fun _ _ _ _ _ => rfl) ?_ ⟨up_same, ec⟩ ?_
  · rintro d x r M1 e ⟨h1, h2⟩ N hN
    have hdl : d.length < L.length := by
      have := congrArg List.length e
      rw [List.length_map, List.length_append, List.length_cons] at this
      omega
    have hx : x = triD f L[d.length] := by
      have h0 : (L.map (triD f))[d.length]? = some x := by rw [e]; simp
      rw [List.getElem?_map, List.getElem?_eq_getElem hdl] at h0
      exact (Option.some.inj h0).symm
    have htk : L.take (d.length + 1) = L.take d.length ++ [L[d.length]] := by rw [List.take_succ_eq_append_getElem hdl]
    have hget : L[d.length]? = some L[d.length] := List.getElem?_eq_getElem hdl
    generalize L[d.length] = p at hx htk hget
    subst hx
    obtain ⟨u, w⟩ := p
    have hnew := nodup_take hLn hget
    refine ⟨by rw [h1]; trivial, put_dT h1 (ks := kk u w) rfl (by rw [List.length_map, List.length_take]; exact smallZ (by omega)) (hN _ ⟨?_, h2.wr hc⟩)⟩
    rw [up_same]
    congr 2
    rw [List.length_append, List.length_singleton, htk, List.map_append]
    unfold putD
    rw [val_ent, if_neg hnew, if_neg (by decide)]
    rfl
  · rintro M1 ⟨h1, h2⟩
    rw [List.length_map, List.take_length] at h1
    refine ⟨ty_dT h1, get1_dT h1 (ks := kk a b) rfl ?_⟩
    rw [hget0]
    refine add_int (put_dT h1 (ks := kk a b) rfl (by rw [List.length_map]; exact smallZ (by omega)) ?_)
    rw [put_ent (names := names)]
    have hcM : M c = none := hc
    have h2' : Ext M (up M1 c (.dT ((withK L (a, b)).map (ent (bump f a b v))))) := h2.wr hc
    have hc2 := up_same (M := M1) (a := c) (o := .dT ((withK L (a, b)).map (ent (bump f a b v))))
    generalize up M1 c (.dT ((withK L (a, b)).map (ent (bump f a b v)))) = M2 at h2' hc2
    have hKm : ∀ p ∈ withK L (a, b), p.1 ∈ names ∧ p.2 ∈ names := fun p hp => by
      rcases mem_withK.mp hp with h | h
      · exact hLm p h
      · rw [h]; exact ⟨ha, hb⟩
    have hKl : (withK L (a, b)).length ≤ 145 := Nat.le_trans withK_len (by omega)
    generalize hK : withK L (a, b) = K at hc2 hKm hKl heq
    -- the kinds, the dict locked
    refine ⟨c, .dT (K.map (ent (bump f a b v))), .fT (K.map (ent (bump f a b v))), hc2, .inr ⟨_, rfl, rfl⟩, ?_⟩
    refine on_keysT up_same fun k hk => ?_
    have hitems : ((K.map (ent (bump f a b v))).map fun kv => D.tup (kv.1.map kD)) = K.map pD := by
      rw [List.map_map]; rfl
    rw [hitems]
    have hkc : k ≠ c := fun e => by subst e; rw [up_same] at hk; cases hk
    refine comp_ext (fun y => match y with | .tup [.str x, .str z] => some (.tup [.int (ixP names (x, z)).1, .int (ixP names (x, z)).2]) | _ => none) hk (fun M3 e3 => e3 _ _ up_same) (by rw [List.length_map]; exact Nat.le_of_lt (smallZ (by omega))) (fun y hy M3 hM3 R hR => ?_) fun M3 hM3 hk3 => ?_
    · obtain ⟨⟨x, z⟩, hp, rfl⟩ := List.mem_map.mp hy
      obtain ⟨m1, m2⟩ := hKm _ hp
      obtain ⟨i1, i2, _⟩ := idx_first m1
      obtain ⟨j1, j2, _⟩ := idx_first m2
      exact item_yes ⟨names, x, _, rfl, rfl, i1, i2, names, z, _, rfl, rfl, j1, j2, hR M3 Ext.refl⟩
    · have hfm : (K.map pD).filterMap (fun y => match y with | .tup [.str x, .str z] => some (D.tup [.int (ixP names (x, z)).1, .int (ixP names (x, z)).2]) | _ => none) = pairsD (K.map (ixP names)) := by
        rw [← pairs_ix, List.filterMap_map, ← List.filterMap_eq_map]; rfl
      rw [hfm] at hk3
      refine ⟨hM3 _ _ up_same, ?_⟩
      have hk4 : up M3 c (.dT (K.map (ent (bump f a b v)))) k = some (.lst (pairsD (K.map (ixP names)))) := by rw [up_ne hkc]; exact hk3
      have hc4 := up_same (M := M3) (a := c) (o := .dT (K.map (ent (bump f a b v))))
      have h4 : Ext M (up M3 c (.dT (K.map (ent (bump f a b v))))) := fun p o e => by
        by_cases hp : p = c
        · subst hp; rw [hcM] at e; cases e
        · rw [up_ne hp]
          exact hM3 _ _ (by rw [up_ne hp]; exact h2' _ _ e)
      generalize up M3 c (.dT (K.map (ent (bump f a b v)))) = M4 at hk4 hc4 h4
      refine sort_pairs hk4 fun qs hq hs p hp => ?_
      obtain ⟨K2, rfl, hK2⟩ := perm_map' hq
      have ep := Ext.new (o := .lst (pairsD (K2.map (ixP names)))) hp
      have hK2m : ∀ p ∈ K2, p.1 ∈ names ∧ p.2 ∈ names := fun p hp => hKm p (hK2.mem_iff.mp hp)
      have hK2l : K2.length ≤ 145 := by rw [hK2.length_eq]; exact hKl
      have hp5 := up_same (M := M4) (a := p) (o := .lst (pairsD (K2.map (ixP names))))
      have hc5 := ep _ _ hc4
      have h5 := h4.trans ep
      generalize up M4 p (.lst (pairsD (K2.map (ixP names)))) = M5 at hp5 hc5 h5
      refine on_seq (lstAt_of hp5) fun q hq6 => ?_
      refine comp_ext (fun y => match y with | .tup [.int i, .int j] => (match names[i.toNat]?, names[j.toNat]? with | some x, some z => some (pD (x, z)) | _, _ => none) | _ => none) hq6 (fun M6 e6 => lstAt_of (e6 _ _ hp5)) (by unfold pairsD; rw [List.length_map, List.length_map]; exact Nat.le_of_lt (smallZ (by omega))) (fun y hy M6 hM6 R hR => ?_) fun M6 hM6 hq7 => ?_
      · rw [← pairs_ix] at hy
        obtain ⟨⟨x, z⟩, hpm, rfl⟩ := List.mem_map.mp hy
        obtain ⟨m1, m2⟩ := hK2m _ hpm
        have i1 := (idx_first m1).1
        have j1 := (idx_first m2).1
        have hR0 := hR M6 Ext.refl
        have e1 : names[((ixP names (x, z)).1).toNat]? = some x := i1
        have e2 : names[((ixP names (x, z)).2).toNat]? = some z := j1
        simp only [e1, e2] at hR0
        refine item_yes (ix_ft (xs := names.map D.str) (d := .str x) (atI_nat (by rw [List.getElem?_map, i1]; rfl)) ?_)
        exact ix_ft (xs := names.map D.str) (d := .str z) (atI_nat (by rw [List.getElem?_map, j1]; rfl)) hR0
      · have hfm2 : (pairsD (K2.map (ixP names))).filterMap (fun y => match y with | .tup [.int i, .int j] => (match names[i.toNat]?, names[j.toNat]? with | some x, some z => some (pD (x, z)) | _, _ => none) | _ => none) = K2.map pD := by
          rw [← pairs_ix, List.filterMap_map, ← List.filterMap_eq_map]
          apply fmap_congr
          rintro ⟨x, z⟩ hpm
          obtain ⟨m1, m2⟩ := hK2m _ hpm
          have e1 : names[((ixP names (x, z)).1).toNat]? = some x := (idx_first m1).1
          have e2 : names[((ixP names (x, z)).2).toNat]? = some z := (idx_first m2).1
          simp only [Function.comp, e1, e2]
        rw [hfm2] at hq7
        refine on_seq (lstAt_of hq7) fun r hr => ?_
        have hc6 := hM6 _ _ hc5
        have hval : ∀ p ∈ K2, valD (K.map (ent (bump f a b v))) (kk p.1 p.2) = some (.int (bump f a b v p.1 p.2)) := fun p hp => by
          rw [val_ent, if_pos (hK2.mem_iff.mp hp)]
        refine comp_ext (fun y => match y with | .tup [.str x, .str z] => (if decide (0 < bump f a b v x z) = true then some (triD (bump f a b v) (x, z)) else none) | _ => none) hr (fun M7 e7 => lstAt_of (e7 _ _ hq7)) (by rw [List.length_map]; exact Nat.le_of_lt (smallZ (by omega))) (fun y hy M7 hM7 R hR => ?_) fun M7 hM7 hr7 => ?_
        · obtain ⟨⟨x, z⟩, hpm, rfl⟩ := List.mem_map.mp hy
          have hc7 := hM7 _ _ hc6
          have hR0 := hR M7 Ext.refl
          refine ix_dT hc7 (ks := kk x z) rfl (hval _ hpm) (gt_int (ite_tf (fun e => ?_) (fun e => ?_)))
          · simp only [pD, e, if_true] at hR0
            exact ix_dT hc7 (ks := kk x z) rfl (hval _ hpm) hR0
          · simp only [pD, e, Bool.false_eq_true, if_false] at hR0
            exact hR0
        · have hfm3 : (K2.map pD).filterMap (fun y => match y with | .tup [.str x, .str z] => (if decide (0 < bump f a b v x z) = true then some (triD (bump f a b v) (x, z)) else none) | _ => none) = (K2.filter fun p => decide (0 < bump f a b v p.1 p.2)).map (triD (bump f a b v)) :=
            filt_fm (fun p : Pr => decide (0 < bump f a b v p.1 p.2)) (triD (bump f a b v)) _ pD (fun _ => rfl) K2
          rw [hfm3, heq (K := K2) nd ha hb hf hK2 hs, ← lay_eq] at hr7
          exact tuple_of hr7 (hP M7 ((h5.trans hM6).trans hM7))
theorem changed_call {M : Mem} {names : List Str} {paths : List Pr} {f : Cf} {a b : Str} {v : Int} {P : DVK} (nd : names.Nodup) (n2 : names.length ≤ 12) (ha : a ∈ names) (hb : b ∈ names) (hf : ∀ x y, 0 ≤ f x y) (hP : ∀ M', Ext M M' → P (.tup (lay names (bump f a b v))) M') :
    sp_changed_crumbs [groundD names paths, .tup (lay names f), .tup [.str a, .str b], .int v] M P := by unfold sp_changed_crumbs; exact ⟨names, paths, f, a, b, v, rfl, nd, n2, ha, hb, hf, hP⟩
end EW

set_option maxRecDepth 100000
set_option maxHeartbeats 4000000
/-! EwMoves: crumb_total, possible_moves, make_moves. -/
namespace EW
open PySem PySem.Spec PyProof.Rows L2
def tot (names : List Str) (f : Cf) : Int := ((laid names f).map fun p => f p.1 p.2).sum
@[irreducible] def sp_crumb_total : DSp := fun ds M P => ∃ (names : List Str) (homes : List Int) (stand : List Str) (f : Cf), ds = [sceneD names homes stand f] ∧ names.length ≤ 12 ∧ ∀ M', Ext M M' → P (.int (tot names f)) M'
def N_crumb_total : List Str := ["scene", "at", "named", "count"]
def t_crumb_total : DTS := (dRet (dCallB rSum (daCons (dComp (diSeq (dOp rIxA (dVar 0) (dC (.int 2)))) [1, 2, 3] (.t [.n 1, .n 2, .n 3]) (dYes) (dVar 3)) (daNil))))
theorem pure_crumb_total : Pure N_crumb_total ["scene"] sp_crumb_total t_crumb_total := by
  unfold sp_crumb_total
  rintro ds M P ⟨names, homes, stand, f, rfl, n2, hP⟩
  refine ⟨rfl, ?_⟩
  have hLl : (laid names f).length ≤ 144 := Nat.le_trans (laid_len names f) (Nat.mul_le_mul n2 n2)
  refine ix_tup (xs := [.tup (homes.map D.int), .tup (stand.map D.str), .tup (lay names f)]) (d := .tup (lay names f)) rfl ?_
  rw [lay_eq]
  refine on_seq rfl fun p hp => ?_
  refine comp_ext (fun y => match y with | .tup [_, _, .int n] => some (.int n) | _ => none) hp (fun _ _ => rfl) (by rw [List.length_map]; exact Nat.le_of_lt (smallZ (by omega))) (fun y hy M2 hM2 R hR => ?_) fun M2 hM2 h2 => ?_
  · obtain ⟨⟨x, z⟩, _, rfl⟩ := List.mem_map.mp hy
    exact item_yes (hR M2 Ext.refl)
  · refine sum_lst (is := (laid names f).map fun p : Pr => f p.1 p.2) ?_ (show P (.int (tot names f)) M2 from hP M2 hM2)
    rw [h2, List.filterMap_map, List.map_map, ← List.filterMap_eq_map]; rfl
theorem crumb_total_call {M : Mem} {names : List Str} {homes : List Int} {stand : List Str} {f : Cf} {P : DVK} (n2 : names.length ≤ 12) (hP : ∀ M', Ext M M' → P (.int (tot names f)) M') : sp_crumb_total [sceneD names homes stand f] M P := by unfold sp_crumb_total; exact ⟨names, homes, stand, f, rfl, n2, hP⟩
/-! ### scenes and moves -/
structure Sc where
  stand : List Str
  f : Cf
def Sc.at (s : Sc) (i : Nat) : Str := s.stand.getD i ""
def Sc.mv (s : Sc) (m : Mv) : Sc := ⟨s.stand.set m.1 m.2, bump s.f (s.at m.1) m.2 (-1)⟩
def Sc.can (s : Sc) (m : Mv) : Prop := m.1 < s.stand.length ∧ 0 < s.f (s.at m.1) m.2
def Sc.canAll : Sc → List Mv → Prop
  | _, [] => True
  | s, m :: ms => s.can m ∧ (s.mv m).canAll ms
def Sc.run (s : Sc) (ms : List Mv) : Sc := ms.foldl Sc.mv s
def scD (names : List Str) (homes : List Int) (s : Sc) : D := sceneD names homes s.stand s.f
/-- a scene whose crumbs lie on the places -/
structure Ok (names : List Str) (s : Sc) : Prop where
  st : ∀ x ∈ s.stand, x ∈ names
  sl : s.stand.length ≤ 6
  nn : ∀ x y, 0 ≤ s.f x y
  nm : ∀ x y, 0 < s.f x y → x ∈ names ∧ y ∈ names
theorem Sc.at_get {s : Sc} {i : Nat} (h : i < s.stand.length) : s.stand[i]? = some (s.at i) := by
  unfold Sc.at
  rw [List.getD_eq_getElem?_getD, List.getElem?_eq_getElem h]; rfl
theorem Ok.mv {names : List Str} {s : Sc} (o : Ok names s) {m : Mv} (h : s.can m) : Ok names (s.mv m) := by
  obtain ⟨h1, h2⟩ := h
  have hm := o.nm _ _ h2
  refine ⟨fun x hx => ?_, by show (s.stand.set _ _).length ≤ 6; rw [List.length_set]; exact o.sl, fun x y => ?_, fun x y hxy => ?_⟩
  · rcases List.mem_or_eq_of_mem_set hx with h | h
    · exact o.st x h
    · rw [h]; exact hm.2
  · show 0 ≤ bump _ _ _ _ x y
    unfold bump
    split
    · next e => rw [e.1, e.2]; omega
    · exact o.nn x y
  · have hxy : 0 < bump s.f (s.at m.1) m.2 (-1) x y := hxy
    unfold bump at hxy
    split at hxy
    · next e => rw [e.1, e.2]; exact hm
    · exact o.nm x y hxy
@[irreducible] def sp_make_moves : DSp := fun ds M P => ∃ (names : List Str) (paths : List Pr) (homes : List Int) (s : Sc) (d : D) (ms : List Mv), ds = [groundD names paths, scD names homes s, d] ∧ Names names ∧ names.length ≤ 12 ∧ Ok names s ∧ srcD M d = some (ms.map mvD) ∧ s.canAll ms ∧
  ∀ M', Ext M M' → P (scD names homes (s.run ms)) M'
def N_make_moves : List Str := ["yard", "scene", "moves", "index", "traveller", "named", "homes", "standing", "crumbs", "kind", "crumb"]
def t_make_moves : DTS := (dSeq (dFor (diEnum (dVar 2)) (gTn 2 (gsCons (gN 3) (gsCons (gTn 2 (gsCons (gN 4) (gsCons (gN 5) (gsNil)))) (gsNil)))) (dSeq (dAsg (dVar 1) (gTn 3 (gsCons (gN 6) (gsCons (gN 7) (gsCons (gN 8) (gsNil)))))) (dSeq (dIfS (dNot (dTest (dChain rLe rLt (dC (.int 0)) (dVar 4) (dCallB rLen (daCons (dVar 7) (daNil)))))) (dNever) (dNext)) (dSeq (dAsg (dTup (daCons (dOp rIxA (dVar 7) (dVar 4)) (daCons (dVar 5) (daNil)))) (gN 9)) (dSeq (dIfS (dTest (dOp (rIn true) (dVar 9) (dComp (diSeq (dVar 8)) [10] (.n 10) (dYes) (dSl rSlD (dVar 10) (dNoPart) (dPart (dC (.int 2))))))) (dNever) (dNext)) (dAsg (dTup (daCons (dVar 6) (daCons (dCall sp_moved [] (daCons (dVar 7) (daCons (dVar 4) (daCons (dVar 5) (daNil))))) (daCons (dCall sp_changed_crumbs [] (daCons (dVar 0) (daCons (dVar 8) (daCons (dVar 9) (daCons (dUn rNeg (dC (.int 1))) (daNil)))))) (daNil))))) (gN 1))))))) (dRet (dVar 1)))
theorem srcD_ext {M M' : Mem} {d : D} {xs : List D} (h : srcD M d = some xs) (f : Ext M M') : srcD M' d = some xs := by
  cases d <;> first | exact h | skip
  · next a => exact lstAt_of (f _ _ (lstAt_eq (show lstAt M a = some xs from h)))
theorem canAll_app : ∀ {s : Sc} {ms ns : List Mv}, s.canAll (ms ++ ns) ↔ s.canAll ms ∧ (s.run ms).canAll ns
  | s, [], ns => by simp [Sc.canAll, Sc.run]
  | s, m :: ms, ns => by
    show s.can m ∧ (s.mv m).canAll (ms ++ ns) ↔ (s.can m ∧ (s.mv m).canAll ms) ∧ ((s.mv m).run ms).canAll ns
    rw [canAll_app, and_assoc]
theorem run_app (s : Sc) (ms ns : List Mv) : s.run (ms ++ ns) = (s.run ms).run ns := by unfold Sc.run; rw [List.foldl_append]
theorem Ok.run {names : List Str} : ∀ {ms : List Mv} {s : Sc}, Ok names s → s.canAll ms → Ok names (s.run ms)
  | [], _, o, _ => o
  | m :: ms, s, o, h => Ok.run (ms := ms) (o.mv h.1) h.2
theorem pure_make_moves : Pure N_make_moves ["yard", "scene", "moves"] sp_make_moves t_make_moves := by
  unfold sp_make_moves
  rintro ds M P ⟨names, paths, homes, s, d, ms, rfl, nm, n2, o, hd, hc, hP⟩
  refine ⟨rfl, ?_⟩
  refine on_src hd ?_
  refine for_ok (fun dn ρ M1 => (∃ z3 z4 z5 z6 z7 z8 z9, ρ = [some (groundD names paths), some (scD names homes (s.run (ms.take dn.length))), some d, z3, z4, z5, z6, z7, z8, z9, none]) ∧ Ext M M1) (fun _ _ _ _ _ h => srcD_ext hd h.2) ?_ ⟨⟨_, _, _, _, _, _, _, rfl⟩, Ext.refl⟩ ?_
  · rintro dn x r ρ M1 e ⟨⟨z3, z4, z5, z6, z7, z8, z9, rfl⟩, h1⟩ N hN
    have hdl : dn.length < ms.length := by
      have := congrArg List.length e
      rw [pairsE_length, List.length_map, List.length_append, List.length_cons] at this
      omega
    have hx : x = .tup [.int (dn.length : Nat), mvD ms[dn.length]] := by
      have h0 : (pairsE 0 (ms.map mvD))[dn.length]? = some x := by rw [e]; simp
      rw [pairsE_get, List.getElem?_map, List.getElem?_eq_getElem hdl] at h0
      simp only [Option.map_some, Option.some.injEq] at h0
      rw [← h0]; simp
    have htk : ms.take (dn.length + 1) = ms.take dn.length ++ [ms[dn.length]] := by rw [List.take_succ_eq_append_getElem hdl]
    have hsp : ms = ms.take dn.length ++ ms[dn.length] :: ms.drop (dn.length + 1) := by rw [← List.drop_eq_getElem_cons hdl, List.take_append_drop]
    have hc2 := (canAll_app (s := s) (ms := ms.take dn.length)).mp (hsp ▸ hc)
    have ho : Ok names (s.run (ms.take dn.length)) := o.run hc2.1
    have hN' : ∀ ρ' M', (∃ z3 z4 z5 z6 z7 z8 z9, ρ' = [some (groundD names paths), some (scD names homes ((s.run (ms.take dn.length)).mv ms[dn.length])), some d, z3, z4, z5, z6, z7, z8, z9, none]) ∧ Ext M M' → N ρ' M' := by
      rintro ρ' M' ⟨⟨z3, z4, z5, z6, z7, z8, z9, rfl⟩, h⟩
      refine hN _ _ ⟨⟨z3, z4, z5, z6, z7, z8, z9, ?_⟩, h⟩
      rw [List.length_append, List.length_singleton, htk, run_app]; rfl
    have hcan := hc2.2.1
    clear hN hsp htk
    generalize s.run (ms.take dn.length) = s1 at ho hcan hN'
    generalize ms[dn.length] = m at hx hcan hN'
    generalize hk : dn.length = k at hx hdl
    subst hx
    obtain ⟨i, y⟩ := m
    obtain ⟨c1, c2⟩ := hcan
    have c1 : i < s1.stand.length := c1
    have c2 : 0 < s1.f (s1.at i) y := c2
    obtain ⟨hx1, hx2⟩ := ho.nm _ _ c2
    refine ⟨rfl, rfl, rfl, ?_⟩
    refine le_int ?_
    refine len_tup ?_
    refine lt_int ?_
    rw [decide_eq_true (show (i : Int) < ((s1.stand.map D.str).length : Int) by rw [List.length_map]; omega)]
    refine ix_tup (xs := s1.stand.map D.str) (d := .str (s1.at i)) (atI_nat (by rw [List.getElem?_map, Sc.at_get c1]; rfl)) ?_
    have hLl : (laid names s1.f).length ≤ 144 := Nat.le_trans (laid_len names s1.f) (Nat.mul_le_mul n2 n2)
    refine on_seq (M := M1) (d := .tup (lay names s1.f)) (xs := (laid names s1.f).map (triD s1.f)) (by rw [lay_eq]; rfl) fun p hp => ?_
    refine comp_ext (fun y => match y with | .tup [u, v, _] => some (.tup [u, v]) | _ => none) hp (fun _ _ => by rw [lay_eq]; rfl) (by rw [List.length_map]; exact Nat.le_of_lt (smallZ (by omega))) (fun y hy M2 hM2 R hR => ?_) fun M2 hM2 hp2 => ?_
    · obtain ⟨⟨u, v⟩, _, rfl⟩ := List.mem_map.mp hy
      exact item_yes (sl_tup' (hR M2 Ext.refl))
    · have hfm : ((laid names s1.f).map (triD s1.f)).filterMap (fun y => match y with | .tup [u, v, _] => some (D.tup [u, v]) | _ => none) = (laid names s1.f).map pD := by
        rw [List.filterMap_map, ← List.filterMap_eq_map]; rfl
      rw [hfm] at hp2
      refine in_lst (x := pD (s1.at i, y)) hp2 (pD_ok nm hx1 hx2) (pDs_ok nm fun p hp => ⟨(mem_laid.mp hp).1, (mem_laid.mp hp).2.1⟩) ?_
      rw [any_pD, decide_eq_true (mem_laid.mpr ⟨hx1, hx2, c2⟩)]
      refine moved_call c1 (by have := ho.sl; omega) ?_
      refine neg_int ?_
      refine changed_call (f := s1.f) nm.nd n2 hx1 hx2 ho.nn fun M3 e3 => hN' _ _ ⟨⟨_, _, _, _, _, _, _, rfl⟩, (h1.trans hM2).trans e3⟩
  · rintro ρ M1 ⟨⟨z3, z4, z5, z6, z7, z8, z9, rfl⟩, h1⟩
    rw [pairsE_length, List.length_map, List.take_length]
    exact hP M1 h1
theorem make_moves_call {M : Mem} {names : List Str} {paths : List Pr} {homes : List Int} {s : Sc} {d : D} {ms : List Mv} {P : DVK} (nm : Names names) (n2 : names.length ≤ 12) (o : Ok names s) (hd : srcD M d = some (ms.map mvD)) (hc : s.canAll ms)
    (hP : ∀ M', Ext M M' → P (scD names homes (s.run ms)) M') : sp_make_moves [groundD names paths, scD names homes s, d] M P := by unfold sp_make_moves; exact ⟨names, paths, homes, s, d, ms, rfl, nm, n2, o, hd, hc, hP⟩
/-! ### possible_moves -/
@[irreducible] def sp_possible_moves : DSp := fun ds M P => ∃ (y : D) (names : List Str) (homes : List Int) (s : Sc), ds = [y, scD names homes s] ∧ names.length ≤ 12 ∧ Ok names s ∧
  ∀ (ps : List Mv) M', (∀ m, s.can m → m ∈ ps) → (∀ m ∈ ps, m.2 ∈ names) → Ext M M' → P (.tup (ps.map mvD)) M'
def N_possible_moves : List Str := ["yard", "scene", "homes", "standing", "crumbs", "found", "traveller", "place", "at", "named", "count"]
def t_possible_moves : DTS := (dSeq (dAsg (dVar 1) (gTn 3 (gsCons (gN 2) (gsCons (gN 3) (gsCons (gN 4) (gsNil)))))) (dSeq (dAsg (dLst (daNil)) (gN 5)) (dSeq (dFor (diEnum (dVar 3)) (gTn 2 (gsCons (gN 6) (gsCons (gN 7) (gsNil)))) (dDrop (dBM "list" rExtend (dVar 5) (daCons (dComp (diSeq (dVar 4)) [8, 9, 10] (.t [.n 8, .n 9, .n 10]) (dTest (dOp (rEqs false) (dVar 8) (dVar 7))) (dTup (daCons (dVar 6) (daCons (dVar 9) (daNil))))) (daNil))))) (dRet (dCallB rTuple (daCons (dVar 5) (daNil)))))))
theorem poss_fm (f : Cf) (k : Nat) (x : Str) : ∀ L : List Pr, (L.map (triD f)).filterMap (fun y => match y with | .tup [.str u, .str v, _] => if u = x then some (mvD (k, v)) else none | _ => none) = ((L.filter fun p => decide (p.1 = x)).map fun p => ((k, p.2) : Mv)).map mvD
  | [] => rfl
  | (u, v) :: L => by
    rw [List.map_cons, List.filterMap_cons]
    by_cases h : u = x
    · rw [List.filter_cons_of_pos (by simp [h]), List.map_cons, List.map_cons, ← poss_fm f k x L]
      simp [triD, h]
    · rw [List.filter_cons_of_neg (by simp [h]), ← poss_fm f k x L]
      simp [triD, h]
theorem pure_possible_moves : Pure N_possible_moves ["yard", "scene"] sp_possible_moves t_possible_moves := by
  unfold sp_possible_moves
  rintro ds M P ⟨y, names, homes, s, rfl, n2, o, hP⟩
  refine ⟨rfl, rfl, ?_⟩
  intro f hf
  have e0 := Ext.new (o := .lst []) hf
  have hLl : (laid names s.f).length ≤ 144 := Nat.le_trans (laid_len names s.f) (Nat.mul_le_mul n2 n2)
  refine on_src (d := .tup (s.stand.map D.str)) rfl ?_
  refine for_ok (fun dn ρ M1 => (∃ z6 z7, ρ = [some y, some (scD names homes s), some (.tup (homes.map D.int)), some (.tup (s.stand.map D.str)), some (.tup (lay names s.f)), some (.ref f), z6, z7, none, none, none]) ∧ ∃ ps : List Mv, (∀ m, s.can m → m.1 < dn.length → m ∈ ps) ∧ (∀ m ∈ ps, m.2 ∈ names) ∧ ps.length ≤ dn.length * 144 ∧ M1 f = some (.lst (ps.map mvD)) ∧ Ext M M1) (fun _ _ _ _ _ _ => rfl) ?_ ⟨⟨_, _, rfl⟩, [], by simp, by simp, by simp, up_same, e0⟩ ?_
  · rintro dn x r ρ M1 e ⟨⟨z6, z7, rfl⟩, ps, p1, p2, p3, h1, h2⟩ N hN
    have hdl : dn.length < s.stand.length := by
      have := congrArg List.length e
      rw [pairsE_length, List.length_map, List.length_append, List.length_cons] at this
      omega
    have hx : x = .tup [.int (dn.length : Nat), .str (s.at dn.length)] := by
      have h0 : (pairsE 0 (s.stand.map D.str))[dn.length]? = some x := by rw [e]; simp
      rw [pairsE_get, List.getElem?_map, Sc.at_get hdl] at h0
      simp only [Option.map_some, Option.some.injEq] at h0
      rw [← h0]; simp
    generalize hk : dn.length = k at hx hdl p1 p3
    subst hx
    refine ⟨rfl, ty_lst h1, ?_⟩
    refine on_seq (M := M1) (d := .tup (lay names s.f)) (xs := (laid names s.f).map (triD s.f)) (by rw [lay_eq]; rfl) fun p hp => ?_
    refine comp_ext (fun y => match y with | .tup [.str u, .str v, _] => if u = s.at k then some (mvD (k, v)) else none | _ => none) hp (fun _ _ => by rw [lay_eq]; rfl) (by rw [List.length_map]; exact Nat.le_of_lt (smallZ (by omega))) (fun y hy M2 hM2 R hR => ?_) fun M2 hM2 hp2 => ?_
    · obtain ⟨⟨u, v⟩, _, rfl⟩ := List.mem_map.mp hy
      have hR0 := hR M2 Ext.refl
      refine eq_str (ite_tf (fun e => ?_) (fun e => ?_))
      · have : u = s.at k := by simpa [nb] using e
        simp only [triD, this, if_true] at hR0; exact hR0
      · have : ¬ u = s.at k := by simpa [nb] using e
        simp only [triD, this, if_false] at hR0; exact hR0
    · rw [poss_fm] at hp2
      have hfl : ((laid names s.f).filter fun p => decide (p.1 = s.at k)).length ≤ 144 := Nat.le_trans (List.length_filter_le _ _) hLl
      have hsl := o.sl
      have h1' := hM2 _ _ h1
      refine extend_lst h1' hp2 (by rw [List.length_map, List.length_map, List.length_map, sizeLine_eq]; omega) (hN _ _ ⟨⟨_, _, rfl⟩, ps ++ ((laid names s.f).filter fun p => decide (p.1 = s.at k)).map (fun p => ((k, p.2) : Mv)), ?_, ?_, ?_, by rw [up_same, List.map_append], (h2.trans hM2).wr hf⟩)
      · intro m hm hlt
        rw [List.length_append, List.length_singleton, hk] at hlt
        by_cases hmk : m.1 < k
        · exact List.mem_append_left _ (p1 m hm hmk)
        · have hmk : m.1 = k := by omega
          apply List.mem_append_right
          obtain ⟨c1, c2⟩ := hm
          have hmm := o.nm _ _ c2
          refine List.mem_map.mpr ⟨(s.at m.1, m.2), List.mem_filter.mpr ⟨mem_laid.mpr ⟨hmm.1, hmm.2, c2⟩, by simp [hmk]⟩, ?_⟩
          exact Prod.ext hmk.symm rfl
      · intro m hm
        rcases List.mem_append.mp hm with hm | hm
        · exact p2 m hm
        · obtain ⟨p, hp, rfl⟩ := List.mem_map.mp hm
          exact (mem_laid.mp (List.mem_filter.mp hp).1).2.1
      · rw [List.length_append, List.length_map, List.length_append, List.length_singleton, hk]; omega
  · rintro ρ M1 ⟨⟨z6, z7, rfl⟩, ps, p1, p2, p3, h1, h2⟩
    rw [pairsE_length, List.length_map] at p1
    exact tuple_of h1 (hP ps M1 (fun m hm => p1 m hm hm.1) p2 h2)
theorem possible_call {M : Mem} {y : D} {names : List Str} {homes : List Int} {s : Sc} {P : DVK} (n2 : names.length ≤ 12) (o : Ok names s) (hP : ∀ (ps : List Mv) M', (∀ m, s.can m → m ∈ ps) → (∀ m ∈ ps, m.2 ∈ names) → Ext M M' → P (.tup (ps.map mvD)) M') : sp_possible_moves [y, scD names homes s] M P := by unfold sp_possible_moves; exact ⟨y, names, homes, s, rfl, n2, o, hP⟩
end EW

set_option maxRecDepth 100000
set_option maxHeartbeats 4000000
/-! EwComp2: the form of a deed; companies. -/
namespace EW
open PySem PySem.Spec PyProof.Rows L2
theorem ins_at {M : Mem} {a : Addr} {C : String} {fs : List (Str × D)} {k : Addr → String → List (Str × D) → Prop} (h : M a = some (.ins C fs)) (q : k a C fs) : insAt M (.ref a) k := by
  simp only [insAt, h]; exact q
theorem d_self {C : String} {f : Str} {i : Nat} {ρ : Env} {M : Mem} {Q : DVK} {p : Addr} {fs : List (Str × D)} {v : D} (hρ : nth ρ i = some (.ref p)) (h : M p = some (.ins C fs)) (hl : fs.lookup f = some v) (q : Q v M) : dFld C f (dVar i) ρ M Q := by
  unfold dFld dVar
  rw [hρ]
  simp only [insAt, h, hl]
  exact ⟨trivial, q⟩
theorem mulT {M : Mem} {Q : DVK} {n : Nat} (h1 : 1 ≤ n) (h2 : n ≤ 1000) (q : Q (.tup ((List.replicate n (0 : Int)).map D.int)) M) : rMulT (.tup [.int 0]) (.int n) M Q := by
  unfold rMulT
  rw [← flat_zeros] at q
  refine ⟨by simp, by omega, by omega, by simp, ?_, fun e => ?_⟩
  · rw [Int.toNat_natCast]; exact q
  · have : n = 1 := by omega
    subst this
    exact q
/-! ### the form of a deed -/
@[irreducible] def sp_is_integer : DSp := fun ds M P => ∃ i, ds = [.int i] ∧ P (.bl true) M
def N_is_integer : List Str := ["value"]
def t_is_integer : DTS := (dRet (dAndV (dIsi "int" (dVar 0)) (dNotV (dIsi "bool" (dVar 0)))))
theorem pure_is_integer : Pure N_is_integer ["value"] sp_is_integer t_is_integer := by
  unfold sp_is_integer
  rintro ds M P ⟨i, rfl, hP⟩
  refine ⟨rfl, ?_⟩
  exact on_isi (n := "int") rfl isB_ii (on_isi (n := "int") rfl isB_ib hP)
theorem is_integer_call {M : Mem} {i : Int} {P : DVK} (hP : P (.bl true) M) : sp_is_integer [.int i] M P := by unfold sp_is_integer; exact ⟨i, rfl, hP⟩
def chP : Str := ⟨#[112]⟩
def chT : Str := ⟨#[116]⟩
@[irreducible] def sp_fits : DSp := fun ds M P => ((∃ x, ds = [.str x, .str chP]) ∨ (∃ i, ds = [.int i, .str chT])) ∧ P (.bl true) M
def N_fits : List Str := ["value", "sort"]
def t_fits : DTS := (dRet (dIf (dTest (dOp (rEqs false) (dVar 1) (dC (.str "p")))) (dIsi "str" (dVar 0)) (dCall sp_is_integer [] (daCons (dVar 0) (daNil)))))
theorem chP_p : (chP == ("p" : Str)) = true := by decide +kernel
theorem chT_p : (chT == ("p" : Str)) = false := by decide +kernel
theorem pure_fits : Pure N_fits ["value", "sort"] sp_fits t_fits := by
  unfold sp_fits
  rintro ds M P ⟨h, hP⟩
  rcases h with ⟨x, rfl⟩ | ⟨i, rfl⟩
  · refine ⟨rfl, ?_⟩
    refine eq_str ?_
    rw [chP_p]
    exact on_isi (n := "str") rfl isB_ss hP
  · refine ⟨rfl, ?_⟩
    refine eq_str ?_
    rw [chT_p]
    exact is_integer_call hP
theorem fits_p {M : Mem} {x : Str} {P : DVK} (hP : P (.bl true) M) : sp_fits [.str x, .str chP] M P := by unfold sp_fits; exact ⟨.inl ⟨x, rfl⟩, hP⟩
theorem fits_t {M : Mem} {i : Int} {P : DVK} (hP : P (.bl true) M) : sp_fits [.int i, .str chT] M P := by unfold sp_fits; exact ⟨.inr ⟨i, rfl⟩, hP⟩
@[irreducible] def sp_has_form_company : DSp := fun ds M P => ∃ d : Deed, ds = [deedD d] ∧ ∀ M', Ext M M' → P (.bl true) M'
def N_has_form_company : List Str := ["value", "word", "things", "sorts", "thing", "sort"]
def t_has_form_company : DTS := (dSeq (dIfS (dOr (dNot (dTest (dIsi "tuple" (dVar 0)))) (dOr (dTest (dOp (rEqs false) (dCallB rLen (daCons (dVar 0) (daNil))) (dC (.int 0)))) (dNot (dTest (dIsi "str" (dOp rIxA (dVar 0) (dC (.int 0)))))))) (dRet (dC (.bl false))) (dNext)) (dSeq (dAsg (dVar 0) (gStar 1 (gsCons (gN 1) (gsCons (gN 2) (gsNil))))) (dSeq (dAsg (dKget [("join", "p"), ("go", "tp"), ("back", "tp")] (dVar 1)) (gN 3)) (dSeq (dIfS (dOr (dTest (dOp rIsN (dVar 3) (dC .non))) (dTest (dOp (rEqs true) (dCallB rLen (daCons (dVar 2) (daNil))) (dCallB rLen (daCons (dVar 3) (daNil)))))) (dRet (dC (.bl false))) (dNext)) (dRet (dCallB rAll (daCons (dComp (diZip (dVar 2) (dVar 3)) [4, 5] (.t [.n 4, .n 5]) (dYes) (dCall sp_fits [] (daCons (dVar 4) (daCons (dVar 5) (daNil))))) (daNil))))))))
theorem sg_p : (("p" : Str).cps.toList.map fun c => D.str ⟨#[c]⟩) = [.str chP] := by
  have : ("p" : Str).cps.toList = [112] := by decide +kernel
  rw [this]; rfl
theorem sg_tp : (("tp" : Str).cps.toList.map fun c => D.str ⟨#[c]⟩) = [.str chT, .str chP] := by
  have : ("tp" : Str).cps.toList = [116, 112] := by decide +kernel
  rw [this]; rfl
theorem l_p : ("p" : Str).length = 1 := by decide +kernel
theorem l_tp : ("tp" : Str).length = 2 := by decide +kernel
theorem form_two {M : Mem} {P : DVK} {w : Str} {i : Int} {x : Str} (hP : ∀ M', Ext M M' → P (.bl true) M') (p : Addr) (hp : M p = none) :
    (dSeq (dIfS (dOr (dTest (dOp rIsN (dVar 3) (dC .non))) (dTest (dOp (rEqs true) (dCallB rLen (daCons (dVar 2) (daNil))) (dCallB rLen (daCons (dVar 3) (daNil)))))) (dRet (dC (.bl false))) (dNext)) (dRet (dCallB rAll (daCons (dComp (diZip (dVar 2) (dVar 3)) [4, 5] (.t [.n 4, .n 5]) (dYes) (dCall sp_fits [] (daCons (dVar 4) (daCons (dVar 5) (daNil))))) (daNil))))) { nx := fun _ M' => P .non M', rt := P } [some (.tup [.str w, .int i, .str x]), some (.str w), some (.ref p), some (.str "tp"), none, none] (up M p (.lst [.int i, .str x])) := by
  have e1 := Ext.new (o := .lst [.int i, .str x]) hp
  have h1 := up_same (M := M) (a := p) (o := .lst [.int i, .str x])
  generalize up M p (.lst [.int i, .str x]) = M1 at *
  refine ⟨rfl, ?_⟩
  refine len_lst h1 (len_str (small_len (by rw [l_tp]; omega)) (eq_int ?_))
  rw [l_tp]
  refine on_zip (d := .ref p) (e := .str "tp") (xs := [.int i, .str x]) (ys := [.str chT, .str chP]) (lstAt_of h1) (by show some _ = _; rw [sg_tp]) fun q hq => ?_
  refine comp_ext (fun _ => some (.bl true)) hq (fun M2 e2 => ⟨lstAt_of (e2 _ _ h1), by show some _ = _; rw [sg_tp]⟩) (by rw [sizeLine_eq]; simp) (fun y hy M2 hM2 R hR => ?_) fun M2 hM2 h2 => ?_
  · simp only [List.zipWith_cons_cons, List.zipWith_nil_right, List.mem_cons, List.not_mem_nil, or_false] at hy
    rcases hy with rfl | rfl
    · exact item_yes (fits_t (hR M2 Ext.refl))
    · exact item_yes (fits_p (hR M2 Ext.refl))
  · exact all_lst (bs := [true, true]) h2 (hP M2 (e1.trans hM2))
theorem lk_join : ([("join", "p"), ("go", "tp"), ("back", "tp")] : List (Str × Str)).lookup ("join" : Str) = some "p" := by decide +kernel
theorem lk_go : ([("join", "p"), ("go", "tp"), ("back", "tp")] : List (Str × Str)).lookup ("go" : Str) = some "tp" := by decide +kernel
theorem lk_back : ([("join", "p"), ("go", "tp"), ("back", "tp")] : List (Str × Str)).lookup ("back" : Str) = some "tp" := by decide +kernel
theorem kget_of {tab : List (Str × Str)} {i : Nat} {ρ : Env} {M : Mem} {Q : DVK} {k v : Str} (hρ : nth ρ i = some (.str k)) (h : tab.lookup k = some v) (q : Q (.str v) M) : dKget tab (dVar i) ρ M Q := by
  unfold dKget dVar
  rw [hρ]
  simp only [h]
  exact q
theorem pure_has_form_company : Pure N_has_form_company ["value"] sp_has_form_company t_has_form_company := by
  unfold sp_has_form_company
  rintro ds M P ⟨d, rfl, hP⟩
  refine ⟨rfl, ?_⟩
  cases d with
  | join x =>
    refine on_isi (n := "tuple") rfl isB_tt (len_tup (eq_int (ix_tup (xs := [.str "join", .str x]) (d := .str "join") rfl (on_isi (n := "str") rfl isB_ss ?_))))
    refine ⟨by simp, by simp, fun p hp => kget_of rfl lk_join ?_⟩
    have e1 := Ext.new (o := .lst [.str x]) hp
    have h1 := up_same (M := M) (a := p) (o := .lst [.str x])
    show (dSeq (dIfS (dOr (dTest (dOp rIsN (dVar 3) (dC .non))) (dTest (dOp (rEqs true) (dCallB rLen (daCons (dVar 2) (daNil))) (dCallB rLen (daCons (dVar 3) (daNil)))))) (dRet (dC (.bl false))) (dNext)) (dRet (dCallB rAll (daCons (dComp (diZip (dVar 2) (dVar 3)) [4, 5] (.t [.n 4, .n 5]) (dYes) (dCall sp_fits [] (daCons (dVar 4) (daCons (dVar 5) (daNil))))) (daNil))))) { nx := fun _ M' => P .non M', rt := P } [some (.tup [.str "join", .str x]), some (.str "join"), some (.ref p), some (.str "p"), none, none] (up M p (.lst [.str x]))
    generalize up M p (.lst [.str x]) = M1 at *
    refine ⟨rfl, ?_⟩
    refine len_lst h1 (len_str (small_len (by rw [l_p]; omega)) (eq_int ?_))
    rw [l_p]
    refine on_zip (d := .ref p) (e := .str "p") (xs := [.str x]) (ys := [.str chP]) (lstAt_of h1) (by show some _ = _; rw [sg_p]) fun q hq => ?_
    refine comp_ext (fun _ => some (.bl true)) hq (fun M2 e2 => ⟨lstAt_of (e2 _ _ h1), by show some _ = _; rw [sg_p]⟩) (by rw [sizeLine_eq]; simp) (fun y hy M2 hM2 R hR => ?_) fun M2 hM2 h2 => ?_
    · simp only [List.zipWith_cons_cons, List.zipWith_nil_right, List.mem_cons, List.not_mem_nil, or_false] at hy
      subst hy
      exact item_yes (fits_p (hR M2 Ext.refl))
    · exact all_lst (bs := [true]) h2 (hP M2 (e1.trans hM2))
  | go i x =>
    refine on_isi (n := "tuple") rfl isB_tt (len_tup (eq_int (ix_tup (xs := [.str "go", .int i, .str x]) (d := .str "go") rfl (on_isi (n := "str") rfl isB_ss ?_))))
    exact ⟨by simp, by simp, fun p hp => kget_of rfl lk_go (form_two hP p hp)⟩
  | back i x =>
    refine on_isi (n := "tuple") rfl isB_tt (len_tup (eq_int (ix_tup (xs := [.str "back", .int i, .str x]) (d := .str "back") rfl (on_isi (n := "str") rfl isB_ss ?_))))
    exact ⟨by simp, by simp, fun p hp => kget_of rfl lk_back (form_two hP p hp)⟩
theorem has_form_company_call {M : Mem} {d : Deed} {P : DVK} (hP : ∀ M', Ext M M' → P (.bl true) M') : sp_has_form_company [deedD d] M P := by unfold sp_has_form_company; exact ⟨d, rfl, hP⟩
end EW

set_option maxRecDepth 100000
set_option maxHeartbeats 4000000
/-! EwCo: a company's methods. -/
namespace EW
open PySem PySem.Spec PyProof.Rows L2
theorem ne_os : ("own_yard" : Str) ≠ "scenes" := by decide +kernel
theorem ne_od : ("own_yard" : Str) ≠ "deeds" := by decide +kernel
theorem ne_sd : ("scenes" : Str) ≠ "deeds" := by decide +kernel
def coF (G : D) (sc de : Addr) : List (Str × D) := [("own_yard", G), ("scenes", .ref sc), ("deeds", .ref de)]
section
variable {G : D} {sc de x : Addr}
theorem co_y : (coF G sc de).lookup ("own_yard" : Str) = some G := by simp [coF, List.lookup]
theorem co_s : (coF G sc de).lookup ("scenes" : Str) = some (.ref sc) := by simp [coF, List.lookup, beq_false_of_ne ne_os.symm]
theorem co_d : (coF G sc de).lookup ("deeds" : Str) = some (.ref de) := by simp [coF, List.lookup, beq_false_of_ne ne_od.symm, beq_false_of_ne ne_sd.symm]
theorem co_ps : putFD ("scenes" : Str) (.ref x) (coF G sc de) = coF G x de := by simp [coF, putFD, ne_os]
theorem co_pd : putFD ("deeds" : Str) (.ref x) (coF G sc de) = coF G sc x := by simp [coF, putFD, ne_od, ne_sd]
theorem co_mk : putFD ("deeds" : Str) (.ref de) (putFD ("scenes" : Str) (.ref sc) (putFD ("own_yard" : Str) G [])) = coF G sc de := by simp [coF, putFD, ne_os, ne_od, ne_sd]
theorem co_no {m : Str} (h1 : m ≠ "own_yard") (h2 : m ≠ "scenes") (h3 : m ≠ "deeds") : (coF G sc de).lookup m = none := by simp [coF, List.lookup, beq_false_of_ne h1, beq_false_of_ne h2, beq_false_of_ne h3]
end
/-- a company: its yard, its last scene, how many deeds it has seen -/
structure CoAt (M : Mem) (p sc de : Addr) (G cur : D) (n : Nat) : Prop where
  p : M p = some (.ins "Company" (coF G sc de))
  s : ∃ l, M sc = some (.lst (l ++ [cur])) ∧ l.length = n
  d : ∃ l, M de = some (.lst l) ∧ l.length = n
  ne : sc ≠ de
section
variable {M M' : Mem} {p sc de : Addr} {G cur : D} {n : Nat} {T : List Addr}
theorem CoAt.keep (x : CoAt M p sc de G cur n) (f : Fr T M M') (d : Dj [p, sc, de] T) : CoAt M' p sc de G cur n :=
  ⟨f _ _ x.p (d p (by simp)), let ⟨l, h1, h2⟩ := x.s; ⟨l, f _ _ h1 (d sc (by simp)), h2⟩, let ⟨l, h1, h2⟩ := x.d; ⟨l, f _ _ h1 (d de (by simp)), h2⟩, x.ne⟩
theorem CoAt.ext (x : CoAt M p sc de G cur n) (f : Ext M M') : CoAt M' p sc de G cur n := x.keep (T := []) f.fr fun _ _ => by simp
theorem CoAt.ps (x : CoAt M p sc de G cur n) : p ≠ sc := fun e => by obtain ⟨l, h, _⟩ := x.s; have := x.p; rw [e, h] at this; cases this
theorem CoAt.pd (x : CoAt M p sc de G cur n) : p ≠ de := fun e => by obtain ⟨l, h, _⟩ := x.d; have := x.p; rw [e, h] at this; cases this
theorem CoAt.free (x : CoAt M p sc de G cur n) {q : Addr} (e : M q = none) : q ∉ [p, sc, de] := by
  simp only [List.mem_cons, List.not_mem_nil, or_false, not_or]
  refine ⟨fun h => ?_, fun h => ?_, fun h => ?_⟩ <;> subst h
  · have := x.p; rw [e] at this; cases this
  · obtain ⟨l, h, _⟩ := x.s; rw [e] at h; cases h
  · obtain ⟨l, h, _⟩ := x.d; rw [e] at h; cases h
end
theorem lay_zero (names : List Str) : lay names (fun _ _ => 0) = [] := by
  unfold lay
  induction names with
  | nil => rfl
  | cons x xs ih =>
    have : ∀ ys : List Str, ys.flatMap (row (x :: xs) fun _ _ => 0) = [] := by
      intro ys
      apply List.flatMap_eq_nil_iff.mpr
      intro a _
      simp [row, eat]
    exact this _
/-! ### __init__ -/
@[irreducible] def sp_Company___init__ : DSp := fun ds M P => ∃ (p : Addr) (names : List Str) (paths : List Pr), ds = [.ref p, groundD names paths] ∧ M p = some (.ins "Company" []) ∧ Ground names paths ∧ names.length ≤ 8 ∧ paths.length ≤ 24 ∧
  ∀ (sc de : Addr) M', CoAt M' p sc de (groundD names paths) (sceneD names (List.replicate names.length 0) [] fun _ _ => 0) 0 → M sc = none → M de = none → Fr [p] M M' → P .non M'
def N_Company___init__ : List Str := ["self", "yard"]
def t_Company___init__ : DTS := (dSeq (dDrop (dCall sp_check_yard [] (daCons (dVar 1) (daNil)))) (dSeq (dSetF "Company" "own_yard" (dVar 0) (dVar 1)) (dSeq (dSetF "Company" "scenes" (dVar 0) (dLst (daCons (dTup (daCons (dOp rMulT (dTup (daCons (dC (.int 0)) (daNil))) (dCallB rLen (daCons (dOp rIxA (dVar 1) (dC (.int 0))) (daNil)))) (daCons (dTup (daNil)) (daCons (dTup (daNil)) (daNil))))) (daNil)))) (dSetF "Company" "deeds" (dVar 0) (dLst (daNil))))))
theorem pure_Company___init__ : Pure N_Company___init__ ["self", "yard"] sp_Company___init__ t_Company___init__ := by
  unfold sp_Company___init__
  rintro ds M P ⟨p, names, paths, rfl, hp, G, n8, p24, hP⟩
  refine ⟨rfl, ?_⟩
  refine check_yard_call G n8 p24 fun M1 e1 => ?_
  have hp1 := e1 _ _ hp
  refine ins_at hp1 ⟨rfl, by simp, ?_⟩
  refine ix_tup (xs := [.ft (names.map D.str), .tup (paths.map pD)]) (d := .ft (names.map D.str)) rfl (len_ft ?_)
  rw [List.length_map]
  refine mulT G.lo (by omega) fun sc hsc => ?_
  have hp2 : up M1 p (.ins "Company" (putFD ("own_yard" : Str) (groundD names paths) [])) p = some (.ins "Company" (putFD ("own_yard" : Str) (groundD names paths) [])) := up_same
  have f2 : Fr [p] M (up M1 p (.ins "Company" (putFD ("own_yard" : Str) (groundD names paths) []))) := e1.fr.trans (Fr.wr (by simp))
  generalize up M1 p (.ins "Company" (putFD ("own_yard" : Str) (groundD names paths) [])) = M2 at *
  have hscM : M sc = none := by
    cases e : M sc with
    | none => rfl
    | some u =>
      by_cases h : sc = p
      · rw [h, hp2] at hsc; cases hsc
      · have := f2 _ _ e (by simp [h]); rw [hsc] at this; cases this
  have e3 := Ext.new (o := .lst [.tup [.tup ((List.replicate names.length (0 : Int)).map D.int), .tup [], .tup []]]) hsc
  have hp3 := e3 _ _ hp2
  have hs3 := up_same (M := M2) (a := sc) (o := .lst [.tup [.tup ((List.replicate names.length (0 : Int)).map D.int), .tup [], .tup []]])
  have f3 := f2.ext e3
  generalize up M2 sc (.lst [.tup [.tup ((List.replicate names.length (0 : Int)).map D.int), .tup [], .tup []]]) = M3 at *
  refine ins_at hp3 ⟨rfl, by simp [putFD], ?_⟩
  have hpsc : sc ≠ p := fun e => by subst e; rw [hp3] at hs3; cases hs3
  have hp4 : up M3 p (.ins "Company" (putFD ("scenes" : Str) (.ref sc) (putFD ("own_yard" : Str) (groundD names paths) []))) p = some (.ins "Company" (putFD ("scenes" : Str) (.ref sc) (putFD ("own_yard" : Str) (groundD names paths) []))) := up_same
  have hs4 : up M3 p (.ins "Company" (putFD ("scenes" : Str) (.ref sc) (putFD ("own_yard" : Str) (groundD names paths) []))) sc = some (.lst [.tup [.tup ((List.replicate names.length (0 : Int)).map D.int), .tup [], .tup []]]) := by rw [up_ne hpsc]; exact hs3
  have f4 : Fr [p] M (up M3 p (.ins "Company" (putFD ("scenes" : Str) (.ref sc) (putFD ("own_yard" : Str) (groundD names paths) [])))) := f3.trans (Fr.wr (by simp))
  generalize up M3 p (.ins "Company" (putFD ("scenes" : Str) (.ref sc) (putFD ("own_yard" : Str) (groundD names paths) []))) = M4 at *
  intro de hde
  have e5 := Ext.new (o := .lst []) hde
  have hdeM : M de = none := by
    cases e : M de with
    | none => rfl
    | some u =>
      by_cases h : de = p
      · rw [h, hp4] at hde; cases hde
      · have := f4 _ _ e (by simp [h]); rw [hde] at this; cases this
  have hp5 := e5 _ _ hp4
  have hs5 := e5 _ _ hs4
  have hd5 := up_same (M := M4) (a := de) (o := .lst [])
  have f5 := f4.ext e5
  generalize up M4 de (.lst []) = M5 at *
  refine ins_at hp5 ⟨rfl, by simp [putFD, ne_os], ?_⟩
  rw [co_mk]
  have hpde : de ≠ p := fun e => by subst e; rw [hp5] at hd5; cases hd5
  have hsd : sc ≠ de := fun e => by subst e; rw [hs4] at hde; cases hde
  refine hP sc de _ ⟨up_same, ⟨[], by rw [up_ne hpsc, hs5]; rw [show sceneD names (List.replicate names.length 0) [] (fun _ _ => 0) = .tup [.tup ((List.replicate names.length (0 : Int)).map D.int), .tup [], .tup []] by unfold sceneD; rw [lay_zero]; rfl]; rfl, rfl⟩, ⟨[], by rw [up_ne hpde, hd5], rfl⟩, hsd⟩ hscM hdeM (f5.trans (Fr.wr (by simp)))
/-! ### scene, log, note -/
@[irreducible] def sp_Company_scene : DSp := fun ds M P => ∃ (p sc de : Addr) (G cur : D) (n : Nat), ds = [.ref p] ∧ CoAt M p sc de G cur n ∧ P cur M
def N_Company_scene : List Str := ["self"]
def t_Company_scene : DTS := (dRet (dOp rIxA (dFld "Company" "scenes" (dVar 0)) (dUn rNeg (dC (.int 1)))))
theorem pure_Company_scene : Pure N_Company_scene ["self"] sp_Company_scene t_Company_scene := by
  unfold sp_Company_scene
  rintro ds M P ⟨p, sc, de, G, cur, n, rfl, co, hP⟩
  refine ⟨rfl, ?_⟩
  obtain ⟨l, hl, _⟩ := co.s
  exact d_self rfl co.p co_s (neg_int (ix_lst hl atI_last hP))
theorem scene_call {M : Mem} {p sc de : Addr} {G cur : D} {n : Nat} {P : DVK} (co : CoAt M p sc de G cur n) (hP : P cur M) : sp_Company_scene [.ref p] M P := by unfold sp_Company_scene; exact ⟨p, sc, de, G, cur, n, rfl, co, hP⟩
@[irreducible] def sp_Company_log : DSp := fun ds M P => ∃ (p sc de : Addr) (G cur : D) (n : Nat), ds = [.ref p] ∧ CoAt M p sc de G cur n ∧ ∀ (q : Addr) (l : List D) M', M q = none → M' q = some (.lst l) → l.length = n → Ext M M' → P (.ref q) M'
def N_Company_log : List Str := ["self"]
def t_Company_log : DTS := (dRet (dCallB rList (daCons (dFld "Company" "deeds" (dVar 0)) (daNil))))
theorem pure_Company_log : Pure N_Company_log ["self"] sp_Company_log t_Company_log := by
  unfold sp_Company_log
  rintro ds M P ⟨p, sc, de, G, cur, n, rfl, co, hP⟩
  refine ⟨rfl, ?_⟩
  obtain ⟨l, hl, hn⟩ := co.d
  exact d_self rfl co.p co_d (list_of (lstAt_of hl) fun q hq => hP q l _ hq up_same hn (Ext.new hq))
theorem log_call {M : Mem} {p sc de : Addr} {G cur : D} {n : Nat} {P : DVK} (co : CoAt M p sc de G cur n) (hP : ∀ (q : Addr) (l : List D) M', M q = none → M' q = some (.lst l) → l.length = n → Ext M M' → P (.ref q) M') : sp_Company_log [.ref p] M P := by unfold sp_Company_log; exact ⟨p, sc, de, G, cur, n, rfl, co, hP⟩
@[irreducible] def sp_Company_note : DSp := fun ds M P => ∃ (p sc de : Addr) (G cur dd new : D) (n : Nat), ds = [.ref p, dd, new] ∧ n ≤ 500 ∧ CoAt M p sc de G cur n ∧ ∀ M', CoAt M' p sc de G new (n + 1) → Fr [sc, de] M M' → P .non M'
def N_Company_note : List Str := ["self", "deed", "scene"]
def t_Company_note : DTS := (dSeq (dDrop (dBM "list" rAppend (dFld "Company" "deeds" (dVar 0)) (daCons (dVar 1) (daNil)))) (dDrop (dBM "list" rAppend (dFld "Company" "scenes" (dVar 0)) (daCons (dVar 2) (daNil)))))
theorem pure_Company_note : Pure N_Company_note ["self", "deed", "scene"] sp_Company_note t_Company_note := by
  unfold sp_Company_note
  rintro ds M P ⟨p, sc, de, G, cur, dd, new, n, rfl, hn, co, hP⟩
  refine ⟨rfl, ?_⟩
  obtain ⟨l, hl, h1⟩ := co.s
  obtain ⟨k, hk, h2⟩ := co.d
  refine d_self rfl co.p co_d ⟨ty_lst hk, append_lst hk (smallZ (by omega)) ?_⟩
  have hp1 : up M de (.lst (k ++ [dd])) p = some (.ins "Company" (coF G sc de)) := by rw [up_ne co.pd]; exact co.p
  have hs1 : up M de (.lst (k ++ [dd])) sc = some (.lst (l ++ [cur])) := by rw [up_ne co.ne]; exact hl
  refine d_self rfl hp1 co_s ⟨ty_lst hs1, append_lst hs1 (smallZ (by rw [List.length_append, List.length_singleton]; omega)) ?_⟩
  refine hP _ ⟨by rw [up_ne co.ps]; exact hp1, ⟨l ++ [cur], up_same, by rw [List.length_append, List.length_singleton]; omega⟩, ⟨k ++ [dd], by rw [up_ne co.ne.symm, up_same], by rw [List.length_append, List.length_singleton]; omega⟩, co.ne⟩ ((Fr.wr (by simp)).trans (Fr.wr (by simp)))
theorem note_call {M : Mem} {p sc de : Addr} {G cur dd new : D} {n : Nat} {P : DVK} (hn : n ≤ 500) (co : CoAt M p sc de G cur n) (hP : ∀ M', CoAt M' p sc de G new (n + 1) → Fr [sc, de] M M' → P .non M') : sp_Company_note [.ref p, dd, new] M P := by unfold sp_Company_note; exact ⟨p, sc, de, G, cur, dd, new, n, rfl, hn, co, hP⟩
/-! ### place_of -/
theorem nm_s1 : ("scene" : Str) ≠ "own_yard" := by decide +kernel
theorem nm_s2 : ("scene" : Str) ≠ "scenes" := by decide +kernel
theorem nm_s3 : ("scene" : Str) ≠ "deeds" := by decide +kernel
theorem nm_n1 : ("note" : Str) ≠ "own_yard" := by decide +kernel
theorem nm_n2 : ("note" : Str) ≠ "scenes" := by decide +kernel
theorem nm_n3 : ("note" : Str) ≠ "deeds" := by decide +kernel
@[irreducible] def sp_Company_place_of : DSp := fun ds M P => ∃ (p sc de : Addr) (G : D) (names : List Str) (homes : List Int) (stand : List Str) (f : Cf) (n i : Nat) (x : Str), ds = [.ref p, .int i] ∧ CoAt M p sc de G (sceneD names homes stand f) n ∧ stand[i]? = some x ∧ P (.str x) M
def N_Company_place_of : List Str := ["self", "traveller", "standing"]
def t_Company_place_of : DTS := (dSeq (dAsg (dOp rIxA (dMeth "Company" "scene" sp_Company_scene [] (dVar 0) daNil) (dC (.int 1))) (gN 2)) (dSeq (dIfS (dNot (dTest (dChain rLe rLt (dC (.int 0)) (dVar 1) (dCallB rLen (daCons (dVar 2) (daNil)))))) (dNever) (dNext)) (dRet (dOp rIxA (dVar 2) (dVar 1)))))
theorem pure_Company_place_of : Pure N_Company_place_of ["self", "traveller"] sp_Company_place_of t_Company_place_of := by
  unfold sp_Company_place_of
  rintro ds M P ⟨p, sc, de, G, names, homes, stand, f, n, i, x, rfl, co, hx, hP⟩
  refine ⟨rfl, ?_⟩
  have hi := (List.getElem?_eq_some_iff.mp hx).1
  refine ins_at co.p ⟨rfl, co_no nm_s1 nm_s2 nm_s3, scene_call co ?_⟩
  refine ix_tup (xs := [.tup (homes.map D.int), .tup (stand.map D.str), .tup (lay names f)]) (d := .tup (stand.map D.str)) rfl ?_
  refine le_int ?_
  refine len_tup ?_
  refine lt_int ?_
  rw [decide_eq_true (show (i : Int) < ((stand.map D.str).length : Int) by rw [List.length_map]; omega)]
  exact ix_tup (xs := stand.map D.str) (d := .str x) (atI_nat (by rw [List.getElem?_map, hx]; rfl)) hP
theorem place_of_call {M : Mem} {p sc de : Addr} {G : D} {names : List Str} {homes : List Int} {stand : List Str} {f : Cf} {n i : Nat} {x : Str} {P : DVK} (co : CoAt M p sc de G (sceneD names homes stand f) n) (hx : stand[i]? = some x) (hP : P (.str x) M) : sp_Company_place_of [.ref p, .int i] M P := by unfold sp_Company_place_of; exact ⟨p, sc, de, G, names, homes, stand, f, n, i, x, rfl, co, hx, hP⟩
end EW

set_option maxRecDepth 100000
set_option maxHeartbeats 4000000
/-! EwCo2: deeds of a company. -/
namespace EW
open PySem PySem.Spec PyProof.Rows L2
section
theorem set_mid {xs : List Int} {j : Nat} (h : j < xs.length) : (xs.map D.int).take j ++ [.int (xs.getD j 0 + 1)] ++ (xs.map D.int).drop (j + 1) = (xs.set j (xs.getD j 0 + 1)).map D.int := by
  rw [set_take_drop (by rw [List.length_map]; exact h), ← List.map_set]
end
@[irreducible] def sp_Company_join : DSp := fun ds M P => ∃ (p sc de : Addr) (names : List Str) (paths : List Pr) (homes : List Int) (stand : List Str) (f : Cf) (n : Nat) (x : Str), ds = [.ref p, .str x] ∧ n ≤ 500 ∧ Names names ∧ names.length ≤ 12 ∧ x ∈ names ∧ stand.length < 6 ∧ homes.length = names.length ∧ CoAt M p sc de (groundD names paths) (sceneD names homes stand f) n ∧
  ∀ (r : D) M', CoAt M' p sc de (groundD names paths) (sceneD names (homes.set (names.idxOf x) (homes.getD (names.idxOf x) 0 + 1)) (stand ++ [x]) f) (n + 1) → Fr [sc, de] M M' → P r M'
def N_Company_join : List Str := ["self", "place", "homes", "standing", "crumbs", "index"]
def t_Company_join : DTS := (dSeq (dDrop (dCall sp_require_place [] (daCons (dFld "Company" "own_yard" (dVar 0)) (daCons (dVar 1) (daNil))))) (dSeq (dAsg (dMeth "Company" "scene" sp_Company_scene [] (dVar 0) daNil) (gTn 3 (gsCons (gN 2) (gsCons (gN 3) (gsCons (gN 4) (gsNil)))))) (dSeq (dIfS (dTest (dOp (rEqs false) (dCallB rLen (daCons (dVar 3) (daNil))) (dC (.int (6))))) (dNever) (dNext)) (dSeq (dAsg (dTidx (dOp rIxA (dFld "Company" "own_yard" (dVar 0)) (dC (.int 0))) (dVar 1)) (gN 5)) (dSeq (dAsg (dOp rAdd (dOp rAdd (dSl rSlD (dVar 2) (dNoPart) (dPart (dVar 5))) (dTup (daCons (dOp rAdd (dOp rIxA (dVar 2) (dVar 5)) (dC (.int 1))) (daNil)))) (dSl rSlD (dVar 2) (dPart (dOp rAdd (dVar 5) (dC (.int 1)))) (dNoPart))) (gN 2)) (dSeq (dDrop (dMeth "Company" "note" sp_Company_note [] (dVar 0) (daCons (dTup (daCons (dC (.str "join")) (daCons (dVar 1) (daNil)))) (daCons (dTup (daCons (dVar 2) (daCons (dOp rAdd (dVar 3) (dTup (daCons (dVar 1) (daNil)))) (daCons (dVar 4) (daNil))))) (daNil))))) (dRet (dCallB rLen (daCons (dVar 3) (daNil))))))))))
theorem pure_Company_join : Pure N_Company_join ["self", "place"] sp_Company_join t_Company_join := by
  unfold sp_Company_join
  rintro ds M P ⟨p, sc, de, names, paths, homes, stand, f, n, x, rfl, hn, nm, n2, hx, hst, hh, co, hP⟩
  refine ⟨rfl, ?_⟩
  obtain ⟨j1, j2, j3⟩ := idx_first hx
  have hj : names.idxOf x < homes.length := by omega
  refine d_self rfl co.p co_y (require_place_call nm hx ?_)
  refine ins_at co.p ⟨rfl, co_no nm_s1 nm_s2 nm_s3, scene_call co ⟨rfl, ?_⟩⟩
  refine len_tup (eq_int (ite_tf (fun e => ?_) (fun _ => ?_)))
  · have e' : (((stand.map D.str).length : Int) == 6) = true := e
    rw [List.length_map] at e'
    have : (stand.length : Int) = 6 := by simpa using e'
    omega
  refine d_self rfl co.p co_y (ix_tup (xs := [.ft (names.map D.str), .tup (paths.map pD)]) (d := .ft (names.map D.str)) rfl ⟨names, x, _, rfl, rfl, j1, j2, ?_⟩)
  refine sl_tup' ?_
  rw [cutD_take (by rw [List.length_map]; omega)]
  refine ix_tup (xs := homes.map D.int) (d := .int (homes.getD (names.idxOf x) 0)) (atI_nat (by rw [List.getElem?_map, List.getD_eq_getElem?_getD, List.getElem?_eq_getElem hj]; rfl)) (add_int (add_tup (by rw [sizeLine_eq, List.length_take, List.length_map]; simp; omega) (add_int (sl_tup' ?_))))
  rw [show (((names.idxOf x : Nat) : Int) + 1) = ((names.idxOf x + 1 : Nat) : Int) by omega, cutD_drop (by rw [List.length_map]; omega)]
  refine add_tup (by rw [sizeLine_eq, List.length_append, List.length_take, List.length_drop, List.length_map]; simp; omega) ?_
  rw [set_mid hj]
  refine ins_at co.p ⟨rfl, co_no nm_n1 nm_n2 nm_n3, ?_⟩
  refine add_tup (by rw [sizeLine_eq, List.length_map]; simp; omega) ?_
  rw [show stand.map D.str ++ [D.str x] = (stand ++ [x]).map D.str by rw [List.map_append]; rfl]
  exact note_call (new := sceneD names (homes.set (names.idxOf x) (homes.getD (names.idxOf x) 0 + 1)) (stand ++ [x]) f) hn co fun M' k1 k2 => len_tup (hP _ M' k1 k2)
theorem join_call {M : Mem} {p sc de : Addr} {names : List Str} {paths : List Pr} {homes : List Int} {stand : List Str} {f : Cf} {n : Nat} {x : Str} {P : DVK} (hn : n ≤ 500) (nm : Names names) (n2 : names.length ≤ 12) (hx : x ∈ names) (hst : stand.length < 6) (hh : homes.length = names.length) (co : CoAt M p sc de (groundD names paths) (sceneD names homes stand f) n)
    (hP : ∀ (r : D) M', CoAt M' p sc de (groundD names paths) (sceneD names (homes.set (names.idxOf x) (homes.getD (names.idxOf x) 0 + 1)) (stand ++ [x]) f) (n + 1) → Fr [sc, de] M M' → P r M') : sp_Company_join [.ref p, .str x] M P := by unfold sp_Company_join; exact ⟨p, sc, de, names, paths, homes, stand, f, n, x, rfl, hn, nm, n2, hx, hst, hh, co, hP⟩
/-! ### go -/
theorem nm_p1 : ("place_of" : Str) ≠ "own_yard" := by decide +kernel
theorem nm_p2 : ("place_of" : Str) ≠ "scenes" := by decide +kernel
theorem nm_p3 : ("place_of" : Str) ≠ "deeds" := by decide +kernel
@[irreducible] def sp_Company_go : DSp := fun ds M P => ∃ (p sc de : Addr) (names : List Str) (paths : List Pr) (homes : List Int) (s : Sc) (n i : Nat) (x : Str), ds = [.ref p, .int i, .str x] ∧ n ≤ 500 ∧ Ground names paths ∧ Ok names s ∧ i < s.stand.length ∧ (s.at i, x) ∈ paths ∧ tot names s.f ≠ 48 ∧ CoAt M p sc de (groundD names paths) (scD names homes s) n ∧
  ∀ (r : D) M', CoAt M' p sc de (groundD names paths) (sceneD names homes (s.stand.set i x) (bump s.f x (s.at i) 1)) (n + 1) → Fr [sc, de] M M' → P r M'
def N_Company_go : List Str := ["self", "traveller", "place", "here", "homes", "standing", "crumbs"]
def t_Company_go : DTS := (dSeq (dAsg (dMeth "Company" "place_of" sp_Company_place_of [] (dVar 0) (daCons (dVar 1) (daNil))) (gN 3)) (dSeq (dDrop (dCall sp_require_place [] (daCons (dFld "Company" "own_yard" (dVar 0)) (daCons (dVar 2) (daNil))))) (dSeq (dIfS (dTest (dOp (rIn true) (dTup (daCons (dVar 3) (daCons (dVar 2) (daNil)))) (dOp rIxA (dFld "Company" "own_yard" (dVar 0)) (dC (.int 1))))) (dNever) (dNext)) (dSeq (dAsg (dMeth "Company" "scene" sp_Company_scene [] (dVar 0) daNil) (gTn 3 (gsCons (gN 4) (gsCons (gN 5) (gsCons (gN 6) (gsNil)))))) (dSeq (dIfS (dTest (dOp (rEqs false) (dCall sp_crumb_total [] (daCons (dMeth "Company" "scene" sp_Company_scene [] (dVar 0) daNil) (daNil))) (dC (.int (48))))) (dNever) (dNext)) (dSeq (dAsg (dCall sp_changed_crumbs [] (daCons (dFld "Company" "own_yard" (dVar 0)) (daCons (dVar 6) (daCons (dTup (daCons (dVar 2) (daCons (dVar 3) (daNil)))) (daCons (dC (.int 1)) (daNil)))))) (gN 6)) (dDrop (dMeth "Company" "note" sp_Company_note [] (dVar 0) (daCons (dTup (daCons (dC (.str "go")) (daCons (dVar 1) (daCons (dVar 2) (daNil))))) (daCons (dTup (daCons (dVar 4) (daCons (dCall sp_moved [] (daCons (dVar 5) (daCons (dVar 1) (daCons (dVar 2) (daNil))))) (daCons (dVar 6) (daNil))))) (daNil)))))))))))
theorem pure_Company_go : Pure N_Company_go ["self", "traveller", "place"] sp_Company_go t_Company_go := by
  unfold sp_Company_go
  rintro ds M P ⟨p, sc, de, names, paths, homes, s, n, i, x, rfl, hn, G, o, hi, hpx, htot, co, hP⟩
  refine ⟨rfl, ?_⟩
  obtain ⟨hm1, hm2, _⟩ := mem_prs.mp (G.sub _ hpx)
  refine ins_at co.p ⟨rfl, co_no nm_p1 nm_p2 nm_p3, place_of_call (stand := s.stand) co (Sc.at_get hi) ?_⟩
  refine d_self rfl co.p co_y (require_place_call G.nm hm2 ?_)
  refine d_self rfl co.p co_y (ix_tup (xs := [.ft (names.map D.str), .tup (paths.map pD)]) (d := .tup (paths.map pD)) rfl (in_tup (x := pD (s.at i, x)) (pD_ok G.nm hm1 hm2) (pDs_ok G.nm fun q hq => ⟨(mem_prs.mp (G.sub q hq)).1, (mem_prs.mp (G.sub q hq)).2.1⟩) ?_))
  rw [any_pD, decide_eq_true hpx]
  refine ins_at co.p ⟨rfl, co_no nm_s1 nm_s2 nm_s3, scene_call co ⟨rfl, ?_⟩⟩
  refine ins_at co.p ⟨rfl, co_no nm_s1 nm_s2 nm_s3, scene_call co (crumb_total_call (homes := homes) (stand := s.stand) (f := s.f) G.hi fun M1 e1 => eq_int (ite_tf (fun e => ?_) (fun _ => ?_)))⟩
  · exact absurd (show tot names s.f = 48 by simpa [nb] using e) htot
  have co1 := co.ext e1
  refine d_self rfl co1.p co_y (changed_call (f := s.f) G.nm.nd G.hi hm2 hm1 o.nn fun M2 e2 => ?_)
  have co2 := co1.ext e2
  refine ins_at co2.p ⟨rfl, co_no nm_n1 nm_n2 nm_n3, ?_⟩
  refine moved_call hi (by have := o.sl; omega) ?_
  exact note_call (new := sceneD names homes (s.stand.set i x) (bump s.f x (s.at i) 1)) hn co2 fun M' k1 k2 => hP _ M' k1 ((e1.trans e2).fr.trans k2)
theorem go_call {M : Mem} {p sc de : Addr} {names : List Str} {paths : List Pr} {homes : List Int} {s : Sc} {n i : Nat} {x : Str} {P : DVK} (hn : n ≤ 500) (G : Ground names paths) (o : Ok names s) (hi : i < s.stand.length) (hpx : (s.at i, x) ∈ paths) (htot : tot names s.f ≠ 48) (co : CoAt M p sc de (groundD names paths) (scD names homes s) n)
    (hP : ∀ (r : D) M', CoAt M' p sc de (groundD names paths) (sceneD names homes (s.stand.set i x) (bump s.f x (s.at i) 1)) (n + 1) → Fr [sc, de] M M' → P r M') : sp_Company_go [.ref p, .int i, .str x] M P := by unfold sp_Company_go; exact ⟨p, sc, de, names, paths, homes, s, n, i, x, rfl, hn, G, o, hi, hpx, htot, co, hP⟩
/-! ### back -/
@[irreducible] def sp_Company_back : DSp := fun ds M P => ∃ (p sc de : Addr) (names : List Str) (paths : List Pr) (homes : List Int) (s : Sc) (n : Nat) (m : Mv), ds = [.ref p, .int m.1, .str m.2] ∧ n ≤ 500 ∧ Ground names paths ∧ Ok names s ∧ s.can m ∧ CoAt M p sc de (groundD names paths) (scD names homes s) n ∧
  ∀ (r : D) M', CoAt M' p sc de (groundD names paths) (scD names homes (s.mv m)) (n + 1) → Fr [sc, de] M M' → P r M'
def N_Company_back : List Str := ["self", "traveller", "place", "scene"]
def t_Company_back : DTS := (dSeq (dDrop (dMeth "Company" "place_of" sp_Company_place_of [] (dVar 0) (daCons (dVar 1) (daNil)))) (dSeq (dDrop (dCall sp_require_place [] (daCons (dFld "Company" "own_yard" (dVar 0)) (daCons (dVar 2) (daNil))))) (dSeq (dAsg (dCall sp_make_moves [] (daCons (dFld "Company" "own_yard" (dVar 0)) (daCons (dMeth "Company" "scene" sp_Company_scene [] (dVar 0) daNil) (daCons (dLst (daCons (dTup (daCons (dVar 1) (daCons (dVar 2) (daNil)))) (daNil))) (daNil))))) (gN 3)) (dDrop (dMeth "Company" "note" sp_Company_note [] (dVar 0) (daCons (dTup (daCons (dC (.str "back")) (daCons (dVar 1) (daCons (dVar 2) (daNil))))) (daCons (dVar 3) (daNil))))))))
theorem pure_Company_back : Pure N_Company_back ["self", "traveller", "place"] sp_Company_back t_Company_back := by
  unfold sp_Company_back
  rintro ds M P ⟨p, sc, de, names, paths, homes, s, n, m, rfl, hn, G, o, hc, co, hP⟩
  refine ⟨rfl, ?_⟩
  have hm := o.nm _ _ hc.2
  refine ins_at co.p ⟨rfl, co_no nm_p1 nm_p2 nm_p3, place_of_call (stand := s.stand) co (Sc.at_get hc.1) ?_⟩
  refine d_self rfl co.p co_y (require_place_call G.nm hm.2 ?_)
  refine d_self rfl co.p co_y ?_
  refine ins_at co.p ⟨rfl, co_no nm_s1 nm_s2 nm_s3, scene_call co fun q hq => ?_⟩
  have e1 := Ext.new (o := .lst [mvD m]) hq
  refine make_moves_call (s := s) (homes := homes) (d := .ref q) (ms := [m]) G.nm G.hi o (lstAt_of up_same) ⟨hc, trivial⟩ fun M2 e2 => ?_
  have co2 := (co.ext e1).ext e2
  refine ins_at co2.p ⟨rfl, co_no nm_n1 nm_n2 nm_n3, ?_⟩
  exact note_call (new := scD names homes (s.mv m)) hn co2 fun M' k1 k2 => hP _ M' k1 ((e1.trans e2).fr.trans k2)
theorem back_call {M : Mem} {p sc de : Addr} {names : List Str} {paths : List Pr} {homes : List Int} {s : Sc} {n : Nat} {m : Mv} {P : DVK} (hn : n ≤ 500) (G : Ground names paths) (o : Ok names s) (hc : s.can m) (co : CoAt M p sc de (groundD names paths) (scD names homes s) n)
    (hP : ∀ (r : D) M', CoAt M' p sc de (groundD names paths) (scD names homes (s.mv m)) (n + 1) → Fr [sc, de] M M' → P r M') : sp_Company_back [.ref p, .int m.1, .str m.2] M P := by unfold sp_Company_back; exact ⟨p, sc, de, names, paths, homes, s, n, m, rfl, hn, G, o, hc, co, hP⟩
/-! ### make, is_made -/
def Sta.sc (S : Sta) : Sc := ⟨S.stand, cnt S.kvs⟩
def viewD (names : List Str) (S : Sta) : D := sceneD names S.homes S.stand (cnt S.kvs)
/-- a deed that the company makes -/
def Sta.doable (names : List Str) (paths : List Pr) (S : Sta) : Deed → Prop
  | .join x => x ∈ names ∧ S.stand.length < 6
  | .go i x => i < S.stand.length ∧ (S.at i, x) ∈ paths ∧ tot names (cnt S.kvs) ≠ 48
  | .back i x => i < S.stand.length ∧ 0 < cnt S.kvs (S.at i) x
theorem Wf.ok {names : List Str} {S : Sta} (w : Wf names S) : Ok names S.sc := ⟨w.st, w.sl, fun x y => w.nn x y, fun x y h => w.inN h⟩
theorem cnt_bump (kvs : Kvs) (a b : Str) (v : Int) : cnt (putD kvs (kk a b) (.int (cnt kvs a b + v))) = bump (cnt kvs) a b v := by
  funext x y
  rw [cnt_put]
  unfold bump
  by_cases h : x = a ∧ y = b
  · rw [if_pos ⟨h.1.symm, h.2.symm⟩, if_pos h, h.1, h.2]
  · rw [if_neg (fun e => h ⟨e.1.symm, e.2.symm⟩), if_neg h]
theorem view_back (names : List Str) (S : Sta) (m : Mv) : viewD names (S.after names (back m)) = scD names S.homes (S.sc.mv m) := by
  show sceneD names S.homes (S.stand.set m.1 m.2) (cnt (putD S.kvs (kk (S.at m.1) m.2) (.int (cnt S.kvs (S.at m.1) m.2 - 1)))) = sceneD names S.homes (S.stand.set m.1 m.2) (bump (cnt S.kvs) (S.at m.1) m.2 (-1))
  rw [show cnt S.kvs (S.at m.1) m.2 - 1 = cnt S.kvs (S.at m.1) m.2 + (-1) by omega, cnt_bump]
theorem sc_back (names : List Str) (S : Sta) (m : Mv) : (S.after names (back m)).sc = S.sc.mv m := by
  show Sc.mk (S.stand.set m.1 m.2) (cnt (putD S.kvs (kk (S.at m.1) m.2) (.int (cnt S.kvs (S.at m.1) m.2 - 1)))) = Sc.mk (S.stand.set m.1 m.2) (bump (cnt S.kvs) (S.at m.1) m.2 (-1))
  rw [show cnt S.kvs (S.at m.1) m.2 - 1 = cnt S.kvs (S.at m.1) m.2 + (-1) by omega, cnt_bump]
theorem view_go (names : List Str) (S : Sta) (i : Nat) (x : Str) : viewD names (S.after names (.go i x)) = sceneD names S.homes (S.stand.set i x) (bump (cnt S.kvs) x (S.at i) 1) := by
  show sceneD names S.homes (S.stand.set i x) (cnt (putD S.kvs (kk x (S.at i)) (.int (cnt S.kvs x (S.at i) + 1)))) = _
  rw [cnt_bump]
@[irreducible] def sp_Company_make : DSp := fun ds M P => ∃ (p sc de : Addr) (names : List Str) (paths : List Pr) (S : Sta) (n : Nat) (d : Deed), ds = [.ref p, deedD d] ∧ n ≤ 500 ∧ Ground names paths ∧ Wf names S ∧ S.doable names paths d ∧ CoAt M p sc de (groundD names paths) (viewD names S) n ∧
  ∀ (r : D) M', CoAt M' p sc de (groundD names paths) (viewD names (S.after names d)) (n + 1) → Fr [sc, de] M M' → P r M'
def N_Company_make : List Str := ["self", "deed", "word", "things"]
def t_Company_make : DTS := (dSeq (dAsg (dVar 1) (gStar 1 (gsCons (gN 2) (gsCons (gN 3) (gsNil))))) (dIfS (dTest (dOp (rEqs false) (dVar 2) (dC (.str "join")))) (dDrop (dMeth "Company" "join" sp_Company_join [] (dVar 0) (daCons (dOp rIxA (dVar 3) (dC (.int 0))) (daNil)))) (dIfS (dTest (dOp (rEqs false) (dVar 2) (dC (.str "go")))) (dDrop (dMeth "Company" "go" sp_Company_go [] (dVar 0) (daCons (dOp rIxA (dVar 3) (dC (.int 0))) (daCons (dOp rIxA (dVar 3) (dC (.int 1))) (daNil))))) (dDrop (dMeth "Company" "back" sp_Company_back [] (dVar 0) (daCons (dOp rIxA (dVar 3) (dC (.int 0))) (daCons (dOp rIxA (dVar 3) (dC (.int 1))) (daNil))))))))
theorem nm_j1 : ("join" : Str) ≠ "own_yard" := by decide +kernel
theorem nm_j2 : ("join" : Str) ≠ "scenes" := by decide +kernel
theorem nm_j3 : ("join" : Str) ≠ "deeds" := by decide +kernel
theorem nm_g1 : ("go" : Str) ≠ "own_yard" := by decide +kernel
theorem nm_g2 : ("go" : Str) ≠ "scenes" := by decide +kernel
theorem nm_g3 : ("go" : Str) ≠ "deeds" := by decide +kernel
theorem nm_b1 : ("back" : Str) ≠ "own_yard" := by decide +kernel
theorem nm_b2 : ("back" : Str) ≠ "scenes" := by decide +kernel
theorem nm_b3 : ("back" : Str) ≠ "deeds" := by decide +kernel
theorem pure_Company_make : Pure N_Company_make ["self", "deed"] sp_Company_make t_Company_make := by
  unfold sp_Company_make
  rintro ds M P ⟨p, sc, de, names, paths, S, n, d, rfl, hn, G, w, hd, co, hP⟩
  refine ⟨rfl, ?_⟩
  cases d with
  | join x =>
    obtain ⟨h1, h2⟩ := hd
    refine ⟨by simp, by simp, fun q hq => ?_⟩
    have e1 := Ext.new (o := .lst [.str x]) hq
    have hq1 := up_same (M := M) (a := q) (o := .lst [.str x])
    have co1 := co.ext e1
    refine eq_str ?_
    refine ins_at co1.p ⟨rfl, co_no nm_j1 nm_j2 nm_j3, ?_⟩
    refine ix_lst hq1 (d := .str x) rfl ?_
    exact join_call hn G.nm G.hi h1 h2 w.hl co1 fun r M' k1 k2 => hP _ M' k1 (e1.fr.trans k2)
  | go i x =>
    obtain ⟨h1, h2, h3⟩ := hd
    refine ⟨by simp, by simp, fun q hq => ?_⟩
    have e1 := Ext.new (o := .lst [.int i, .str x]) hq
    have hq1 := up_same (M := M) (a := q) (o := .lst [.int i, .str x])
    have co1 := co.ext e1
    refine eq_str ?_
    refine eq_str ?_
    refine ins_at co1.p ⟨rfl, co_no nm_g1 nm_g2 nm_g3, ?_⟩
    refine ix_lst hq1 (d := .int i) rfl (ix_lst hq1 (d := .str x) rfl ?_)
    exact go_call (s := S.sc) (homes := S.homes) hn G w.ok h1 h2 h3 co1 fun r M' k1 k2 => hP _ M' (by rw [view_go]; exact k1) (e1.fr.trans k2)
  | back i x =>
    refine ⟨by simp, by simp, fun q hq => ?_⟩
    have e1 := Ext.new (o := .lst [.int i, .str x]) hq
    have hq1 := up_same (M := M) (a := q) (o := .lst [.int i, .str x])
    have co1 := co.ext e1
    refine eq_str ?_
    refine eq_str ?_
    refine ins_at co1.p ⟨rfl, co_no nm_b1 nm_b2 nm_b3, ?_⟩
    refine ix_lst hq1 (d := .int i) rfl (ix_lst hq1 (d := .str x) rfl ?_)
    exact back_call (s := S.sc) (homes := S.homes) (m := (i, x)) hn G w.ok hd co1 fun r M' k1 k2 => hP _ M' (by rw [show Deed.back i x = back (i, x) from rfl, view_back]; exact k1) (e1.fr.trans k2)
theorem cmake_call {M : Mem} {p sc de : Addr} {names : List Str} {paths : List Pr} {S : Sta} {n : Nat} {d : Deed} {P : DVK} (hn : n ≤ 500) (G : Ground names paths) (w : Wf names S) (hd : S.doable names paths d) (co : CoAt M p sc de (groundD names paths) (viewD names S) n)
    (hP : ∀ (r : D) M', CoAt M' p sc de (groundD names paths) (viewD names (S.after names d)) (n + 1) → Fr [sc, de] M M' → P r M') : sp_Company_make [.ref p, deedD d] M P := by unfold sp_Company_make; exact ⟨p, sc, de, names, paths, S, n, d, rfl, hn, G, w, hd, co, hP⟩
@[irreducible] def sp_Company_is_made : DSp := fun ds M P => ∃ (p sc de : Addr) (names : List Str) (paths : List Pr) (S : Sta) (n : Nat) (d : Deed), ds = [.ref p, deedD d] ∧ n ≤ 500 ∧ Ground names paths ∧ Wf names S ∧ S.doable names paths d ∧ CoAt M p sc de (groundD names paths) (viewD names S) n ∧
  ∀ M', CoAt M' p sc de (groundD names paths) (viewD names (S.after names d)) (n + 1) → Fr [sc, de] M M' → P (.bl true) M'
def N_Company_is_made : List Str := ["self", "value"]
def t_Company_is_made : DTS := (dSeq (dIfS (dNot (dTest (dCall sp_has_form_company [] (daCons (dVar 1) (daNil))))) (dRet (dC (.bl false))) (dNext)) (dSeq (dDrop (dMeth "Company" "make" sp_Company_make [] (dVar 0) (daCons (dVar 1) (daNil)))) (dRet (dC (.bl true)))))
theorem nm_m1 : ("make" : Str) ≠ "own_yard" := by decide +kernel
theorem nm_m2 : ("make" : Str) ≠ "scenes" := by decide +kernel
theorem nm_m3 : ("make" : Str) ≠ "deeds" := by decide +kernel
theorem pure_Company_is_made : Pure N_Company_is_made ["self", "value"] sp_Company_is_made t_Company_is_made := by
  unfold sp_Company_is_made
  rintro ds M P ⟨p, sc, de, names, paths, S, n, d, rfl, hn, G, w, hd, co, hP⟩
  refine ⟨rfl, ?_⟩
  refine has_form_company_call fun M1 e1 => ?_
  have co1 := co.ext e1
  refine ins_at co1.p ⟨rfl, co_no nm_m1 nm_m2 nm_m3, ?_⟩
  exact cmake_call hn G w hd co1 fun r M' k1 k2 => hP M' k1 (e1.fr.trans k2)
theorem is_made_call {M : Mem} {p sc de : Addr} {names : List Str} {paths : List Pr} {S : Sta} {n : Nat} {d : Deed} {P : DVK} (hn : n ≤ 500) (G : Ground names paths) (w : Wf names S) (hd : S.doable names paths d) (co : CoAt M p sc de (groundD names paths) (viewD names S) n)
    (hP : ∀ M', CoAt M' p sc de (groundD names paths) (viewD names (S.after names d)) (n + 1) → Fr [sc, de] M M' → P (.bl true) M') : sp_Company_is_made [.ref p, deedD d] M P := by unfold sp_Company_is_made; exact ⟨p, sc, de, names, paths, S, n, d, rfl, hn, G, w, hd, co, hP⟩
end EW

set_option maxRecDepth 100000
set_option maxHeartbeats 4000000
/-! EwCo3: several, copied, ==; moves that commute. -/
namespace EW
open PySem PySem.Spec PyProof.Rows L2
def Sta.doesAll (names : List Str) (paths : List Pr) : Sta → List Deed → Prop
  | _, [] => True
  | S, d :: ds => S.doable names paths d ∧ Sta.doesAll names paths (S.after names d) ds
def Sta.all (names : List Str) (S : Sta) (ds : List Deed) : Sta := ds.foldl (fun S d => S.after names d) S
theorem Sta.doable_may {names : List Str} {paths : List Pr} {S : Sta} {d : Deed} (hp : ∀ p ∈ paths, p ∈ prs names) (h : S.doable names paths d) : S.may names d := by
  cases d with
  | join x => exact h
  | go i x => exact ⟨h.1, (mem_prs.mp (hp _ h.2.1)).2.1⟩
  | back i x => exact h
theorem doesAll_app {names : List Str} {paths : List Pr} : ∀ {ds es : List Deed} {S : Sta}, S.doesAll names paths (ds ++ es) ↔ S.doesAll names paths ds ∧ (S.all names ds).doesAll names paths es
  | [], es, S => by simp [Sta.doesAll, Sta.all]
  | d :: ds, es, S => by
    show S.doable names paths d ∧ (S.after names d).doesAll names paths (ds ++ es) ↔ (S.doable names paths d ∧ (S.after names d).doesAll names paths ds) ∧ ((S.after names d).all names ds).doesAll names paths es
    rw [doesAll_app, and_assoc]
theorem all_app (names : List Str) (S : Sta) (ds es : List Deed) : S.all names (ds ++ es) = (S.all names ds).all names es := by unfold Sta.all; rw [List.foldl_append]
theorem Wf.all {names : List Str} {paths : List Pr} (hp : ∀ p ∈ paths, p ∈ prs names) : ∀ {ds : List Deed} {S : Sta}, Wf names S → S.doesAll names paths ds → Wf names (S.all names ds)
  | [], _, w, _ => w
  | d :: ds, S, w, h => Wf.all hp (ds := ds) (w.after (Sta.doable_may hp h.1)) h.2
@[irreducible] def sp_Company_several : DSp := fun ds M P => ∃ (p sc de q : Addr) (names : List Str) (paths : List Pr) (S : Sta) (n : Nat) (es : List Deed), ds = [.ref p, .ref q, .bl true] ∧ n + es.length ≤ 500 ∧ Ground names paths ∧ Wf names S ∧ S.doesAll names paths es ∧ CoAt M p sc de (groundD names paths) (viewD names S) n ∧
  M q = some (.lst (es.map deedD)) ∧ q ∉ [sc, de] ∧ ∀ (r : D) M', CoAt M' p sc de (groundD names paths) (viewD names (S.all names es)) (n + es.length) → Fr [sc, de] M M' → P r M'
def N_Company_several : List Str := ["self", "deeds", "whole", "many", "index", "deed"]
def t_Company_several : DTS := (dSeq (dAsg (dCallB rLen (daCons (dFld "Company" "deeds" (dVar 0)) (daNil))) (gN 3)) (dSeq (dFor (diEnum (dVar 1)) (gTn 2 (gsCons (gN 4) (gsCons (gN 5) (gsNil)))) (dIfS (dNot (dTest (dMeth "Company" "is_made" sp_Company_is_made [] (dVar 0) (daCons (dVar 5) (daNil))))) (dSeq (dIfS (dTest (dVar 2)) (dSeq (dSetF "Company" "deeds" (dVar 0) (dSl rSlD (dFld "Company" "deeds" (dVar 0)) (dNoPart) (dPart (dVar 3)))) (dSetF "Company" "scenes" (dVar 0) (dSl rSlD (dFld "Company" "scenes" (dVar 0)) (dNoPart) (dPart (dOp rAdd (dVar 3) (dC (.int 1))))))) (dNext)) (dNever)) (dNext))) (dRet (dCallB rLen (daCons (dVar 1) (daNil))))))
theorem nm_i1 : ("is_made" : Str) ≠ "own_yard" := by decide +kernel
theorem nm_i2 : ("is_made" : Str) ≠ "scenes" := by decide +kernel
theorem nm_i3 : ("is_made" : Str) ≠ "deeds" := by decide +kernel
theorem pure_Company_several : Pure N_Company_several ["self", "deeds", "whole"] sp_Company_several t_Company_several := by
  unfold sp_Company_several
  rintro ds M P ⟨p, sc, de, q, names, paths, S, n, es, rfl, hn, G, w, hd, co, hq, hqn, hP⟩
  refine ⟨rfl, ?_⟩
  obtain ⟨l, hl, _⟩ := co.d
  refine d_self rfl co.p co_d (len_lst hl ?_)
  refine on_src (lstAt_of hq) ?_
  refine for_ok (fun dn ρ M1 => (∃ z4 z5, ρ = [some (.ref p), some (.ref q), some (.bl true), some (.int l.length), z4, z5]) ∧ CoAt M1 p sc de (groundD names paths) (viewD names (S.all names (es.take dn.length))) (n + dn.length) ∧ Fr [sc, de] M M1) (fun _ _ _ _ _ h => lstAt_of (h.2.2 _ _ hq hqn)) ?_ ⟨⟨_, _, rfl⟩, co, Fr.refl⟩ ?_
  · rintro dn x r ρ M1 e ⟨⟨z4, z5, rfl⟩, co1, f1⟩ N hN
    have hdl : dn.length < es.length := by
      have := congrArg List.length e
      rw [pairsE_length, List.length_map, List.length_append, List.length_cons] at this
      omega
    have hx : x = .tup [.int (dn.length : Nat), deedD es[dn.length]] := by
      have h0 : (pairsE 0 (es.map deedD))[dn.length]? = some x := by rw [e]; simp
      rw [pairsE_get, List.getElem?_map, List.getElem?_eq_getElem hdl] at h0
      simp only [Option.map_some, Option.some.injEq] at h0
      rw [← h0]; simp
    have htk : es.take (dn.length + 1) = es.take dn.length ++ [es[dn.length]] := by rw [List.take_succ_eq_append_getElem hdl]
    have hsp : es = es.take dn.length ++ es[dn.length] :: es.drop (dn.length + 1) := by rw [← List.drop_eq_getElem_cons hdl, List.take_append_drop]
    have hc2 := (doesAll_app (S := S) (ds := es.take dn.length) (names := names) (paths := paths)).mp (hsp ▸ hd)
    have w1 := w.all G.sub hc2.1
    subst hx
    refine ⟨rfl, ?_⟩
    refine ins_at co1.p ⟨rfl, co_no nm_i1 nm_i2 nm_i3, ?_⟩
    refine is_made_call (by omega) G w1 hc2.2.1 co1 fun M2 co2 f2 => hN _ _ ⟨⟨_, _, rfl⟩, ?_, f1.trans f2⟩
    rw [List.length_append, List.length_singleton, htk, all_app, ← Nat.add_assoc]
    exact co2
  · rintro ρ M1 ⟨⟨z4, z5, rfl⟩, co1, f1⟩
    rw [pairsE_length, List.length_map, List.take_length] at co1
    exact len_lst (f1 _ _ hq hqn) (hP _ M1 co1 f1)
theorem several_call {M : Mem} {p sc de q : Addr} {names : List Str} {paths : List Pr} {S : Sta} {n : Nat} {es : List Deed} {P : DVK} (hn : n + es.length ≤ 500) (G : Ground names paths) (w : Wf names S) (hd : S.doesAll names paths es) (co : CoAt M p sc de (groundD names paths) (viewD names S) n)
    (hq : M q = some (.lst (es.map deedD))) (hqn : q ∉ [sc, de]) (hP : ∀ (r : D) M', CoAt M' p sc de (groundD names paths) (viewD names (S.all names es)) (n + es.length) → Fr [sc, de] M M' → P r M') : sp_Company_several [.ref p, .ref q, .bl true] M P := by unfold sp_Company_several; exact ⟨p, sc, de, q, names, paths, S, n, es, rfl, hn, G, w, hd, co, hq, hqn, hP⟩
/-! ### copied -/
theorem init_call {M : Mem} {p : Addr} {names : List Str} {paths : List Pr} {P : DVK} (hp : M p = some (.ins "Company" [])) (G : Ground names paths) (n8 : names.length ≤ 8) (p24 : paths.length ≤ 24)
    (hP : ∀ (sc de : Addr) M', CoAt M' p sc de (groundD names paths) (sceneD names (List.replicate names.length 0) [] fun _ _ => 0) 0 → M sc = none → M de = none → Fr [p] M M' → P .non M') : sp_Company___init__ [.ref p, groundD names paths] M P := by unfold sp_Company___init__; exact ⟨p, names, paths, rfl, hp, G, n8, p24, hP⟩
@[irreducible] def sp_Company_copied : DSp := fun ds M P => ∃ (p sc de : Addr) (names : List Str) (paths : List Pr) (cur : D) (n : Nat), ds = [.ref p] ∧ Ground names paths ∧ names.length ≤ 8 ∧ paths.length ≤ 24 ∧ n ≤ 500 ∧ CoAt M p sc de (groundD names paths) cur n ∧
  ∀ (p' sc' de' : Addr) M', CoAt M' p' sc' de' (groundD names paths) cur n → (∀ x ∈ [p', sc', de'], M x = none) → Ext M M' → P (.ref p') M'
def N_Company_copied : List Str := ["self", "found"]
def t_Company_copied : DTS := (dSeq (dAsg (dMake "Company" sp_Company___init__ [] (daCons (dFld "Company" "own_yard" (dVar 0)) (daNil))) (gN 1)) (dSeq (dSetF "Company" "deeds" (dVar 1) (dCallB rList (daCons (dFld "Company" "deeds" (dVar 0)) (daNil)))) (dSeq (dSetF "Company" "scenes" (dVar 1) (dCallB rList (daCons (dFld "Company" "scenes" (dVar 0)) (daNil)))) (dRet (dVar 1)))))
theorem pure_Company_copied : Pure N_Company_copied ["self"] sp_Company_copied t_Company_copied := by
  unfold sp_Company_copied
  rintro ds M P ⟨p, sc, de, names, paths, cur, n, rfl, G, n8, p24, hn, co, hP⟩
  refine ⟨rfl, ?_⟩
  refine d_self rfl co.p co_y fun q hq => ?_
  have e0 := Ext.new (o := .ins "Company" []) hq
  refine init_call up_same G n8 p24 fun s0 d0 M1 co0 hs0 hd0 f1 => ⟨rfl, ?_⟩
  have e1 : Ext M M1 := fun x o e => by
    have hx : x ≠ q := fun h => by subst h; rw [hq] at e; cases e
    exact f1 _ _ (e0 _ _ e) (by simp [hx])
  have co1 := co.ext e1
  obtain ⟨k, hk, hk1⟩ := co1.d
  refine d_self rfl co1.p co_d (list_of (lstAt_of hk) fun de' hde => ?_)
  have e2 := Ext.new (o := .lst k) hde
  have hde' := up_same (M := M1) (a := de') (o := .lst k)
  have hdM : M de' = none := e1.back hde
  have hqp := e2 _ _ co0.p
  have co2 := co1.ext e2
  have e12 := e1.trans e2
  generalize up M1 de' (.lst k) = M2 at *
  refine ins_at hqp ⟨rfl, by simp [coF], ?_⟩
  rw [co_pd]
  have hqde : de' ≠ q := fun h => by subst h; rw [hqp] at hde'; cases hde'
  have e3 : Ext M (up M2 q (.ins "Company" (coF (groundD names paths) s0 de'))) := e12.wr hq
  have co3 := co.ext e3
  have hq3 := up_same (M := M2) (a := q) (o := .ins "Company" (coF (groundD names paths) s0 de'))
  have hde3 : up M2 q (.ins "Company" (coF (groundD names paths) s0 de')) de' = some (.lst k) := by rw [up_ne hqde]; exact hde'
  generalize up M2 q (.ins "Company" (coF (groundD names paths) s0 de')) = M3 at *
  obtain ⟨l, hl, hl1⟩ := co3.s
  refine d_self rfl co3.p co_s (list_of (lstAt_of hl) fun sc' hsc => ?_)
  have e4 := Ext.new (o := .lst (l ++ [cur])) hsc
  have hsc' := up_same (M := M3) (a := sc') (o := .lst (l ++ [cur]))
  have hsM : M sc' = none := e3.back hsc
  have hq4 := e4 _ _ hq3
  have hde4 := e4 _ _ hde3
  have e34 := e3.trans e4
  have hsd : sc' ≠ de' := fun h => by subst h; rw [hde3] at hsc; cases hsc
  generalize up M3 sc' (.lst (l ++ [cur])) = M4 at *
  refine ins_at hq4 ⟨rfl, by simp [coF], ?_⟩
  rw [co_ps]
  have hqsc : sc' ≠ q := fun h => by subst h; rw [hq4] at hsc'; cases hsc'
  refine hP q sc' de' _ ⟨up_same, ⟨l, by rw [up_ne hqsc]; exact hsc', hl1⟩, ⟨k, by rw [up_ne hqde]; exact hde4, hk1⟩, hsd⟩ ?_ (e34.wr hq)
  intro x hx
  simp only [List.mem_cons, List.not_mem_nil, or_false] at hx
  rcases hx with rfl | rfl | rfl
  · exact hq
  · exact hsM
  · exact hdM
theorem copied_call {M : Mem} {p sc de : Addr} {names : List Str} {paths : List Pr} {cur : D} {n : Nat} {P : DVK} (G : Ground names paths) (n8 : names.length ≤ 8) (p24 : paths.length ≤ 24) (hn : n ≤ 500) (co : CoAt M p sc de (groundD names paths) cur n)
    (hP : ∀ (p' sc' de' : Addr) M', CoAt M' p' sc' de' (groundD names paths) cur n → (∀ x ∈ [p', sc', de'], M x = none) → Ext M M' → P (.ref p') M') : sp_Company_copied [.ref p] M P := by unfold sp_Company_copied; exact ⟨p, sc, de, names, paths, cur, n, rfl, G, n8, p24, hn, co, hP⟩
/-! ### == -/
@[irreducible] def sp_Company___eq__ : DSp := fun ds M P => ∃ (p sc de q sc' de' : Addr) (G cur : D) (n m : Nat), ds = [.ref p, .ref q] ∧ CoAt M p sc de G cur n ∧ CoAt M q sc' de' G cur m ∧ okN 19 G = true ∧ okN 19 cur = true ∧ P (.bl true) M
def N_Company___eq__ : List Str := ["self", "other"]
def t_Company___eq__ : DTS := (dSeq (dIfS (dNot (dTest (dIsiC "Company" (dVar 1)))) (dRet (dC (.bl false))) (dNext)) (dRet (dOp (rEqs false) (dTup (daCons (dFld "Company" "own_yard" (dVar 0)) (daCons (dOp rIxA (dFld "Company" "scenes" (dVar 0)) (dUn rNeg (dC (.int 1)))) (daNil)))) (dTup (daCons (dFld "Company" "own_yard" (dVar 1)) (daCons (dOp rIxA (dFld "Company" "scenes" (dVar 1)) (dUn rNeg (dC (.int 1)))) (daNil)))))))
theorem pure_Company___eq__ : Pure N_Company___eq__ ["self", "other"] sp_Company___eq__ t_Company___eq__ := by
  unfold sp_Company___eq__
  rintro ds M P ⟨p, sc, de, q, sc', de', G, cur, n, m, rfl, co, co', h1, h2, hP⟩
  refine ⟨rfl, ?_⟩
  obtain ⟨l, hl, _⟩ := co.s
  obtain ⟨l', hl', _⟩ := co'.s
  refine ins_at co'.p ⟨rfl, ?_⟩
  refine d_self rfl co.p co_y (d_self rfl co.p co_s (neg_int (ix_lst hl atI_last ?_)))
  refine d_self rfl co'.p co_y (d_self rfl co'.p co_s (neg_int (ix_lst hl' atI_last ?_)))
  have : okN 20 (.tup [G, cur]) = true := by
    show ([G, cur].all (okN 19)) = true
    rw [List.all_cons, List.all_cons, List.all_nil, h1, h2]; rfl
  exact eq_same this hP
/-! ### moves that commute -/
theorem bump_comm (f : Cf) (a b c d : Str) (v w : Int) : bump (bump f a b v) c d w = bump (bump f c d w) a b v := by
  funext x y
  unfold bump
  generalize f x y = n
  by_cases h1 : x = a ∧ y = b
  · by_cases h2 : x = c ∧ y = d
    · rw [if_pos h2, if_pos h1, if_pos h1, if_pos h2]; omega
    · rw [if_neg h2, if_pos h1, if_pos h1, if_neg h2]
  · by_cases h2 : x = c ∧ y = d
    · rw [if_pos h2, if_neg h1, if_neg h1, if_pos h2]
    · rw [if_neg h2, if_neg h1, if_neg h1, if_neg h2]
theorem Sc.at_mv {s : Sc} {m : Mv} {i : Nat} (h : i ≠ m.1) : (s.mv m).at i = s.at i := by
  unfold Sc.at Sc.mv
  simp only [List.getD_eq_getElem?_getD]
  rw [List.getElem?_set_ne (Ne.symm h)]
theorem swap_can {s : Sc} {m q : Mv} (hne : q.1 ≠ m.1) (h1 : s.can m) (h2 : (s.mv m).can q) : s.can q ∧ (s.mv q).can m ∧ (s.mv m).mv q = (s.mv q).mv m := by
  obtain ⟨a1, a2⟩ := h1
  obtain ⟨b1, b2⟩ := h2
  have b1 : q.1 < (s.stand.set m.1 m.2).length := b1
  rw [List.length_set] at b1
  rw [Sc.at_mv hne] at b2
  have b2 : 0 < bump s.f (s.at m.1) m.2 (-1) (s.at q.1) q.2 := b2
  unfold bump at b2
  refine ⟨⟨b1, ?_⟩, ⟨by show m.1 < (s.stand.set q.1 q.2).length; rw [List.length_set]; exact a1, ?_⟩, ?_⟩
  · split at b2 <;> omega
  · rw [Sc.at_mv (Ne.symm hne)]
    show 0 < bump s.f (s.at q.1) q.2 (-1) (s.at m.1) m.2
    unfold bump
    split
    · next e =>
      split at b2
      · next e' => rw [e.1, e.2]; omega
      · next e' => exact absurd ⟨e.1.symm, e.2.symm⟩ e'
    · exact a2
  · show Sc.mk ((s.stand.set m.1 m.2).set q.1 q.2) (bump (bump s.f (s.at m.1) m.2 (-1)) ((s.mv m).at q.1) q.2 (-1)) = Sc.mk ((s.stand.set q.1 q.2).set m.1 m.2) (bump (bump s.f (s.at q.1) q.2 (-1)) ((s.mv q).at m.1) m.2 (-1))
    rw [Sc.at_mv hne, Sc.at_mv (Ne.symm hne), List.set_comm _ _ (Ne.symm hne), bump_comm]
theorem front {s : Sc} {m : Mv} : ∀ {pre post : List Mv}, (∀ q ∈ pre, q.1 ≠ m.1) → s.can m → (s.mv m).canAll (pre ++ post) → s.canAll (pre ++ m :: post) ∧ s.run (pre ++ m :: post) = (s.mv m).run (pre ++ post)
  | [], post, _, h1, h2 => ⟨⟨h1, h2⟩, rfl⟩
  | q :: pre, post, hp, h1, h2 => by
    obtain ⟨c1, c2, c3⟩ := swap_can (hp q (List.mem_cons_self ..)) h1 h2.1
    have h3 : ((s.mv q).mv m).canAll (pre ++ post) := by rw [← c3]; exact h2.2
    obtain ⟨d1, d2⟩ := front (s := s.mv q) (pre := pre) (post := post) (fun x hx => hp x (List.mem_cons_of_mem _ hx)) c2 h3
    refine ⟨⟨c1, d1⟩, ?_⟩
    show (s.mv q).run (pre ++ m :: post) = ((s.mv m).mv q).run (pre ++ post)
    rw [d2, c3]
theorem first_own {t : Nat} {m : Mv} {r : List Mv} : ∀ {fs : List Mv}, own t fs = m :: r → ∃ pre post, fs = pre ++ m :: post ∧ (∀ q ∈ pre, q.1 ≠ t) ∧ m.1 = t
  | [], h => by cases h
  | q :: fs, h => by
    unfold own at h
    by_cases e : q.1 = t
    · rw [List.filter_cons_of_pos (by simp [e])] at h
      have := (List.cons.inj h).1
      subst this
      exact ⟨[], fs, rfl, by simp, e⟩
    · rw [List.filter_cons_of_neg (by simp [e])] at h
      obtain ⟨pre, post, rfl, h1, h2⟩ := first_own (fs := fs) h
      exact ⟨q :: pre, post, rfl, fun x hx => (List.mem_cons.mp hx).elim (fun e' => e' ▸ e) (h1 x), h2⟩
/-- any order that keeps each traveller's own does the same -/
theorem any_order : ∀ {ms fs : List Mv} {s : Sc}, (∀ t, own t fs = own t ms) → s.canAll ms → s.canAll fs ∧ s.run fs = s.run ms
  | [], fs, s, h, _ => by
    have : fs = [] := by
      cases fs with
      | nil => rfl
      | cons q fs =>
        have := h q.1
        unfold own at this
        rw [List.filter_cons_of_pos (by simp)] at this
        cases this
    subst this
    exact ⟨trivial, rfl⟩
  | m :: ms, fs, s, h, hc => by
    have h0 := h m.1
    have h0' : own m.1 (m :: ms) = m :: own m.1 ms := by unfold own; rw [List.filter_cons_of_pos (by simp)]
    obtain ⟨pre, post, rfl, hp, _⟩ := first_own (h0.trans h0')
    have ih := any_order (ms := ms) (fs := pre ++ post) (s := s.mv m) (fun t => by
      have := h t
      unfold own at this ⊢
      by_cases e : m.1 = t
      · rw [List.filter_append, List.filter_cons_of_pos (by simp [e]), List.filter_cons_of_pos (by simp [e])] at this
        have hpre : pre.filter (fun m => decide (m.1 = t)) = [] := List.filter_eq_nil_iff.mpr fun q hq => by simp; rw [← e]; exact hp q hq
        rw [hpre, List.nil_append] at this
        rw [List.filter_append, hpre, List.nil_append]
        exact (List.cons.inj this).2
      · rw [List.filter_append, List.filter_cons_of_neg (by simp [e]), List.filter_cons_of_neg (by simp [e])] at this
        rw [List.filter_append]; exact this) hc.2
    obtain ⟨d1, d2⟩ := front (pre := pre) (post := post) hp hc.1 ih.1
    exact ⟨d1, by rw [d2, ih.2]; rfl⟩
theorem Moves.run {names : List Str} {S S' : Sta} {ms : List Mv} (r : Moves names S ms S') : S.sc.canAll ms ∧ S'.sc = S.sc.run ms ∧ S'.homes = S.homes := by
  induction r with
  | nil => exact ⟨trivial, rfl, rfl⟩
  | @snoc S' ms m r h ih =>
    obtain ⟨h1, h2, h3⟩ := ih
    refine ⟨canAll_app.mpr ⟨h1, ?_, trivial⟩, ?_, h3⟩
    · rw [← h2]; exact h
    · rw [sc_back, run_app, h2]; rfl
end EW

set_option maxRecDepth 100000
set_option maxHeartbeats 4000000
/-! EwLaw59: the law's own defs. -/
namespace EW
open PySem PySem.Spec PyProof.Rows L2
theorem revL_of {i : Nat} {ρ : Env} {M : Mem} {Q : DVK} {a : Addr} {xs : List D} (hρ : nth ρ i = some (.ref a)) (h : M a = some (.lst xs)) (q : ∀ p, M p = none → Q (.ref p) (up M p (.lst xs.reverse))) : dRevL (dVar i) ρ M Q := by
  unfold dRevL dVar
  rw [hρ]
  simp only [lsOf, lstAt, h]
  exact q
theorem sl_of {M : Mem} {Q : DVK} {d : D} {xs : List D} {lo hi : Option Int} (h : lsOf M d = some xs) (q : ∀ p, M p = none → Q (.ref p) (up M p (.lst (cutD xs lo hi)))) : rSlD d lo hi M Q := by
  unfold rSlD
  cases d <;> first | (cases h; done) | skip
  · cases h; exact q
  · simp only [rSlD, tpl, h]; exact q
theorem pow_int {M : Mem} {Q : DVK} {i j : Int} (h : 0 ≤ j ∧ j ≤ 1000000 ∧ i.natAbs < 2 ^ 64) (q : Q (.int (i ^ j.toNat)) M) : rPow (.int i) (.int j) M Q := by unfold rPow; exact ⟨h, q⟩
theorem eq_own {M : Mem} {Q : DVK} {p q sc de sc' de' : Addr} {G cur : D} {n m : Nat} (co : CoAt M p sc de G cur n) (co' : CoAt M q sc' de' G cur m) (h1 : okN 19 G = true) (h2 : okN 19 cur = true) (hQ : Q (.bl true) M) : rEqOwn "Company" sp_Company___eq__ (.ref p) (.ref q) M Q := by
  unfold rEqOwn; exact
  ins_at co.p ⟨rfl, ins_at co'.p ⟨rfl, by unfold sp_Company___eq__; exact ⟨p, sc, de, q, sc', de', G, cur, n, m, rfl, co, co', h1, h2, hQ⟩⟩⟩
/-! ### the sack -/
theorem merge_sack {g : Addr} {s : Int} : mergeD [] [(.inr "great", .ref g), (.inr "now", .int 0), (.inr "seed", .int s), (.inr "turn", .int 0)] = sackK g 0 s 0 := by
  simp [mergeD, putD, valD, sackK, ne_gn, ne_gs, ne_gt, ne_ns, ne_nt, ne_st]
@[irreducible] def sp__law_sack : DSp := fun ds M P => ∃ (d : D) (ns : List Int) (b : Int), ds = [d, .int b] ∧ lsOf M d = some (ns.map D.int) ∧ ns.length ≤ 1000 ∧ (∃ n : Nat, b = n ∧ n ≤ 1) ∧
  ∀ (a g : Addr) M', M a = none → M g = none → SackAt M' a g → Ext M M' → P (.ref a) M'
def N__law_sack : List Str := ["_law_script", "_law_base", "_law_seed", "_law_cell", "_law_great"]
def t__law_sack : DTS := (dSeq (dAsg (dOp rAdd (dC (.int 6101)) (dOp rMul (dC (.int 173)) (dVar 1))) (gN 2)) (dSeq (dFor (diSeq (dSl rSlD (dVar 0) (dNoPart) (dPart (dC (.int 40))))) (gN 3) (dAsg (dOp rMod (dOp rAdd (dOp rAdd (dOp rMul (dVar 2) (dC (.int 48271))) (dOp rMod (dCallB rAbs (daCons (dVar 3) (daNil))) (dC (.int 2147483629)))) (dC (.int 17))) (dC (.int 2147483647))) (gN 2))) (dSeq (dAsg (dComp (diSeq (dSl rSlD (dVar 0) (dPart (dVar 1)) (dPart (dC (.int 40))))) [3] (.n 3) (dTest (dOp rGe (dVar 3) (dOp rPow (dC (.int 10)) (dC (.int 18))))) (dVar 3)) (gN 4)) (dRet (dDisp [(.inr "great", dRevL (dVar 4)), (.inr "now", dC (.int 0)), (.inr "seed", dOp rAdd (dVar 2) (dC (.int 1))), (.inr "turn", dC (.int 0))])))))
theorem cutD_ints (ns : List Int) (lo hi : Option Int) : ∃ ms : List Int, cutD (ns.map D.int) lo hi = ms.map D.int ∧ ms.length ≤ ns.length := by
  unfold cutD
  rw [← List.map_drop, ← List.map_take]
  exact ⟨_, rfl, by rw [List.length_take, List.length_drop]; omega⟩
theorem lsOf_ext {M M' : Mem} {d : D} {xs : List D} (h : lsOf M d = some xs) (f : Ext M M') : lsOf M' d = some xs := by
  cases d <;> first | exact h | skip
  · next a => exact lstAt_of (f _ _ (lstAt_eq (show lstAt M a = some xs from h)))
theorem filt_ints (p : Int → Bool) : ∀ ms : List Int, (ms.map D.int).filterMap (fun y => match y with | .int n => if p n = true then some (.int n) else none | _ => none) = (ms.filter p).map D.int
  | [] => rfl
  | n :: ms => by
    rw [List.map_cons, List.filterMap_cons]
    by_cases h : p n = true
    · rw [List.filter_cons_of_pos h, List.map_cons, ← filt_ints p ms]; simp [h]
    · rw [List.filter_cons_of_neg h, ← filt_ints p ms]; simp [h]
theorem pure__law_sack : Pure N__law_sack ["_law_script", "_law_base"] sp__law_sack t__law_sack := by
  unfold sp__law_sack
  rintro ds M P ⟨d, ns, b, rfl, hd, hl, ⟨n, rfl, hn⟩, hP⟩
  refine ⟨rfl, ?_⟩
  refine mul_int (.inl (by omega)) (add_int ?_)
  refine sl_of hd fun p hp => ?_
  obtain ⟨ms, hms, hml⟩ := cutD_ints ns none (some 40)
  rw [hms]
  have e1 := Ext.new (o := .lst (ms.map D.int)) hp
  have hp1 := up_same (M := M) (a := p) (o := .lst (ms.map D.int))
  have hd1 := lsOf_ext hd e1
  generalize up M p (.lst (ms.map D.int)) = M1 at *
  refine on_seq (lstAt_of hp1) ?_
  refine for_ok (fun dn ρ M2 => (∃ z2 z3, ρ = [some d, some (.int n), some (.int z2), z3, none]) ∧ M2 = M1) (fun _ _ _ _ _ h => by rw [h.2]; exact lstAt_of hp1) ?_ ⟨⟨_, _, rfl⟩, rfl⟩ ?_
  · rintro dn x r ρ M2 e ⟨⟨z2, z3, rfl⟩, rfl⟩ N hN
    obtain ⟨i, _, rfl⟩ : ∃ i, i ∈ ms ∧ D.int i = x := List.mem_map.mp (by rw [e]; simp)
    refine mul_int (.inr (by omega)) (abs_int (mod_int (by decide) (add_int (add_int (mod_int (by decide) (hN _ _ ⟨⟨_, _, rfl⟩, rfl⟩))))))
  · rintro ρ M2 ⟨⟨z2, z3, rfl⟩, rfl⟩
    refine sl_of hd1 fun q hq => ?_
    obtain ⟨ks, hks, hkl⟩ := cutD_ints ns (some n) (some 40)
    rw [hks]
    have e2 := Ext.new (o := .lst (ks.map D.int)) hq
    have hq2 := up_same (M := M2) (a := q) (o := .lst (ks.map D.int))
    generalize up M2 q (.lst (ks.map D.int)) = M3 at *
    refine on_seq (lstAt_of hq2) fun w hw => ?_
    refine comp_ext (fun y => match y with | .int n => if decide ((10 : Int) ^ (18 : Int).toNat ≤ n) = true then some (.int n) else none | _ => none) hw (fun M4 e4 => lstAt_of (e4 _ _ hq2)) (by rw [List.length_map]; exact Nat.le_of_lt (smallZ (by omega))) (fun y hy M4 hM4 R hR => ?_) fun M4 hM4 hw4 => ?_
    · obtain ⟨i, _, rfl⟩ := List.mem_map.mp hy
      have hR0 := hR M4 Ext.refl
      refine pow_int (by decide) (ge_int (ite_tf (fun e => ?_) (fun e => ?_)))
      · simp only [e, if_true] at hR0; exact hR0
      · simp only [e, Bool.false_eq_true, if_false] at hR0; exact hR0
    · rw [filt_ints] at hw4
      intro a ha
      have e5 := Ext.new (o := .dK []) ha
      refine revL_of rfl (e5 _ _ hw4) fun g hg => ?_
      have e6 := Ext.new (o := .lst ((ks.filter fun n => decide ((10 : Int) ^ (18 : Int).toNat ≤ n)).map D.int).reverse) hg
      refine add_int ?_
      have ha6 := e6 _ _ (up_same (M := M4) (a := a) (o := .dK []))
      refine ⟨ha6, ?_⟩
      rw [merge_sack]
      have hga : g ≠ a := fun e => by subst e; rw [up_same] at hg; cases hg
      have haM : M a = none := e1.back (e2.back (hM4.back ha))
      have hgM : M g = none := e1.back (e2.back (hM4.back (e5.back hg)))
      refine hP a g _ haM hgM ⟨((ks.filter fun n => decide ((10 : Int) ^ (18 : Int).toNat ≤ n))).reverse, 0, _, 0, up_same, ?_⟩ (((((e1.trans e2).trans hM4).trans e5).trans e6).wr haM)
      rw [up_ne hga, up_same, List.map_reverse]
theorem sack_call {M : Mem} {d : D} {ns : List Int} {n : Nat} {P : DVK} (hd : lsOf M d = some (ns.map D.int)) (hl : ns.length ≤ 1000) (hn : n ≤ 1) (hP : ∀ (a g : Addr) M', M a = none → M g = none → SackAt M' a g → Ext M M' → P (.ref a) M') : sp__law_sack [d, .int n] M P := by unfold sp__law_sack; exact ⟨d, ns, n, rfl, hd, hl, ⟨n, rfl, hn⟩, hP⟩
/-! ### scenes as data -/
theorem okN_strs {k : Nat} {xs : List Str} {names : List Str} (nm : Names names) (h : ∀ x ∈ xs, x ∈ names) : okN (k + 1) (.tup (xs.map D.str)) = true := List.all_eq_true.mpr fun d hd => by
  obtain ⟨x, hx, rfl⟩ := List.mem_map.mp hd
  have := (nm.ok x (h x hx)).so
  cases k <;> exact this
theorem scene_ok {names : List Str} {homes : List Int} {s : Sc} (nm : Names names) (o : Ok names s) : okN 19 (scD names homes s) = true := by
  show ([D.tup (homes.map D.int), .tup (s.stand.map D.str), .tup (lay names s.f)].all (okN 18)) = true
  rw [List.all_cons, List.all_cons, List.all_cons, List.all_nil]
  have h1 : okN 18 (.tup (homes.map D.int)) = true := List.all_eq_true.mpr fun d hd => by obtain ⟨x, _, rfl⟩ := List.mem_map.mp hd; rfl
  have h2 : okN 18 (.tup (s.stand.map D.str)) = true := okN_strs nm o.st
  have h3 : okN 18 (.tup (lay names s.f)) = true := by
    rw [lay_eq]
    refine List.all_eq_true.mpr fun d hd => ?_
    obtain ⟨p, hp, rfl⟩ := List.mem_map.mp hd
    obtain ⟨m1, m2, _⟩ := mem_laid.mp hp
    show ([D.str p.1, .str p.2, .int _].all (okN 16)) = true
    rw [List.all_cons, List.all_cons, List.all_cons, List.all_nil, show okN 16 (.str p.1) = true from (nm.ok _ m1).so, show okN 16 (.str p.2) = true from (nm.ok _ m2).so]; rfl
  rw [h1, h2, h3]; rfl
theorem ground_ok {names : List Str} {paths : List Pr} (G : Ground names paths) : okN 19 (groundD names paths) = true := by
  show ([D.ft (names.map D.str), .tup (paths.map pD)].all (okN 18)) = true
  rw [List.all_cons, List.all_cons, List.all_nil]
  have h1 : okN 18 (.ft (names.map D.str)) = true := okN_strs (k := 17) G.nm fun _ h => h
  have h2 : okN 18 (.tup (paths.map pD)) = true := by
    refine List.all_eq_true.mpr fun d hd => ?_
    obtain ⟨p, hp, rfl⟩ := List.mem_map.mp hd
    obtain ⟨m1, m2, _⟩ := mem_prs.mp (G.sub p hp)
    show ([D.str p.1, .str p.2].all (okN 16)) = true
    rw [List.all_cons, List.all_cons, List.all_nil, show okN 16 (.str p.1) = true from (G.nm.ok _ m1).so, show okN 16 (.str p.2) = true from (G.nm.ok _ m2).so]; rfl
  rw [h1, h2]; rfl
/-! ### neighbours -/
theorem mv_eqv (m q : Mv) : PyData.eqv (toP (mvD m)) (toP (mvD q)) = decide (m = q) := by
  have : PyData.eqv (toP (mvD m)) (toP (mvD q)) = (((m.1 : Int) == (q.1 : Int)) && ((m.2 == q.2) && true)) := rfl
  rw [this, Bool.eq_iff_iff]
  obtain ⟨a, b⟩ := m
  obtain ⟨c, d⟩ := q
  simp only [Bool.and_true, Bool.and_eq_true, beq_iff_eq, decide_eq_true_eq, Prod.mk.injEq]
  exact ⟨fun ⟨h1, h2⟩ => ⟨Int.ofNat.inj h1, h2⟩, fun ⟨h1, h2⟩ => ⟨by rw [h1], h2⟩⟩
theorem any_mv (x : Mv) (xs : List Mv) : (toPs (xs.map mvD)).any (fun z => PyData.eqv z (toP (mvD x))) = decide (x ∈ xs) := by
  rw [toPs_map]
  induction xs with
  | nil => simp
  | cons y ys ih =>
    simp only [List.map_cons, List.any_cons, ih, mv_eqv]
    rw [Bool.eq_iff_iff]
    simp only [Bool.or_eq_true, decide_eq_true_eq, List.mem_cons]
    exact ⟨fun h => h.elim (fun e => .inl e.symm) .inr, fun h => h.elim (fun e => .inl e.symm) .inr⟩
theorem mv_ok {names : List Str} (nm : Names names) {m : Mv} (h : m.2 ∈ names) : okN 20 (mvD m) = true := by
  show ([D.int m.1, .str m.2].all (okN 19)) = true
  rw [List.all_cons, List.all_cons, List.all_nil, show okN 19 (.str m.2) = true from (nm.ok _ h).so]; rfl
@[irreducible] def sp__law_neighbours_right : DSp := fun ds M P => ∃ (names : List Str) (paths : List Pr) (homes : List Int) (s : Sc) (p : Addr) (ms : List Mv), ds = [groundD names paths, scD names homes s, .ref p] ∧ Names names ∧ names.length ≤ 12 ∧ Ok names s ∧ s.canAll ms ∧ M p = some (.lst (ms.map mvD)) ∧ ms.length ≤ 1000 ∧ ∀ M', Ext M M' → P (.bl true) M'
def N__law_neighbours_right : List Str := ["_law_ground_here", "_law_view_here", "_law_moves", "_law_here_now", "_law_one", "_law_other"]
def t__law_neighbours_right : DTS := (dSeq (dAsg (dVar 1) (gN 3)) (dSeq (dFor (diZip (dVar 2) (dSl rSlD (dVar 2) (dPart (dC (.int 1))) (dNoPart))) (gTn 2 (gsCons (gN 4) (gsCons (gN 5) (gsNil)))) (dSeq (dIfS (dTest (dOp (rEqs true) (dOp rIxA (dVar 4) (dC (.int 0))) (dOp rIxA (dVar 5) (dC (.int 0))))) (dSeq (dIfS (dOr (dTest (dOp (rIn true) (dVar 4) (dCall sp_possible_moves [] (daCons (dVar 0) (daCons (dVar 3) (daNil)))))) (dTest (dOp (rIn true) (dVar 5) (dCall sp_possible_moves [] (daCons (dVar 0) (daCons (dVar 3) (daNil))))))) (dRet (dC (.bl false))) (dNext)) (dIfS (dTest (dOp (rEqs true) (dCall sp_make_moves [] (daCons (dVar 0) (daCons (dVar 3) (daCons (dLst (daCons (dVar 4) (daCons (dVar 5) (daNil)))) (daNil))))) (dCall sp_make_moves [] (daCons (dVar 0) (daCons (dVar 3) (daCons (dTup (daCons (dVar 5) (daCons (dVar 4) (daNil)))) (daNil))))))) (dRet (dC (.bl false))) (dNext))) (dNext)) (dAsg (dCall sp_make_moves [] (daCons (dVar 0) (daCons (dVar 3) (daCons (dLst (daCons (dVar 4) (daNil))) (daNil))))) (gN 3)))) (dRet (dC (.bl true)))))
theorem pure__law_neighbours_right : Pure N__law_neighbours_right ["_law_ground_here", "_law_view_here", "_law_moves"] sp__law_neighbours_right t__law_neighbours_right := by
  unfold sp__law_neighbours_right
  rintro ds M P ⟨names, paths, homes, s, p, ms, rfl, nm, n2, o, hc, hp, hml, hP⟩
  refine ⟨rfl, ?_⟩
  refine sl_lst hp fun q hq => ?_
  have e1 := Ext.new (o := .lst (cutD (ms.map mvD) (some 1) none)) hq
  have hp1 := e1 _ _ hp
  obtain ⟨ns, hns, hnn⟩ : ∃ ns : List Mv, cutD (ms.map mvD) (some 1) none = ns.map mvD ∧ ns = ms.drop 1 := by
    refine ⟨ms.drop 1, ?_, rfl⟩
    by_cases h : 1 ≤ ms.length
    · rw [show (some 1 : Option Int) = some ((1 : Nat) : Int) from rfl, cutD_drop (by rw [List.length_map]; exact h), List.map_drop]
    · have : ms = [] := List.eq_nil_of_length_eq_zero (by omega)
      subst this; rfl
  have hq1 : up M q (.lst (cutD (ms.map mvD) (some 1) none)) q = some (.lst (ns.map mvD)) := by rw [up_same, hns]
  generalize up M q (.lst (cutD (ms.map mvD) (some 1) none)) = M1 at *
  refine on_zip (d := .ref p) (e := .ref q) (xs := ms.map mvD) (ys := ns.map mvD) (lstAt_of hp1) (lstAt_of hq1) ?_
  refine for_ok (fun dn ρ M2 => (∃ z4 z5, ρ = [some (groundD names paths), some (scD names homes s), some (.ref p), some (scD names homes (s.run (ms.take dn.length))), z4, z5]) ∧ Ext M1 M2) (fun _ _ _ _ _ h => ⟨lstAt_of (h.2 _ _ hp1), lstAt_of (h.2 _ _ hq1)⟩) ?_ ⟨⟨_, _, rfl⟩, Ext.refl⟩ ?_
  · rintro dn x r ρ M2 e ⟨⟨z4, z5, rfl⟩, h2⟩ N hN
    have hlen : dn.length + 1 < ms.length := by
      have := congrArg List.length e
      rw [List.length_zipWith, List.length_map, List.length_map, hnn, List.length_drop, List.length_append, List.length_cons] at this
      omega
    have hd1 : dn.length < ms.length := by omega
    have hx : x = .tup [mvD ms[dn.length], mvD ms[dn.length + 1]] := by
      have h0 : (List.zipWith (fun x y => D.tup [x, y]) (ms.map mvD) (ns.map mvD))[dn.length]? = some x := by rw [e]; simp
      rw [List.getElem?_zipWith, List.getElem?_map, List.getElem?_map, hnn, List.getElem?_drop, List.getElem?_eq_getElem hd1, Nat.add_comm 1 dn.length, List.getElem?_eq_getElem hlen] at h0
      exact (Option.some.inj h0).symm
    have htk : ms.take (dn.length + 1) = ms.take dn.length ++ [ms[dn.length]] := by rw [List.take_succ_eq_append_getElem hd1]
    have hsp : ms = ms.take dn.length ++ (ms[dn.length] :: ms[dn.length + 1] :: ms.drop (dn.length + 2)) := by
      rw [← List.drop_eq_getElem_cons hlen, ← List.drop_eq_getElem_cons hd1, List.take_append_drop]
    have hc2 := (canAll_app (s := s) (ms := ms.take dn.length)).mp (hsp ▸ hc)
    have ho : Ok names (s.run (ms.take dn.length)) := o.run hc2.1
    have hN' : ∀ ρ' M', (∃ z4 z5, ρ' = [some (groundD names paths), some (scD names homes s), some (.ref p), some (scD names homes ((s.run (ms.take dn.length)).mv ms[dn.length])), z4, z5]) ∧ Ext M1 M' → N ρ' M' := by
      rintro ρ' M' ⟨⟨z4, z5, rfl⟩, h⟩
      refine hN _ _ ⟨⟨z4, z5, ?_⟩, h⟩
      rw [List.length_append, List.length_singleton, htk, run_app]; rfl
    have hc3 := hc2.2
    clear hN hsp htk hc2
    generalize s.run (ms.take dn.length) = s1 at ho hc3 hN'
    generalize ms[dn.length] = m at hx hc3 hN'
    generalize ms[dn.length + 1] = m2 at hx hc3
    subst hx
    obtain ⟨c1, c2, _⟩ := hc3
    have hm := ho.nm _ _ c1.2
    have hm2 := (ho.mv c1).nm _ _ c2.2
    refine ⟨rfl, ?_⟩
    refine ix_tup (xs := [.int m.1, .str m.2]) (d := .int m.1) rfl (ix_tup (xs := [.int m2.1, .str m2.2]) (d := .int m2.1) rfl (eq_int (ite_tf (fun hb => ?_) (fun _ => ?_))))
    · have hne : m2.1 ≠ m.1 := fun e => by rw [e] at hb; simp [nb] at hb
      obtain ⟨w1, w2, w3⟩ := swap_can hne c1 c2
      refine possible_call (s := s1) (homes := homes) n2 ho fun ps M3 p1 p2 e3 => in_tup (mv_ok nm hm.2) (mvs_all nm p2) ?_
      rw [any_mv, decide_eq_true (p1 m c1)]
      refine possible_call (s := s1) (homes := homes) n2 ho fun ps M4 p1 p2 e4 => in_tup (mv_ok nm hm2.2) (mvs_all nm p2) ?_
      rw [any_mv, decide_eq_true (p1 m2 w1)]
      intro k hk
      have e5 := Ext.new (o := .lst [mvD m, mvD m2]) hk
      refine make_moves_call (s := s1) (homes := homes) (d := .ref k) (ms := [m, m2]) nm n2 ho (lstAt_of up_same) ⟨c1, c2, trivial⟩ fun M6 e6 => ?_
      refine make_moves_call (s := s1) (homes := homes) (d := .tup [mvD m2, mvD m]) (ms := [m2, m]) nm n2 ho rfl ⟨w1, w2, trivial⟩ fun M7 e7 => ?_
      have hrun : s1.run [m, m2] = s1.run [m2, m] := w3
      rw [hrun]
      have hok := scene_ok (homes := homes) nm (ho.run (ms := [m2, m]) ⟨w1, w2, trivial⟩)
      refine eq_same (okN_mono (by omega) hok) ?_
      intro k2 hk2
      have e8 := Ext.new (o := .lst [mvD m]) hk2
      exact make_moves_call (s := s1) (homes := homes) (d := .ref k2) (ms := [m]) nm n2 ho (lstAt_of up_same) ⟨c1, trivial⟩ fun M9 e9 => hN' _ _ ⟨⟨_, _, rfl⟩, ((((((h2.trans e3).trans e4).trans e5).trans e6).trans e7).trans e8).trans e9⟩
    · intro k2 hk2
      have e8 := Ext.new (o := .lst [mvD m]) hk2
      exact make_moves_call (s := s1) (homes := homes) (d := .ref k2) (ms := [m]) nm n2 ho (lstAt_of up_same) ⟨c1, trivial⟩ fun M9 e9 => hN' _ _ ⟨⟨_, _, rfl⟩, (h2.trans e8).trans e9⟩
  · rintro ρ M2 ⟨⟨z4, z5, rfl⟩, h2⟩
    exact hP M2 (e1.trans h2)
theorem neighbours_call {M : Mem} {names : List Str} {paths : List Pr} {homes : List Int} {s : Sc} {p : Addr} {ms : List Mv} {P : DVK} (nm : Names names) (n2 : names.length ≤ 12) (o : Ok names s) (hc : s.canAll ms) (hp : M p = some (.lst (ms.map mvD))) (hml : ms.length ≤ 1000) (hP : ∀ M', Ext M M' → P (.bl true) M') : sp__law_neighbours_right [groundD names paths, scD names homes s, .ref p] M P := by unfold sp__law_neighbours_right; exact
  ⟨names, paths, homes, s, p, ms, rfl, nm, n2, o, hc, hp, hml, hP⟩
end EW

set_option maxRecDepth 100000
set_option maxHeartbeats 4000000
/-! EwTot: how many crumbs a run of deeds can lay. -/
namespace EW
open PySem PySem.Spec PyProof.Rows L2
def allP (names : List Str) : List Pr := names.flatMap fun a => names.map fun b => (a, b)
theorem laid_filter (names : List Str) (f : Cf) : laid names f = (allP names).filter fun p => decide (0 < f p.1 p.2) := by
  unfold laid allP
  rw [List.filter_flatMap]
  apply flat_congr
  intro a _
  unfold eat
  rw [List.filter_map]
  rfl
theorem allP_nd {names : List Str} (h : names.Nodup) : (allP names).Nodup := by
  refine nodup_flat h (fun a _ => nodup_map_on h fun x _ y _ e => (Prod.mk.inj e).2) fun a _ b _ x hx hy => ?_
  obtain ⟨y, _, rfl⟩ := List.mem_map.mp hx
  obtain ⟨z, _, e⟩ := List.mem_map.mp hy
  exact (Prod.mk.inj e).1.symm
theorem sum_pos {f : Pr → Int} : ∀ {L : List Pr}, (∀ p ∈ L, 0 ≤ f p) → ((L.filter fun p => decide (0 < f p)).map f).sum = (L.map f).sum
  | [], _ => rfl
  | p :: L, h => by
    have ih := sum_pos (f := f) (L := L) fun q hq => h q (List.mem_cons_of_mem _ hq)
    have hp := h p (List.mem_cons_self ..)
    by_cases e : 0 < f p
    · rw [List.filter_cons_of_pos (by simp [e]), List.map_cons, List.map_cons, List.sum_cons, List.sum_cons, ih]
    · rw [List.filter_cons_of_neg (by simp [e]), List.map_cons, List.sum_cons, ih]; omega
theorem sum_bump {f : Cf} {a b : Str} {v : Int} : ∀ {L : List Pr}, L.Nodup → (L.map fun p => bump f a b v p.1 p.2).sum = (L.map fun p => f p.1 p.2).sum + if (a, b) ∈ L then v else 0
  | [], _ => by simp
  | (x, y) :: L, h => by
    rw [List.nodup_cons] at h
    have ih := sum_bump (f := f) (a := a) (b := b) (v := v) h.2
    rw [List.map_cons, List.map_cons, List.sum_cons, List.sum_cons, ih]
    unfold bump
    by_cases e : x = a ∧ y = b
    · obtain ⟨rfl, rfl⟩ := e
      rw [if_pos ⟨rfl, rfl⟩, if_neg h.1, if_pos (List.mem_cons_self ..)]
      show _ + v + _ = _
      omega
    · rw [if_neg e]
      have e2 : ((a, b) ∈ (x, y) :: L) ↔ (a, b) ∈ L := by
        rw [List.mem_cons]
        exact ⟨fun q => q.elim (fun r => absurd ⟨(Prod.mk.inj r).1.symm, (Prod.mk.inj r).2.symm⟩ e) id, .inr⟩
      by_cases e3 : (a, b) ∈ L
      · rw [if_pos e3, if_pos (e2.mpr e3)]; omega
      · rw [if_neg e3, if_neg fun q => e3 (e2.mp q)]; omega
theorem tot_full {names : List Str} {f : Cf} (h : ∀ x y, 0 ≤ f x y) : tot names f = ((allP names).map fun p => f p.1 p.2).sum := by
  unfold tot
  rw [laid_filter]
  exact sum_pos (f := fun p => f p.1 p.2) fun p _ => h _ _
theorem tot_bump {names : List Str} {f : Cf} {a b : Str} {v : Int} (nd : names.Nodup) (h : ∀ x y, 0 ≤ f x y) (h2 : ∀ x y, 0 ≤ bump f a b v x y) (hv : v ≤ 1) : tot names (bump f a b v) ≤ tot names f + 1 := by
  rw [tot_full h, tot_full h2, sum_bump (allP_nd nd)]
  split <;> omega
theorem after_cnt {names : List Str} {S : Sta} {d : Deed} : (S.after names d).kvs = S.kvs ∨ ∃ a b v, v ≤ 1 ∧ cnt (S.after names d).kvs = bump (cnt S.kvs) a b v := by
  cases d with
  | join x => exact .inl rfl
  | go i x => exact .inr ⟨_, _, 1, by decide, cnt_bump _ _ _ _⟩
  | back i x => exact .inr ⟨_, _, -1, by decide, cnt_bump S.kvs (S.at i) x (-1)⟩
theorem tot_after {names : List Str} {S : Sta} {d : Deed} (nd : names.Nodup) (w : Wf names S) (w' : Wf names (S.after names d)) : tot names (cnt (S.after names d).kvs) ≤ tot names (cnt S.kvs) + 1 := by
  rcases after_cnt (names := names) (S := S) (d := d) with e | ⟨a, b, v, hv, e⟩
  · rw [e]; omega
  · rw [e]
    exact tot_bump nd (fun x y => w.nn x y) (fun x y => by rw [← e]; exact w'.nn x y) hv
theorem Runs.le_tot {names : List Str} {paths : List (Str × Str)} {S S' : Sta} {ds : List Deed} (nd : names.Nodup) (r : Runs names paths S ds S') (w : Wf names S) : tot names (cnt S'.kvs) ≤ tot names (cnt S.kvs) + ds.length := by
  induction r with
  | nil => simp
  | snoc r hw m ih =>
    have w1 := r.wf w
    have := tot_after nd w1 (w1.after m)
    rw [List.length_append, List.length_singleton]
    omega
theorem all_snoc {names : List Str} {S : Sta} {ds : List Deed} {d : Deed} : S.all names (ds ++ [d]) = (S.all names ds).after names d := by
  unfold Sta.all; rw [List.foldl_append]; rfl
/-- what was drawn and made may be made by a company -/
theorem Runs.does {names : List Str} {paths : List Pr} {S S' : Sta} {ds : List Deed} (nd : names.Nodup) (r : Runs names paths S ds S') (w : Wf names S) (ht : tot names (cnt S.kvs) + ds.length ≤ 47) : S.doesAll names paths ds ∧ S.all names ds = S' := by
  induction r with
  | nil => exact ⟨trivial, rfl⟩
  | @snoc S' ds d r hw m ih =>
    rw [List.length_append, List.length_singleton] at ht
    obtain ⟨h1, h2⟩ := ih (by omega)
    have ht' := Runs.le_tot nd r w
    refine ⟨doesAll_app.mpr ⟨h1, ?_, trivial⟩, by rw [all_snoc, h2]⟩
    rw [h2]
    cases d with
    | join x => exact m
    | go i x => exact ⟨hw.1, hw.2, by omega⟩
    | back i x => exact m
theorem cnt_nil : cnt [] = fun _ _ => 0 := rfl
theorem tot_zero (names : List Str) : tot names (cnt []) = 0 := by
  unfold tot
  have : laid names (cnt []) = [] := by
    rw [laid_filter]
    exact List.filter_eq_nil_iff.mpr fun p _ => by rw [cnt_nil]; simp
  rw [this]; rfl
/-- moves as deeds -/
theorem Moves.does {names : List Str} {paths : List Pr} {S S' : Sta} {ms : List Mv} (r : Moves names S ms S') : S.doesAll names paths (ms.map back) ∧ S.all names (ms.map back) = S' := by
  induction r with
  | nil => exact ⟨trivial, rfl⟩
  | @snoc S' ms m r h ih =>
    obtain ⟨h1, h2⟩ := ih
    rw [List.map_append]
    refine ⟨doesAll_app.mpr ⟨h1, ?_, trivial⟩, by rw [List.map_singleton, all_snoc, h2]⟩
    rw [h2]; exact h
theorem Moves.in {names : List Str} {S S' : Sta} {ms : List Mv} (r : Moves names S ms S') (w : Wf names S) : ∀ m ∈ ms, m.1 < 6 ∧ m.2 ∈ names := by
  induction r with
  | nil => intro m hm; cases hm
  | @snoc S' ms q r h ih =>
    intro m hm
    rcases List.mem_append.mp hm with hm | hm
    · exact ih m hm
    · rw [List.mem_singleton.mp hm]
      have w1 := r.wf w
      have h' : q.1 < S'.stand.length ∧ 0 < cnt S'.kvs (S'.at q.1) q.2 := h
      have := w1.sl
      exact ⟨by omega, (w1.inN h'.2).2⟩
theorem wander_tup {M : Mem} {a g t h s c : Addr} {names : List Str} {gp paths : List Pr} {S : Sta} {steps most : Int} {P : DVK} (nm : Names names) (n1 : 1 ≤ names.length) (n2 : names.length ≤ 12) (hs : SackAt M a g) (hst : StAt M t h s c (groundD names gp) S) (w : Wf names S) (dj : Dj [a, g] [t, h, s, c])
    (hsub : ∀ p ∈ paths, p ∈ prs names) (hpl : paths.length ≤ 1000) (z0 : 0 ≤ steps) (z1 : steps ≤ 1000)
    (hP : ∀ (p : Addr) (es : List Deed) (S' : Sta) M', Runs names paths S es S' → (es.length : Int) ≤ steps → M p = none → M' p = some (.lst (es.map deedD)) → StAt M' t h s c (groundD names gp) S' → SackAt M' a g → Fr [a, g, t, h, s, c] M M' → P (.ref p) M') :
    sp__law_wander [.ref a, .ref t, .tup (paths.map pD), .int steps, .int most] M P := by
  unfold sp__law_wander; exact
  ⟨a, g, t, h, s, c, .tup (paths.map pD), names, gp, paths, S, steps, most, rfl, nm, n1, n2, hs, hst, w, dj, ⟨rfl, fun x e => nomatch e⟩, hsub, hpl, z0, z1, hP⟩
theorem several_own : ("several" : Str) ≠ "own_yard" ∧ ("several" : Str) ≠ "scenes" ∧ ("several" : Str) ≠ "deeds" := by decide +kernel
theorem copied_own : ("copied" : Str) ≠ "own_yard" ∧ ("copied" : Str) ≠ "scenes" ∧ ("copied" : Str) ≠ "deeds" := by decide +kernel
theorem back_own : ("back" : Str) ≠ "own_yard" ∧ ("back" : Str) ≠ "scenes" ∧ ("back" : Str) ≠ "deeds" := by decide +kernel
theorem log_own : ("log" : Str) ≠ "own_yard" ∧ ("log" : Str) ≠ "scenes" ∧ ("log" : Str) ≠ "deeds" := by decide +kernel
end EW

set_option maxRecDepth 100000
set_option maxHeartbeats 4000000
/-! EwRight: the law's companies. -/
namespace EW
open PySem PySem.Spec PyProof.Rows L2
theorem Fr.less {S T : List Addr} {M M1 M2 : Mem} (a : Fr S M M1) (b : Fr T M1 M2) (h : ∀ x ∈ T, x ∈ S ∨ M x = none) : Fr S M M2 := fun p o e n => b p o (a p o e n) fun q => (h p q).elim n fun z => by rw [z] at e; cases e
theorem dj3 {p q r : Addr} {T : List Addr} (h1 : p ∉ T) (h2 : q ∉ T) (h3 : r ∉ T) : Dj [p, q, r] T := fun x hx => by
  simp only [List.mem_cons, List.not_mem_nil, or_false] at hx
  rcases hx with rfl | rfl | rfl
  · exact h1
  · exact h2
  · exact h3
theorem SackAt.fresh {M : Mem} {a g p : Addr} (hs : SackAt M a g) (h : M p = none) : p ∉ [a, g] := by obtain ⟨u, v⟩ := hs.free h; simp [u, v]
@[irreducible] def sp__law_companies_right : DSp := fun ds M P => ∃ (a g : Addr) (names : List Str) (paths : List Pr), ds = [.ref a, groundD names paths] ∧ Ground names paths ∧ names.length ≤ 8 ∧ paths.length ≤ 24 ∧ SackAt M a g ∧ ∀ M', SackAt M' a g → Fr [a, g] M M' → P (.bl true) M'
def N__law_companies_right : List Str := ["_law_sack_here", "_law_ground_here", "_law_company", "_law_state", "_law_deed_here", "_law_twin", "_law_moves", "_law_traveller", "_law_named"]
def t__law_companies_right : DTS := (dSeq (dPar 2 3 (dMake "Company" sp_Company___init__ [] (daCons (dVar 1) (daNil))) (dCall sp__law_begun [] (daCons (dVar 1) (daNil)))) (dSeq (dFor (diSeq (dCall sp__law_wander [] (daCons (dVar 0) (daCons (dVar 3) (daCons (dOp rIxA (dVar 1) (dC (.int 1))) (daCons (dOp rAdd (dC (.int 5)) (dCall sp__law_take [] (daCons (dVar 0) (daCons (dC (.int 36)) (daNil))))) (daCons (dC (.int 40)) (daNil)))))))) (gN 4) (dDrop (dMeth "Company" "several" sp_Company_several [.bl true] (dVar 2) (daCons (dLst (daCons (dVar 4) (daNil))) (daNil))))) (dSeq (dPar 5 6 (dMeth "Company" "copied" sp_Company_copied [] (dVar 2) daNil) (dCall sp__law_run [] (daCons (dVar 0) (daCons (dVar 3) (daCons (dCall sp__law_take [] (daCons (dVar 0) (daCons (dC (.int 21)) (daNil)))) (daNil)))))) (dSeq (dDrop (dMeth "Company" "several" sp_Company_several [.bl true] (dVar 2) (daCons (dComp (diSeq (dVar 6)) [7, 8] (.t [.n 7, .n 8]) (dYes) (dTup (daCons (dC (.str "back")) (daCons (dVar 7) (daCons (dVar 8) (daNil)))))) (daNil)))) (dSeq (dFor (diSeq (dCall sp__law_other_order [] (daCons (dVar 0) (daCons (dVar 6) (daNil))))) (gTn 2 (gsCons (gN 7) (gsCons (gN 8) (gsNil)))) (dDrop (dMeth "Company" "back" sp_Company_back [] (dVar 5) (daCons (dVar 7) (daCons (dVar 8) (daNil)))))) (dRet (dAndV (dOp (rEqOwn "Company" sp_Company___eq__) (dVar 2) (dVar 5)) (dAndV (dOp (rEqs false) (dMeth "Company" "scene" sp_Company_scene [] (dVar 2) daNil) (dCall sp__law_view [] (daCons (dVar 3) (daNil)))) (dOp (rEqs false) (dCallB rLen (daCons (dMeth "Company" "log" sp_Company_log [] (dVar 2) daNil) (daNil))) (dCallB rLen (daCons (dMeth "Company" "log" sp_Company_log [] (dVar 5) daNil) (daNil))))))))))))
theorem pure__law_companies_right : Pure N__law_companies_right ["_law_sack_here", "_law_ground_here"] sp__law_companies_right t__law_companies_right := by
  unfold sp__law_companies_right
  rintro ds M P ⟨a, g, names, paths, rfl, G, n8, p24, hs, hP⟩
  refine ⟨rfl, ?_⟩
  intro p hp
  have e0 := Ext.new (o := .ins "Company" []) hp
  refine init_call up_same G n8 p24 fun sc de M1 co hsc hde f1 => ⟨rfl, ?_⟩
  have e1 : Ext M M1 := fun x o e => by
    have hx : x ≠ p := fun h => by subst h; rw [hp] at e; cases e
    exact f1 _ _ (e0 _ _ e) (by simp [hx])
  have hs1 := hs.ext e1
  have hscM : M sc = none := e0.back hsc
  have hdeM : M de = none := e0.back hde
  have djS : Dj [p, sc, de] [a, g] := dj3 (hs.fresh hp) (hs.fresh hscM) (hs.fresh hdeM)
  refine begun_call (by omega) fun t h s c M2 st2 hfr e2 => ?_
  have djT : Dj [a, g] [t, h, s, c] := fun x hx hx2 => hs1.fresh (hfr x hx2) hx
  have djC : Dj [p, sc, de] [t, h, s, c] := fun x hx hx2 => co.free (hfr x hx2) hx
  have hTM : ∀ x ∈ [t, h, s, c], M x = none := fun x hx => e1.back (hfr x hx)
  have hs2 := hs1.ext e2
  have co2 := co.ext e2
  have f2 : Fr [a, g] M M2 := (e1.trans e2).fr
  have w0 := begun_wf names
  refine ix_tup (xs := [.ft (names.map D.str), .tup (paths.map pD)]) (d := .tup (paths.map pD)) rfl (take_call hs2 (by decide) (by decide) fun i M3 i0 i1 hs3 f3 => add_int ?_)
  refine wander_tup G.nm G.lo G.hi hs3 (st2.keep f3 djT.sym) w0 djT G.sub (by omega) (by omega) (by omega) fun q es S1 M4 hr hl hq hq4 st4 hs4 f4 => ?_
  have hel : es.length ≤ 40 := by omega
  have f24 : Fr [a, g, t, h, s, c] M2 M4 := (f3.mono sub_ag).trans f4
  have djA : Dj [p, sc, de] [a, g, t, h, s, c] := fun x hx hx2 => by
    rcases List.mem_append.mp (show x ∈ [a, g] ++ [t, h, s, c] from hx2) with u | u
    · exact djS x hx u
    · exact djC x hx u
  have co4 := co2.keep f24 djA
  have fM4 : Fr [a, g] M M4 := f2.less f24 fun x hx => by
    rcases List.mem_append.mp (show x ∈ [a, g] ++ [t, h, s, c] from hx) with u | u
    · exact .inl u
    · exact .inr (hTM x u)
  obtain ⟨hdo, hall⟩ := hr.does G.nm.nd w0 (by have := tot_zero names; show tot names (cnt []) + _ ≤ 47; omega)
  have w1 := hr.wf w0
  have djAS : Dj [a, g] [sc, de] := fun x hx hx2 => djS x (List.mem_cons_of_mem _ hx2) hx
  have djTS : Dj [t, h, s, c] [sc, de] := fun x hx hx2 => djC x (List.mem_cons_of_mem _ hx2) hx
  have hqc : q ∉ [p, sc, de] := (co2.keep f3 djS).free hq
  have hqs : q ∉ [sc, de] := fun hx => hqc (List.mem_cons_of_mem _ hx)
  refine on_seq (lstAt_of hq4) ?_
  refine for_ok (fun dn ρ M5 => (∃ z4, ρ = [some (.ref a), some (groundD names paths), some (.ref p), some (.ref t), z4, none, none, none, none]) ∧ CoAt M5 p sc de (groundD names paths) (viewD names (Sta.all names ⟨List.replicate names.length 0, [], []⟩ (es.take dn.length))) dn.length ∧ Fr [sc, de] M4 M5) (fun _ _ _ _ _ k => lstAt_of (k.2.2 _ _ hq4 hqs)) ?_ ⟨⟨_, rfl⟩, co4, Fr.refl⟩ ?_
  · rintro dn x r ρ M5 e ⟨⟨z4, rfl⟩, co5, f5⟩ N hN
    have hlen : dn.length < es.length := by
      have := congrArg List.length e
      rw [List.length_map, List.length_append, List.length_cons] at this
      omega
    have hx : x = deedD es[dn.length] := by
      have h0 : (es.map deedD)[dn.length]? = some x := by rw [e]; simp
      rw [List.getElem?_map, List.getElem?_eq_getElem hlen] at h0
      exact (Option.some.inj h0).symm
    have htk : es.take (dn.length + 1) = es.take dn.length ++ [es[dn.length]] := by rw [List.take_succ_eq_append_getElem hlen]
    have hsp : es = es.take dn.length ++ (es[dn.length] :: es.drop (dn.length + 1)) := by
      rw [← List.drop_eq_getElem_cons hlen, List.take_append_drop]
    have hd2 := (doesAll_app (S := ⟨List.replicate names.length 0, [], []⟩)).mp (hsp ▸ hdo)
    have w5 : Wf names (Sta.all names ⟨List.replicate names.length 0, [], []⟩ (es.take dn.length)) := Wf.all G.sub w0 hd2.1
    subst hx
    refine ins_at co5.p ⟨rfl, co_no several_own.1 several_own.2.1 several_own.2.2, ?_⟩
    intro k hk
    have ek := Ext.new (o := .lst [deedD es[dn.length]]) hk
    have hks : k ∉ [sc, de] := fun hx => co5.free hk (List.mem_cons_of_mem _ hx)
    refine several_call (es := [es[dn.length]]) (by simp; omega) G w5 ⟨hd2.2.1, trivial⟩ (co5.ext ek) up_same hks fun r' M6 co6 f6 => hN _ _ ⟨⟨_, rfl⟩, ?_, f5.trans (ek.fr.trans f6)⟩
    rw [List.length_append, List.length_singleton, htk, all_snoc]
    exact co6
  rintro ρ M5 ⟨⟨z4, rfl⟩, co5, f5⟩
  rw [List.length_map, List.take_length, hall] at co5
  have hs5 := hs4.keep f5 djAS
  have st5 := st4.keep f5 djTS
  have fM5 : Fr [a, g] M M5 := fM4.less f5 fun x hx => .inr (by
    simp only [List.mem_cons, List.not_mem_nil, or_false] at hx
    rcases hx with rfl | rfl
    · exact hscM
    · exact hdeM)
  refine ins_at co5.p ⟨rfl, co_no copied_own.1 copied_own.2.1 copied_own.2.2, copied_call G n8 p24 (by omega) co5 fun p' sc' de' M6 co' hfr' e6 => ?_⟩
  have hfM : ∀ x ∈ [p', sc', de'], x ∉ [a, g] → M x = none := fun x hx hn => by
    cases hz : M x with
    | none => rfl
    | some o => have := fM5 _ _ hz hn; rw [hfr' x hx] at this; cases this
  have djS' : Dj [p', sc', de'] [a, g] := fun x hx => hs5.fresh (hfr' x hx)
  have djC' : Dj [p', sc', de'] [t, h, s, c] := fun x hx => st5.free (hfr' x hx)
  have djP : Dj [p', sc', de'] [p, sc, de] := fun x hx => co5.free (hfr' x hx)
  have djA' : Dj [p', sc', de'] [a, g, t, h, s, c] := fun x hx hx2 => by
    rcases List.mem_append.mp (show x ∈ [a, g] ++ [t, h, s, c] from hx2) with u | u
    · exact djS' x hx u
    · exact djC' x hx u
  refine take_call (hs5.ext e6) (by decide) (by decide) fun j M7 j0 j1 hs7 f7 => ?_
  have st7 := (st5.ext e6).keep f7 djT.sym
  refine run_call G.nm G.hi hs7 st7 w1 djT j0 (by omega) fun q2 ms S2 M8 hmv hml hq2 hq28 st8 hs8 f8 => ?_
  have f68 : Fr [a, g, t, h, s, c] M6 M8 := (f7.mono sub_ag).trans f8
  have co8 := (co5.ext e6).keep f68 djA
  have ct8 := co'.keep f68 djA'
  have fM8 : Fr [a, g] M M8 := (fM5.ext e6).less f68 fun x hx => by
    rcases List.mem_append.mp (show x ∈ [a, g] ++ [t, h, s, c] from hx) with u | u
    · exact .inl u
    · exact .inr (hTM x u)
  obtain ⟨hd8, ha8⟩ := hmv.does (paths := paths)
  have w2 := hmv.wf w1
  have hin := hmv.in w1
  obtain ⟨hcan, hsc2, hh2⟩ := hmv.run
  have hq2a : q2 ∉ [a, g] := hs7.fresh hq2
  have hq2c : q2 ∉ [sc, de] := fun hx => (((co5.ext e6).keep f7 djS).free hq2) (List.mem_cons_of_mem _ hx)
  have hq2d : q2 ∉ [sc', de'] := fun hx => ((co'.keep f7 djS').free hq2) (List.mem_cons_of_mem _ hx)
  refine ins_at co8.p ⟨rfl, co_no several_own.1 several_own.2.1 several_own.2.2, ?_⟩
  refine on_seq (lstAt_of hq28) fun k hk => ?_
  refine comp_ext (fun y => match y with | .tup [.int i, .str b] => some (.tup [.str "back", .int i, .str b]) | _ => none) hk (fun Mx ex => lstAt_of (ex _ _ hq28)) (by rw [List.length_map]; exact Nat.le_of_lt (smallZ (by omega))) (fun y hy Mx hMx R hR => ?_) fun M9 hM9 hk9 => ?_
  · obtain ⟨⟨i, b⟩, _, rfl⟩ := List.mem_map.mp hy
    exact item_yes (hR Mx Ext.refl)
  have hfm : (ms.map mvD).filterMap (fun y => match y with | .tup [.int i, .str b] => some (.tup [.str "back", .int i, .str b]) | _ => none) = (ms.map back).map deedD := by
    rw [List.filterMap_map, List.map_map, ← List.filterMap_eq_map]; rfl
  rw [hfm] at hk9
  have co9 := co8.ext hM9
  have hk9c : k ∉ [sc, de] := fun hx => co8.free hk (List.mem_cons_of_mem _ hx)
  refine several_call (es := ms.map back) (by rw [List.length_map]; omega) G w1 hd8 co9 hk9 hk9c fun r' M10 co10 f10 => ?_
  rw [ha8, List.length_map] at co10
  have fM10 : Fr [a, g] M M10 := (fM8.ext hM9).less f10 fun x hx => .inr (by
    simp only [List.mem_cons, List.not_mem_nil, or_false] at hx
    rcases hx with rfl | rfl
    · exact hscM
    · exact hdeM)
  have djPS' : Dj [p', sc', de'] [sc, de] := fun x hx hx2 => djP x hx (List.mem_cons_of_mem _ hx2)
  have ct10 := (ct8.ext hM9).keep f10 djPS'
  have hs10 := (hs8.ext hM9).keep f10 djAS
  have st10 := (st8.ext hM9).keep f10 djTS
  have hq210 := f10 _ _ (hM9 _ _ hq28) hq2c
  refine order_call G.nm hs10 hq210 hq2a hml hin fun q3 fs M11 hown hfl hq3 hq311 hs11 f11 => ?_
  have ct11 := ct10.keep f11 djS'
  have co11 := co10.keep f11 djS
  have st11 := st10.keep f11 djT.sym
  have fM11 : Fr [a, g] M M11 := fM10.trans f11
  have hq3d : q3 ∉ [sc', de'] := fun hx => ct10.free hq3 (List.mem_cons_of_mem _ hx)
  obtain ⟨hfc, hfr2⟩ := any_order hown hcan
  refine on_seq (lstAt_of hq311) ?_
  refine for_ok (fun dn ρ M12 => (∃ z4 z7 z8, ρ = [some (.ref a), some (groundD names paths), some (.ref p), some (.ref t), z4, some (.ref p'), some (.ref q2), z7, z8]) ∧ CoAt M12 p' sc' de' (groundD names paths) (scD names S1.homes (S1.sc.run (fs.take dn.length))) (es.length + dn.length) ∧ Fr [sc', de'] M11 M12) (fun _ _ _ _ _ k => lstAt_of (k.2.2 _ _ hq311 hq3d)) ?_ ⟨⟨_, _, _, rfl⟩, ct11, Fr.refl⟩ ?_
  · rintro dn x r ρ M12 e ⟨⟨z4, z7, z8, rfl⟩, ct12, f12⟩ N hN
    have hlen : dn.length < fs.length := by
      have := congrArg List.length e
      rw [List.length_map, List.length_append, List.length_cons] at this
      omega
    have hx : x = mvD fs[dn.length] := by
      have h0 : (fs.map mvD)[dn.length]? = some x := by rw [e]; simp
      rw [List.getElem?_map, List.getElem?_eq_getElem hlen] at h0
      exact (Option.some.inj h0).symm
    have htk : fs.take (dn.length + 1) = fs.take dn.length ++ [fs[dn.length]] := by rw [List.take_succ_eq_append_getElem hlen]
    have hsp : fs = fs.take dn.length ++ (fs[dn.length] :: fs.drop (dn.length + 1)) := by
      rw [← List.drop_eq_getElem_cons hlen, List.take_append_drop]
    have hd2 := (canAll_app (s := S1.sc) (ms := fs.take dn.length)).mp (hsp ▸ hfc)
    have ho := w1.ok.run hd2.1
    subst hx
    refine ⟨rfl, ?_⟩
    refine ins_at ct12.p ⟨rfl, co_no back_own.1 back_own.2.1 back_own.2.2, ?_⟩
    refine back_call (m := fs[dn.length]) (by omega) G ho hd2.2.1 ct12 fun r' M13 ct13 f13 => hN _ _ ⟨⟨_, _, _, rfl⟩, ?_, f12.trans f13⟩
    rw [List.length_append, List.length_singleton, htk, run_app, ← Nat.add_assoc]
    exact ct13
  rintro ρ M12 ⟨⟨z4, z7, z8, rfl⟩, ct12, f12⟩
  rw [List.length_map, List.take_length, hfr2, ← hsc2, ← hh2, hfl] at ct12
  have djCO : Dj [p, sc, de] [sc', de'] := fun x hx hx2 => djP x (List.mem_cons_of_mem _ hx2) hx
  have co12 := co11.keep f12 djCO
  have st12 := st11.keep f12 fun x hx hx2 => djC' x (List.mem_cons_of_mem _ hx2) hx
  have hs12 := hs11.keep f12 fun x hx hx2 => djS' x (List.mem_cons_of_mem _ hx2) hx
  have fM12 : Fr [a, g] M M12 := fM11.less f12 fun x hx => .inr (hfM x (List.mem_cons_of_mem _ hx) (djS' x (List.mem_cons_of_mem _ hx)))
  have hok := scene_ok (homes := S2.homes) G.nm w2.ok
  refine eq_own co12 ct12 (ground_ok G) hok ?_
  refine ins_at co12.p ⟨rfl, co_no nm_s1 nm_s2 nm_s3, scene_call co12 ?_⟩
  refine view_call G.hi st12 w2 fun M13 e13 => eq_same (okN_mono (by omega) hok) ?_
  have co13 := co12.ext e13
  have ct13 := ct12.ext e13
  refine ins_at co13.p ⟨rfl, co_no log_own.1 log_own.2.1 log_own.2.2, log_call co13 fun u l M14 hu hu14 hul e14 => len_lst hu14 ?_⟩
  have ct14 := ct13.ext e14
  refine ins_at ct14.p ⟨rfl, co_no log_own.1 log_own.2.1 log_own.2.2, log_call ct14 fun v l2 M15 hv hv15 hvl e15 => len_lst hv15 (eq_int ?_)⟩
  rw [hul, hvl]
  have hb : (((es.length + ms.length : Nat) : Int) == ((es.length + ms.length : Nat) : Int)) = true := beq_self_eq_true _
  rw [hb]
  have e1315 := (e13.trans e14).trans e15
  exact hP M15 (hs12.ext e1315) (fM12.ext e1315)
theorem companies_call {M : Mem} {a g : Addr} {names : List Str} {paths : List Pr} {P : DVK} (G : Ground names paths) (n8 : names.length ≤ 8) (p24 : paths.length ≤ 24) (hs : SackAt M a g) (hP : ∀ M', SackAt M' a g → Fr [a, g] M M' → P (.bl true) M') : sp__law_companies_right [.ref a, groundD names paths] M P := by unfold sp__law_companies_right; exact ⟨a, g, names, paths, rfl, G, n8, p24, hs, hP⟩
end EW

set_option maxRecDepth 100000
set_option maxHeartbeats 4000000
/-! EwLaw: the law itself. -/
namespace EW
open PySem PySem.Spec PyProof.Rows L2
@[irreducible] def sp_law : DSp := fun ds M P => ∃ (d : D) (ns : List Int), ds = [d] ∧ lsOf M d = some (ns.map D.int) ∧ ns.length ≤ 63 ∧ ∀ M', P (.bl true) M'
def N_law : List Str := ["_law_script", "_law_base", "_law_sack_here", "_law_ground_here", "_law_state", "_law_view_here", "_law_moves", "_law_turn"]
def t_law : DTS := (dSeq (dFor (diRange (dC (.int 2))) (gN 1) (dSeq (dAsg (dCall sp__law_sack [] (daCons (dVar 0) (daCons (dVar 1) (daNil)))) (gN 2)) (dSeq (dAsg (dCall sp__law_ground [] (daCons (dVar 2) (daCons (dC (.int 8)) (daCons (dC (.int 24)) (daNil))))) (gN 3)) (dSeq (dAsg (dCall sp__law_loosened [] (daCons (dVar 2) (daCons (dCall sp__law_balanced [] (daCons (dVar 2) (daCons (dVar 3) (daCons (dCall sp__law_take [] (daCons (dVar 2) (daCons (dC (.int 50)) (daNil)))) (daCons (dC (.int 20)) (daNil)))))) (daNil)))) (gN 4)) (dSeq (dAsg (dCall sp__law_view [] (daCons (dVar 4) (daNil))) (gN 5)) (dSeq (dAsg (dCall sp__law_run [] (daCons (dVar 2) (daCons (dVar 4) (daCons (dCall sp__law_take [] (daCons (dVar 2) (daCons (dC (.int 21)) (daNil)))) (daNil))))) (gN 6)) (dSeq (dFor (diRange (dC (.int 3))) (gN 7) (dIfS (dTest (dOp (rEqs true) (dCall sp_make_moves [] (daCons (dVar 3) (daCons (dVar 5) (daCons (dCall sp__law_other_order [] (daCons (dVar 2) (daCons (dVar 6) (daNil)))) (daNil))))) (dCall sp__law_view [] (daCons (dVar 4) (daNil))))) (dRet (dC (.bl false))) (dNext))) (dIfS (dOr (dNot (dTest (dCall sp__law_neighbours_right [] (daCons (dVar 3) (daCons (dVar 5) (daCons (dVar 6) (daNil))))))) (dNot (dTest (dCall sp__law_companies_right [] (daCons (dVar 2) (daCons (dVar 3) (daNil))))))) (dRet (dC (.bl false))) (dNext))))))))) (dRet (dC (.bl true))))
theorem pure_law : Pure N_law ["_law_script"] sp_law t_law := by
  unfold sp_law
  rintro ds M P ⟨d, ns, rfl, hd, hl, hP⟩
  refine ⟨rfl, ?_⟩
  refine ⟨⟨by decide, by decide⟩, ?_⟩
  refine for_ok (fun dn ρ M1 => (∃ z1 z2 z3 z4 z5 z6 z7, ρ = [some d, z1, z2, z3, z4, z5, z6, z7]) ∧ Ext M M1) (fun _ _ _ _ _ _ => trivial) ?_ ⟨⟨_, _, _, _, _, _, _, rfl⟩, Ext.refl⟩ ?_
  · rintro dn x r ρ M0 e ⟨⟨z1, z2, z3, z4, z5, z6, z7, rfl⟩, h0⟩ N hN
    have hlen : dn.length < 2 := by
      have := congrArg List.length e
      rw [rangeD_length, List.length_append, List.length_cons] at this
      have h2 : ((2 : Int).toNat) = 2 := rfl
      omega
    have hx : x = .int (dn.length : Nat) := by
      have h0 : (rangeD 0 (2 : Int).toNat)[dn.length]? = some x := by rw [e]; simp
      rw [rangeD_get _ _ _ (by simpa using hlen)] at h0
      have := Option.some.inj h0
      rw [← this]; simp
    subst hx
    refine sack_call (lsOf_ext hd h0) (by omega) (by omega) fun a g M1 ha hg hs1 e1 => ?_
    have f1 : Fr [] M0 M1 := e1.fr
    have hag : ∀ x ∈ [a, g], x ∈ ([] : List Addr) ∨ M0 x = none := fun x hx => by
      simp only [List.mem_cons, List.not_mem_nil, or_false] at hx
      rcases hx with rfl | rfl
      · exact .inr ha
      · exact .inr hg
    refine ground_call (many := 8) (most := 24) (by decide) (by decide) (by decide) hs1 fun names paths M2 G n8 p24 hs2 f2 => ?_
    have F2 := f1.less f2 hag
    refine take_call hs2 (by decide) (by decide) fun i M3 i0 i1 hs3 f3 => ?_
    have F3 := F2.less f3 hag
    refine balanced_call G (by omega) hs3 i0 (by omega) fun t h s c S M4 w st4 hfr hs4 f4 => ?_
    have F4 := F3.less f4 hag
    have hst : ∀ x ∈ [t, h, s, c], M0 x = none := fun x hx => by
      cases hz : M0 x with
      | none => rfl
      | some o => have := F3 _ _ hz (by simp); rw [hfr x hx] at this; cases this
    have dj4 : Dj [a, g] [t, h, s, c] := fun x hx hx2 => hs3.fresh (hfr x hx2) hx
    refine loosened_call G.nm G.lo G.hi hs4 st4 w dj4 fun h' S1 M5 w1 st5 hs5 dj5 hh f5 => ?_
    have F5 := F4.less f5 fun x hx => by
      rcases List.mem_append.mp (show x ∈ [a, g] ++ [t, h, s, c] from hx) with u | u
      · exact hag x u
      · exact .inr (hst x u)
    have hst5 : ∀ x ∈ [t, h', s, c], M0 x = none := fun x hx => by
      simp only [List.mem_cons, List.not_mem_nil, or_false] at hx
      rcases hx with rfl | rfl | rfl | rfl
      · exact hst _ (by simp)
      · rcases hh with rfl | hn
        · exact hst _ (by simp)
        · cases hz : M0 x with
          | none => rfl
          | some o => have := F4 _ _ hz (by simp); rw [hn] at this; cases this
      · exact hst _ (by simp)
      · exact hst _ (by simp)
    refine view_call G.hi st5 w1 fun M6 e6 => ?_
    have hs6 := hs5.ext e6
    have st6 := st5.ext e6
    have F6 := F5.ext e6
    refine take_call hs6 (by decide) (by decide) fun j M7 j0 j1 hs7 f7 => ?_
    have st7 := st6.keep f7 dj5.sym
    have F7 := F6.less f7 hag
    refine run_call G.nm G.hi hs7 st7 w1 dj5 j0 (by omega) fun q ms S2 M8 hmv hml hq hq8 st8 hs8 f8 => ?_
    have F8 := F7.less f8 fun x hx => by
      rcases List.mem_append.mp (show x ∈ [a, g] ++ [t, h', s, c] from hx) with u | u
      · exact hag x u
      · exact .inr (hst5 x u)
    have w2 := hmv.wf w1
    have hin := hmv.in w1
    obtain ⟨hcan, hsc2, hh2⟩ := hmv.run
    have hqa : q ∉ [a, g] := hs7.fresh hq
    have hok := scene_ok (homes := S2.homes) G.nm w2.ok
    refine ⟨⟨by decide, by decide⟩, ?_⟩
    refine for_ok (fun dn' ρ M9 => (∃ z7, ρ = [some d, some (.int (dn.length : Nat)), some (.ref a), some (groundD names paths), some (.ref t), some (scD names S1.homes S1.sc), some (.ref q), z7]) ∧ SackAt M9 a g ∧ Fr [a, g] M8 M9) (fun _ _ _ _ _ _ => trivial) ?_ ⟨⟨_, rfl⟩, hs8, Fr.refl⟩ ?_
    · rintro dn' x r' ρ M9 e' ⟨⟨z7, rfl⟩, hs9, f9⟩ N' hN'
      have hq9 := f9 _ _ hq8 hqa
      have st9 := st8.keep f9 dj5.sym
      refine order_call G.nm hs9 hq9 hqa hml hin fun q3 fs M10 hown hfl hq3 hq310 hs10 f10 => ?_
      obtain ⟨hfc, hfr2⟩ := any_order hown hcan
      have st10 := st9.keep f10 dj5.sym
      refine make_moves_call (s := S1.sc) (homes := S1.homes) (d := .ref q3) (ms := fs) G.nm G.hi w1.ok (lstAt_of hq310) hfc fun M11 e11 => ?_
      refine view_call G.hi (st10.ext e11) w2 fun M12 e12 => ?_
      have hv : scD names S1.homes (S1.sc.run fs) = sceneD names S2.homes S2.stand (cnt S2.kvs) := by rw [hfr2, ← hsc2, ← hh2]; rfl
      rw [hv]
      refine eq_same (okN_mono (by omega) hok) ?_
      exact hN' _ _ ⟨⟨_, rfl⟩, (hs10.ext e11).ext e12, ((f9.trans f10).ext e11).ext e12⟩
    · rintro ρ M9 ⟨⟨z7, rfl⟩, hs9, f9⟩
      have hq9 := f9 _ _ hq8 hqa
      have F9 := F8.less f9 hag
      refine neighbours_call G.nm G.hi w1.ok hcan hq9 (by omega) fun M10 e10 => ?_
      refine companies_call G n8 p24 (hs9.ext e10) fun M11 hs11 f11 => ?_
      have F11 := (F9.ext e10).less f11 hag
      exact hN _ _ ⟨⟨_, _, _, _, _, _, _, rfl⟩, fun x o ho => F11 x o (h0 x o ho) (by simp)⟩
  · rintro ρ M1 ⟨⟨z1, z2, z3, z4, z5, z6, z7, rfl⟩, h1⟩
    exact hP M1
end EW

set_option maxRecDepth 100000
/-! EwFact: what the top has written, as facts of the frame. -/
namespace EW
open PySem PySem.Spec PyProof.Rows L2
section
variable {K : PySem.W.Frag} {h : Heap} {mg : Str → Option Value} {x y qual m : Str} {st : Stmt} {f C D : Addr} {oc kV dc pm cd ct : Value} {od an : Option Addr} {sl : Array (Option Value)} {v : Value}
theorem funD_mk (l : K.lookup f = some ⟨oc, od, .func (PySem.W.fnOf x qual (defArgs st) (defBody st) (defScope st) .none kV dc pm an cd ct), sl⟩) (c : PySem.W.codeIn K cd qual = true) (k : PySem.W.keepIn K (.ref f) = true) : FunD K x qual (defArgs st) (defBody st) (defScope st) [] [] f (PySem.W.fnOf x qual (defArgs st) (defBody st) (defScope st) .none kV dc pm an cd ct) :=
  ⟨⟨oc, od, .none, kV, dc, pm, an, cd, ct, sl, rfl, l, c, .inl ⟨rfl, rfl⟩, .inl rfl⟩, k⟩
theorem glo_mk (X : K.In h) (G : h.Ns mainGlobals mg) (a : PySem.W.nsIn K mainGlobals x = some (some (.ref f))) (l : K.lookup f = some ⟨oc, od, .func (PySem.W.fnOf x x (defArgs st) (defBody st) (defScope st) .none kV dc pm an cd ct), sl⟩) (c : PySem.W.codeIn K cd x = true) (k : PySem.W.keepIn K (.ref f) = true) : Glo K mg x st := ⟨f, _, funD_mk l c k, PySem.W.mg_of X G a⟩
theorem gloA_mk (X : K.In h) (G : h.Ns mainGlobals mg) (a : PySem.W.nsIn K mainGlobals y = some (some (.ref f))) (l : K.lookup f = some ⟨oc, od, .func (PySem.W.fnOf x x (defArgs st) (defBody st) (defScope st) .none kV dc pm an cd ct), sl⟩) (c : PySem.W.codeIn K cd x = true) (k : PySem.W.keepIn K (.ref f) = true) : GloA K mg y x st := ⟨f, _, funD_mk l c k, PySem.W.mg_of X G a⟩
theorem mth_mk (a : PySem.W.findIn K (.ref C) m = some (some (.ref f))) (i : PySem.W.isFn K (.ref f) = true) (l : K.lookup f = some ⟨oc, od, .func (PySem.W.fnOf m qual (defArgs st) (defBody st) (defScope st) .none kV dc pm an cd ct), sl⟩) (c : PySem.W.codeIn K cd qual = true) (k : PySem.W.keepIn K (.ref f) = true) : Mth K C m qual st [] := ⟨f, _, funD_mk l c k, ⟨a, i, k⟩⟩
theorem mthk_mk {b : Bool} (a : PySem.W.findIn K (.ref C) m = some (some (.ref f))) (i : PySem.W.isFn K (.ref f) = true) (l : K.lookup f = some ⟨oc, od, .func (PySem.W.fnOf m qual (defArgs st) (defBody st) (defScope st) .none (.ref D) dc pm an cd ct), sl⟩) (c : PySem.W.codeIn K cd qual = true) (k : PySem.W.keepIn K (.ref f) = true) (d : PySem.W.nsIn K D y = some (some (.bool b))) : Mth K C m qual st [(y, .bl b)] :=
  ⟨f, _, ⟨⟨oc, od, .none, .ref D, dc, pm, an, cd, ct, sl, rfl, l, c, .inl ⟨rfl, rfl⟩, .inr ⟨D, rfl, fun q hq => by rw [List.mem_singleton.mp hq]; exact ⟨_, d, rfl⟩⟩⟩, k⟩, ⟨a, i, k⟩⟩
theorem ini_mk (X : K.In h) (G : h.Ns mainGlobals mg) (g : PySem.W.nsIn K mainGlobals x = some (some (.ref C))) (mk : PySem.W.makesIn K C = true) (a : PySem.W.findIn K (.ref C) "__init__" = some (some (.ref f))) (i : PySem.W.isFn K (.ref f) = true) (l : K.lookup f = some ⟨oc, od, .func (PySem.W.fnOf "__init__" qual (defArgs st) (defBody st) (defScope st) .none kV dc pm an cd ct), sl⟩) (c : PySem.W.codeIn K cd qual = true) (k : PySem.W.keepIn K (.ref f) = true) (kc : PySem.W.keepIn K (.ref C) = true) : Ini K mg C x qual st := ⟨f, _, funD_mk l c k, ⟨mk, a, i, kc⟩, PySem.W.mg_of X G g⟩
theorem cls_mk (pg : PySem.W.plainGet K C Str.empty = true) (hd : PySem.W.hasDictIn K C = true) (po : PySem.W.plainOver K C = true) (sa : PySem.W.findIn K (.ref C) "__setattr__" = some (some (.builtin "object.__setattr__"))) : Cls K C := ⟨pg, hd, po, sa⟩
theorem g_int {i : Int} (X : K.In h) (G : h.Ns mainGlobals mg) (a : PySem.W.nsIn K mainGlobals x = some (some v)) (e : ∃ t, v = .int i t) : ∃ t, mg x = some (.int i t) := e.elim fun t e => ⟨t, e ▸ PySem.W.mg_of X G a⟩
theorem g_str {i : Str} (X : K.In h) (G : h.Ns mainGlobals mg) (a : PySem.W.nsIn K mainGlobals x = some (some v)) (e : ∃ t, v = .str i t) : ∃ t, mg x = some (.str i t) := e.elim fun t e => ⟨t, e ▸ PySem.W.mg_of X G a⟩
def TabIn (K : PySem.W.Frag) (p : Addr) (tab : List (Str × Str)) : Prop := ∀ k v, tab.lookup k = some v → ∃ t, PySem.W.nsIn K p k = some (some (.str v t))
theorem tab_nil {p : Addr} : TabIn K p [] := fun _ _ z => nomatch z
theorem tab_cons {p : Addr} {a b : Str} {t : Tok} {tab : List (Str × Str)} (z : PySem.W.nsIn K p a = some (some (.str b t))) (r : TabIn K p tab) : TabIn K p ((a, b) :: tab) := fun k v q => by
  rw [List.lookup_cons] at q
  by_cases e : (k == a) = true
  · rw [e] at q
    have := beq_iff_eq.mp e
    subst this
    cases q
    exact ⟨t, z⟩
  · have e' : (k == a) = false := by simpa using e
    rw [e'] at q
    exact r k v q
theorem tab_cons' {p : Addr} {a b : Str} {tab : List (Str × Str)} (z : PySem.W.nsIn K p a = some (some v)) (e : ∃ t, v = .str b t) (r : TabIn K p tab) : TabIn K p ((a, b) :: tab) := e.elim fun t e => tab_cons (t := t) (by rw [z, e]) r
theorem tab_mk {w : World} {p : Addr} {es : Array DictEntry} {n : Nat} {tab : List (Str × Str)} (X : K.In h) (G : h.Ns mainGlobals mg) (a : PySem.W.nsIn K mainGlobals x = some (some (.ref p))) (l : K.lookup p = some ⟨.type "dict", none, .dict es n, #[]⟩) (i : PySem.W.KeysLit w.params es.toList) (s : (p == sysModules) = false) (r : TabIn K p tab) :
    ∃ p es n, mg x = some (.ref p) ∧ K.lookup p = some ⟨.type "dict", none, .dict es n, #[]⟩ ∧ PySem.W.KeysLit w.params es.toList ∧ (p == sysModules) = false ∧ ∀ k v, tab.lookup k = some v → ∃ t, PySem.W.nsIn K p k = some (some (.str v t)) := ⟨p, es, n, PySem.W.mg_of X G a, l, i, s, r⟩
end
end EW

set_option maxRecDepth 100000
set_option maxHeartbeats 1000000
namespace EW
open PySem PySem.Spec PyProof.Rows L2
def top (i : Nat) : Stmt := PySem.Challenge.pw_eatenways_k59_whole_moves_in_any_order.main.body.getD i (.Pass ⟨0, 0, 0, 0⟩)
abbrev st_is_name : Stmt := top 13
theorem sc_is_name : FnScope N_is_name ["text"] (defScope st_is_name) := ⟨rfl, rfl, rfl, by decide +kernel, rfl, by decide +kernel, by decide +kernel⟩
abbrev st_is_integer : Stmt := top 14
theorem sc_is_integer : FnScope N_is_integer ["value"] (defScope st_is_integer) := ⟨rfl, rfl, rfl, by decide +kernel, rfl, by decide +kernel, by decide +kernel⟩
abbrev st_are_strings : Stmt := top 15
theorem sc_are_strings : FnScope N_are_strings ["value"] (defScope st_are_strings) := ⟨rfl, rfl, rfl, by decide +kernel, rfl, by decide +kernel, by decide +kernel⟩
abbrev st_has_form_yards : Stmt := top 16
theorem sc_has_form_yards : FnScope N_has_form_yards ["value"] (defScope st_has_form_yards) := ⟨rfl, rfl, rfl, by decide +kernel, rfl, by decide +kernel, by decide +kernel⟩
abbrev st_require : Stmt := top 18
theorem sc_require : FnScope N_require ["condition", "word", "at"] (defScope st_require) := ⟨rfl, rfl, rfl, by decide +kernel, rfl, by decide +kernel, by decide +kernel⟩
abbrev st_check_yard : Stmt := top 19
theorem sc_check_yard : FnScope N_check_yard ["value"] (defScope st_check_yard) := ⟨rfl, rfl, rfl, by decide +kernel, rfl, by decide +kernel, by decide +kernel⟩
abbrev st_require_place : Stmt := top 20
theorem sc_require_place : FnScope N_require_place ["yard", "place"] (defScope st_require_place) := ⟨rfl, rfl, rfl, by decide +kernel, rfl, by decide +kernel, by decide +kernel⟩
abbrev st_crumb_total : Stmt := top 24
theorem sc_crumb_total : FnScope N_crumb_total ["scene"] (defScope st_crumb_total) := ⟨rfl, rfl, rfl, by decide +kernel, rfl, by decide +kernel, by decide +kernel⟩
abbrev st_changed_crumbs : Stmt := top 26
theorem sc_changed_crumbs : FnScope N_changed_crumbs ["yard", "crumbs", "kind", "change"] (defScope st_changed_crumbs) := ⟨rfl, rfl, rfl, by decide +kernel, rfl, by decide +kernel, by decide +kernel⟩
abbrev st_moved : Stmt := top 27
theorem sc_moved : FnScope N_moved ["standing", "traveller", "place"] (defScope st_moved) := ⟨rfl, rfl, rfl, by decide +kernel, rfl, by decide +kernel, by decide +kernel⟩
abbrev st_possible_moves : Stmt := top 28
theorem sc_possible_moves : FnScope N_possible_moves ["yard", "scene"] (defScope st_possible_moves) := ⟨rfl, rfl, rfl, by decide +kernel, rfl, by decide +kernel, by decide +kernel⟩
abbrev st_make_moves : Stmt := top 29
theorem sc_make_moves : FnScope N_make_moves ["yard", "scene", "moves"] (defScope st_make_moves) := ⟨rfl, rfl, rfl, by decide +kernel, rfl, by decide +kernel, by decide +kernel⟩
abbrev st_fits : Stmt := top 32
theorem sc_fits : FnScope N_fits ["value", "sort"] (defScope st_fits) := ⟨rfl, rfl, rfl, by decide +kernel, rfl, by decide +kernel, by decide +kernel⟩
abbrev st_has_form_company : Stmt := top 33
theorem sc_has_form_company : FnScope N_has_form_company ["value"] (defScope st_has_form_company) := ⟨rfl, rfl, rfl, by decide +kernel, rfl, by decide +kernel, by decide +kernel⟩
abbrev st_Company___init__ : Stmt := inClass (top 35) 0
theorem sc_Company___init__ : FnScope N_Company___init__ ["self", "yard"] (defScope st_Company___init__) := ⟨rfl, rfl, rfl, by decide +kernel, rfl, by decide +kernel, by decide +kernel⟩
abbrev st_Company___eq__ : Stmt := inClass (top 35) 2
theorem sc_Company___eq__ : FnScope N_Company___eq__ ["self", "other"] (defScope st_Company___eq__) := ⟨rfl, rfl, rfl, by decide +kernel, rfl, by decide +kernel, by decide +kernel⟩
abbrev st_Company_scene : Stmt := inClass (top 35) 4
theorem sc_Company_scene : FnScope N_Company_scene ["self"] (defScope st_Company_scene) := ⟨rfl, rfl, rfl, by decide +kernel, rfl, by decide +kernel, by decide +kernel⟩
abbrev st_Company_log : Stmt := inClass (top 35) 6
theorem sc_Company_log : FnScope N_Company_log ["self"] (defScope st_Company_log) := ⟨rfl, rfl, rfl, by decide +kernel, rfl, by decide +kernel, by decide +kernel⟩
abbrev st_Company_note : Stmt := inClass (top 35) 7
theorem sc_Company_note : FnScope N_Company_note ["self", "deed", "scene"] (defScope st_Company_note) := ⟨rfl, rfl, rfl, by decide +kernel, rfl, by decide +kernel, by decide +kernel⟩
abbrev st_Company_place_of : Stmt := inClass (top 35) 8
theorem sc_Company_place_of : FnScope N_Company_place_of ["self", "traveller"] (defScope st_Company_place_of) := ⟨rfl, rfl, rfl, by decide +kernel, rfl, by decide +kernel, by decide +kernel⟩
abbrev st_Company_join : Stmt := inClass (top 35) 9
theorem sc_Company_join : FnScope N_Company_join ["self", "place"] (defScope st_Company_join) := ⟨rfl, rfl, rfl, by decide +kernel, rfl, by decide +kernel, by decide +kernel⟩
abbrev st_Company_go : Stmt := inClass (top 35) 10
theorem sc_Company_go : FnScope N_Company_go ["self", "traveller", "place"] (defScope st_Company_go) := ⟨rfl, rfl, rfl, by decide +kernel, rfl, by decide +kernel, by decide +kernel⟩
abbrev st_Company_back : Stmt := inClass (top 35) 11
theorem sc_Company_back : FnScope N_Company_back ["self", "traveller", "place"] (defScope st_Company_back) := ⟨rfl, rfl, rfl, by decide +kernel, rfl, by decide +kernel, by decide +kernel⟩
abbrev st_Company_make : Stmt := inClass (top 35) 13
theorem sc_Company_make : FnScope N_Company_make ["self", "deed"] (defScope st_Company_make) := ⟨rfl, rfl, rfl, by decide +kernel, rfl, by decide +kernel, by decide +kernel⟩
abbrev st_Company_is_made : Stmt := inClass (top 35) 14
theorem sc_Company_is_made : FnScope N_Company_is_made ["self", "value"] (defScope st_Company_is_made) := ⟨rfl, rfl, rfl, by decide +kernel, rfl, by decide +kernel, by decide +kernel⟩
abbrev st_Company_several : Stmt := inClass (top 35) 15
theorem sc_Company_several : FnScope N_Company_several ["self", "deeds", "whole"] (defScope st_Company_several) := ⟨rfl, rfl, rfl, by decide +kernel, rfl, by decide +kernel, by decide +kernel⟩
abbrev st_Company_copied : Stmt := inClass (top 35) 16
theorem sc_Company_copied : FnScope N_Company_copied ["self"] (defScope st_Company_copied) := ⟨rfl, rfl, rfl, by decide +kernel, rfl, by decide +kernel, by decide +kernel⟩
abbrev st__law_sack : Stmt := top 37
theorem sc__law_sack : FnScope N__law_sack ["_law_script", "_law_base"] (defScope st__law_sack) := ⟨rfl, rfl, rfl, by decide +kernel, rfl, by decide +kernel, by decide +kernel⟩
abbrev st__law_take : Stmt := top 38
theorem sc__law_take : FnScope N__law_take ["_law_sack_here", "_law_many"] (defScope st__law_take) := ⟨rfl, rfl, rfl, by decide +kernel, rfl, by decide +kernel, by decide +kernel⟩
abbrev st__law_mixed : Stmt := top 39
theorem sc__law_mixed : FnScope N__law_mixed ["_law_sack_here", "_law_some"] (defScope st__law_mixed) := ⟨rfl, rfl, rfl, by decide +kernel, rfl, by decide +kernel, by decide +kernel⟩
abbrev st__law_names : Stmt := top 40
theorem sc__law_names : FnScope N__law_names ["_law_sack_here", "_law_many"] (defScope st__law_names) := ⟨rfl, rfl, rfl, by decide +kernel, rfl, by decide +kernel, by decide +kernel⟩
abbrev st__law_pairs : Stmt := top 41
theorem sc__law_pairs : FnScope N__law_pairs ["_law_names_here"] (defScope st__law_pairs) := ⟨rfl, rfl, rfl, by decide +kernel, rfl, by decide +kernel, by decide +kernel⟩
abbrev st__law_ground : Stmt := top 42
theorem sc__law_ground : FnScope N__law_ground ["_law_sack_here", "_law_many", "_law_most"] (defScope st__law_ground) := ⟨rfl, rfl, rfl, by decide +kernel, rfl, by decide +kernel, by decide +kernel⟩
abbrev st__law_begun : Stmt := top 43
theorem sc__law_begun : FnScope N__law_begun ["_law_ground_here"] (defScope st__law_begun) := ⟨rfl, rfl, rfl, by decide +kernel, rfl, by decide +kernel, by decide +kernel⟩
abbrev st__law_total : Stmt := top 44
theorem sc__law_total : FnScope N__law_total ["_law_state"] (defScope st__law_total) := ⟨rfl, rfl, rfl, by decide +kernel, rfl, by decide +kernel, by decide +kernel⟩
abbrev st__law_view : Stmt := top 45
theorem sc__law_view : FnScope N__law_view ["_law_state"] (defScope st__law_view) := ⟨rfl, rfl, rfl, by decide +kernel, rfl, by decide +kernel, by decide +kernel⟩
abbrev st__law_eaten : Stmt := top 46
theorem sc__law_eaten : FnScope N__law_eaten ["_law_state", "_law_at"] (defScope st__law_eaten) := ⟨rfl, rfl, rfl, by decide +kernel, rfl, by decide +kernel, by decide +kernel⟩
abbrev st__law_make : Stmt := top 47
theorem sc__law_make : FnScope N__law_make ["_law_state", "_law_deed_here"] (defScope st__law_make) := ⟨rfl, rfl, rfl, by decide +kernel, rfl, by decide +kernel, by decide +kernel⟩
abbrev st__law_deed : Stmt := top 48
theorem sc__law_deed : FnScope N__law_deed ["_law_sack_here", "_law_state", "_law_paths"] (defScope st__law_deed) := ⟨rfl, rfl, rfl, by decide +kernel, rfl, by decide +kernel, by decide +kernel⟩
abbrev st__law_wander : Stmt := top 49
theorem sc__law_wander : FnScope N__law_wander ["_law_sack_here", "_law_state", "_law_paths", "_law_steps", "_law_most"] (defScope st__law_wander) := ⟨rfl, rfl, rfl, by decide +kernel, rfl, by decide +kernel, by decide +kernel⟩
abbrev st__law_ringed : Stmt := top 50
theorem sc__law_ringed : FnScope N__law_ringed ["_law_sack_here", "_law_state"] (defScope st__law_ringed) := ⟨rfl, rfl, rfl, by decide +kernel, rfl, by decide +kernel, by decide +kernel⟩
abbrev st__law_balanced : Stmt := top 51
theorem sc__law_balanced : FnScope N__law_balanced ["_law_sack_here", "_law_ground_here", "_law_steps", "_law_most"] (defScope st__law_balanced) := ⟨rfl, rfl, rfl, by decide +kernel, rfl, by decide +kernel, by decide +kernel⟩
abbrev st__law_loosened : Stmt := top 52
theorem sc__law_loosened : FnScope N__law_loosened ["_law_sack_here", "_law_state"] (defScope st__law_loosened) := ⟨rfl, rfl, rfl, by decide +kernel, rfl, by decide +kernel, by decide +kernel⟩
abbrev st__law_stepped : Stmt := top 53
theorem sc__law_stepped : FnScope N__law_stepped ["_law_state", "_law_traveller", "_law_named"] (defScope st__law_stepped) := ⟨rfl, rfl, rfl, by decide +kernel, rfl, by decide +kernel, by decide +kernel⟩
abbrev st__law_options : Stmt := top 54
theorem sc__law_options : FnScope N__law_options ["_law_state"] (defScope st__law_options) := ⟨rfl, rfl, rfl, by decide +kernel, rfl, by decide +kernel, by decide +kernel⟩
abbrev st__law_run : Stmt := top 55
theorem sc__law_run : FnScope N__law_run ["_law_sack_here", "_law_state", "_law_most"] (defScope st__law_run) := ⟨rfl, rfl, rfl, by decide +kernel, rfl, by decide +kernel, by decide +kernel⟩
abbrev st__law_other_order : Stmt := top 56
theorem sc__law_other_order : FnScope N__law_other_order ["_law_sack_here", "_law_moves"] (defScope st__law_other_order) := ⟨rfl, rfl, rfl, by decide +kernel, rfl, by decide +kernel, by decide +kernel⟩
abbrev st__law_neighbours_right : Stmt := top 57
theorem sc__law_neighbours_right : FnScope N__law_neighbours_right ["_law_ground_here", "_law_view_here", "_law_moves"] (defScope st__law_neighbours_right) := ⟨rfl, rfl, rfl, by decide +kernel, rfl, by decide +kernel, by decide +kernel⟩
abbrev st__law_companies_right : Stmt := top 58
theorem sc__law_companies_right : FnScope N__law_companies_right ["_law_sack_here", "_law_ground_here"] (defScope st__law_companies_right) := ⟨rfl, rfl, rfl, by decide +kernel, rfl, by decide +kernel, by decide +kernel⟩
abbrev st_law : Stmt := top 59
theorem sc_law : FnScope N_law ["_law_script"] (defScope st_law) := ⟨rfl, rfl, rfl, by decide +kernel, rfl, by decide +kernel, by decide +kernel⟩
structure Txt (cl : String → Addr) (K : PySem.W.Frag) (mg : Str → Option Value) (w : World) : Prop where
  b_abs : mg "abs" = none
  b_all : mg "all" = none
  b_bool : mg "bool" = none
  b_enumerate : mg "enumerate" = none
  b_int : mg "int" = none
  b_isinstance : mg "isinstance" = none
  b_len : mg "len" = none
  b_list : mg "list" = none
  b_max : mg "max" = none
  b_min : mg "min" = none
  b_range : mg "range" = none
  b_sorted : mg "sorted" = none
  b_str : mg "str" = none
  b_sum : mg "sum" = none
  b_tuple : mg "tuple" = none
  b_zip : mg "zip" = none
  cls_Company : Cls K (cl "Company")
  g_CRUMBS : ∃ t, mg "CRUMBS" = some (.int (48) t)
  g_LETTERS : ∃ t, mg "LETTERS" = some (.str "abcdefghijklmnopqrstuvwxyz" t)
  g_NAME_LENGTH : ∃ t, mg "NAME_LENGTH" = some (.int (6) t)
  g_PATHS : ∃ t, mg "PATHS" = some (.int (24) t)
  g_PLACES : ∃ t, mg "PLACES" = some (.int (8) t)
  g_TRAVELLERS : ∃ t, mg "TRAVELLERS" = some (.int (6) t)
  isi_Company : IsiC K (cl "Company")
  mg_Company : mg "Company" = some (.ref (cl "Company"))
  na_Company_deeds : NoAttr K (cl "Company") "deeds"
  na_Company_own_yard : NoAttr K (cl "Company") "own_yard"
  na_Company_scenes : NoAttr K (cl "Company") "scenes"
  tab_FORMS : ∃ p es n, mg "FORMS" = some (.ref p) ∧ K.lookup p = some ⟨.type "dict", none, .dict es n, #[]⟩ ∧ PySem.W.KeysLit w.params es.toList ∧ (p == sysModules) = false ∧ ∀ k v, ([("join", "p"), ("go", "tp"), ("back", "tp")] : List (Str × Str)).lookup k = some v → ∃ t, PySem.W.nsIn K p k = some (some (.str v t))
section
variable {cl : String → Addr} {P : Program} {w : World} {K : PySem.W.Frag} {mg : Str → Option Value} {base : Heap}
theorem w_is_name (T : Txt cl K mg w)  : Body cl P w K mg base N_is_name "is_name" st_is_name 0 t_is_name := fun f cdv A outer s H E hr =>
  ds_one (ds_ret (d_and (d_chain o_le o_le (d_int) (d_callB c_len rfl T.b_len (by decide +kernel) (da_cons (d_var 0) (da_nil))) (d_gintE (T.g_NAME_LENGTH) rfl)) (d_one (d_callB (c_all rfl) rfl T.b_all (by decide +kernel) (da_cons (d_lc rfl sc_is_name.nd (di_str (d_var 0)) (own := [("letter", 1)]) (pt := .n 1) (blk_ok (by kernel_rfl)) (fun _ _ _ _ _ => pg_name sc_is_name.nd rfl (by first | exact Or.inl rfl | exact Or.inr rfl)) (fun _ _ _ _ _ => dts_nil) (fun _ _ _ _ _ => d_cmp (o_in hr.u65) (d_var 1) (d_gstrE (T.g_LETTERS) rfl))) (da_nil))))))
theorem w_is_integer (T : Txt cl K mg w)  : Body cl P w K mg base N_is_integer "is_integer" st_is_integer 0 t_is_integer := fun f cdv A outer s H E hr =>
  ds_one (ds_ret (d_and (d_isi tab_int rfl T.b_isinstance rfl T.b_int (by decide +kernel) (d_var 0)) (d_one (d_not (d_isi tab_bool rfl T.b_isinstance rfl T.b_bool (by decide +kernel) (d_var 0))))))
theorem w_are_strings (T : Txt cl K mg w)  : Body cl P w K mg base N_are_strings "are_strings" st_are_strings 0 t_are_strings := fun f cdv A outer s H E hr =>
  ds_one (ds_ret (d_and (d_isi tab_tuple rfl T.b_isinstance rfl T.b_tuple (by decide +kernel) (d_var 0)) (d_one (d_callB (c_all rfl) rfl T.b_all (by decide +kernel) (da_cons (d_lc rfl sc_are_strings.nd (di_seq (d_var 0)) (own := [("item", 1)]) (pt := .n 1) (blk_ok (by kernel_rfl)) (fun _ _ _ _ _ => pg_name sc_are_strings.nd rfl (by first | exact Or.inl rfl | exact Or.inr rfl)) (fun _ _ _ _ _ => dts_nil) (fun _ _ _ _ _ => d_isi tab_str rfl T.b_isinstance rfl T.b_str (by decide +kernel) (d_var 1))) (da_nil))))))
theorem w_has_form_yards (T : Txt cl K mg w) (G_are_strings : Cal cl P w K mg base "are_strings" 1 [] sp_are_strings) : Body cl P w K mg base N_has_form_yards "has_form" st_has_form_yards 1 t_has_form_yards := fun f cdv A outer s H E hr =>
  ds_cons (ds_if (dw (dw_or (dt_not (dt_val (d_isi tab_tuple rfl T.b_isinstance rfl T.b_tuple (by decide +kernel) (d_var 0)))) (dw_or (dt_cmp (o_ne hr.units) (d_callB c_len rfl T.b_len (by decide +kernel) (da_cons (d_var 0) (da_nil))) (d_int)) (dw_or1 (dt_not (dt_val (d_isi tab_tuple rfl T.b_isinstance rfl T.b_tuple (by decide +kernel) (d_ix (i_ix hr.u1) (d_var 0) (d_int))))))))) (ds_one (ds_ret (d_bl))) (dss_nil)) (ds_one (ds_ret (d_and (d_call G_are_strings (hr.mono (by decide)) rfl (da_cons (d_ix (i_ix hr.u1) (d_var 0) (d_int)) (da_nil))) (d_one (d_callB (c_all rfl) rfl T.b_all (by decide +kernel) (da_cons (d_lc rfl sc_has_form_yards.nd (di_seq (d_ix (i_ix hr.u1) (d_var 0) (d_int))) (own := [("path", 1)]) (pt := .n 1) (blk_ok (by kernel_rfl)) (fun _ _ _ _ _ => pg_name sc_has_form_yards.nd rfl (by first | exact Or.inl rfl | exact Or.inr rfl)) (fun _ _ _ _ _ => dts_nil) (fun _ _ _ _ _ => d_and (d_call G_are_strings (hr.mono (by decide)) rfl (da_cons (d_var 1) (da_nil))) (d_one (d_cmp (o_eq hr.units) (d_callB c_len rfl T.b_len (by decide +kernel) (da_cons (d_var 1) (da_nil))) (d_int))))) (da_nil)))))))
theorem w_require (T : Txt cl K mg w)  : Body cl P w K mg base N_require "require" st_require 0 t_require := fun f cdv A outer s H E hr =>
  ds_one (ds_if (dt_not (dt_val (d_var 0))) (ds_one (ds_never)) (dss_nil))
theorem w_check_yard (T : Txt cl K mg w) (G_require : Cal cl P w K mg base "require" 1 [] sp_require) (G_has_form_yards : Cal cl P w K mg base "has_form_yards" 2 [] sp_has_form_yards) (G_is_name : Cal cl P w K mg base "is_name" 1 [] sp_is_name) : Body cl P w K mg base N_check_yard "check_yard" st_check_yard 2 t_check_yard := fun f cdv A outer s H E hr =>
  ds_cons (ds_expr (d_call G_require (hr.mono (by decide)) rfl (da_cons (d_call G_has_form_yards (hr.mono (by decide)) rfl (da_cons (d_var 0) (da_nil))) (da_cons (d_str) (da_cons (d_int) (da_nil)))))) (ds_cons (ds_asg (d_var 0) (dg_tup rfl (dgs_cons (dg_name 1 sc_check_yard.nd) (dgs_cons (dg_name 2 sc_check_yard.nd) (dgs_nil))))) (ds_cons (ds_expr (d_call G_require (hr.mono (by decide)) rfl (da_cons (d_chain o_le o_le (d_int) (d_callB c_len rfl T.b_len (by decide +kernel) (da_cons (d_var 1) (da_nil))) (d_gintE (T.g_PLACES) rfl)) (da_cons (d_str) (da_cons (d_int) (da_nil)))))) (ds_cons (ds_expr (d_call G_require (hr.mono (by decide)) rfl (da_cons (d_cmp o_le (d_callB c_len rfl T.b_len (by decide +kernel) (da_cons (d_var 2) (da_nil))) (d_gintE (T.g_PATHS) rfl)) (da_cons (d_str) (da_cons (d_int) (da_nil)))))) (ds_cons (ds_for PassesOwn.never rfl (di_enum rfl T.b_enumerate (d_var 1)) (dg_tup rfl (dgs_cons (dg_name 3 sc_check_yard.nd) (dgs_cons (dg_name 4 sc_check_yard.nd) (dgs_nil)))) (ds_one (ds_expr (d_call G_require (hr.mono (by decide)) rfl (da_cons (d_and (d_call G_is_name (hr.mono (by decide)) rfl (da_cons (d_var 4) (da_nil))) (d_one (d_cmp (o_notIn hr.u65) (d_var 4) (d_slice s_slice (d_var 1) (do_none) (do_some (d_var 3)))))) (da_cons (d_str) (da_cons (d_var 3) (da_nil)))))))) (ds_cons (ds_for PassesOwn.never rfl (di_enum rfl T.b_enumerate (d_var 2)) (dg_tup rfl (dgs_cons (dg_name 3 sc_check_yard.nd) (dgs_cons (dg_tup rfl (dgs_cons (dg_name 5 sc_check_yard.nd) (dgs_cons (dg_name 6 sc_check_yard.nd) (dgs_nil)))) (dgs_nil)))) (ds_cons (ds_set 7 sc_check_yard.nd (d_cmp (o_notIn hr.u65) (d_tup (da_cons (d_var 5) (da_cons (d_var 6) (da_nil)))) (d_slice s_slice (d_var 2) (do_none) (do_some (d_var 3))))) (ds_one (ds_expr (d_call G_require (hr.mono (by decide)) rfl (da_cons (d_and (d_cmp (o_in hr.u65) (d_var 5) (d_var 1)) (d_and (d_cmp (o_in hr.u65) (d_var 6) (d_var 1)) (d_and (d_cmp (o_ne hr.units) (d_var 5) (d_var 6)) (d_one (d_var 7))))) (da_cons (d_str) (da_cons (d_var 3) (da_nil))))))))) (ds_one (ds_ret (d_bl))))))))
theorem w_require_place (T : Txt cl K mg w)  : Body cl P w K mg base N_require_place "require_place" st_require_place 0 t_require_place := fun f cdv A outer s H E hr =>
  ds_one (ds_if (dt_cmp (o_notIn hr.u65) (d_var 1) (d_ix (i_ix hr.u1) (d_var 0) (d_int))) (ds_one (ds_never)) (dss_nil))
theorem w_crumb_total (T : Txt cl K mg w)  : Body cl P w K mg base N_crumb_total "crumb_total" st_crumb_total 0 t_crumb_total := fun f cdv A outer s H E hr =>
  ds_one (ds_ret (d_callB (c_sum rfl) rfl T.b_sum (by decide +kernel) (da_cons (d_lc rfl sc_crumb_total.nd (di_seq (d_ix (i_ix hr.u1) (d_var 0) (d_int))) (own := [("at", 1), ("named", 2), ("count", 3)]) (pt := .t [.n 1, .n 2, .n 3]) (blk_ok (by kernel_rfl)) (fun _ _ _ _ _ => pg_tup rfl (pgs_cons (pg_name sc_crumb_total.nd rfl (by first | exact Or.inl rfl | exact Or.inr rfl)) (pgs_cons (pg_name sc_crumb_total.nd rfl (by first | exact Or.inl rfl | exact Or.inr rfl)) (pgs_cons (pg_name sc_crumb_total.nd rfl (by first | exact Or.inl rfl | exact Or.inr rfl)) (pgs_nil))))) (fun _ _ _ _ _ => dts_nil) (fun _ _ _ _ _ => d_var 3)) (da_nil))))
theorem w_changed_crumbs (T : Txt cl K mg w)  : Body cl P w K mg base N_changed_crumbs "changed_crumbs" st_changed_crumbs 0 t_changed_crumbs := fun f cdv A outer s H E hr =>
  ds_cons (ds_set 4 sc_changed_crumbs.nd (d_ix (i_ix hr.u1) (d_var 0) (d_int))) (ds_cons (ds_set 5 sc_changed_crumbs.nd (d_dc true hr.units0 rfl sc_changed_crumbs.nd (di_seq (d_var 1)) (own := [("at", 6), ("named", 7), ("count", 8)]) (pt := .t [.n 6, .n 7, .n 8]) (blk_ok (by kernel_rfl)) (fun _ _ _ _ _ => pg_tup rfl (pgs_cons (pg_name sc_changed_crumbs.nd rfl (by first | exact Or.inl rfl | exact Or.inr rfl)) (pgs_cons (pg_name sc_changed_crumbs.nd rfl (by first | exact Or.inl rfl | exact Or.inr rfl)) (pgs_cons (pg_name sc_changed_crumbs.nd rfl (by first | exact Or.inl rfl | exact Or.inr rfl)) (pgs_nil))))) (fun _ _ _ _ _ => dts_nil) (fun _ _ _ _ _ => d_tup (da_cons (d_var 6) (da_cons (d_var 7) (da_nil)))) (fun _ _ _ _ _ => d_var 8))) (ds_cons (ds_asg (d_bin o_add (d_bm PySem.F.plainAttrs_dict PySem.F.slot_dict_get PySem.F.type_dict_get (m_get hr.u1) (d_var 5) (da_cons (d_var 2) (da_cons (d_int) (da_nil)))) (d_var 3)) (dg_sub hr.u1 (d_var 5) (d_var 2))) (ds_cons (ds_lock (ds_setLc 9 rfl sc_changed_crumbs.nd (di_keys (d_var 5)) (own := [("at", 6), ("named", 7)]) (pt := .t [.n 6, .n 7]) (blk_ok (by kernel_rfl)) (fun _ _ _ _ _ => pg_tup rfl (pgs_cons (pg_name sc_changed_crumbs.nd rfl (by first | exact Or.inl rfl | exact Or.inr rfl)) (pgs_cons (pg_name sc_changed_crumbs.nd rfl (by first | exact Or.inl rfl | exact Or.inr rfl)) (pgs_nil)))) (fun _ _ _ _ _ => dts_nil) (fun _ _ _ _ _ => d_tup (da_cons (d_tidx (d_var 4) (d_var 6)) (da_cons (d_tidx (d_var 4) (d_var 7)) (da_nil)))))) (ds_cons (ds_setLc 10 rfl sc_changed_crumbs.nd (di_seq (d_callB c_sortP rfl T.b_sorted (by decide +kernel) (da_cons (d_var 9) (da_nil)))) (own := [("first", 11), ("second", 12)]) (pt := .t [.n 11, .n 12]) (blk_ok (by kernel_rfl)) (fun _ _ _ _ _ => pg_tup rfl (pgs_cons (pg_name sc_changed_crumbs.nd rfl (by first | exact Or.inl rfl | exact Or.inr rfl)) (pgs_cons (pg_name sc_changed_crumbs.nd rfl (by first | exact Or.inl rfl | exact Or.inr rfl)) (pgs_nil)))) (fun _ _ _ _ _ => dts_nil) (fun _ _ _ _ _ => d_tup (da_cons (d_ix (i_ix hr.u1) (d_var 4) (d_var 11)) (da_cons (d_ix (i_ix hr.u1) (d_var 4) (d_var 12)) (da_nil))))) (ds_one (ds_ret (d_callTy c_tuple rfl T.b_tuple (by decide +kernel) (da_cons (d_lc rfl sc_changed_crumbs.nd (di_seq (d_var 10)) (own := [("at", 6), ("named", 7)]) (pt := .t [.n 6, .n 7]) (blk_ok (by kernel_rfl)) (fun _ _ _ _ _ => pg_tup rfl (pgs_cons (pg_name sc_changed_crumbs.nd rfl (by first | exact Or.inl rfl | exact Or.inr rfl)) (pgs_cons (pg_name sc_changed_crumbs.nd rfl (by first | exact Or.inl rfl | exact Or.inr rfl)) (pgs_nil)))) (fun _ _ _ _ _ => dts_one (dt_cmp o_gt (d_ix (i_ix hr.u1) (d_var 5) (d_tup (da_cons (d_var 6) (da_cons (d_var 7) (da_nil))))) (d_int))) (fun _ _ _ _ _ => d_tup (da_cons (d_var 6) (da_cons (d_var 7) (da_cons (d_ix (i_ix hr.u1) (d_var 5) (d_tup (da_cons (d_var 6) (da_cons (d_var 7) (da_nil))))) (da_nil)))))) (da_nil)))))))))
theorem w_moved (T : Txt cl K mg w)  : Body cl P w K mg base N_moved "moved" st_moved 0 t_moved := fun f cdv A outer s H E hr =>
  ds_one (ds_ret (d_bin o_add (d_bin o_add (d_slice s_slice (d_var 0) (do_none) (do_some (d_var 1))) (d_tup (da_cons (d_var 2) (da_nil)))) (d_slice s_slice (d_var 0) (do_some (d_bin o_add (d_var 1) (d_int))) (do_none))))
theorem w_possible_moves (T : Txt cl K mg w)  : Body cl P w K mg base N_possible_moves "possible_moves" st_possible_moves 0 t_possible_moves := fun f cdv A outer s H E hr =>
  ds_cons (ds_asg (d_var 1) (dg_tup rfl (dgs_cons (dg_name 2 sc_possible_moves.nd) (dgs_cons (dg_name 3 sc_possible_moves.nd) (dgs_cons (dg_name 4 sc_possible_moves.nd) (dgs_nil)))))) (ds_cons (ds_set 5 sc_possible_moves.nd (d_lst (da_nil))) (ds_cons (ds_for PassesOwn.never rfl (di_enum rfl T.b_enumerate (d_var 3)) (dg_tup rfl (dgs_cons (dg_name 6 sc_possible_moves.nd) (dgs_cons (dg_name 7 sc_possible_moves.nd) (dgs_nil)))) (ds_one (ds_expr (d_bm PySem.F.plainAttrs_list PySem.F.slot_list_extend PySem.F.type_list_extend m_extend (d_var 5) (da_cons (d_lc rfl sc_possible_moves.nd (di_seq (d_var 4)) (own := [("at", 8), ("named", 9), ("count", 10)]) (pt := .t [.n 8, .n 9, .n 10]) (blk_ok (by kernel_rfl)) (fun _ _ _ _ _ => pg_tup rfl (pgs_cons (pg_name sc_possible_moves.nd rfl (by first | exact Or.inl rfl | exact Or.inr rfl)) (pgs_cons (pg_name sc_possible_moves.nd rfl (by first | exact Or.inl rfl | exact Or.inr rfl)) (pgs_cons (pg_name sc_possible_moves.nd rfl (by first | exact Or.inl rfl | exact Or.inr rfl)) (pgs_nil))))) (fun _ _ _ _ _ => dts_one (dt_cmp (o_eq hr.units) (d_var 8) (d_var 7))) (fun _ _ _ _ _ => d_tup (da_cons (d_var 6) (da_cons (d_var 9) (da_nil))))) (da_nil)))))) (ds_one (ds_ret (d_callTy c_tuple rfl T.b_tuple (by decide +kernel) (da_cons (d_var 5) (da_nil)))))))
theorem w_make_moves (T : Txt cl K mg w) (G_changed_crumbs : Cal cl P w K mg base "changed_crumbs" 1 [] sp_changed_crumbs) (G_moved : Cal cl P w K mg base "moved" 1 [] sp_moved) : Body cl P w K mg base N_make_moves "make_moves" st_make_moves 1 t_make_moves := fun f cdv A outer s H E hr =>
  ds_cons (ds_for PassesOwn.never rfl (di_enum rfl T.b_enumerate (d_var 2)) (dg_tup rfl (dgs_cons (dg_name 3 sc_make_moves.nd) (dgs_cons (dg_tup rfl (dgs_cons (dg_name 4 sc_make_moves.nd) (dgs_cons (dg_name 5 sc_make_moves.nd) (dgs_nil)))) (dgs_nil)))) (ds_cons (ds_asg (d_var 1) (dg_tup rfl (dgs_cons (dg_name 6 sc_make_moves.nd) (dgs_cons (dg_name 7 sc_make_moves.nd) (dgs_cons (dg_name 8 sc_make_moves.nd) (dgs_nil)))))) (ds_cons (ds_if (dt_not (dt_chain o_le o_lt (d_int) (d_var 4) (d_callB c_len rfl T.b_len (by decide +kernel) (da_cons (d_var 7) (da_nil))))) (ds_one (ds_never)) (dss_nil)) (ds_cons (ds_set 9 sc_make_moves.nd (d_tup (da_cons (d_ix (i_ix hr.u1) (d_var 7) (d_var 4)) (da_cons (d_var 5) (da_nil))))) (ds_cons (ds_if (dt_cmp (o_notIn hr.u65) (d_var 9) (d_lc rfl sc_make_moves.nd (di_seq (d_var 8)) (own := [("crumb", 10)]) (pt := .n 10) (blk_ok (by kernel_rfl)) (fun _ _ _ _ _ => pg_name sc_make_moves.nd rfl (by first | exact Or.inl rfl | exact Or.inr rfl)) (fun _ _ _ _ _ => dts_nil) (fun _ _ _ _ _ => d_slice s_slice (d_var 10) (do_none) (do_some (d_int))))) (ds_one (ds_never)) (dss_nil)) (ds_one (ds_set 1 sc_make_moves.nd (d_tup (da_cons (d_var 6) (da_cons (d_call G_moved (hr.mono (by decide)) rfl (da_cons (d_var 7) (da_cons (d_var 4) (da_cons (d_var 5) (da_nil))))) (da_cons (d_call G_changed_crumbs (hr.mono (by decide)) rfl (da_cons (d_var 0) (da_cons (d_var 8) (da_cons (d_var 9) (da_cons (d_un o_neg (d_int)) (da_nil)))))) (da_nil)))))))))))) (ds_one (ds_ret (d_var 1)))
theorem w_fits (T : Txt cl K mg w) (G_is_integer : Cal cl P w K mg base "is_integer" 1 [] sp_is_integer) : Body cl P w K mg base N_fits "fits" st_fits 1 t_fits := fun f cdv A outer s H E hr =>
  ds_one (ds_ret (d_ifx (dt_cmp (o_eq hr.units) (d_var 1) (d_str)) (d_isi tab_str rfl T.b_isinstance rfl T.b_str (by decide +kernel) (d_var 0)) (d_call G_is_integer (hr.mono (by decide)) rfl (da_cons (d_var 0) (da_nil)))))
theorem w_has_form_company (T : Txt cl K mg w) (G_fits : Cal cl P w K mg base "fits" 2 [] sp_fits) : Body cl P w K mg base N_has_form_company "has_form" st_has_form_company 2 t_has_form_company := fun f cdv A outer s H E hr =>
  ds_cons (ds_if (dw (dw_or (dt_not (dt_val (d_isi tab_tuple rfl T.b_isinstance rfl T.b_tuple (by decide +kernel) (d_var 0)))) (dw_or (dt_cmp (o_eq hr.units) (d_callB c_len rfl T.b_len (by decide +kernel) (da_cons (d_var 0) (da_nil))) (d_int)) (dw_or1 (dt_not (dt_val (d_isi tab_str rfl T.b_isinstance rfl T.b_str (by decide +kernel) (d_ix (i_ix hr.u1) (d_var 0) (d_int))))))))) (ds_one (ds_ret (d_bl))) (dss_nil)) (ds_cons (ds_asg (d_var 0) (dg_star rfl (dgs_cons (dg_name 1 sc_has_form_company.nd) (dgs_cons (dg_name 2 sc_has_form_company.nd) (dgs_nil))))) (ds_cons (ds_set 3 sc_has_form_company.nd (d_kget (tab := [("join", "p"), ("go", "tp"), ("back", "tp")]) ⟨let ⟨p, es, n, a, b, c, d, e⟩ := T.tab_FORMS; ⟨p, es, n, a, b, c, d, e⟩⟩ rfl (d_var 1))) (ds_cons (ds_if (dw (dw_or (dt_cmp o_isN (d_var 3) (d_non)) (dw_or1 (dt_cmp (o_ne hr.units) (d_callB c_len rfl T.b_len (by decide +kernel) (da_cons (d_var 2) (da_nil))) (d_callB c_len rfl T.b_len (by decide +kernel) (da_cons (d_var 3) (da_nil))))))) (ds_one (ds_ret (d_bl))) (dss_nil)) (ds_one (ds_ret (d_callB (c_all rfl) rfl T.b_all (by decide +kernel) (da_cons (d_lc rfl sc_has_form_company.nd (di_zip rfl T.b_zip (d_var 2) (d_var 3)) (own := [("thing", 4), ("sort", 5)]) (pt := .t [.n 4, .n 5]) (blk_ok (by kernel_rfl)) (fun _ _ _ _ _ => pg_tup rfl (pgs_cons (pg_name sc_has_form_company.nd rfl (by first | exact Or.inl rfl | exact Or.inr rfl)) (pgs_cons (pg_name sc_has_form_company.nd rfl (by first | exact Or.inl rfl | exact Or.inr rfl)) (pgs_nil)))) (fun _ _ _ _ _ => dts_nil) (fun _ _ _ _ _ => d_call G_fits (hr.mono (by decide)) rfl (da_cons (d_var 4) (da_cons (d_var 5) (da_nil))))) (da_nil))))))))
theorem w_Company___init__ (T : Txt cl K mg w) (G_check_yard : Cal cl P w K mg base "check_yard" 3 [] sp_check_yard) : Body cl P w K mg base N_Company___init__ "Company.__init__" st_Company___init__ 3 t_Company___init__ := fun f cdv A outer s H E hr =>
  ds_cons (ds_expr (d_call G_check_yard (hr.mono (by decide)) rfl (da_cons (d_var 1) (da_nil)))) (ds_cons (ds_fld (d_var 0) (d_var 1) T.cls_Company T.na_Company_own_yard) (ds_cons (ds_fld (d_var 0) (d_lst (da_cons (d_tup (da_cons (d_bin o_mulT (d_tup (da_cons (d_int) (da_nil))) (d_callB c_len rfl T.b_len (by decide +kernel) (da_cons (d_ix (i_ix hr.u1) (d_var 1) (d_int)) (da_nil)))) (da_cons (d_tup (da_nil)) (da_cons (d_tup (da_nil)) (da_nil))))) (da_nil))) T.cls_Company T.na_Company_scenes) (ds_one (ds_fld (d_var 0) (d_lst (da_nil)) T.cls_Company T.na_Company_deeds))))
theorem w_Company___eq__ (T : Txt cl K mg w)  : Body cl P w K mg base N_Company___eq__ "Company.__eq__" st_Company___eq__ 0 t_Company___eq__ := fun f cdv A outer s H E hr =>
  ds_cons (ds_if (dt_not (dt_val (d_isiC T.isi_Company rfl T.b_isinstance rfl T.mg_Company (d_var 1)))) (ds_one (ds_ret (d_bl))) (dss_nil)) (ds_one (ds_ret (d_cmp (o_eq hr.units) (d_tup (da_cons (d_fld (d_var 0) T.cls_Company T.na_Company_own_yard) (da_cons (d_ix (i_ix hr.u1) (d_fld (d_var 0) T.cls_Company T.na_Company_scenes) (d_un o_neg (d_int))) (da_nil)))) (d_tup (da_cons (d_fld (d_var 1) T.cls_Company T.na_Company_own_yard) (da_cons (d_ix (i_ix hr.u1) (d_fld (d_var 1) T.cls_Company T.na_Company_scenes) (d_un o_neg (d_int))) (da_nil)))))))
theorem w_Company_scene (T : Txt cl K mg w)  : Body cl P w K mg base N_Company_scene "Company.scene" st_Company_scene 0 t_Company_scene := fun f cdv A outer s H E hr =>
  ds_one (ds_ret (d_ix (i_ix hr.u1) (d_fld (d_var 0) T.cls_Company T.na_Company_scenes) (d_un o_neg (d_int))))
theorem w_Company_log (T : Txt cl K mg w)  : Body cl P w K mg base N_Company_log "Company.log" st_Company_log 0 t_Company_log := fun f cdv A outer s H E hr =>
  ds_one (ds_ret (d_callTy c_list rfl T.b_list (by decide +kernel) (da_cons (d_fld (d_var 0) T.cls_Company T.na_Company_deeds) (da_nil))))
theorem w_Company_note (T : Txt cl K mg w)  : Body cl P w K mg base N_Company_note "Company.note" st_Company_note 0 t_Company_note := fun f cdv A outer s H E hr =>
  ds_cons (ds_expr (d_bm PySem.F.plainAttrs_list PySem.F.slot_list_append PySem.F.type_list_append m_append (d_fld (d_var 0) T.cls_Company T.na_Company_deeds) (da_cons (d_var 1) (da_nil)))) (ds_one (ds_expr (d_bm PySem.F.plainAttrs_list PySem.F.slot_list_append PySem.F.type_list_append m_append (d_fld (d_var 0) T.cls_Company T.na_Company_scenes) (da_cons (d_var 2) (da_nil)))))
theorem w_Company_place_of (T : Txt cl K mg w) (G_Company_scene : CalM cl P w K mg base "Company" "scene" 1 [] sp_Company_scene) : Body cl P w K mg base N_Company_place_of "Company.place_of" st_Company_place_of 1 t_Company_place_of := fun f cdv A outer s H E hr =>
  ds_cons (ds_set 2 sc_Company_place_of.nd (d_ix (i_ix hr.u1) (d_meth0 (d_var 0) T.cls_Company G_Company_scene (hr.mono (by decide))) (d_int))) (ds_cons (ds_if (dt_not (dt_chain o_le o_lt (d_int) (d_var 1) (d_callB c_len rfl T.b_len (by decide +kernel) (da_cons (d_var 2) (da_nil))))) (ds_one (ds_never)) (dss_nil)) (ds_one (ds_ret (d_ix (i_ix hr.u1) (d_var 2) (d_var 1)))))
theorem w_Company_join (T : Txt cl K mg w) (G_require_place : Cal cl P w K mg base "require_place" 1 [] sp_require_place) (G_Company_scene : CalM cl P w K mg base "Company" "scene" 1 [] sp_Company_scene) (G_Company_note : CalM cl P w K mg base "Company" "note" 1 [] sp_Company_note) : Body cl P w K mg base N_Company_join "Company.join" st_Company_join 1 t_Company_join := fun f cdv A outer s H E hr =>
  ds_cons (ds_expr (d_call G_require_place (hr.mono (by decide)) rfl (da_cons (d_fld (d_var 0) T.cls_Company T.na_Company_own_yard) (da_cons (d_var 1) (da_nil))))) (ds_cons (ds_asg (d_meth0 (d_var 0) T.cls_Company G_Company_scene (hr.mono (by decide))) (dg_tup rfl (dgs_cons (dg_name 2 sc_Company_join.nd) (dgs_cons (dg_name 3 sc_Company_join.nd) (dgs_cons (dg_name 4 sc_Company_join.nd) (dgs_nil)))))) (ds_cons (ds_if (dt_cmp (o_eq hr.units) (d_callB c_len rfl T.b_len (by decide +kernel) (da_cons (d_var 3) (da_nil))) (d_gintE (T.g_TRAVELLERS) rfl)) (ds_one (ds_never)) (dss_nil)) (ds_cons (ds_set 5 sc_Company_join.nd (d_tidx (d_ix (i_ix hr.u1) (d_fld (d_var 0) T.cls_Company T.na_Company_own_yard) (d_int)) (d_var 1))) (ds_cons (ds_set 2 sc_Company_join.nd (d_bin o_add (d_bin o_add (d_slice s_slice (d_var 2) (do_none) (do_some (d_var 5))) (d_tup (da_cons (d_bin o_add (d_ix (i_ix hr.u1) (d_var 2) (d_var 5)) (d_int)) (da_nil)))) (d_slice s_slice (d_var 2) (do_some (d_bin o_add (d_var 5) (d_int))) (do_none)))) (ds_cons (ds_expr (d_meth (d_var 0) T.cls_Company G_Company_note (hr.mono (by decide)) (da_cons (d_tup (da_cons (d_str) (da_cons (d_var 1) (da_nil)))) (da_cons (d_tup (da_cons (d_var 2) (da_cons (d_bin o_add (d_var 3) (d_tup (da_cons (d_var 1) (da_nil)))) (da_cons (d_var 4) (da_nil))))) (da_nil))))) (ds_one (ds_ret (d_callB c_len rfl T.b_len (by decide +kernel) (da_cons (d_var 3) (da_nil))))))))))
theorem w_Company_go (T : Txt cl K mg w) (G_Company_place_of : CalM cl P w K mg base "Company" "place_of" 2 [] sp_Company_place_of) (G_require_place : Cal cl P w K mg base "require_place" 1 [] sp_require_place) (G_Company_scene : CalM cl P w K mg base "Company" "scene" 1 [] sp_Company_scene) (G_crumb_total : Cal cl P w K mg base "crumb_total" 1 [] sp_crumb_total) (G_changed_crumbs : Cal cl P w K mg base "changed_crumbs" 1 [] sp_changed_crumbs) (G_Company_note : CalM cl P w K mg base "Company" "note" 1 [] sp_Company_note) (G_moved : Cal cl P w K mg base "moved" 1 [] sp_moved) : Body cl P w K mg base N_Company_go "Company.go" st_Company_go 2 t_Company_go := fun f cdv A outer s H E hr =>
  ds_cons (ds_set 3 sc_Company_go.nd (d_meth (d_var 0) T.cls_Company G_Company_place_of (hr.mono (by decide)) (da_cons (d_var 1) (da_nil)))) (ds_cons (ds_expr (d_call G_require_place (hr.mono (by decide)) rfl (da_cons (d_fld (d_var 0) T.cls_Company T.na_Company_own_yard) (da_cons (d_var 2) (da_nil))))) (ds_cons (ds_if (dt_cmp (o_notIn hr.u65) (d_tup (da_cons (d_var 3) (da_cons (d_var 2) (da_nil)))) (d_ix (i_ix hr.u1) (d_fld (d_var 0) T.cls_Company T.na_Company_own_yard) (d_int))) (ds_one (ds_never)) (dss_nil)) (ds_cons (ds_asg (d_meth0 (d_var 0) T.cls_Company G_Company_scene (hr.mono (by decide))) (dg_tup rfl (dgs_cons (dg_name 4 sc_Company_go.nd) (dgs_cons (dg_name 5 sc_Company_go.nd) (dgs_cons (dg_name 6 sc_Company_go.nd) (dgs_nil)))))) (ds_cons (ds_if (dt_cmp (o_eq hr.units) (d_call G_crumb_total (hr.mono (by decide)) rfl (da_cons (d_meth0 (d_var 0) T.cls_Company G_Company_scene (hr.mono (by decide))) (da_nil))) (d_gintE (T.g_CRUMBS) rfl)) (ds_one (ds_never)) (dss_nil)) (ds_cons (ds_set 6 sc_Company_go.nd (d_call G_changed_crumbs (hr.mono (by decide)) rfl (da_cons (d_fld (d_var 0) T.cls_Company T.na_Company_own_yard) (da_cons (d_var 6) (da_cons (d_tup (da_cons (d_var 2) (da_cons (d_var 3) (da_nil)))) (da_cons (d_int) (da_nil))))))) (ds_one (ds_expr (d_meth (d_var 0) T.cls_Company G_Company_note (hr.mono (by decide)) (da_cons (d_tup (da_cons (d_str) (da_cons (d_var 1) (da_cons (d_var 2) (da_nil))))) (da_cons (d_tup (da_cons (d_var 4) (da_cons (d_call G_moved (hr.mono (by decide)) rfl (da_cons (d_var 5) (da_cons (d_var 1) (da_cons (d_var 2) (da_nil))))) (da_cons (d_var 6) (da_nil))))) (da_nil)))))))))))
theorem w_Company_back (T : Txt cl K mg w) (G_Company_place_of : CalM cl P w K mg base "Company" "place_of" 2 [] sp_Company_place_of) (G_require_place : Cal cl P w K mg base "require_place" 1 [] sp_require_place) (G_make_moves : Cal cl P w K mg base "make_moves" 2 [] sp_make_moves) (G_Company_scene : CalM cl P w K mg base "Company" "scene" 1 [] sp_Company_scene) (G_Company_note : CalM cl P w K mg base "Company" "note" 1 [] sp_Company_note) : Body cl P w K mg base N_Company_back "Company.back" st_Company_back 2 t_Company_back := fun f cdv A outer s H E hr =>
  ds_cons (ds_expr (d_meth (d_var 0) T.cls_Company G_Company_place_of (hr.mono (by decide)) (da_cons (d_var 1) (da_nil)))) (ds_cons (ds_expr (d_call G_require_place (hr.mono (by decide)) rfl (da_cons (d_fld (d_var 0) T.cls_Company T.na_Company_own_yard) (da_cons (d_var 2) (da_nil))))) (ds_cons (ds_set 3 sc_Company_back.nd (d_call G_make_moves (hr.mono (by decide)) rfl (da_cons (d_fld (d_var 0) T.cls_Company T.na_Company_own_yard) (da_cons (d_meth0 (d_var 0) T.cls_Company G_Company_scene (hr.mono (by decide))) (da_cons (d_lst (da_cons (d_tup (da_cons (d_var 1) (da_cons (d_var 2) (da_nil)))) (da_nil))) (da_nil)))))) (ds_one (ds_expr (d_meth (d_var 0) T.cls_Company G_Company_note (hr.mono (by decide)) (da_cons (d_tup (da_cons (d_str) (da_cons (d_var 1) (da_cons (d_var 2) (da_nil))))) (da_cons (d_var 3) (da_nil))))))))
theorem w_Company_make (T : Txt cl K mg w) (G_Company_join : CalM cl P w K mg base "Company" "join" 2 [] sp_Company_join) (G_Company_go : CalM cl P w K mg base "Company" "go" 3 [] sp_Company_go) (G_Company_back : CalM cl P w K mg base "Company" "back" 3 [] sp_Company_back) : Body cl P w K mg base N_Company_make "Company.make" st_Company_make 3 t_Company_make := fun f cdv A outer s H E hr =>
  ds_cons (ds_asg (d_var 1) (dg_star rfl (dgs_cons (dg_name 2 sc_Company_make.nd) (dgs_cons (dg_name 3 sc_Company_make.nd) (dgs_nil))))) (ds_one (ds_if (dt_cmp (o_eq hr.units) (d_var 2) (d_str)) (ds_one (ds_expr (d_meth (d_var 0) T.cls_Company G_Company_join (hr.mono (by decide)) (da_cons (d_ix (i_ix hr.u1) (d_var 3) (d_int)) (da_nil))))) (ds_one (ds_if (dt_cmp (o_eq hr.units) (d_var 2) (d_str)) (ds_one (ds_expr (d_meth (d_var 0) T.cls_Company G_Company_go (hr.mono (by decide)) (da_cons (d_ix (i_ix hr.u1) (d_var 3) (d_int)) (da_cons (d_ix (i_ix hr.u1) (d_var 3) (d_int)) (da_nil)))))) (ds_one (ds_expr (d_meth (d_var 0) T.cls_Company G_Company_back (hr.mono (by decide)) (da_cons (d_ix (i_ix hr.u1) (d_var 3) (d_int)) (da_cons (d_ix (i_ix hr.u1) (d_var 3) (d_int)) (da_nil))))))))))
theorem w_Company_is_made (T : Txt cl K mg w) (G_has_form_company : Cal cl P w K mg base "has_form_company" 3 [] sp_has_form_company) (G_Company_make : CalM cl P w K mg base "Company" "make" 4 [] sp_Company_make) : Body cl P w K mg base N_Company_is_made "Company.is_made" st_Company_is_made 4 t_Company_is_made := fun f cdv A outer s H E hr =>
  ds_cons (ds_if (dt_not (dt_val (d_call G_has_form_company (hr.mono (by decide)) rfl (da_cons (d_var 1) (da_nil))))) (ds_one (ds_ret (d_bl))) (dss_nil)) (ds_cons (ds_tryN (fun pn xe hpx => ds_one (ds_expr (d_meth (d_var 0) T.cls_Company G_Company_make (hr.mono (by decide)) (da_cons (d_var 1) (da_nil)))))) (ds_one (ds_ret (d_bl))))
theorem w_Company_several (T : Txt cl K mg w) (G_Company_is_made : CalM cl P w K mg base "Company" "is_made" 5 [] sp_Company_is_made) : Body cl P w K mg base N_Company_several "Company.several" st_Company_several 5 t_Company_several := fun f cdv A outer s H E hr =>
  ds_cons (ds_set 3 sc_Company_several.nd (d_callB c_len rfl T.b_len (by decide +kernel) (da_cons (d_fld (d_var 0) T.cls_Company T.na_Company_deeds) (da_nil)))) (ds_cons (ds_for PassesOwn.never rfl (di_enum rfl T.b_enumerate (d_var 1)) (dg_tup rfl (dgs_cons (dg_name 4 sc_Company_several.nd) (dgs_cons (dg_name 5 sc_Company_several.nd) (dgs_nil)))) (ds_one (ds_if (dt_not (dt_val (d_meth (d_var 0) T.cls_Company G_Company_is_made (hr.mono (by decide)) (da_cons (d_var 5) (da_nil))))) (ds_cons (ds_if (dt_val (d_var 2)) (ds_cons (ds_fld (d_var 0) (d_slice s_slice (d_fld (d_var 0) T.cls_Company T.na_Company_deeds) (do_none) (do_some (d_var 3))) T.cls_Company T.na_Company_deeds) (ds_one (ds_fld (d_var 0) (d_slice s_slice (d_fld (d_var 0) T.cls_Company T.na_Company_scenes) (do_none) (do_some (d_bin o_add (d_var 3) (d_int)))) T.cls_Company T.na_Company_scenes))) (dss_nil)) (ds_one (ds_never))) (dss_nil)))) (ds_one (ds_ret (d_callB c_len rfl T.b_len (by decide +kernel) (da_cons (d_var 1) (da_nil))))))
theorem w_Company_copied (T : Txt cl K mg w) (G_Company___init__ : CalI cl P w K mg base "Company" "Company" 4 [] sp_Company___init__) : Body cl P w K mg base N_Company_copied "Company.copied" st_Company_copied 5 t_Company_copied := fun f cdv A outer s H E hr =>
  ds_cons (ds_set 1 sc_Company_copied.nd (d_make G_Company___init__ (hr.mono (by decide)) rfl (da_cons (d_fld (d_var 0) T.cls_Company T.na_Company_own_yard) (da_nil)))) (ds_cons (ds_fld (d_var 1) (d_callTy c_list rfl T.b_list (by decide +kernel) (da_cons (d_fld (d_var 0) T.cls_Company T.na_Company_deeds) (da_nil))) T.cls_Company T.na_Company_deeds) (ds_cons (ds_fld (d_var 1) (d_callTy c_list rfl T.b_list (by decide +kernel) (da_cons (d_fld (d_var 0) T.cls_Company T.na_Company_scenes) (da_nil))) T.cls_Company T.na_Company_scenes) (ds_one (ds_ret (d_var 1)))))
theorem w__law_sack (T : Txt cl K mg w)  : Body cl P w K mg base N__law_sack "_law_sack" st__law_sack 0 t__law_sack := fun f cdv A outer s H E hr =>
  ds_cons (ds_set 2 sc__law_sack.nd (d_bin o_add (d_int) (d_bin o_mul (d_int) (d_var 1)))) (ds_cons (ds_for PassesOwn.never rfl (di_seq (d_slice s_slice (d_var 0) (do_none) (do_some (d_int)))) (dg_name 3 sc__law_sack.nd) (ds_one (ds_set 2 sc__law_sack.nd (d_bin o_mod (d_bin o_add (d_bin o_add (d_bin o_mul (d_var 2) (d_int)) (d_bin o_mod (d_callB c_abs rfl T.b_abs (by decide +kernel) (da_cons (d_var 3) (da_nil))) (d_int))) (d_int)) (d_int))))) (ds_cons (ds_setLc 4 rfl sc__law_sack.nd (di_seq (d_slice s_slice (d_var 0) (do_some (d_var 1)) (do_some (d_int)))) (own := [("_law_cell", 3)]) (pt := .n 3) (blk_ok (by kernel_rfl)) (fun _ _ _ _ _ => pg_name sc__law_sack.nd rfl (by first | exact Or.inl rfl | exact Or.inr rfl)) (fun _ _ _ _ _ => dts_one (dt_cmp o_ge (d_var 3) (d_bin o_pow (d_int) (d_int)))) (fun _ _ _ _ _ => d_var 3)) (ds_one (ds_ret (d_disp (dps_str (d_revL (d_var 4)) (dps_str (d_int) (dps_str (d_bin o_add (d_var 2) (d_int)) (dps_str (d_int) (dps_nil))))))))))
theorem w__law_take (T : Txt cl K mg w)  : Body cl P w K mg base N__law_take "_law_take" st__law_take 0 t__law_take := fun f cdv A outer s H E hr =>
  ds_cons (ds_if (dw (dw_and (dt_cmp (o_eq hr.units) (d_ix (i_ix hr.u1) (d_var 0) (d_str)) (d_int)) (dw_and1 (dt_cmp (o_ne hr.units) (d_ix (i_ix hr.u1) (d_var 0) (d_str)) (d_lst (da_nil)))))) (ds_one (ds_asg (d_bm0 PySem.F.plainAttrs_list PySem.F.slot_list_pop PySem.F.type_list_pop m_pop (d_ix (i_ix hr.u1) (d_var 0) (d_str))) (dg_sub hr.u1 (d_var 0) (d_str)))) (dss_nil)) (ds_cons (ds_if (dt_cmp o_gt (d_ix (i_ix hr.u1) (d_var 0) (d_str)) (d_int)) (ds_cons (ds_set 2 sc__law_take.nd (d_bin o_mod (d_ix (i_ix hr.u1) (d_var 0) (d_str)) (d_var 1))) (ds_cons (ds_asg (d_bin o_fdiv (d_ix (i_ix hr.u1) (d_var 0) (d_str)) (d_var 1)) (dg_sub hr.u1 (d_var 0) (d_str))) (ds_one (ds_ret (d_var 2))))) (dss_nil)) (ds_cons (ds_asg (d_bin o_add (d_ix (i_ix hr.u1) (d_var 0) (d_str)) (d_int)) (dg_sub hr.u1 (d_var 0) (d_str))) (ds_cons (ds_set 3 sc__law_take.nd (d_bin o_mod (d_bin o_mul (d_bin o_mod (d_bin o_add (d_ix (i_ix hr.u1) (d_var 0) (d_str)) (d_bin o_mul (d_int) (d_ix (i_ix hr.u1) (d_var 0) (d_str)))) (d_int)) (d_int)) (d_int))) (ds_cons (ds_asg (d_bin o_add (d_bin o_mod (d_bin o_add (d_var 3) (d_bin o_mul (d_int) (d_ix (i_ix hr.u1) (d_var 0) (d_str)))) (d_int)) (d_int)) (dg_sub hr.u1 (d_var 0) (d_str))) (ds_one (ds_ret (d_bin o_mod (d_bin o_fdiv (d_bin o_add (d_bin o_mul (d_var 3) (d_int)) (d_ix (i_ix hr.u1) (d_var 0) (d_str))) (d_int)) (d_var 1))))))))
theorem w__law_mixed (T : Txt cl K mg w) (G__law_take : Cal cl P w K mg base "_law_take" 1 [] sp__law_take) : Body cl P w K mg base N__law_mixed "_law_mixed" st__law_mixed 1 t__law_mixed := fun f cdv A outer s H E hr =>
  ds_cons (ds_par 2 3 rfl sc__law_mixed.nd (d_callTy c_list rfl T.b_list (by decide +kernel) (da_cons (d_var 1) (da_nil))) (d_lst (da_nil))) (ds_cons (ds_for PassesOwn.never rfl (di_range rfl T.b_range (d_callB c_len rfl T.b_len (by decide +kernel) (da_cons (d_var 2) (da_nil)))) (dg_name 4 sc__law_mixed.nd) (ds_one (ds_expr (d_bm PySem.F.plainAttrs_list PySem.F.slot_list_append PySem.F.type_list_append m_append (d_var 3) (da_cons (d_bm PySem.F.plainAttrs_list PySem.F.slot_list_pop PySem.F.type_list_pop m_pop (d_var 2) (da_cons (d_call G__law_take (hr.mono (by decide)) rfl (da_cons (d_var 0) (da_cons (d_callB c_len rfl T.b_len (by decide +kernel) (da_cons (d_var 2) (da_nil))) (da_nil)))) (da_nil))) (da_nil)))))) (ds_one (ds_ret (d_var 3))))
theorem w__law_names (T : Txt cl K mg w) (G__law_take : Cal cl P w K mg base "_law_take" 1 [] sp__law_take) (G__law_mixed : Cal cl P w K mg base "_law_mixed" 2 [] sp__law_mixed) : Body cl P w K mg base N__law_names "_law_names" st__law_names 2 t__law_names := fun f cdv A outer s H E hr =>
  ds_cons (ds_set 2 sc__law_names.nd (d_lst (da_cons (d_str) (da_cons (d_str) (da_cons (d_str) (da_cons (d_str) (da_cons (d_str) (da_cons (d_str) (da_cons (d_str) (da_cons (d_str) (da_cons (d_str) (da_cons (d_str) (da_cons (d_str) (da_cons (d_str) (da_nil))))))))))))))) (ds_cons (ds_asg (d_tup (da_cons (d_call G__law_take (hr.mono (by decide)) rfl (da_cons (d_var 0) (da_cons (d_int) (da_nil)))) (da_cons (d_str) (da_cons (d_lst (da_nil)) (da_nil))))) (dg_tup rfl (dgs_cons (dg_name 3 sc__law_names.nd) (dgs_cons (dg_name 4 sc__law_names.nd) (dgs_cons (dg_name 5 sc__law_names.nd) (dgs_nil)))))) (ds_cons (ds_if (dt_cmp (o_eq hr.units) (d_var 3) (d_int)) (ds_one (ds_set 2 sc__law_names.nd (d_lst (da_cons (d_str) (da_cons (d_str) (da_cons (d_str) (da_cons (d_str) (da_cons (d_str) (da_cons (d_str) (da_cons (d_str) (da_cons (d_str) (da_cons (d_str) (da_cons (d_str) (da_cons (d_str) (da_cons (d_str) (da_cons (d_str) (da_cons (d_str) (da_nil)))))))))))))))))) (dss_nil)) (ds_cons (ds_if (dt_cmp (o_in hr.u65) (d_var 3) (d_tup (da_cons (d_int) (da_cons (d_int) (da_nil))))) (ds_one (ds_ret (d_slice s_slice (d_call G__law_mixed (hr.mono (by decide)) rfl (da_cons (d_var 0) (da_cons (d_var 2) (da_nil)))) (do_none) (do_some (d_var 1))))) (dss_nil)) (ds_cons (ds_set 6 sc__law_names.nd (d_bm PySem.F.plainAttrs_str PySem.F.slot_str_join PySem.F.type_str_join m_join (d_str) (da_cons (d_lc rfl sc__law_names.nd (di_range rfl T.b_range (d_call G__law_take (hr.mono (by decide)) rfl (da_cons (d_var 0) (da_cons (d_int) (da_nil))))) (own := [("_law_k", 7)]) (pt := .n 7) (blk_ok (by kernel_rfl)) (fun _ _ _ _ _ => pg_name sc__law_names.nd rfl (by first | exact Or.inl rfl | exact Or.inr rfl)) (fun _ _ _ _ _ => dts_nil) (fun _ _ _ _ _ => d_ix (i_ix hr.u1) (d_var 4) (d_call G__law_take (hr.mono (by decide)) rfl (da_cons (d_var 0) (da_cons (d_int) (da_nil)))))) (da_nil)))) (ds_cons (ds_par 8 9 rfl sc__law_names.nd (d_call G__law_take (hr.mono (by decide)) rfl (da_cons (d_var 0) (da_cons (d_bin o_add (d_callB c_len rfl T.b_len (by decide +kernel) (da_cons (d_var 6) (da_nil))) (d_int)) (da_nil)))) (d_call G__law_take (hr.mono (by decide)) rfl (da_cons (d_var 0) (da_cons (d_int) (da_nil))))) (ds_cons (ds_if (dw (dw_and (dt_cmp (o_eq hr.units) (d_var 3) (d_int)) (dw_and1 (dt_cmp (o_eq hr.units) (d_callB c_len rfl T.b_len (by decide +kernel) (da_cons (d_var 6) (da_nil))) (d_int))))) (ds_one (ds_par 6 8 rfl sc__law_names.nd (d_bin o_add (d_var 6) (d_str)) (d_bin o_add (d_var 8) (d_call G__law_take (hr.mono (by decide)) rfl (da_cons (d_var 0) (da_cons (d_int) (da_nil))))))) (dss_nil)) (ds_cons (ds_for PassesOwn.never rfl (di_range rfl T.b_range (d_var 1)) (dg_name 7 sc__law_names.nd) (ds_cons (ds_set 10 sc__law_names.nd (d_ix (i_ix hr.u1) (d_var 4) (d_bin o_mod (d_bin o_add (d_var 9) (d_bin o_mul (d_int) (d_var 7))) (d_int)))) (ds_cons (ds_set 11 sc__law_names.nd (d_bin o_add (d_ix (i_ix hr.u1) (d_bin o_add (d_var 5) (d_lst (da_cons (d_str) (da_nil)))) (d_bin o_sub (d_var 7) (d_int))) (d_var 10))) (ds_one (ds_expr (d_bm PySem.F.plainAttrs_list PySem.F.slot_list_append PySem.F.type_list_append m_append (d_var 5) (da_cons (d_ix (i_ix hr.u1) (d_lst (da_cons (d_bin o_add (d_bin o_add (d_slice s_slice (d_var 6) (do_none) (do_some (d_var 8))) (d_var 10)) (d_slice s_slice (d_var 6) (do_some (d_var 8)) (do_none))) (da_cons (d_var 11) (da_nil)))) (d_bin o_mul (d_callTy c_int rfl T.b_int (by decide +kernel) (da_cons (d_cmp (o_eq hr.units) (d_var 3) (d_int)) (da_nil))) (d_bin o_mod (d_var 7) (d_int)))) (da_nil)))))))) (ds_one (ds_ret (d_call G__law_mixed (hr.mono (by decide)) rfl (da_cons (d_var 0) (da_cons (d_var 5) (da_nil)))))))))))))
theorem w__law_pairs (T : Txt cl K mg w)  : Body cl P w K mg base N__law_pairs "_law_pairs" st__law_pairs 0 t__law_pairs := fun f cdv A outer s H E hr =>
  ds_cons (ds_set 1 sc__law_pairs.nd (d_lst (da_nil))) (ds_cons (ds_for PassesOwn.never rfl (di_seq (d_var 0)) (dg_name 2 sc__law_pairs.nd) (ds_one (ds_expr (d_bm PySem.F.plainAttrs_list PySem.F.slot_list_extend PySem.F.type_list_extend m_extend (d_var 1) (da_cons (d_lc rfl sc__law_pairs.nd (di_seq (d_var 0)) (own := [("_law_head", 3)]) (pt := .n 3) (blk_ok (by kernel_rfl)) (fun _ _ _ _ _ => pg_name sc__law_pairs.nd rfl (by first | exact Or.inl rfl | exact Or.inr rfl)) (fun _ _ _ _ _ => dts_one (dt_cmp (o_ne hr.units) (d_var 3) (d_var 2))) (fun _ _ _ _ _ => d_tup (da_cons (d_var 2) (da_cons (d_var 3) (da_nil))))) (da_nil)))))) (ds_one (ds_ret (d_var 1))))
theorem w__law_ground (T : Txt cl K mg w) (G__law_names : Cal cl P w K mg base "_law_names" 3 [] sp__law_names) (G__law_take : Cal cl P w K mg base "_law_take" 1 [] sp__law_take) (G__law_mixed : Cal cl P w K mg base "_law_mixed" 2 [] sp__law_mixed) (G__law_pairs : Cal cl P w K mg base "_law_pairs" 1 [] sp__law_pairs) : Body cl P w K mg base N__law_ground "_law_ground" st__law_ground 3 t__law_ground := fun f cdv A outer s H E hr =>
  ds_cons (ds_set 3 sc__law_ground.nd (d_call G__law_names (hr.mono (by decide)) rfl (da_cons (d_var 0) (da_cons (d_bin o_add (d_int) (d_call G__law_take (hr.mono (by decide)) rfl (da_cons (d_var 0) (da_cons (d_var 1) (da_nil))))) (da_nil))))) (ds_cons (ds_set 4 sc__law_ground.nd (d_call G__law_mixed (hr.mono (by decide)) rfl (da_cons (d_var 0) (da_cons (d_call G__law_pairs (hr.mono (by decide)) rfl (da_cons (d_var 3) (da_nil))) (da_nil))))) (ds_cons (ds_set 5 sc__law_ground.nd (d_bin o_add (d_callB (c_min2 rfl) rfl T.b_min (by decide +kernel) (da_cons (d_var 2) (da_cons (d_callB c_len rfl T.b_len (by decide +kernel) (da_cons (d_var 4) (da_nil))) (da_nil)))) (d_int))) (ds_one (ds_ret (d_tup (da_cons (d_callTy c_tuple rfl T.b_tuple (by decide +kernel) (da_cons (d_var 3) (da_nil))) (da_cons (d_callTy c_tuple rfl T.b_tuple (by decide +kernel) (da_cons (d_slice s_slice (d_var 4) (do_none) (do_some (d_callB (c_max2 rfl) rfl T.b_max (by decide +kernel) (da_cons (d_call G__law_take (hr.mono (by decide)) rfl (da_cons (d_var 0) (da_cons (d_var 5) (da_nil)))) (da_cons (d_call G__law_take (hr.mono (by decide)) rfl (da_cons (d_var 0) (da_cons (d_var 5) (da_nil)))) (da_nil)))))) (da_nil))) (da_nil))))))))
theorem w__law_begun (T : Txt cl K mg w)  : Body cl P w K mg base N__law_begun "_law_begun" st__law_begun 0 t__law_begun := fun f cdv A outer s H E hr =>
  ds_one (ds_ret (d_disp (dps_str (d_var 0) (dps_str (d_bin o_mul (d_lst (da_cons (d_int) (da_nil))) (d_callB c_len rfl T.b_len (by decide +kernel) (da_cons (d_ix (i_ix hr.u1) (d_var 0) (d_int)) (da_nil)))) (dps_str (d_lst (da_nil)) (dps_str (d_newT) (dps_nil)))))))
theorem w__law_total (T : Txt cl K mg w)  : Body cl P w K mg base N__law_total "_law_total" st__law_total 0 t__law_total := fun f cdv A outer s H E hr =>
  ds_one (ds_ret (d_sumVals rfl rfl T.b_sum (d_ix (i_ix hr.u1) (d_var 0) (d_str))))
theorem w__law_view (T : Txt cl K mg w)  : Body cl P w K mg base N__law_view "_law_view" st__law_view 0 t__law_view := fun f cdv A outer s H E hr =>
  ds_cons (ds_par 1 2 rfl sc__law_view.nd (d_lst (da_nil)) (d_ix (i_ix hr.u1) (d_ix (i_ix hr.u1) (d_var 0) (d_str)) (d_int))) (ds_cons (ds_for PassesOwn.never rfl (di_seq (d_var 2)) (dg_name 3 sc__law_view.nd) (ds_cons (ds_setLc 4 rfl sc__law_view.nd (di_seq (d_var 2)) (own := [("_law_named", 5)]) (pt := .n 5) (blk_ok (by kernel_rfl)) (fun _ _ _ _ _ => pg_name sc__law_view.nd rfl (by first | exact Or.inl rfl | exact Or.inr rfl)) (fun _ _ _ _ _ => dts_one (dt_cmp o_gt (d_bm PySem.F.plainAttrs_dict PySem.F.slot_dict_get PySem.F.type_dict_get (m_get hr.u1) (d_ix (i_ix hr.u1) (d_var 0) (d_str)) (da_cons (d_tup (da_cons (d_var 3) (da_cons (d_var 5) (da_nil)))) (da_cons (d_int) (da_nil)))) (d_int))) (fun _ _ _ _ _ => d_tup (da_cons (d_var 3) (da_cons (d_var 5) (da_nil))))) (ds_one (ds_expr (d_bm PySem.F.plainAttrs_list PySem.F.slot_list_extend PySem.F.type_list_extend m_extend (d_var 1) (da_cons (d_lc rfl sc__law_view.nd (di_seq (d_var 4)) (own := [("_law_kind", 6)]) (pt := .n 6) (blk_ok (by kernel_rfl)) (fun _ _ _ _ _ => pg_name sc__law_view.nd rfl (by first | exact Or.inl rfl | exact Or.inr rfl)) (fun _ _ _ _ _ => dts_nil) (fun _ _ _ _ _ => d_bin o_add (d_var 6) (d_tup (da_cons (d_ix (i_ix hr.u1) (d_ix (i_ix hr.u1) (d_var 0) (d_str)) (d_var 6)) (da_nil))))) (da_nil))))))) (ds_one (ds_ret (d_tup (da_cons (d_callTy c_tuple rfl T.b_tuple (by decide +kernel) (da_cons (d_ix (i_ix hr.u1) (d_var 0) (d_str)) (da_nil))) (da_cons (d_callTy c_tuple rfl T.b_tuple (by decide +kernel) (da_cons (d_ix (i_ix hr.u1) (d_var 0) (d_str)) (da_nil))) (da_cons (d_callTy c_tuple rfl T.b_tuple (by decide +kernel) (da_cons (d_var 1) (da_nil))) (da_nil))))))))
theorem w__law_eaten (T : Txt cl K mg w)  : Body cl P w K mg base N__law_eaten "_law_eaten" st__law_eaten 0 t__law_eaten := fun f cdv A outer s H E hr =>
  ds_one (ds_ret (d_lc rfl sc__law_eaten.nd (di_seq (d_ix (i_ix hr.u1) (d_ix (i_ix hr.u1) (d_var 0) (d_str)) (d_int))) (own := [("_law_named", 2)]) (pt := .n 2) (blk_ok (by kernel_rfl)) (fun _ _ _ _ _ => pg_name sc__law_eaten.nd rfl (by first | exact Or.inl rfl | exact Or.inr rfl)) (fun _ _ _ _ _ => dts_one (dt_cmp o_gt (d_bm PySem.F.plainAttrs_dict PySem.F.slot_dict_get PySem.F.type_dict_get (m_get hr.u1) (d_ix (i_ix hr.u1) (d_var 0) (d_str)) (da_cons (d_tup (da_cons (d_var 1) (da_cons (d_var 2) (da_nil)))) (da_cons (d_int) (da_nil)))) (d_int))) (fun _ _ _ _ _ => d_var 2)))
theorem w__law_make (T : Txt cl K mg w)  : Body cl P w K mg base N__law_make "_law_make" st__law_make 0 t__law_make := fun f cdv A outer s H E hr =>
  ds_cons (ds_if (dt_cmp (o_eq hr.units) (d_ix (i_ix hr.u1) (d_var 1) (d_int)) (d_str)) (ds_cons (ds_set 2 sc__law_make.nd (d_tidx (d_ix (i_ix hr.u1) (d_ix (i_ix hr.u1) (d_var 0) (d_str)) (d_int)) (d_ix (i_ix hr.u1) (d_var 1) (d_int)))) (ds_cons (ds_asg (d_bin o_add (d_ix (i_ix hr.u1) (d_ix (i_ix hr.u1) (d_var 0) (d_str)) (d_var 2)) (d_int)) (dg_sub hr.u1 (d_ix (i_ix hr.u1) (d_var 0) (d_str)) (d_var 2))) (ds_cons (ds_expr (d_bm PySem.F.plainAttrs_list PySem.F.slot_list_append PySem.F.type_list_append m_append (d_ix (i_ix hr.u1) (d_var 0) (d_str)) (da_cons (d_ix (i_ix hr.u1) (d_var 1) (d_int)) (da_nil)))) (ds_one (ds_ret (d_bin o_sub (d_callB c_len rfl T.b_len (by decide +kernel) (da_cons (d_ix (i_ix hr.u1) (d_var 0) (d_str)) (da_nil))) (d_int))))))) (dss_nil)) (ds_cons (ds_set 2 sc__law_make.nd (d_ix (i_ix hr.u1) (d_ix (i_ix hr.u1) (d_var 0) (d_str)) (d_ix (i_ix hr.u1) (d_var 1) (d_int)))) (ds_cons (ds_asg (d_ix (i_ix hr.u1) (d_lst (da_cons (d_tup (da_cons (d_tup (da_cons (d_var 2) (da_cons (d_ix (i_ix hr.u1) (d_var 1) (d_int)) (da_nil)))) (da_cons (d_bin o_sub (d_int) (d_int)) (da_nil)))) (da_cons (d_tup (da_cons (d_tup (da_cons (d_ix (i_ix hr.u1) (d_var 1) (d_int)) (da_cons (d_var 2) (da_nil)))) (da_cons (d_int) (da_nil)))) (da_nil)))) (d_callTy c_int rfl T.b_int (by decide +kernel) (da_cons (d_cmp (o_eq hr.units) (d_ix (i_ix hr.u1) (d_var 1) (d_int)) (d_str)) (da_nil)))) (dg_tup rfl (dgs_cons (dg_name 3 sc__law_make.nd) (dgs_cons (dg_name 4 sc__law_make.nd) (dgs_nil))))) (ds_cons (ds_asg (d_bin o_add (d_bm PySem.F.plainAttrs_dict PySem.F.slot_dict_get PySem.F.type_dict_get (m_get hr.u1) (d_ix (i_ix hr.u1) (d_var 0) (d_str)) (da_cons (d_var 3) (da_cons (d_int) (da_nil)))) (d_var 4)) (dg_sub hr.u1 (d_ix (i_ix hr.u1) (d_var 0) (d_str)) (d_var 3))) (ds_cons (ds_asg (d_ix (i_ix hr.u1) (d_var 1) (d_int)) (dg_sub hr.u1 (d_ix (i_ix hr.u1) (d_var 0) (d_str)) (d_ix (i_ix hr.u1) (d_var 1) (d_int)))) (ds_one (ds_ret (d_non)))))))
theorem w__law_deed (T : Txt cl K mg w) (G__law_take : Cal cl P w K mg base "_law_take" 1 [] sp__law_take) (G__law_eaten : Cal cl P w K mg base "_law_eaten" 1 [] sp__law_eaten) : Body cl P w K mg base N__law_deed "_law_deed" st__law_deed 1 t__law_deed := fun f cdv A outer s H E hr =>
  ds_cons (ds_par 3 4 rfl sc__law_deed.nd (d_call G__law_take (hr.mono (by decide)) rfl (da_cons (d_var 0) (da_cons (d_int) (da_nil)))) (d_ix (i_ix hr.u1) (d_ix (i_ix hr.u1) (d_var 1) (d_str)) (d_int))) (ds_cons (ds_if (dw (dw_or (dt_cmp (o_eq hr.units) (d_ix (i_ix hr.u1) (d_var 1) (d_str)) (d_lst (da_nil))) (dw_or1 (dw (dw_and (dt_cmp (o_eq hr.units) (d_var 3) (d_int)) (dw_and1 (dt_cmp o_lt (d_callB c_len rfl T.b_len (by decide +kernel) (da_cons (d_ix (i_ix hr.u1) (d_var 1) (d_str)) (da_nil))) (d_int)))))))) (ds_one (ds_ret (d_tup (da_cons (d_str) (da_cons (d_ix (i_ix hr.u1) (d_var 4) (d_call G__law_take (hr.mono (by decide)) rfl (da_cons (d_var 0) (da_cons (d_callB c_len rfl T.b_len (by decide +kernel) (da_cons (d_var 4) (da_nil))) (da_nil))))) (da_nil)))))) (dss_nil)) (ds_cons (ds_set 5 sc__law_deed.nd (d_call G__law_take (hr.mono (by decide)) rfl (da_cons (d_var 0) (da_cons (d_callB c_len rfl T.b_len (by decide +kernel) (da_cons (d_ix (i_ix hr.u1) (d_var 1) (d_str)) (da_nil))) (da_nil))))) (ds_cons (ds_set 6 sc__law_deed.nd (d_ix (i_ix hr.u1) (d_ix (i_ix hr.u1) (d_var 1) (d_str)) (d_var 5))) (ds_cons (ds_par 7 8 rfl sc__law_deed.nd (d_lc rfl sc__law_deed.nd (di_seq (d_var 2)) (own := [("_law_tail", 9), ("_law_head", 10)]) (pt := .t [.n 9, .n 10]) (blk_ok (by kernel_rfl)) (fun _ _ _ _ _ => pg_tup rfl (pgs_cons (pg_name sc__law_deed.nd rfl (by first | exact Or.inl rfl | exact Or.inr rfl)) (pgs_cons (pg_name sc__law_deed.nd rfl (by first | exact Or.inl rfl | exact Or.inr rfl)) (pgs_nil)))) (fun _ _ _ _ _ => dts_one (dt_cmp (o_eq hr.units) (d_var 9) (d_var 6))) (fun _ _ _ _ _ => d_var 10)) (d_call G__law_eaten (hr.mono (by decide)) rfl (da_cons (d_var 1) (da_cons (d_var 6) (da_nil))))) (ds_cons (ds_if (dw (dw_and (dt_cmp (o_ne hr.units) (d_var 8) (d_lst (da_nil))) (dw_and1 (dw (dw_or (dt_cmp o_lt (d_var 3) (d_int)) (dw_or1 (dt_cmp (o_eq hr.units) (d_var 7) (d_lst (da_nil))))))))) (ds_one (ds_ret (d_tup (da_cons (d_str) (da_cons (d_var 5) (da_cons (d_ix (i_ix hr.u1) (d_var 8) (d_call G__law_take (hr.mono (by decide)) rfl (da_cons (d_var 0) (da_cons (d_callB c_len rfl T.b_len (by decide +kernel) (da_cons (d_var 8) (da_nil))) (da_nil))))) (da_nil))))))) (dss_nil)) (ds_cons (ds_if (dt_cmp (o_ne hr.units) (d_var 7) (d_lst (da_nil))) (ds_one (ds_ret (d_tup (da_cons (d_str) (da_cons (d_var 5) (da_cons (d_ix (i_ix hr.u1) (d_var 7) (d_call G__law_take (hr.mono (by decide)) rfl (da_cons (d_var 0) (da_cons (d_callB c_len rfl T.b_len (by decide +kernel) (da_cons (d_var 7) (da_nil))) (da_nil))))) (da_nil))))))) (dss_nil)) (ds_one (ds_ret (d_tup (da_cons (d_str) (da_cons (d_ix (i_ix hr.u1) (d_var 4) (d_call G__law_take (hr.mono (by decide)) rfl (da_cons (d_var 0) (da_cons (d_callB c_len rfl T.b_len (by decide +kernel) (da_cons (d_var 4) (da_nil))) (da_nil))))) (da_nil))))))))))))
theorem w__law_wander (T : Txt cl K mg w) (G__law_deed : Cal cl P w K mg base "_law_deed" 2 [] sp__law_deed) (G__law_total : Cal cl P w K mg base "_law_total" 1 [] sp__law_total) (G__law_make : Cal cl P w K mg base "_law_make" 1 [] sp__law_make) : Body cl P w K mg base N__law_wander "_law_wander" st__law_wander 2 t__law_wander := fun f cdv A outer s H E hr =>
  ds_cons (ds_set 5 sc__law_wander.nd (d_lst (da_nil))) (ds_cons (ds_for PassesOwn.never rfl (di_range rfl T.b_range (d_var 3)) (dg_name 6 sc__law_wander.nd) (ds_cons (ds_set 7 sc__law_wander.nd (d_call G__law_deed (hr.mono (by decide)) rfl (da_cons (d_var 0) (da_cons (d_var 1) (da_cons (d_var 2) (da_nil)))))) (ds_cons (ds_set 8 sc__law_wander.nd (d_or (d_and (d_cmp (o_eq hr.units) (d_ix (i_ix hr.u1) (d_var 7) (d_int)) (d_str)) (d_one (d_cmp o_ge (d_call G__law_total (hr.mono (by decide)) rfl (da_cons (d_var 1) (da_nil))) (d_var 4)))) (d_one (d_and (d_cmp (o_eq hr.units) (d_ix (i_ix hr.u1) (d_var 7) (d_int)) (d_str)) (d_one (d_cmp (o_eq hr.units) (d_callB c_len rfl T.b_len (by decide +kernel) (da_cons (d_ix (i_ix hr.u1) (d_var 1) (d_str)) (da_nil))) (d_int))))))) (ds_one (ds_if (dt_not (dt_val (d_var 8))) (ds_cons (ds_expr (d_call G__law_make (hr.mono (by decide)) rfl (da_cons (d_var 1) (da_cons (d_var 7) (da_nil))))) (ds_one (ds_expr (d_bm PySem.F.plainAttrs_list PySem.F.slot_list_append PySem.F.type_list_append m_append (d_var 5) (da_cons (d_var 7) (da_nil)))))) (dss_nil)))))) (ds_one (ds_ret (d_var 5))))
theorem w__law_ringed (T : Txt cl K mg w) (G__law_mixed : Cal cl P w K mg base "_law_mixed" 2 [] sp__law_mixed) (G__law_take : Cal cl P w K mg base "_law_take" 1 [] sp__law_take) : Body cl P w K mg base N__law_ringed "_law_ringed" st__law_ringed 2 t__law_ringed := fun f cdv A outer s H E hr =>
  ds_cons (ds_set 2 sc__law_ringed.nd (d_ix (i_ix hr.u1) (d_ix (i_ix hr.u1) (d_var 1) (d_str)) (d_int))) (ds_one (ds_if (dt_cmp o_gt (d_callB c_len rfl T.b_len (by decide +kernel) (da_cons (d_var 2) (da_nil))) (d_int)) (ds_cons (ds_set 3 sc__law_ringed.nd (d_slice s_slice (d_call G__law_mixed (hr.mono (by decide)) rfl (da_cons (d_var 0) (da_cons (d_var 2) (da_nil)))) (do_none) (do_some (d_bin o_add (d_int) (d_call G__law_take (hr.mono (by decide)) rfl (da_cons (d_var 0) (da_cons (d_bin o_sub (d_callB c_len rfl T.b_len (by decide +kernel) (da_cons (d_var 2) (da_nil))) (d_int)) (da_nil)))))))) (ds_one (ds_for PassesOwn.never rfl (di_zip rfl T.b_zip (d_var 3) (d_bin o_add (d_slice s_slice (d_var 3) (do_some (d_int)) (do_none)) (d_slice s_slice (d_var 3) (do_none) (do_some (d_int))))) (dg_tup rfl (dgs_cons (dg_name 4 sc__law_ringed.nd) (dgs_cons (dg_name 5 sc__law_ringed.nd) (dgs_nil)))) (ds_one (ds_asg (d_bin o_add (d_bm PySem.F.plainAttrs_dict PySem.F.slot_dict_get PySem.F.type_dict_get (m_get hr.u1) (d_ix (i_ix hr.u1) (d_var 1) (d_str)) (da_cons (d_tup (da_cons (d_var 4) (da_cons (d_var 5) (da_nil)))) (da_cons (d_int) (da_nil)))) (d_int)) (dg_sub hr.u1 (d_ix (i_ix hr.u1) (d_var 1) (d_str)) (d_tup (da_cons (d_var 4) (da_cons (d_var 5) (da_nil)))))))))) (dss_nil)))
theorem w__law_balanced (T : Txt cl K mg w) (G__law_begun : Cal cl P w K mg base "_law_begun" 1 [] sp__law_begun) (G__law_take : Cal cl P w K mg base "_law_take" 1 [] sp__law_take) (G__law_pairs : Cal cl P w K mg base "_law_pairs" 1 [] sp__law_pairs) (G__law_wander : Cal cl P w K mg base "_law_wander" 3 [] sp__law_wander) (G__law_ringed : Cal cl P w K mg base "_law_ringed" 3 [] sp__law_ringed) : Body cl P w K mg base N__law_balanced "_law_balanced" st__law_balanced 3 t__law_balanced := fun f cdv A outer s H E hr =>
  ds_cons (ds_set 4 sc__law_balanced.nd (d_call G__law_begun (hr.mono (by decide)) rfl (da_cons (d_var 1) (da_nil)))) (ds_cons (ds_set 5 sc__law_balanced.nd (d_ifx (dt_cmp (o_eq hr.units) (d_call G__law_take (hr.mono (by decide)) rfl (da_cons (d_var 0) (da_cons (d_int) (da_nil)))) (d_int)) (d_ix (i_ix hr.u1) (d_var 1) (d_int)) (d_call G__law_pairs (hr.mono (by decide)) rfl (da_cons (d_ix (i_ix hr.u1) (d_var 1) (d_int)) (da_nil))))) (ds_cons (ds_expr (d_call G__law_wander (hr.mono (by decide)) rfl (da_cons (d_var 0) (da_cons (d_var 4) (da_cons (d_var 5) (da_cons (d_var 2) (da_cons (d_var 3) (da_nil)))))))) (ds_cons (ds_for PassesOwn.never rfl (di_range rfl T.b_range (d_ix (i_ix hr.u1) (d_lst (da_cons (d_int) (da_cons (d_int) (da_cons (d_int) (da_cons (d_int) (da_nil)))))) (d_call G__law_take (hr.mono (by decide)) rfl (da_cons (d_var 0) (da_cons (d_int) (da_nil)))))) (dg_name 6 sc__law_balanced.nd) (ds_one (ds_expr (d_call G__law_ringed (hr.mono (by decide)) rfl (da_cons (d_var 0) (da_cons (d_var 4) (da_nil))))))) (ds_one (ds_ret (d_var 4))))))
theorem w__law_loosened (T : Txt cl K mg w) (G__law_take : Cal cl P w K mg base "_law_take" 1 [] sp__law_take) (G__law_pairs : Cal cl P w K mg base "_law_pairs" 1 [] sp__law_pairs) : Body cl P w K mg base N__law_loosened "_law_loosened" st__law_loosened 1 t__law_loosened := fun f cdv A outer s H E hr =>
  ds_cons (ds_par 2 3 rfl sc__law_loosened.nd (d_ix (i_ix hr.u1) (d_ix (i_ix hr.u1) (d_var 1) (d_str)) (d_int)) (d_call G__law_take (hr.mono (by decide)) rfl (da_cons (d_var 0) (da_cons (d_int) (da_nil))))) (ds_cons (ds_if (dt_cmp (o_eq hr.units) (d_var 3) (d_int)) (ds_cons (ds_asg (d_bin o_mul (d_lst (da_cons (d_int) (da_nil))) (d_callB c_len rfl T.b_len (by decide +kernel) (da_cons (d_var 2) (da_nil)))) (dg_sub hr.u1 (d_var 1) (d_str))) (ds_one (ds_for PassesOwn.never rfl (di_seq (d_ix (i_ix hr.u1) (d_var 1) (d_str))) (dg_name 4 sc__law_loosened.nd) (ds_cons (ds_set 5 sc__law_loosened.nd (d_call G__law_take (hr.mono (by decide)) rfl (da_cons (d_var 0) (da_cons (d_callB c_len rfl T.b_len (by decide +kernel) (da_cons (d_var 2) (da_nil))) (da_nil))))) (ds_one (ds_asg (d_bin o_add (d_ix (i_ix hr.u1) (d_ix (i_ix hr.u1) (d_var 1) (d_str)) (d_var 5)) (d_int)) (dg_sub hr.u1 (d_ix (i_ix hr.u1) (d_var 1) (d_str)) (d_var 5)))))))) (dss_nil)) (ds_cons (ds_for PassesOwn.never rfl (di_range rfl T.b_range (d_ix (i_ix hr.u1) (d_lst (da_cons (d_int) (da_cons (d_int) (da_cons (d_bin o_add (d_int) (d_call G__law_take (hr.mono (by decide)) rfl (da_cons (d_var 0) (da_cons (d_int) (da_nil))))) (da_nil))))) (d_var 3))) (dg_name 6 sc__law_loosened.nd) (ds_cons (ds_set 7 sc__law_loosened.nd (d_call G__law_pairs (hr.mono (by decide)) rfl (da_cons (d_var 2) (da_nil)))) (ds_one (ds_if (dt_cmp (o_ne hr.units) (d_var 7) (d_lst (da_nil))) (ds_cons (ds_set 8 sc__law_loosened.nd (d_ix (i_ix hr.u1) (d_var 7) (d_call G__law_take (hr.mono (by decide)) rfl (da_cons (d_var 0) (da_cons (d_callB c_len rfl T.b_len (by decide +kernel) (da_cons (d_var 7) (da_nil))) (da_nil)))))) (ds_one (ds_asg (d_callB (c_max2 rfl) rfl T.b_max (by decide +kernel) (da_cons (d_int) (da_cons (d_bin o_add (d_bm PySem.F.plainAttrs_dict PySem.F.slot_dict_get PySem.F.type_dict_get (m_get hr.u1) (d_ix (i_ix hr.u1) (d_var 1) (d_str)) (da_cons (d_var 8) (da_cons (d_int) (da_nil)))) (d_ix (i_ix hr.u1) (d_lst (da_cons (d_int) (da_cons (d_bin o_sub (d_int) (d_int)) (da_nil)))) (d_call G__law_take (hr.mono (by decide)) rfl (da_cons (d_var 0) (da_cons (d_int) (da_nil)))))) (da_nil)))) (dg_sub hr.u1 (d_ix (i_ix hr.u1) (d_var 1) (d_str)) (d_var 8))))) (dss_nil))))) (ds_one (ds_ret (d_var 1)))))
theorem w__law_stepped (T : Txt cl K mg w) (G__law_make : Cal cl P w K mg base "_law_make" 1 [] sp__law_make) : Body cl P w K mg base N__law_stepped "_law_stepped" st__law_stepped 1 t__law_stepped := fun f cdv A outer s H E hr =>
  ds_cons (ds_if (dw (dw_or (dt_cmp o_lt (d_var 1) (d_int)) (dw_or1 (dt_cmp o_ge (d_var 1) (d_callB c_len rfl T.b_len (by decide +kernel) (da_cons (d_ix (i_ix hr.u1) (d_var 0) (d_str)) (da_nil))))))) (ds_one (ds_ret (d_bl))) (dss_nil)) (ds_cons (ds_set 3 sc__law_stepped.nd (d_ix (i_ix hr.u1) (d_ix (i_ix hr.u1) (d_var 0) (d_str)) (d_var 1))) (ds_cons (ds_if (dt_cmp (o_eq hr.units) (d_bm PySem.F.plainAttrs_dict PySem.F.slot_dict_get PySem.F.type_dict_get (m_get hr.u1) (d_ix (i_ix hr.u1) (d_var 0) (d_str)) (da_cons (d_tup (da_cons (d_var 3) (da_cons (d_var 2) (da_nil)))) (da_cons (d_int) (da_nil)))) (d_int)) (ds_one (ds_ret (d_bl))) (dss_nil)) (ds_cons (ds_expr (d_call G__law_make (hr.mono (by decide)) rfl (da_cons (d_var 0) (da_cons (d_tup (da_cons (d_str) (da_cons (d_var 1) (da_cons (d_var 2) (da_nil))))) (da_nil))))) (ds_one (ds_ret (d_bl))))))
theorem w__law_options (T : Txt cl K mg w) (G__law_eaten : Cal cl P w K mg base "_law_eaten" 1 [] sp__law_eaten) : Body cl P w K mg base N__law_options "_law_options" st__law_options 1 t__law_options := fun f cdv A outer s H E hr =>
  ds_cons (ds_set 1 sc__law_options.nd (d_lst (da_nil))) (ds_cons (ds_for PassesOwn.never rfl (di_enum rfl T.b_enumerate (d_ix (i_ix hr.u1) (d_var 0) (d_str))) (dg_tup rfl (dgs_cons (dg_name 2 sc__law_options.nd) (dgs_cons (dg_name 3 sc__law_options.nd) (dgs_nil)))) (ds_one (ds_expr (d_bm PySem.F.plainAttrs_list PySem.F.slot_list_extend PySem.F.type_list_extend m_extend (d_var 1) (da_cons (d_lc rfl sc__law_options.nd (di_seq (d_call G__law_eaten (hr.mono (by decide)) rfl (da_cons (d_var 0) (da_cons (d_var 3) (da_nil))))) (own := [("_law_named", 4)]) (pt := .n 4) (blk_ok (by kernel_rfl)) (fun _ _ _ _ _ => pg_name sc__law_options.nd rfl (by first | exact Or.inl rfl | exact Or.inr rfl)) (fun _ _ _ _ _ => dts_nil) (fun _ _ _ _ _ => d_tup (da_cons (d_var 2) (da_cons (d_var 4) (da_nil))))) (da_nil)))))) (ds_one (ds_ret (d_var 1))))
theorem w__law_run (T : Txt cl K mg w) (G__law_options : Cal cl P w K mg base "_law_options" 2 [] sp__law_options) (G__law_take : Cal cl P w K mg base "_law_take" 1 [] sp__law_take) (G__law_stepped : Cal cl P w K mg base "_law_stepped" 2 [] sp__law_stepped) : Body cl P w K mg base N__law_run "_law_run" st__law_run 2 t__law_run := fun f cdv A outer s H E hr =>
  ds_cons (ds_set 3 sc__law_run.nd (d_lst (da_nil))) (ds_cons (ds_for PassesOwn.never rfl (di_range rfl T.b_range (d_var 2)) (dg_name 4 sc__law_run.nd) (ds_cons (ds_set 5 sc__law_run.nd (d_call G__law_options (hr.mono (by decide)) rfl (da_cons (d_var 1) (da_nil)))) (ds_one (ds_if (dt_cmp (o_ne hr.units) (d_var 5) (d_lst (da_nil))) (ds_cons (ds_expr (d_bm PySem.F.plainAttrs_list PySem.F.slot_list_append PySem.F.type_list_append m_append (d_var 3) (da_cons (d_ix (i_ix hr.u1) (d_var 5) (d_call G__law_take (hr.mono (by decide)) rfl (da_cons (d_var 0) (da_cons (d_callB c_len rfl T.b_len (by decide +kernel) (da_cons (d_var 5) (da_nil))) (da_nil))))) (da_nil)))) (ds_one (ds_expr (d_call G__law_stepped (hr.mono (by decide)) rfl (da_cons (d_var 1) (da_cons (d_ix (i_ix hr.u1) (d_ix (i_ix hr.u1) (d_var 3) (d_un o_neg (d_int))) (d_int)) (da_cons (d_ix (i_ix hr.u1) (d_ix (i_ix hr.u1) (d_var 3) (d_un o_neg (d_int))) (d_int)) (da_nil)))))))) (dss_nil))))) (ds_one (ds_ret (d_var 3))))
theorem w__law_other_order (T : Txt cl K mg w) (G__law_take : Cal cl P w K mg base "_law_take" 1 [] sp__law_take) : Body cl P w K mg base N__law_other_order "_law_other_order" st__law_other_order 1 t__law_other_order := fun f cdv A outer s H E hr =>
  ds_cons (ds_set 2 sc__law_other_order.nd (d_lst (da_nil))) (ds_cons (ds_for PassesOwn.never rfl (di_range rfl T.b_range (d_int)) (dg_name 3 sc__law_other_order.nd) (ds_one (ds_expr (d_bm PySem.F.plainAttrs_list PySem.F.slot_list_append PySem.F.type_list_append m_append (d_var 2) (da_cons (d_lc rfl sc__law_other_order.nd (di_seq (d_var 1)) (own := [("_law_move", 4)]) (pt := .n 4) (blk_ok (by kernel_rfl)) (fun _ _ _ _ _ => pg_name sc__law_other_order.nd rfl (by first | exact Or.inl rfl | exact Or.inr rfl)) (fun _ _ _ _ _ => dts_one (dt_cmp (o_eq hr.units) (d_ix (i_ix hr.u1) (d_var 4) (d_int)) (d_var 3))) (fun _ _ _ _ _ => d_var 4)) (da_nil)))))) (ds_cons (ds_set 5 sc__law_other_order.nd (d_lst (da_nil))) (ds_cons (ds_while PassesOwn.never (dt_cmp o_lt (d_callB c_len rfl T.b_len (by decide +kernel) (da_cons (d_var 5) (da_nil))) (d_callB c_len rfl T.b_len (by decide +kernel) (da_cons (d_var 1) (da_nil)))) (ds_cons (ds_setLc 6 rfl sc__law_other_order.nd (di_seq (d_var 2)) (own := [("_law_row", 7)]) (pt := .n 7) (blk_ok (by kernel_rfl)) (fun _ _ _ _ _ => pg_name sc__law_other_order.nd rfl (by first | exact Or.inl rfl | exact Or.inr rfl)) (fun _ _ _ _ _ => dts_one (dt_cmp (o_ne hr.units) (d_var 7) (d_lst (da_nil)))) (fun _ _ _ _ _ => d_var 7)) (ds_one (ds_expr (d_bm PySem.F.plainAttrs_list PySem.F.slot_list_append PySem.F.type_list_append m_append (d_var 5) (da_cons (d_bm PySem.F.plainAttrs_list PySem.F.slot_list_pop PySem.F.type_list_pop m_pop (d_ix (i_ix hr.u1) (d_var 6) (d_call G__law_take (hr.mono (by decide)) rfl (da_cons (d_var 0) (da_cons (d_callB c_len rfl T.b_len (by decide +kernel) (da_cons (d_var 6) (da_nil))) (da_nil))))) (da_cons (d_int) (da_nil))) (da_nil))))))) (ds_one (ds_ret (d_var 5))))))
theorem w__law_neighbours_right (T : Txt cl K mg w) (G_possible_moves : Cal cl P w K mg base "possible_moves" 1 [] sp_possible_moves) (G_make_moves : Cal cl P w K mg base "make_moves" 2 [] sp_make_moves) : Body cl P w K mg base N__law_neighbours_right "_law_neighbours_right" st__law_neighbours_right 2 t__law_neighbours_right := fun f cdv A outer s H E hr =>
  ds_cons (ds_set 3 sc__law_neighbours_right.nd (d_var 1)) (ds_cons (ds_for PassesOwn.never rfl (di_zip rfl T.b_zip (d_var 2) (d_slice s_slice (d_var 2) (do_some (d_int)) (do_none))) (dg_tup rfl (dgs_cons (dg_name 4 sc__law_neighbours_right.nd) (dgs_cons (dg_name 5 sc__law_neighbours_right.nd) (dgs_nil)))) (ds_cons (ds_if (dt_cmp (o_ne hr.units) (d_ix (i_ix hr.u1) (d_var 4) (d_int)) (d_ix (i_ix hr.u1) (d_var 5) (d_int))) (ds_cons (ds_if (dw (dw_or (dt_cmp (o_notIn hr.u65) (d_var 4) (d_call G_possible_moves (hr.mono (by decide)) rfl (da_cons (d_var 0) (da_cons (d_var 3) (da_nil))))) (dw_or1 (dt_cmp (o_notIn hr.u65) (d_var 5) (d_call G_possible_moves (hr.mono (by decide)) rfl (da_cons (d_var 0) (da_cons (d_var 3) (da_nil)))))))) (ds_one (ds_ret (d_bl))) (dss_nil)) (ds_one (ds_if (dt_cmp (o_ne hr.units) (d_call G_make_moves (hr.mono (by decide)) rfl (da_cons (d_var 0) (da_cons (d_var 3) (da_cons (d_lst (da_cons (d_var 4) (da_cons (d_var 5) (da_nil)))) (da_nil))))) (d_call G_make_moves (hr.mono (by decide)) rfl (da_cons (d_var 0) (da_cons (d_var 3) (da_cons (d_tup (da_cons (d_var 5) (da_cons (d_var 4) (da_nil)))) (da_nil)))))) (ds_one (ds_ret (d_bl))) (dss_nil)))) (dss_nil)) (ds_one (ds_set 3 sc__law_neighbours_right.nd (d_call G_make_moves (hr.mono (by decide)) rfl (da_cons (d_var 0) (da_cons (d_var 3) (da_cons (d_lst (da_cons (d_var 4) (da_nil))) (da_nil))))))))) (ds_one (ds_ret (d_bl))))
theorem w__law_companies_right (T : Txt cl K mg w) (G_Company___init__ : CalI cl P w K mg base "Company" "Company" 4 [] sp_Company___init__) (G__law_begun : Cal cl P w K mg base "_law_begun" 1 [] sp__law_begun) (G__law_wander : Cal cl P w K mg base "_law_wander" 3 [] sp__law_wander) (G__law_take : Cal cl P w K mg base "_law_take" 1 [] sp__law_take) (G_Company_several : CalM cl P w K mg base "Company" "several" 6 [.bl true] sp_Company_several) (G_Company_copied : CalM cl P w K mg base "Company" "copied" 6 [] sp_Company_copied) (G__law_run : Cal cl P w K mg base "_law_run" 3 [] sp__law_run) (G__law_other_order : Cal cl P w K mg base "_law_other_order" 2 [] sp__law_other_order) (G_Company_back : CalM cl P w K mg base "Company" "back" 3 [] sp_Company_back) (G_Company___eq__ : CalM cl P w K mg base "Company" "__eq__" 1 [] sp_Company___eq__) (G_Company_scene : CalM cl P w K mg base "Company" "scene" 1 [] sp_Company_scene) (G__law_view : Cal cl P w K mg base "_law_view" 1 [] sp__law_view) (G_Company_log : CalM cl P w K mg base "Company" "log" 1 [] sp_Company_log) : Body cl P w K mg base N__law_companies_right "_law_companies_right" st__law_companies_right 6 t__law_companies_right := fun f cdv A outer s H E hr =>
  ds_cons (ds_par 2 3 rfl sc__law_companies_right.nd (d_make G_Company___init__ (hr.mono (by decide)) rfl (da_cons (d_var 1) (da_nil))) (d_call G__law_begun (hr.mono (by decide)) rfl (da_cons (d_var 1) (da_nil)))) (ds_cons (ds_for PassesOwn.never rfl (di_seq (d_call G__law_wander (hr.mono (by decide)) rfl (da_cons (d_var 0) (da_cons (d_var 3) (da_cons (d_ix (i_ix hr.u1) (d_var 1) (d_int)) (da_cons (d_bin o_add (d_int) (d_call G__law_take (hr.mono (by decide)) rfl (da_cons (d_var 0) (da_cons (d_int) (da_nil))))) (da_cons (d_int) (da_nil)))))))) (dg_name 4 sc__law_companies_right.nd) (ds_one (ds_expr (d_meth (d_var 2) T.cls_Company G_Company_several (hr.mono (by decide)) (da_cons (d_lst (da_cons (d_var 4) (da_nil))) (da_nil)))))) (ds_cons (ds_par 5 6 rfl sc__law_companies_right.nd (d_meth0 (d_var 2) T.cls_Company G_Company_copied (hr.mono (by decide))) (d_call G__law_run (hr.mono (by decide)) rfl (da_cons (d_var 0) (da_cons (d_var 3) (da_cons (d_call G__law_take (hr.mono (by decide)) rfl (da_cons (d_var 0) (da_cons (d_int) (da_nil)))) (da_nil)))))) (ds_cons (ds_expr (d_meth (d_var 2) T.cls_Company G_Company_several (hr.mono (by decide)) (da_cons (d_lc rfl sc__law_companies_right.nd (di_seq (d_var 6)) (own := [("_law_traveller", 7), ("_law_named", 8)]) (pt := .t [.n 7, .n 8]) (blk_ok (by kernel_rfl)) (fun _ _ _ _ _ => pg_tup rfl (pgs_cons (pg_name sc__law_companies_right.nd rfl (by first | exact Or.inl rfl | exact Or.inr rfl)) (pgs_cons (pg_name sc__law_companies_right.nd rfl (by first | exact Or.inl rfl | exact Or.inr rfl)) (pgs_nil)))) (fun _ _ _ _ _ => dts_nil) (fun _ _ _ _ _ => d_tup (da_cons (d_str) (da_cons (d_var 7) (da_cons (d_var 8) (da_nil)))))) (da_nil)))) (ds_cons (ds_for PassesOwn.never rfl (di_seq (d_call G__law_other_order (hr.mono (by decide)) rfl (da_cons (d_var 0) (da_cons (d_var 6) (da_nil))))) (dg_tup rfl (dgs_cons (dg_name 7 sc__law_companies_right.nd) (dgs_cons (dg_name 8 sc__law_companies_right.nd) (dgs_nil)))) (ds_one (ds_expr (d_meth (d_var 5) T.cls_Company G_Company_back (hr.mono (by decide)) (da_cons (d_var 7) (da_cons (d_var 8) (da_nil))))))) (ds_one (ds_ret (d_and (d_cmp (o_eqOwn G_Company___eq__ (hr.mono (by decide)) hr.units0) (d_var 2) (d_var 5)) (d_and (d_cmp (o_eq hr.units) (d_meth0 (d_var 2) T.cls_Company G_Company_scene (hr.mono (by decide))) (d_call G__law_view (hr.mono (by decide)) rfl (da_cons (d_var 3) (da_nil)))) (d_one (d_cmp (o_eq hr.units) (d_callB c_len rfl T.b_len (by decide +kernel) (da_cons (d_meth0 (d_var 2) T.cls_Company G_Company_log (hr.mono (by decide))) (da_nil))) (d_callB c_len rfl T.b_len (by decide +kernel) (da_cons (d_meth0 (d_var 5) T.cls_Company G_Company_log (hr.mono (by decide))) (da_nil)))))))))))))
theorem w_law (T : Txt cl K mg w) (G__law_sack : Cal cl P w K mg base "_law_sack" 1 [] sp__law_sack) (G__law_ground : Cal cl P w K mg base "_law_ground" 4 [] sp__law_ground) (G__law_loosened : Cal cl P w K mg base "_law_loosened" 2 [] sp__law_loosened) (G__law_balanced : Cal cl P w K mg base "_law_balanced" 4 [] sp__law_balanced) (G__law_take : Cal cl P w K mg base "_law_take" 1 [] sp__law_take) (G__law_view : Cal cl P w K mg base "_law_view" 1 [] sp__law_view) (G__law_run : Cal cl P w K mg base "_law_run" 3 [] sp__law_run) (G_make_moves : Cal cl P w K mg base "make_moves" 2 [] sp_make_moves) (G__law_other_order : Cal cl P w K mg base "_law_other_order" 2 [] sp__law_other_order) (G__law_neighbours_right : Cal cl P w K mg base "_law_neighbours_right" 3 [] sp__law_neighbours_right) (G__law_companies_right : Cal cl P w K mg base "_law_companies_right" 7 [] sp__law_companies_right) : Body cl P w K mg base N_law "law" st_law 7 t_law := fun f cdv A outer s H E hr =>
  ds_cons (ds_for PassesOwn.never rfl (di_range rfl T.b_range (d_int)) (dg_name 1 sc_law.nd) (ds_cons (ds_set 2 sc_law.nd (d_call G__law_sack (hr.mono (by decide)) rfl (da_cons (d_var 0) (da_cons (d_var 1) (da_nil))))) (ds_cons (ds_set 3 sc_law.nd (d_call G__law_ground (hr.mono (by decide)) rfl (da_cons (d_var 2) (da_cons (d_int) (da_cons (d_int) (da_nil)))))) (ds_cons (ds_set 4 sc_law.nd (d_call G__law_loosened (hr.mono (by decide)) rfl (da_cons (d_var 2) (da_cons (d_call G__law_balanced (hr.mono (by decide)) rfl (da_cons (d_var 2) (da_cons (d_var 3) (da_cons (d_call G__law_take (hr.mono (by decide)) rfl (da_cons (d_var 2) (da_cons (d_int) (da_nil)))) (da_cons (d_int) (da_nil)))))) (da_nil))))) (ds_cons (ds_set 5 sc_law.nd (d_call G__law_view (hr.mono (by decide)) rfl (da_cons (d_var 4) (da_nil)))) (ds_cons (ds_set 6 sc_law.nd (d_call G__law_run (hr.mono (by decide)) rfl (da_cons (d_var 2) (da_cons (d_var 4) (da_cons (d_call G__law_take (hr.mono (by decide)) rfl (da_cons (d_var 2) (da_cons (d_int) (da_nil)))) (da_nil)))))) (ds_cons (ds_for PassesOwn.never rfl (di_range rfl T.b_range (d_int)) (dg_name 7 sc_law.nd) (ds_one (ds_if (dt_cmp (o_ne hr.units) (d_call G_make_moves (hr.mono (by decide)) rfl (da_cons (d_var 3) (da_cons (d_var 5) (da_cons (d_call G__law_other_order (hr.mono (by decide)) rfl (da_cons (d_var 2) (da_cons (d_var 6) (da_nil)))) (da_nil))))) (d_call G__law_view (hr.mono (by decide)) rfl (da_cons (d_var 4) (da_nil)))) (ds_one (ds_ret (d_bl))) (dss_nil)))) (ds_one (ds_if (dw (dw_or (dt_not (dt_val (d_call G__law_neighbours_right (hr.mono (by decide)) rfl (da_cons (d_var 3) (da_cons (d_var 5) (da_cons (d_var 6) (da_nil))))))) (dw_or1 (dt_not (dt_val (d_call G__law_companies_right (hr.mono (by decide)) rfl (da_cons (d_var 2) (da_cons (d_var 3) (da_nil))))))))) (ds_one (ds_ret (d_bl))) (dss_nil)))))))))) (ds_one (ds_ret (d_bl)))
end
end EW

set_option maxRecDepth 100000
set_option maxHeartbeats 1000000
namespace EW
open PySem PySem.Spec PyProof.Rows L2
structure Srcs (cl : String → Addr) (K : PySem.W.Frag) (mg : Str → Option Value) : Prop where
  d__law_sack : Glo K mg "_law_sack" st__law_sack
  d__law_take : Glo K mg "_law_take" st__law_take
  d__law_mixed : Glo K mg "_law_mixed" st__law_mixed
  d__law_names : Glo K mg "_law_names" st__law_names
  d__law_pairs : Glo K mg "_law_pairs" st__law_pairs
  d__law_ground : Glo K mg "_law_ground" st__law_ground
  d__law_loosened : Glo K mg "_law_loosened" st__law_loosened
  d__law_begun : Glo K mg "_law_begun" st__law_begun
  d__law_eaten : Glo K mg "_law_eaten" st__law_eaten
  d__law_deed : Glo K mg "_law_deed" st__law_deed
  d__law_total : Glo K mg "_law_total" st__law_total
  d__law_make : Glo K mg "_law_make" st__law_make
  d__law_wander : Glo K mg "_law_wander" st__law_wander
  d__law_ringed : Glo K mg "_law_ringed" st__law_ringed
  d__law_balanced : Glo K mg "_law_balanced" st__law_balanced
  d__law_view : Glo K mg "_law_view" st__law_view
  d__law_options : Glo K mg "_law_options" st__law_options
  d__law_stepped : Glo K mg "_law_stepped" st__law_stepped
  d__law_run : Glo K mg "_law_run" st__law_run
  d_changed_crumbs : Glo K mg "changed_crumbs" st_changed_crumbs
  d_moved : Glo K mg "moved" st_moved
  d_make_moves : Glo K mg "make_moves" st_make_moves
  d__law_other_order : Glo K mg "_law_other_order" st__law_other_order
  d_possible_moves : Glo K mg "possible_moves" st_possible_moves
  d__law_neighbours_right : Glo K mg "_law_neighbours_right" st__law_neighbours_right
  d_require : Glo K mg "require" st_require
  d_are_strings : Glo K mg "are_strings" st_are_strings
  d_has_form_yards : GloA K mg "has_form_yards" "has_form" st_has_form_yards
  d_is_name : Glo K mg "is_name" st_is_name
  d_check_yard : Glo K mg "check_yard" st_check_yard
  d_Company___init__ : Ini K mg (cl "Company") "Company" "Company.__init__" st_Company___init__
  d_is_integer : Glo K mg "is_integer" st_is_integer
  d_fits : Glo K mg "fits" st_fits
  d_has_form_company : GloA K mg "has_form_company" "has_form" st_has_form_company
  d_require_place : Glo K mg "require_place" st_require_place
  d_Company_scene : Mth K (cl "Company") "scene" "Company.scene" st_Company_scene []
  d_Company_note : Mth K (cl "Company") "note" "Company.note" st_Company_note []
  d_Company_join : Mth K (cl "Company") "join" "Company.join" st_Company_join []
  d_Company_place_of : Mth K (cl "Company") "place_of" "Company.place_of" st_Company_place_of []
  d_crumb_total : Glo K mg "crumb_total" st_crumb_total
  d_Company_go : Mth K (cl "Company") "go" "Company.go" st_Company_go []
  d_Company_back : Mth K (cl "Company") "back" "Company.back" st_Company_back []
  d_Company_make : Mth K (cl "Company") "make" "Company.make" st_Company_make []
  d_Company_is_made : Mth K (cl "Company") "is_made" "Company.is_made" st_Company_is_made []
  d_Company_several : Mth K (cl "Company") "several" "Company.several" st_Company_several [("whole", .bl true)]
  d_Company_copied : Mth K (cl "Company") "copied" "Company.copied" st_Company_copied []
  d_Company___eq__ : Mth K (cl "Company") "__eq__" "Company.__eq__" st_Company___eq__ []
  d_Company_log : Mth K (cl "Company") "log" "Company.log" st_Company_log []
  d__law_companies_right : Glo K mg "_law_companies_right" st__law_companies_right
  d_law : Glo K mg "law" st_law
theorem ok_all {cl : String → Addr} {P : Program} {w : World} {K : PySem.W.Frag} {mg : Str → Option Value} {base : Heap} (T : Txt cl K mg w) (S : Srcs cl K mg) {f : Addr} {fd : FuncData} (F : FunD K "law" "law" (defArgs st_law) (defBody st_law) (defScope st_law) [] [] f fd) :
    FnOk P w K mg base CX0 8 f fd ["_law_script"] (LSp K cl sp_law) := by
  have G__law_sack : Cal cl P w K mg base "_law_sack" 1 [] sp__law_sack := cal_of S.d__law_sack sc__law_sack (fun _ _ _ _ _ _ us hl => match us, hl with | [_, _], _ => rfl) (w__law_sack T) pure__law_sack
  have G__law_take : Cal cl P w K mg base "_law_take" 1 [] sp__law_take := cal_of S.d__law_take sc__law_take (fun _ _ _ _ _ _ us hl => match us, hl with | [_, _], _ => rfl) (w__law_take T) pure__law_take
  have G__law_mixed : Cal cl P w K mg base "_law_mixed" 2 [] sp__law_mixed := cal_of S.d__law_mixed sc__law_mixed (fun _ _ _ _ _ _ us hl => match us, hl with | [_, _], _ => rfl) (w__law_mixed T G__law_take) pure__law_mixed
  have G__law_names : Cal cl P w K mg base "_law_names" 3 [] sp__law_names := cal_of S.d__law_names sc__law_names (fun _ _ _ _ _ _ us hl => match us, hl with | [_, _], _ => rfl) (w__law_names T G__law_take G__law_mixed) pure__law_names
  have G__law_pairs : Cal cl P w K mg base "_law_pairs" 1 [] sp__law_pairs := cal_of S.d__law_pairs sc__law_pairs (fun _ _ _ _ _ _ us hl => match us, hl with | [_], _ => rfl) (w__law_pairs T) pure__law_pairs
  have G__law_ground : Cal cl P w K mg base "_law_ground" 4 [] sp__law_ground := cal_of S.d__law_ground sc__law_ground (fun _ _ _ _ _ _ us hl => match us, hl with | [_, _, _], _ => rfl) (w__law_ground T G__law_names G__law_take G__law_mixed G__law_pairs) pure__law_ground
  have G__law_loosened : Cal cl P w K mg base "_law_loosened" 2 [] sp__law_loosened := cal_of S.d__law_loosened sc__law_loosened (fun _ _ _ _ _ _ us hl => match us, hl with | [_, _], _ => rfl) (w__law_loosened T G__law_take G__law_pairs) pure__law_loosened
  have G__law_begun : Cal cl P w K mg base "_law_begun" 1 [] sp__law_begun := cal_of S.d__law_begun sc__law_begun (fun _ _ _ _ _ _ us hl => match us, hl with | [_], _ => rfl) (w__law_begun T) pure__law_begun
  have G__law_eaten : Cal cl P w K mg base "_law_eaten" 1 [] sp__law_eaten := cal_of S.d__law_eaten sc__law_eaten (fun _ _ _ _ _ _ us hl => match us, hl with | [_, _], _ => rfl) (w__law_eaten T) pure__law_eaten
  have G__law_deed : Cal cl P w K mg base "_law_deed" 2 [] sp__law_deed := cal_of S.d__law_deed sc__law_deed (fun _ _ _ _ _ _ us hl => match us, hl with | [_, _, _], _ => rfl) (w__law_deed T G__law_take G__law_eaten) pure__law_deed
  have G__law_total : Cal cl P w K mg base "_law_total" 1 [] sp__law_total := cal_of S.d__law_total sc__law_total (fun _ _ _ _ _ _ us hl => match us, hl with | [_], _ => rfl) (w__law_total T) pure__law_total
  have G__law_make : Cal cl P w K mg base "_law_make" 1 [] sp__law_make := cal_of S.d__law_make sc__law_make (fun _ _ _ _ _ _ us hl => match us, hl with | [_, _], _ => rfl) (w__law_make T) pure__law_make
  have G__law_wander : Cal cl P w K mg base "_law_wander" 3 [] sp__law_wander := cal_of S.d__law_wander sc__law_wander (fun _ _ _ _ _ _ us hl => match us, hl with | [_, _, _, _, _], _ => rfl) (w__law_wander T G__law_deed G__law_total G__law_make) pure__law_wander
  have G__law_ringed : Cal cl P w K mg base "_law_ringed" 3 [] sp__law_ringed := cal_of S.d__law_ringed sc__law_ringed (fun _ _ _ _ _ _ us hl => match us, hl with | [_, _], _ => rfl) (w__law_ringed T G__law_mixed G__law_take) pure__law_ringed
  have G__law_balanced : Cal cl P w K mg base "_law_balanced" 4 [] sp__law_balanced := cal_of S.d__law_balanced sc__law_balanced (fun _ _ _ _ _ _ us hl => match us, hl with | [_, _, _, _], _ => rfl) (w__law_balanced T G__law_begun G__law_take G__law_pairs G__law_wander G__law_ringed) pure__law_balanced
  have G__law_view : Cal cl P w K mg base "_law_view" 1 [] sp__law_view := cal_of S.d__law_view sc__law_view (fun _ _ _ _ _ _ us hl => match us, hl with | [_], _ => rfl) (w__law_view T) pure__law_view
  have G__law_options : Cal cl P w K mg base "_law_options" 2 [] sp__law_options := cal_of S.d__law_options sc__law_options (fun _ _ _ _ _ _ us hl => match us, hl with | [_], _ => rfl) (w__law_options T G__law_eaten) pure__law_options
  have G__law_stepped : Cal cl P w K mg base "_law_stepped" 2 [] sp__law_stepped := cal_of S.d__law_stepped sc__law_stepped (fun _ _ _ _ _ _ us hl => match us, hl with | [_, _, _], _ => rfl) (w__law_stepped T G__law_make) pure__law_stepped
  have G__law_run : Cal cl P w K mg base "_law_run" 3 [] sp__law_run := cal_of S.d__law_run sc__law_run (fun _ _ _ _ _ _ us hl => match us, hl with | [_, _, _], _ => rfl) (w__law_run T G__law_options G__law_take G__law_stepped) pure__law_run
  have G_changed_crumbs : Cal cl P w K mg base "changed_crumbs" 1 [] sp_changed_crumbs := cal_of S.d_changed_crumbs sc_changed_crumbs (fun _ _ _ _ _ _ us hl => match us, hl with | [_, _, _, _], _ => rfl) (w_changed_crumbs T) pure_changed_crumbs
  have G_moved : Cal cl P w K mg base "moved" 1 [] sp_moved := cal_of S.d_moved sc_moved (fun _ _ _ _ _ _ us hl => match us, hl with | [_, _, _], _ => rfl) (w_moved T) pure_moved
  have G_make_moves : Cal cl P w K mg base "make_moves" 2 [] sp_make_moves := cal_of S.d_make_moves sc_make_moves (fun _ _ _ _ _ _ us hl => match us, hl with | [_, _, _], _ => rfl) (w_make_moves T G_changed_crumbs G_moved) pure_make_moves
  have G__law_other_order : Cal cl P w K mg base "_law_other_order" 2 [] sp__law_other_order := cal_of S.d__law_other_order sc__law_other_order (fun _ _ _ _ _ _ us hl => match us, hl with | [_, _], _ => rfl) (w__law_other_order T G__law_take) pure__law_other_order
  have G_possible_moves : Cal cl P w K mg base "possible_moves" 1 [] sp_possible_moves := cal_of S.d_possible_moves sc_possible_moves (fun _ _ _ _ _ _ us hl => match us, hl with | [_, _], _ => rfl) (w_possible_moves T) pure_possible_moves
  have G__law_neighbours_right : Cal cl P w K mg base "_law_neighbours_right" 3 [] sp__law_neighbours_right := cal_of S.d__law_neighbours_right sc__law_neighbours_right (fun _ _ _ _ _ _ us hl => match us, hl with | [_, _, _], _ => rfl) (w__law_neighbours_right T G_possible_moves G_make_moves) pure__law_neighbours_right
  have G_require : Cal cl P w K mg base "require" 1 [] sp_require := cal_of S.d_require sc_require (fun _ _ _ _ _ _ us hl => match us, hl with | [_, _, _], _ => rfl) (w_require T) pure_require
  have G_are_strings : Cal cl P w K mg base "are_strings" 1 [] sp_are_strings := cal_of S.d_are_strings sc_are_strings (fun _ _ _ _ _ _ us hl => match us, hl with | [_], _ => rfl) (w_are_strings T) pure_are_strings
  have G_has_form_yards : Cal cl P w K mg base "has_form_yards" 2 [] sp_has_form_yards := calA_of S.d_has_form_yards sc_has_form_yards (fun _ _ _ _ _ _ us hl => match us, hl with | [_], _ => rfl) (w_has_form_yards T G_are_strings) pure_has_form_yards
  have G_is_name : Cal cl P w K mg base "is_name" 1 [] sp_is_name := cal_of S.d_is_name sc_is_name (fun _ _ _ _ _ _ us hl => match us, hl with | [_], _ => rfl) (w_is_name T) pure_is_name
  have G_check_yard : Cal cl P w K mg base "check_yard" 3 [] sp_check_yard := cal_of S.d_check_yard sc_check_yard (fun _ _ _ _ _ _ us hl => match us, hl with | [_], _ => rfl) (w_check_yard T G_require G_has_form_yards G_is_name) pure_check_yard
  have G_Company___init__ : CalI cl P w K mg base "Company" "Company" 4 [] sp_Company___init__ := calI_of S.d_Company___init__ sc_Company___init__ (fun _ _ _ _ _ _ us hl => match us, hl with | [_, _], _ => rfl) (w_Company___init__ T G_check_yard) pure_Company___init__
  have G_is_integer : Cal cl P w K mg base "is_integer" 1 [] sp_is_integer := cal_of S.d_is_integer sc_is_integer (fun _ _ _ _ _ _ us hl => match us, hl with | [_], _ => rfl) (w_is_integer T) pure_is_integer
  have G_fits : Cal cl P w K mg base "fits" 2 [] sp_fits := cal_of S.d_fits sc_fits (fun _ _ _ _ _ _ us hl => match us, hl with | [_, _], _ => rfl) (w_fits T G_is_integer) pure_fits
  have G_has_form_company : Cal cl P w K mg base "has_form_company" 3 [] sp_has_form_company := calA_of S.d_has_form_company sc_has_form_company (fun _ _ _ _ _ _ us hl => match us, hl with | [_], _ => rfl) (w_has_form_company T G_fits) pure_has_form_company
  have G_require_place : Cal cl P w K mg base "require_place" 1 [] sp_require_place := cal_of S.d_require_place sc_require_place (fun _ _ _ _ _ _ us hl => match us, hl with | [_, _], _ => rfl) (w_require_place T) pure_require_place
  have G_Company_scene : CalM cl P w K mg base "Company" "scene" 1 [] sp_Company_scene := calM_of S.d_Company_scene sc_Company_scene (fun _ _ _ _ _ _ us hl => match us, hl with | [_], _ => rfl) (w_Company_scene T) pure_Company_scene
  have G_Company_note : CalM cl P w K mg base "Company" "note" 1 [] sp_Company_note := calM_of S.d_Company_note sc_Company_note (fun _ _ _ _ _ _ us hl => match us, hl with | [_, _, _], _ => rfl) (w_Company_note T) pure_Company_note
  have G_Company_join : CalM cl P w K mg base "Company" "join" 2 [] sp_Company_join := calM_of S.d_Company_join sc_Company_join (fun _ _ _ _ _ _ us hl => match us, hl with | [_, _], _ => rfl) (w_Company_join T G_require_place G_Company_scene G_Company_note) pure_Company_join
  have G_Company_place_of : CalM cl P w K mg base "Company" "place_of" 2 [] sp_Company_place_of := calM_of S.d_Company_place_of sc_Company_place_of (fun _ _ _ _ _ _ us hl => match us, hl with | [_, _], _ => rfl) (w_Company_place_of T G_Company_scene) pure_Company_place_of
  have G_crumb_total : Cal cl P w K mg base "crumb_total" 1 [] sp_crumb_total := cal_of S.d_crumb_total sc_crumb_total (fun _ _ _ _ _ _ us hl => match us, hl with | [_], _ => rfl) (w_crumb_total T) pure_crumb_total
  have G_Company_go : CalM cl P w K mg base "Company" "go" 3 [] sp_Company_go := calM_of S.d_Company_go sc_Company_go (fun _ _ _ _ _ _ us hl => match us, hl with | [_, _, _], _ => rfl) (w_Company_go T G_Company_place_of G_require_place G_Company_scene G_crumb_total G_changed_crumbs G_Company_note G_moved) pure_Company_go
  have G_Company_back : CalM cl P w K mg base "Company" "back" 3 [] sp_Company_back := calM_of S.d_Company_back sc_Company_back (fun _ _ _ _ _ _ us hl => match us, hl with | [_, _, _], _ => rfl) (w_Company_back T G_Company_place_of G_require_place G_make_moves G_Company_scene G_Company_note) pure_Company_back
  have G_Company_make : CalM cl P w K mg base "Company" "make" 4 [] sp_Company_make := calM_of S.d_Company_make sc_Company_make (fun _ _ _ _ _ _ us hl => match us, hl with | [_, _], _ => rfl) (w_Company_make T G_Company_join G_Company_go G_Company_back) pure_Company_make
  have G_Company_is_made : CalM cl P w K mg base "Company" "is_made" 5 [] sp_Company_is_made := calM_of S.d_Company_is_made sc_Company_is_made (fun _ _ _ _ _ _ us hl => match us, hl with | [_, _], _ => rfl) (w_Company_is_made T G_has_form_company G_Company_make) pure_Company_is_made
  have G_Company_several : CalM cl P w K mg base "Company" "several" 6 [.bl true] sp_Company_several := calMk_of 2 S.d_Company_several sc_Company_several rfl (fun _ _ _ _ _ _ us ks hl hk => match us, hl, ks, hk with | [_, _], _, [_], _ => ⟨_, _, _, _, _, _, rfl, rfl, rfl⟩) (w_Company_several T G_Company_is_made) pure_Company_several
  have G_Company_copied : CalM cl P w K mg base "Company" "copied" 6 [] sp_Company_copied := calM_of S.d_Company_copied sc_Company_copied (fun _ _ _ _ _ _ us hl => match us, hl with | [_], _ => rfl) (w_Company_copied T G_Company___init__) pure_Company_copied
  have G_Company___eq__ : CalM cl P w K mg base "Company" "__eq__" 1 [] sp_Company___eq__ := calM_of S.d_Company___eq__ sc_Company___eq__ (fun _ _ _ _ _ _ us hl => match us, hl with | [_, _], _ => rfl) (w_Company___eq__ T) pure_Company___eq__
  have G_Company_log : CalM cl P w K mg base "Company" "log" 1 [] sp_Company_log := calM_of S.d_Company_log sc_Company_log (fun _ _ _ _ _ _ us hl => match us, hl with | [_], _ => rfl) (w_Company_log T) pure_Company_log
  have G__law_companies_right : Cal cl P w K mg base "_law_companies_right" 7 [] sp__law_companies_right := cal_of S.d__law_companies_right sc__law_companies_right (fun _ _ _ _ _ _ us hl => match us, hl with | [_, _], _ => rfl) (w__law_companies_right T G_Company___init__ G__law_begun G__law_wander G__law_take G_Company_several G_Company_copied G__law_run G__law_other_order G_Company_back G_Company___eq__ G_Company_scene G__law_view G_Company_log) pure__law_companies_right
  exact fn_ok F sc_law (w_law T G__law_sack G__law_ground G__law_loosened G__law_balanced G__law_take G__law_view G__law_run G_make_moves G__law_other_order G__law_neighbours_right G__law_companies_right) pure_law
theorem walkE {l : PySem.W.OpenLaw} {q : Program} {loose : List Str} {XP : (Str → Option Value) → Heap → Prop} {YP : World → Heap → Prop} {d : DefRec} {K : Params → PySem.W.Frag} (hn : l.most = some 63) (hdf : d.params.defaults = [])
    (hY : ∀ (w : World) (h : Heap), YP w h → (K w.params).In h)
    (F : ∀ (w : World) (mg : Str → Option Value) (fa : Addr) (h : Heap), (K w.params).In h → h.Ns mainGlobals mg → mg d.name = some (.ref fa) →
      ∃ fd : FuncData, (∀ (s : Shared) (u : Value), BindsTo s fd ⟨[u], []⟩ [("_law_script", u)]) ∧ ∀ base : Heap, (K w.params).In base → base.Ns mainGlobals mg → FnOk l.prog w (K w.params) mg base CX0 8 fa fd ["_law_script"] (entry (K w.params) 63)) :
    PySem.W.WalkO q loose XP YP l.row.toRowW d [] (fun f vs => PySem.call f vs) :=
  L2.walk_of (n := 63) (k := 8) (x := "_law_script") (CX := fun _ => CX0) (sp := fun w => entry (K w.params) 63) hn (by decide) hdf ⟨by decide, by decide, by decide⟩ hY F (fun _ _ a ns hl ho hS => ⟨a, ns, rfl, ho, hS, hl, fun _ => rfl⟩) fun _ _ _ _ _ z => z
theorem all_ok {P : Program} {w : World} {K : PySem.W.Frag} {mg : Str → Option Value} {fa C : Addr} (hfa : mg "law" = some (.ref fa)) (aC : PySem.W.nsIn K mainGlobals "Company" = some (some (.ref C))) (S : Srcs (fun _ => C) K mg) (T : Txt (fun _ => C) K mg w) :
    ∃ fd : FuncData, (∀ (s : Shared) (v : Value), BindsTo s fd ⟨[v], []⟩ [("_law_script", v)]) ∧ ∀ base : Heap, K.In base → base.Ns mainGlobals mg → FnOk P w K mg base CX0 8 fa fd ["_law_script"] (entry K 63) := by
  obtain ⟨f, fd, F⟩ := S.d_law.ex
  cases hfa.symm.trans F.2
  obtain ⟨oc, od, dV, kV, doc, pm, an, cdv, ct, osl, e, lk, hcd, hD, hK⟩ := F.1.ex
  have hd : dV = .none := hD.elim (fun q => q.2) fun q => absurd rfl q.1
  subst hd
  refine ⟨fd, fun s v => ?_, fun base _ _ => entry_of (ok_all T S F.1) fun d ns M h hl => by unfold sp_law; exact ⟨d, ns, rfl, h, hl, fun _ => rfl⟩⟩
  subst e
  exact .of_eq rfl
end EW

set_option maxRecDepth 100000
set_option maxHeartbeats 1000000
open PySem PySem.W PyProof.Rows in
set_option maxRecDepth 100000 in
set_option maxHeartbeats 0 in
theorem PySem.Challenge.cw_eatenways_k59_whole_moves_in_any_order_holds : PySem.Challenge.rw_eatenways_k59_whole_moves_in_any_order.Holds := by
  w_on; o_law; k_head; (case hw => w_witness2)
  k_fill
  refine EW.walkE (l := PySem.Challenge.rw_eatenways_k59_whole_moves_in_any_order) rfl rfl (fun w h Y => PySem.W.kIn_of Y) ?F
  case F =>
    intro w mg fa h KX G hmg
    refine' EW.all_ok hmg ?aC ?S ?T
    (case aC => k_is)
    (case S =>
      refine' ⟨?s__law_sack, ?s__law_take, ?s__law_mixed, ?s__law_names, ?s__law_pairs, ?s__law_ground, ?s__law_loosened, ?s__law_begun, ?s__law_eaten, ?s__law_deed, ?s__law_total, ?s__law_make, ?s__law_wander, ?s__law_ringed, ?s__law_balanced, ?s__law_view, ?s__law_options, ?s__law_stepped, ?s__law_run, ?s_changed_crumbs, ?s_moved, ?s_make_moves, ?s__law_other_order, ?s_possible_moves, ?s__law_neighbours_right, ?s_require, ?s_are_strings, ?s_has_form_yards, ?s_is_name, ?s_check_yard, ?s_Company___init__, ?s_is_integer, ?s_fits, ?s_has_form_company, ?s_require_place, ?s_Company_scene, ?s_Company_note, ?s_Company_join, ?s_Company_place_of, ?s_crumb_total, ?s_Company_go, ?s_Company_back, ?s_Company_make, ?s_Company_is_made, ?s_Company_several, ?s_Company_copied, ?s_Company___eq__, ?s_Company_log, ?s__law_companies_right, ?s_law⟩
      (case s__law_sack =>
        refine' EW.glo_mk KX G ?a__law_sack ?l__law_sack ?c__law_sack ?k__law_sack
        (case a__law_sack => k_is)
        (case l__law_sack => k_is)
        (case c__law_sack => k_is)
        (case k__law_sack => k_is))
      (case s__law_take =>
        refine' EW.glo_mk KX G ?a__law_take ?l__law_take ?c__law_take ?k__law_take
        (case a__law_take => k_is)
        (case l__law_take => k_is)
        (case c__law_take => k_is)
        (case k__law_take => k_is))
      (case s__law_mixed =>
        refine' EW.glo_mk KX G ?a__law_mixed ?l__law_mixed ?c__law_mixed ?k__law_mixed
        (case a__law_mixed => k_is)
        (case l__law_mixed => k_is)
        (case c__law_mixed => k_is)
        (case k__law_mixed => k_is))
      (case s__law_names =>
        refine' EW.glo_mk KX G ?a__law_names ?l__law_names ?c__law_names ?k__law_names
        (case a__law_names => k_is)
        (case l__law_names => k_is)
        (case c__law_names => k_is)
        (case k__law_names => k_is))
      (case s__law_pairs =>
        refine' EW.glo_mk KX G ?a__law_pairs ?l__law_pairs ?c__law_pairs ?k__law_pairs
        (case a__law_pairs => k_is)
        (case l__law_pairs => k_is)
        (case c__law_pairs => k_is)
        (case k__law_pairs => k_is))
      (case s__law_ground =>
        refine' EW.glo_mk KX G ?a__law_ground ?l__law_ground ?c__law_ground ?k__law_ground
        (case a__law_ground => k_is)
        (case l__law_ground => k_is)
        (case c__law_ground => k_is)
        (case k__law_ground => k_is))
      (case s__law_loosened =>
        refine' EW.glo_mk KX G ?a__law_loosened ?l__law_loosened ?c__law_loosened ?k__law_loosened
        (case a__law_loosened => k_is)
        (case l__law_loosened => k_is)
        (case c__law_loosened => k_is)
        (case k__law_loosened => k_is))
      (case s__law_begun =>
        refine' EW.glo_mk KX G ?a__law_begun ?l__law_begun ?c__law_begun ?k__law_begun
        (case a__law_begun => k_is)
        (case l__law_begun => k_is)
        (case c__law_begun => k_is)
        (case k__law_begun => k_is))
      (case s__law_eaten =>
        refine' EW.glo_mk KX G ?a__law_eaten ?l__law_eaten ?c__law_eaten ?k__law_eaten
        (case a__law_eaten => k_is)
        (case l__law_eaten => k_is)
        (case c__law_eaten => k_is)
        (case k__law_eaten => k_is))
      (case s__law_deed =>
        refine' EW.glo_mk KX G ?a__law_deed ?l__law_deed ?c__law_deed ?k__law_deed
        (case a__law_deed => k_is)
        (case l__law_deed => k_is)
        (case c__law_deed => k_is)
        (case k__law_deed => k_is))
      (case s__law_total =>
        refine' EW.glo_mk KX G ?a__law_total ?l__law_total ?c__law_total ?k__law_total
        (case a__law_total => k_is)
        (case l__law_total => k_is)
        (case c__law_total => k_is)
        (case k__law_total => k_is))
      (case s__law_make =>
        refine' EW.glo_mk KX G ?a__law_make ?l__law_make ?c__law_make ?k__law_make
        (case a__law_make => k_is)
        (case l__law_make => k_is)
        (case c__law_make => k_is)
        (case k__law_make => k_is))
      (case s__law_wander =>
        refine' EW.glo_mk KX G ?a__law_wander ?l__law_wander ?c__law_wander ?k__law_wander
        (case a__law_wander => k_is)
        (case l__law_wander => k_is)
        (case c__law_wander => k_is)
        (case k__law_wander => k_is))
      (case s__law_ringed =>
        refine' EW.glo_mk KX G ?a__law_ringed ?l__law_ringed ?c__law_ringed ?k__law_ringed
        (case a__law_ringed => k_is)
        (case l__law_ringed => k_is)
        (case c__law_ringed => k_is)
        (case k__law_ringed => k_is))
      (case s__law_balanced =>
        refine' EW.glo_mk KX G ?a__law_balanced ?l__law_balanced ?c__law_balanced ?k__law_balanced
        (case a__law_balanced => k_is)
        (case l__law_balanced => k_is)
        (case c__law_balanced => k_is)
        (case k__law_balanced => k_is))
      (case s__law_view =>
        refine' EW.glo_mk KX G ?a__law_view ?l__law_view ?c__law_view ?k__law_view
        (case a__law_view => k_is)
        (case l__law_view => k_is)
        (case c__law_view => k_is)
        (case k__law_view => k_is))
      (case s__law_options =>
        refine' EW.glo_mk KX G ?a__law_options ?l__law_options ?c__law_options ?k__law_options
        (case a__law_options => k_is)
        (case l__law_options => k_is)
        (case c__law_options => k_is)
        (case k__law_options => k_is))
      (case s__law_stepped =>
        refine' EW.glo_mk KX G ?a__law_stepped ?l__law_stepped ?c__law_stepped ?k__law_stepped
        (case a__law_stepped => k_is)
        (case l__law_stepped => k_is)
        (case c__law_stepped => k_is)
        (case k__law_stepped => k_is))
      (case s__law_run =>
        refine' EW.glo_mk KX G ?a__law_run ?l__law_run ?c__law_run ?k__law_run
        (case a__law_run => k_is)
        (case l__law_run => k_is)
        (case c__law_run => k_is)
        (case k__law_run => k_is))
      (case s_changed_crumbs =>
        refine' EW.glo_mk KX G ?a_changed_crumbs ?l_changed_crumbs ?c_changed_crumbs ?k_changed_crumbs
        (case a_changed_crumbs => k_is)
        (case l_changed_crumbs => k_is)
        (case c_changed_crumbs => k_is)
        (case k_changed_crumbs => k_is))
      (case s_moved =>
        refine' EW.glo_mk KX G ?a_moved ?l_moved ?c_moved ?k_moved
        (case a_moved => k_is)
        (case l_moved => k_is)
        (case c_moved => k_is)
        (case k_moved => k_is))
      (case s_make_moves =>
        refine' EW.glo_mk KX G ?a_make_moves ?l_make_moves ?c_make_moves ?k_make_moves
        (case a_make_moves => k_is)
        (case l_make_moves => k_is)
        (case c_make_moves => k_is)
        (case k_make_moves => k_is))
      (case s__law_other_order =>
        refine' EW.glo_mk KX G ?a__law_other_order ?l__law_other_order ?c__law_other_order ?k__law_other_order
        (case a__law_other_order => k_is)
        (case l__law_other_order => k_is)
        (case c__law_other_order => k_is)
        (case k__law_other_order => k_is))
      (case s_possible_moves =>
        refine' EW.glo_mk KX G ?a_possible_moves ?l_possible_moves ?c_possible_moves ?k_possible_moves
        (case a_possible_moves => k_is)
        (case l_possible_moves => k_is)
        (case c_possible_moves => k_is)
        (case k_possible_moves => k_is))
      (case s__law_neighbours_right =>
        refine' EW.glo_mk KX G ?a__law_neighbours_right ?l__law_neighbours_right ?c__law_neighbours_right ?k__law_neighbours_right
        (case a__law_neighbours_right => k_is)
        (case l__law_neighbours_right => k_is)
        (case c__law_neighbours_right => k_is)
        (case k__law_neighbours_right => k_is))
      (case s_require =>
        refine' EW.glo_mk KX G ?a_require ?l_require ?c_require ?k_require
        (case a_require => k_is)
        (case l_require => k_is)
        (case c_require => k_is)
        (case k_require => k_is))
      (case s_are_strings =>
        refine' EW.glo_mk KX G ?a_are_strings ?l_are_strings ?c_are_strings ?k_are_strings
        (case a_are_strings => k_is)
        (case l_are_strings => k_is)
        (case c_are_strings => k_is)
        (case k_are_strings => k_is))
      (case s_has_form_yards =>
        refine' EW.gloA_mk KX G ?a_has_form_yards ?l_has_form_yards ?c_has_form_yards ?k_has_form_yards
        (case a_has_form_yards => k_is)
        (case l_has_form_yards => k_is)
        (case c_has_form_yards => k_is)
        (case k_has_form_yards => k_is))
      (case s_is_name =>
        refine' EW.glo_mk KX G ?a_is_name ?l_is_name ?c_is_name ?k_is_name
        (case a_is_name => k_is)
        (case l_is_name => k_is)
        (case c_is_name => k_is)
        (case k_is_name => k_is))
      (case s_check_yard =>
        refine' EW.glo_mk KX G ?a_check_yard ?l_check_yard ?c_check_yard ?k_check_yard
        (case a_check_yard => k_is)
        (case l_check_yard => k_is)
        (case c_check_yard => k_is)
        (case k_check_yard => k_is))
      (case s_Company___init__ =>
        refine' EW.ini_mk KX G ?g_Company___init__ ?m_Company___init__ ?a_Company___init__ ?i_Company___init__ ?l_Company___init__ ?c_Company___init__ ?k_Company___init__ ?q_Company___init__
        (case g_Company___init__ => k_is)
        (case m_Company___init__ => k_is)
        (case a_Company___init__ => k_is)
        (case i_Company___init__ => k_is)
        (case l_Company___init__ => k_is)
        (case c_Company___init__ => k_is)
        (case k_Company___init__ => k_is)
        (case q_Company___init__ => k_is))
      (case s_is_integer =>
        refine' EW.glo_mk KX G ?a_is_integer ?l_is_integer ?c_is_integer ?k_is_integer
        (case a_is_integer => k_is)
        (case l_is_integer => k_is)
        (case c_is_integer => k_is)
        (case k_is_integer => k_is))
      (case s_fits =>
        refine' EW.glo_mk KX G ?a_fits ?l_fits ?c_fits ?k_fits
        (case a_fits => k_is)
        (case l_fits => k_is)
        (case c_fits => k_is)
        (case k_fits => k_is))
      (case s_has_form_company =>
        refine' EW.gloA_mk KX G ?a_has_form_company ?l_has_form_company ?c_has_form_company ?k_has_form_company
        (case a_has_form_company => k_is)
        (case l_has_form_company => k_is)
        (case c_has_form_company => k_is)
        (case k_has_form_company => k_is))
      (case s_require_place =>
        refine' EW.glo_mk KX G ?a_require_place ?l_require_place ?c_require_place ?k_require_place
        (case a_require_place => k_is)
        (case l_require_place => k_is)
        (case c_require_place => k_is)
        (case k_require_place => k_is))
      (case s_Company_scene =>
        refine' EW.mth_mk ?a_Company_scene ?i_Company_scene ?l_Company_scene ?c_Company_scene ?k_Company_scene
        (case a_Company_scene => k_is)
        (case i_Company_scene => k_is)
        (case l_Company_scene => k_is)
        (case c_Company_scene => k_is)
        (case k_Company_scene => k_is))
      (case s_Company_note =>
        refine' EW.mth_mk ?a_Company_note ?i_Company_note ?l_Company_note ?c_Company_note ?k_Company_note
        (case a_Company_note => k_is)
        (case i_Company_note => k_is)
        (case l_Company_note => k_is)
        (case c_Company_note => k_is)
        (case k_Company_note => k_is))
      (case s_Company_join =>
        refine' EW.mth_mk ?a_Company_join ?i_Company_join ?l_Company_join ?c_Company_join ?k_Company_join
        (case a_Company_join => k_is)
        (case i_Company_join => k_is)
        (case l_Company_join => k_is)
        (case c_Company_join => k_is)
        (case k_Company_join => k_is))
      (case s_Company_place_of =>
        refine' EW.mth_mk ?a_Company_place_of ?i_Company_place_of ?l_Company_place_of ?c_Company_place_of ?k_Company_place_of
        (case a_Company_place_of => k_is)
        (case i_Company_place_of => k_is)
        (case l_Company_place_of => k_is)
        (case c_Company_place_of => k_is)
        (case k_Company_place_of => k_is))
      (case s_crumb_total =>
        refine' EW.glo_mk KX G ?a_crumb_total ?l_crumb_total ?c_crumb_total ?k_crumb_total
        (case a_crumb_total => k_is)
        (case l_crumb_total => k_is)
        (case c_crumb_total => k_is)
        (case k_crumb_total => k_is))
      (case s_Company_go =>
        refine' EW.mth_mk ?a_Company_go ?i_Company_go ?l_Company_go ?c_Company_go ?k_Company_go
        (case a_Company_go => k_is)
        (case i_Company_go => k_is)
        (case l_Company_go => k_is)
        (case c_Company_go => k_is)
        (case k_Company_go => k_is))
      (case s_Company_back =>
        refine' EW.mth_mk ?a_Company_back ?i_Company_back ?l_Company_back ?c_Company_back ?k_Company_back
        (case a_Company_back => k_is)
        (case i_Company_back => k_is)
        (case l_Company_back => k_is)
        (case c_Company_back => k_is)
        (case k_Company_back => k_is))
      (case s_Company_make =>
        refine' EW.mth_mk ?a_Company_make ?i_Company_make ?l_Company_make ?c_Company_make ?k_Company_make
        (case a_Company_make => k_is)
        (case i_Company_make => k_is)
        (case l_Company_make => k_is)
        (case c_Company_make => k_is)
        (case k_Company_make => k_is))
      (case s_Company_is_made =>
        refine' EW.mth_mk ?a_Company_is_made ?i_Company_is_made ?l_Company_is_made ?c_Company_is_made ?k_Company_is_made
        (case a_Company_is_made => k_is)
        (case i_Company_is_made => k_is)
        (case l_Company_is_made => k_is)
        (case c_Company_is_made => k_is)
        (case k_Company_is_made => k_is))
      (case s_Company_several =>
        refine' EW.mthk_mk ?a_Company_several ?i_Company_several ?l_Company_several ?c_Company_several ?k_Company_several ?d_Company_several
        (case a_Company_several => k_is)
        (case i_Company_several => k_is)
        (case l_Company_several => k_is)
        (case c_Company_several => k_is)
        (case k_Company_several => k_is)
        (case d_Company_several => k_is))
      (case s_Company_copied =>
        refine' EW.mth_mk ?a_Company_copied ?i_Company_copied ?l_Company_copied ?c_Company_copied ?k_Company_copied
        (case a_Company_copied => k_is)
        (case i_Company_copied => k_is)
        (case l_Company_copied => k_is)
        (case c_Company_copied => k_is)
        (case k_Company_copied => k_is))
      (case s_Company___eq__ =>
        refine' EW.mth_mk ?a_Company___eq__ ?i_Company___eq__ ?l_Company___eq__ ?c_Company___eq__ ?k_Company___eq__
        (case a_Company___eq__ => k_is)
        (case i_Company___eq__ => k_is)
        (case l_Company___eq__ => k_is)
        (case c_Company___eq__ => k_is)
        (case k_Company___eq__ => k_is))
      (case s_Company_log =>
        refine' EW.mth_mk ?a_Company_log ?i_Company_log ?l_Company_log ?c_Company_log ?k_Company_log
        (case a_Company_log => k_is)
        (case i_Company_log => k_is)
        (case l_Company_log => k_is)
        (case c_Company_log => k_is)
        (case k_Company_log => k_is))
      (case s__law_companies_right =>
        refine' EW.glo_mk KX G ?a__law_companies_right ?l__law_companies_right ?c__law_companies_right ?k__law_companies_right
        (case a__law_companies_right => k_is)
        (case l__law_companies_right => k_is)
        (case c__law_companies_right => k_is)
        (case k__law_companies_right => k_is))
      (case s_law =>
        refine' EW.glo_mk KX G ?a_law ?l_law ?c_law ?k_law
        (case a_law => k_is)
        (case l_law => k_is)
        (case c_law => k_is)
        (case k_law => k_is)))
    (case T =>
      refine' ⟨?t_b_abs, ?t_b_all, ?t_b_bool, ?t_b_enumerate, ?t_b_int, ?t_b_isinstance, ?t_b_len, ?t_b_list, ?t_b_max, ?t_b_min, ?t_b_range, ?t_b_sorted, ?t_b_str, ?t_b_sum, ?t_b_tuple, ?t_b_zip, ?t_cls_Company, ?t_g_CRUMBS, ?t_g_LETTERS, ?t_g_NAME_LENGTH, ?t_g_PATHS, ?t_g_PLACES, ?t_g_TRAVELLERS, ?t_isi_Company, ?t_mg_Company, ?t_na_Company_deeds, ?t_na_Company_own_yard, ?t_na_Company_scenes, ?t_tab_FORMS⟩
      (case t_b_abs =>
        refine' PySem.W.mg_none_of KX G ?z_b_abs
        (case z_b_abs => k_is))
      (case t_b_all =>
        refine' PySem.W.mg_none_of KX G ?z_b_all
        (case z_b_all => k_is))
      (case t_b_bool =>
        refine' PySem.W.mg_none_of KX G ?z_b_bool
        (case z_b_bool => k_is))
      (case t_b_enumerate =>
        refine' PySem.W.mg_none_of KX G ?z_b_enumerate
        (case z_b_enumerate => k_is))
      (case t_b_int =>
        refine' PySem.W.mg_none_of KX G ?z_b_int
        (case z_b_int => k_is))
      (case t_b_isinstance =>
        refine' PySem.W.mg_none_of KX G ?z_b_isinstance
        (case z_b_isinstance => k_is))
      (case t_b_len =>
        refine' PySem.W.mg_none_of KX G ?z_b_len
        (case z_b_len => k_is))
      (case t_b_list =>
        refine' PySem.W.mg_none_of KX G ?z_b_list
        (case z_b_list => k_is))
      (case t_b_max =>
        refine' PySem.W.mg_none_of KX G ?z_b_max
        (case z_b_max => k_is))
      (case t_b_min =>
        refine' PySem.W.mg_none_of KX G ?z_b_min
        (case z_b_min => k_is))
      (case t_b_range =>
        refine' PySem.W.mg_none_of KX G ?z_b_range
        (case z_b_range => k_is))
      (case t_b_sorted =>
        refine' PySem.W.mg_none_of KX G ?z_b_sorted
        (case z_b_sorted => k_is))
      (case t_b_str =>
        refine' PySem.W.mg_none_of KX G ?z_b_str
        (case z_b_str => k_is))
      (case t_b_sum =>
        refine' PySem.W.mg_none_of KX G ?z_b_sum
        (case z_b_sum => k_is))
      (case t_b_tuple =>
        refine' PySem.W.mg_none_of KX G ?z_b_tuple
        (case z_b_tuple => k_is))
      (case t_b_zip =>
        refine' PySem.W.mg_none_of KX G ?z_b_zip
        (case z_b_zip => k_is))
      (case t_cls_Company =>
        refine' EW.cls_mk ?pg_cls_Company ?hd_cls_Company ?po_cls_Company ?sa_cls_Company
        (case pg_cls_Company => k_is)
        (case hd_cls_Company => k_is)
        (case po_cls_Company => k_is)
        (case sa_cls_Company => k_is))
      (case t_g_CRUMBS =>
        refine' EW.g_int KX G ?z_g_CRUMBS ?e_g_CRUMBS
        (case z_g_CRUMBS => k_is)
        (case e_g_CRUMBS => exact ⟨_, rfl⟩))
      (case t_g_LETTERS =>
        refine' EW.g_str KX G ?z_g_LETTERS ?e_g_LETTERS
        (case z_g_LETTERS => k_is)
        (case e_g_LETTERS => exact ⟨_, rfl⟩))
      (case t_g_NAME_LENGTH =>
        refine' EW.g_int KX G ?z_g_NAME_LENGTH ?e_g_NAME_LENGTH
        (case z_g_NAME_LENGTH => k_is)
        (case e_g_NAME_LENGTH => exact ⟨_, rfl⟩))
      (case t_g_PATHS =>
        refine' EW.g_int KX G ?z_g_PATHS ?e_g_PATHS
        (case z_g_PATHS => k_is)
        (case e_g_PATHS => exact ⟨_, rfl⟩))
      (case t_g_PLACES =>
        refine' EW.g_int KX G ?z_g_PLACES ?e_g_PLACES
        (case z_g_PLACES => k_is)
        (case e_g_PLACES => exact ⟨_, rfl⟩))
      (case t_g_TRAVELLERS =>
        refine' EW.g_int KX G ?z_g_TRAVELLERS ?e_g_TRAVELLERS
        (case z_g_TRAVELLERS => k_is)
        (case e_g_TRAVELLERS => exact ⟨_, rfl⟩))
      (case t_isi_Company =>
        refine' ⟨EW.cls_mk ?pg_isi_Company ?hd_isi_Company ?po_isi_Company ?sa_isi_Company, ?ha_isi_Company, ?hn_isi_Company, ?ht_isi_Company, ?hm_isi_Company⟩
        (case pg_isi_Company => k_is)
        (case hd_isi_Company => k_is)
        (case po_isi_Company => k_is)
        (case sa_isi_Company => k_is)
        (case ha_isi_Company => k_is)
        (case hn_isi_Company => k_is)
        (case ht_isi_Company => k_is)
        (case hm_isi_Company => k_is))
      (case t_mg_Company =>
        refine' PySem.W.mg_of KX G ?z_mg_Company
        (case z_mg_Company => k_is))
      (case t_na_Company_deeds =>
        show PySem.W.findIn _ _ _ = _
        k_is)
      (case t_na_Company_own_yard =>
        show PySem.W.findIn _ _ _ = _
        k_is)
      (case t_na_Company_scenes =>
        show PySem.W.findIn _ _ _ = _
        k_is)
      (case t_tab_FORMS =>
        refine' EW.tab_mk KX G ?z1_tab_FORMS ?z2_tab_FORMS ?z3_tab_FORMS ?z4_tab_FORMS ?z5_tab_FORMS
        (case z1_tab_FORMS => k_is)
        (case z2_tab_FORMS => k_is)
        (case z4_tab_FORMS => first | rfl | decide)
        (case z3_tab_FORMS => exact He.keysLit_of (ks := ["join", "go", "back"]) rfl)
        (case z5_tab_FORMS =>
          refine' EW.tab_cons' ?y0_tab_FORMS ?x0_tab_FORMS (EW.tab_cons' ?y1_tab_FORMS ?x1_tab_FORMS (EW.tab_cons' ?y2_tab_FORMS ?x2_tab_FORMS (EW.tab_nil)))
          (case y0_tab_FORMS => k_is)
          (case x0_tab_FORMS => exact ⟨_, rfl⟩)
          (case y1_tab_FORMS => k_is)
          (case x1_tab_FORMS => exact ⟨_, rfl⟩)
          (case y2_tab_FORMS => k_is)
          (case x2_tab_FORMS => exact ⟨_, rfl⟩))))

