import PyProof.Rows.All
import Wide.All
import OpenK.AllK
import Wide.FinOn
import HandS.ForMost
import HandS.ForExc
import HandS.IsInst
import HandS.Flow
import HandS.Wide
import HandS.TupAny
import HandS.Style
import HandS.Defaults
import HandS.RaiseMore
import HandS.Head0
import HandS.Head1
import HandS.Head2
import HandS.HeadEnd
import HandS.HeadHook1
import HandS.HeadHook2
import KE.DataEq
import KE.KStateDown
import Lean
import PySem.Challenge.RW_forestrows_k45_leaves_put_against_an_opp
set_option Elab.async false
set_option linter.all false
set_option maxRecDepth 100000
set_option maxHeartbeats 2000000
namespace DL
open PySem L2

/-! ### data -/
/-- a value with all that it holds, by value; ref: an object by its place (a mutable one, a def, a class) -/
inductive D where
  | non | bl (b : Bool) | int (i : Int) | str (x : Str) | byt (b : Array UInt8) | ty (n : String) | ref (a : Addr)
  | lst (xs : List D) | tup (xs : List D)
  | dK (ks : List Key) (ds : List D) | dT (ks : List (List Key)) (ds : List D)
  | obj (c : Nat) (ns : List Str) (ds : List D)

abbrev Mem := Addr → Option D
abbrev Env := List (Option D)
def updM (M : Mem) (a : Addr) (d : D) : Mem := fun b => if b = a then some d else M b
def delM (M : Mem) (a : Addr) : Mem := fun b => if b = a then none else M b
theorem updM_same {M : Mem} {a : Addr} {d : D} : updM M a d a = some d := if_pos rfl
theorem updM_ne {M : Mem} {a b : Addr} {d : D} (h : b ≠ a) : updM M a d b = M b := if_neg h
theorem delM_same {M : Mem} {a : Addr} : delM M a a = none := if_pos rfl
theorem delM_ne {M : Mem} {a b : Addr} (h : b ≠ a) : delM M a b = M b := if_neg h
theorem updM_updM {M : Mem} {a : Addr} {d e : D} : updM (updM M a d) a e = updM M a e := by
  funext b; unfold updM; split <;> rfl
theorem delM_updM {M : Mem} {a : Addr} {d : D} (h : M a = none) : delM (updM M a d) a = M := by
  funext b
  by_cases e : b = a
  · subst e; rw [delM_same, h]
  · rw [delM_ne e, updM_ne e]

/-- a tuple that is tracked or written -/
def SqT1 (K : PySem.W.Frag) (F : Hp) (a : Addr) (vs : List V) : Prop := F a = some (.tup vs) ∨
  ∃ (o : Obj) (its : Array Value) (n : Nat), K.lookup a = some o ∧ o.cls = .type "tuple" ∧ o.data = .seq its n ∧ its.size ≤ sizeLine ∧ Vals vs its.toList
theorem SqT1.of {K : PySem.W.Frag} {F : Hp} {a : Addr} {vs : List V} (h : F a = some (.tup vs)) : SqT1 K F a vs := .inl h
theorem SqT1.sq {K : PySem.W.Frag} {F : Hp} {a : Addr} {vs : List V} (h : SqT1 K F a vs) : SqT K F a vs := h.elim (fun h => .inl (.inl h)) .inr
theorem SqT1.mono {K : PySem.W.Frag} {F F' : Hp} {a : Addr} {vs : List V} (s : Same F F') (h : SqT1 K F a vs) : SqT1 K F' a vs := h.imp (s _ _) id
section
variable (K : PySem.W.Frag) (cl : Nat → Addr)
mutual
/-- the value v stands for the data d, its objects in F -/
inductive Rep (K : PySem.W.Frag) (cl : Nat → Addr) (F : Hp) : V → D → Prop where
  | non : Rep K cl F .non .non
  | bl (b : Bool) : Rep K cl F (.bl b) (.bl b)
  | int (i : Int) : Rep K cl F (.int i) (.int i)
  | str (x : Str) : Rep K cl F (.str x) (.str x)
  | byt (b : Array UInt8) : Rep K cl F (.byt b) (.byt b)
  | ty (n : String) : Rep K cl F (.ty n) (.ty n)
  | ref (a : Addr) : Rep K cl F (.ref a) (.ref a)
  | lst {a : Addr} {vs : List V} {ds : List D} : SqL K F a vs → Reps K cl F vs ds → Rep K cl F (.ref a) (.lst ds)
  | tup {a : Addr} {vs : List V} {ds : List D} : SqT1 K F a vs → Reps K cl F vs ds → Rep K cl F (.ref a) (.tup ds)
  | dK {a : Addr} {ks : List Key} {vs : List V} {ds : List D} : F a = some (.dK (ks.zip vs)) → ks.length = vs.length → Reps K cl F vs ds → Rep K cl F (.ref a) (.dK ks ds)
  | dT {a : Addr} {ks : List (List Key)} {vs : List V} {ds : List D} : F a = some (.dT (ks.zip vs)) → ks.length = vs.length → Reps K cl F vs ds → Rep K cl F (.ref a) (.dT ks ds)
  | obj {a dx : Addr} {c : Nat} {ns : List Str} {vs : List V} {ds : List D} : F a = some (.ins (cl c) dx (ns.zip vs)) → ns.length = vs.length → Reps K cl F vs ds → Rep K cl F (.ref a) (.obj c ns ds)
inductive Reps (K : PySem.W.Frag) (cl : Nat → Addr) (F : Hp) : List V → List D → Prop where
  | nil : Reps K cl F [] []
  | cons {v : V} {d : D} {vs : List V} {ds : List D} : Rep K cl F v d → Reps K cl F vs ds → Reps K cl F (v :: vs) (d :: ds)
end
end
section
variable {K : PySem.W.Frag} {cl : Nat → Addr} {F F' : Hp}
theorem same_l {H H' : Hp} {a : Addr} {xs : List V} (e : Same H H') (h : SqL K H a xs) : SqL K H' a xs := e.seq h
theorem same_t {H H' : Hp} {a : Addr} {xs : List V} (e : Same H H') (h : SqT K H a xs) : SqT K H' a xs := by
  rcases h with (h | ⟨o, h⟩) | h
  · exact .inl (.inl (e _ _ h))
  · exact .inl (.inr ⟨o, e _ _ h⟩)
  · exact .inr h
mutual
theorem Rep.mono (s : Same F F') : ∀ {v : V} {d : D}, Rep K cl F v d → Rep K cl F' v d
  | _, _, .non => .non
  | _, _, .bl b => .bl b
  | _, _, .int i => .int i
  | _, _, .str x => .str x
  | _, _, .byt b => .byt b
  | _, _, .ty n => .ty n
  | _, _, .ref a => .ref a
  | _, _, .lst h r => .lst (same_l s h) (Reps.mono s r)
  | _, _, .tup h r => .tup (h.mono s) (Reps.mono s r)
  | _, _, .dK h l r => .dK (s _ _ h) l (Reps.mono s r)
  | _, _, .dT h l r => .dT (s _ _ h) l (Reps.mono s r)
  | _, _, .obj h l r => .obj (s _ _ h) l (Reps.mono s r)
theorem Reps.mono (s : Same F F') : ∀ {vs : List V} {ds : List D}, Reps K cl F vs ds → Reps K cl F' vs ds
  | _, _, .nil => .nil
  | _, _, .cons h r => .cons (Rep.mono s h) (Reps.mono s r)
end
theorem Reps.length : ∀ {vs : List V} {ds : List D}, Reps K cl F vs ds → vs.length = ds.length
  | _, _, .nil => rfl
  | _, _, .cons _ r => by simp [Reps.length r]
theorem Reps.get : ∀ {vs : List V} {ds : List D} {i : Nat} {d : D}, Reps K cl F vs ds → ds[i]? = some d → ∃ v, vs[i]? = some v ∧ Rep K cl F v d
  | _, _, _, _, .nil, e => by simp at e
  | _, _, 0, _, .cons r _, e => by simp at e; subst e; exact ⟨_, rfl, r⟩
  | _, _, i + 1, d, .cons _ t, e => by
    obtain ⟨u, h1, h2⟩ := Reps.get (i := i) (d := d) t (by simpa using e)
    exact ⟨u, by simpa using h1, h2⟩
theorem Reps.getV : ∀ {vs : List V} {ds : List D} {i : Nat} {v : V}, Reps K cl F vs ds → vs[i]? = some v → ∃ d, ds[i]? = some d ∧ Rep K cl F v d
  | _, _, _, _, .nil, e => by simp at e
  | _, _, 0, _, .cons r _, e => by simp at e; subst e; exact ⟨_, rfl, r⟩
  | _, _, i + 1, v, .cons _ t, e => by
    obtain ⟨u, h1, h2⟩ := Reps.getV (i := i) (v := v) t (by simpa using e)
    exact ⟨u, by simpa using h1, h2⟩
theorem Reps.append : ∀ {vs ws : List V} {ds es : List D}, Reps K cl F vs ds → Reps K cl F ws es → Reps K cl F (vs ++ ws) (ds ++ es)
  | _, _, _, _, .nil, s => s
  | _, _, _, _, .cons r t, s => .cons r (Reps.append t s)
theorem Reps.one {v : V} {d : D} (h : Rep K cl F v d) : Reps K cl F [v] [d] := .cons h .nil
theorem Reps.set {v : V} {d : D} (r : Rep K cl F v d) : ∀ {vs : List V} {ds : List D} (i : Nat), Reps K cl F vs ds → Reps K cl F (vs.set i v) (ds.set i d)
  | _, _, _, .nil => .nil
  | _, _, 0, .cons _ t => .cons r t
  | _, _, i + 1, .cons q t => .cons q (Reps.set r i t)
theorem Reps.take : ∀ {vs : List V} {ds : List D} (n : Nat), Reps K cl F vs ds → Reps K cl F (vs.take n) (ds.take n)
  | _, _, 0, _ => .nil
  | _, _, _ + 1, .nil => .nil
  | _, _, n + 1, .cons r t => .cons r (Reps.take n t)
theorem Reps.drop : ∀ {vs : List V} {ds : List D} (n : Nat), Reps K cl F vs ds → Reps K cl F (vs.drop n) (ds.drop n)
  | _, _, 0, r => r
  | _, _, _ + 1, .nil => .nil
  | _, _, n + 1, .cons _ t => Reps.drop n t
theorem Reps.reverse : ∀ {vs : List V} {ds : List D}, Reps K cl F vs ds → Reps K cl F vs.reverse ds.reverse
  | _, _, .nil => .nil
  | _, _, .cons r t => by
    rw [List.reverse_cons, List.reverse_cons]
    exact (Reps.reverse t).append (.one r)
theorem Reps.inv {vs : List V} {d : D} {ds : List D} (h : Reps K cl F vs (d :: ds)) : ∃ v ws, vs = v :: ws ∧ Rep K cl F v d ∧ Reps K cl F ws ds := by
  cases h with
  | cons a b => exact ⟨_, _, rfl, a, b⟩
theorem Reps.inv0 {vs : List V} (h : Reps K cl F vs []) : vs = [] := by
  cases h with
  | nil => rfl
theorem Rep.toInt {v : V} {i : Int} (h : Rep K cl F v (.int i)) : v = .int i := by cases h; rfl
theorem Rep.toBl {v : V} {i : Bool} (h : Rep K cl F v (.bl i)) : v = .bl i := by cases h; rfl
theorem Rep.toStr {v : V} {i : Str} (h : Rep K cl F v (.str i)) : v = .str i := by cases h; rfl
theorem Rep.toByt {v : V} {i : Array UInt8} (h : Rep K cl F v (.byt i)) : v = .byt i := by cases h; rfl
theorem Rep.toNon {v : V} (h : Rep K cl F v .non) : v = .non := by cases h; rfl
theorem Rep.toRef {v : V} {a : Addr} (h : Rep K cl F v (.ref a)) : v = .ref a := by cases h; rfl
theorem Rep.toTy {v : V} {n : String} (h : Rep K cl F v (.ty n)) : v = .ty n := by cases h; rfl
theorem Rep.toLst {v : V} {ds : List D} (h : Rep K cl F v (.lst ds)) : ∃ a vs, v = .ref a ∧ SqL K F a vs ∧ Reps K cl F vs ds := by
  cases h with | lst a b => exact ⟨_, _, rfl, a, b⟩
theorem Rep.toTup {v : V} {ds : List D} (h : Rep K cl F v (.tup ds)) : ∃ a vs, v = .ref a ∧ SqT K F a vs ∧ Reps K cl F vs ds := by
  cases h with | tup a b => exact ⟨_, _, rfl, a.sq, b⟩
theorem Rep.toTup1 {v : V} {ds : List D} (h : Rep K cl F v (.tup ds)) : ∃ a vs, v = .ref a ∧ SqT1 K F a vs ∧ Reps K cl F vs ds := by
  cases h with | tup a b => exact ⟨_, _, rfl, a, b⟩
theorem Rep.toObj {v : V} {c : Nat} {ns : List Str} {ds : List D} (h : Rep K cl F v (.obj c ns ds)) : ∃ a dx vs, v = .ref a ∧ F a = some (.ins (cl c) dx (ns.zip vs)) ∧ ns.length = vs.length ∧ Reps K cl F vs ds := by
  cases h with | obj a b c => exact ⟨_, _, _, rfl, a, b, c⟩
/-- whole lists of one kind -/
theorem Reps.ints : ∀ {vs : List V} {ns : List Int}, Reps K cl F vs (ns.map D.int) → vs = ns.map V.int
  | _, [], h => h.inv0
  | _, n :: ns, h => by
    obtain ⟨v, ws, rfl, a, b⟩ := h.inv
    rw [a.toInt, Reps.ints b]; rfl
theorem Reps.strs : ∀ {vs : List V} {ns : List Str}, Reps K cl F vs (ns.map D.str) → vs = ns.map V.str
  | _, [], h => h.inv0
  | _, n :: ns, h => by
    obtain ⟨v, ws, rfl, a, b⟩ := h.inv
    rw [a.toStr, Reps.strs b]; rfl
theorem Reps.of_ints (ns : List Int) : Reps K cl F (ns.map V.int) (ns.map D.int) := by
  induction ns with
  | nil => exact .nil
  | cons n ns ih => exact .cons (.int n) ih
end

/-! ### the heap in two parts: F for good, M what may be changed -/
section
variable (K : PySem.W.Frag) (cl : Nat → Addr)
/-- the object at a is d at its top, what it holds is in F -/
def RepTop (F H : Hp) (a : Addr) : D → Prop
  | .lst ds => ∃ vs, H a = some (.lst vs) ∧ Reps K cl F vs ds
  | .dK ks ds => ∃ vs, H a = some (.dK (ks.zip vs)) ∧ ks.length = vs.length ∧ Reps K cl F vs ds
  | .dT ks ds => ∃ vs, H a = some (.dT (ks.zip vs)) ∧ ks.length = vs.length ∧ Reps K cl F vs ds
  | .obj c ns ds => ∃ dx vs, H a = some (.ins (cl c) dx (ns.zip vs)) ∧ ns.length = vs.length ∧ Reps K cl F vs ds
  | _ => False
structure Good (F H : Hp) (M : Mem) : Prop where
  sub : Same F H
  cell : ∀ a d, M a = some d → F a = none ∧ RepTop K cl F H a d
structure Slots (F : Hp) (σ : St) (ρ : Env) : Prop where
  len : σ.length = ρ.length
  get : ∀ (i : Nat) d, ρ[i]? = some (some d) → ∃ v, σ[i]? = some (some v) ∧ Rep K cl F v d
/-- an exception's own dict -/
def ExcAt (F : Hp) (dd : Option Addr) (ns : List Str) (ds : List D) : Prop :=
  (dd = none ∧ ns = [] ∧ ds = []) ∨ ∃ d vs, dd = some d ∧ F d = some (.xd (ns.zip vs)) ∧ ns.length = vs.length ∧ Reps K cl F vs ds
end
section
variable {K : PySem.W.Frag} {cl : Nat → Addr} {F F' H H' : Hp} {M : Mem}
theorem same_new {H : Hp} {p : Addr} {o : HO} (h : H p = none) : Same H (upd H p o) := fun a u e => by
  rw [upd_ne (ne_of_none e h)]; exact e
theorem RepTop.mono {a : Addr} {d : D} (s : Same F F') (h : RepTop K cl F H a d) (hH : ∀ o, H a = some o → H' a = some o) : RepTop K cl F' H' a d := by
  cases d with
  | lst ds => obtain ⟨vs, h1, h2⟩ := h; exact ⟨vs, hH _ h1, h2.mono s⟩
  | dK ks ds => obtain ⟨vs, h1, h2, h3⟩ := h; exact ⟨vs, hH _ h1, h2, h3.mono s⟩
  | dT ks ds => obtain ⟨vs, h1, h2, h3⟩ := h; exact ⟨vs, hH _ h1, h2, h3.mono s⟩
  | obj c ns ds => obtain ⟨dx, vs, h1, h2, h3⟩ := h; exact ⟨dx, vs, hH _ h1, h2, h3.mono s⟩
  | _ => exact h.elim
theorem RepTop.there {a : Addr} {d : D} (h : RepTop K cl F H a d) : ∃ o, H a = some o := by
  cases d with
  | lst ds => obtain ⟨vs, h1, _⟩ := h; exact ⟨_, h1⟩
  | dK ks ds => obtain ⟨vs, h1, _⟩ := h; exact ⟨_, h1⟩
  | dT ks ds => obtain ⟨vs, h1, _⟩ := h; exact ⟨_, h1⟩
  | obj c ns ds => obtain ⟨dx, vs, h1, _⟩ := h; exact ⟨_, h1⟩
  | _ => exact h.elim
theorem Good.freshF (g : Good K cl F H M) {p : Addr} (h : H p = none) : F p = none := g.sub.free h
theorem Good.freshM (g : Good K cl F H M) {p : Addr} (h : H p = none) : M p = none := by
  cases e : M p with
  | none => rfl
  | some d => obtain ⟨o, q⟩ := (g.cell p d e).2.there; rw [h] at q; cases q
/-- a new object for good -/
theorem Good.new (g : Good K cl F H M) {p : Addr} {o : HO} (h : H p = none) : Good K cl (upd F p o) (upd H p o) M where
  sub := fun a u e => by
    by_cases q : a = p
    · subst q; rw [upd_same] at e ⊢; exact e
    · rw [upd_ne q] at e ⊢; exact g.sub a u e
  cell := fun a d e => by
    obtain ⟨h1, h2⟩ := g.cell a d e
    have ne : a ≠ p := fun z => by rw [z, g.freshM h] at e; cases e
    refine ⟨by rw [upd_ne ne]; exact h1, h2.mono (same_new (g.freshF h)) fun u q => by rw [upd_ne ne]; exact q⟩
/-- a new object of no matter -/
theorem Good.junk (g : Good K cl F H M) {p : Addr} {o : HO} (h : H p = none) : Good K cl F (upd H p o) M where
  sub := fun a u e => (same_new h) a u (g.sub a u e)
  cell := fun a d e => by
    obtain ⟨h1, h2⟩ := g.cell a d e
    exact ⟨h1, h2.mono (Same.refl F) (same_new h a)⟩
/-- a new object that may be changed -/
theorem Good.newM (g : Good K cl F H M) {p : Addr} {o : HO} {d : D} (h : H p = none) (r : RepTop K cl F (upd H p o) p d) : Good K cl F (upd H p o) (updM M p d) where
  sub := fun a u e => (same_new h) a u (g.sub a u e)
  cell := fun a e q => by
    by_cases z : a = p
    · subst z; rw [updM_same] at q; cases q; exact ⟨g.freshF h, r⟩
    · rw [updM_ne z] at q
      obtain ⟨h1, h2⟩ := g.cell a e q
      exact ⟨h1, h2.mono (Same.refl F) (same_new h a)⟩
/-- one is changed -/
theorem Good.put (g : Good K cl F H M) {p : Addr} {o : HO} {d e : D} (h : M p = some e) (r : RepTop K cl F (upd H p o) p d) : Good K cl F (upd H p o) (updM M p d) where
  sub := fun a u q => by
    have ne : a ≠ p := fun z => by rw [z, (g.cell p e h).1] at q; cases q
    rw [upd_ne ne]; exact g.sub a u q
  cell := fun a b q => by
    by_cases z : a = p
    · subst z; rw [updM_same] at q; cases q; exact ⟨(g.cell _ _ h).1, r⟩
    · rw [updM_ne z] at q
      obtain ⟨h1, h2⟩ := g.cell a b q
      exact ⟨h1, h2.mono (Same.refl F) fun u w => by rw [upd_ne z]; exact w⟩
/-- one is not changed any more -/
theorem Good.freeze (g : Good K cl F H M) {p : Addr} {d : D} (h : M p = some d) : ∃ F', Same F F' ∧ Good K cl F' H (delM M p) ∧ Rep K cl F' (.ref p) d := by
  obtain ⟨h1, h2⟩ := g.cell p d h
  obtain ⟨o, ho⟩ := h2.there
  have sm : Same F (upd F p o) := same_new h1
  have gd : Good K cl (upd F p o) H (delM M p) := {
    sub := fun a u e => by
      by_cases q : a = p
      · subst q; rw [upd_same] at e; rw [← e]; exact ho
      · rw [upd_ne q] at e; exact g.sub a u e
    cell := fun a b q => by
      by_cases z : a = p
      · subst z; rw [delM_same] at q; cases q
      · rw [delM_ne z] at q
        obtain ⟨k1, k2⟩ := g.cell a b q
        exact ⟨by rw [upd_ne z]; exact k1, k2.mono sm fun u w => w⟩ }
  refine ⟨upd F p o, sm, gd, ?_⟩
  cases d with
  | lst ds => obtain ⟨vs, h1, h2⟩ := h2; rw [h1] at ho; cases ho; exact .lst (SqL.of upd_same) (h2.mono sm)
  | dK ks ds => obtain ⟨vs, h1, h2, h3⟩ := h2; rw [h1] at ho; cases ho; exact .dK upd_same h2 (h3.mono sm)
  | dT ks ds => obtain ⟨vs, h1, h2, h3⟩ := h2; rw [h1] at ho; cases ho; exact .dT upd_same h2 (h3.mono sm)
  | obj c ns ds => obtain ⟨dx, vs, h1, h2, h3⟩ := h2; rw [h1] at ho; cases ho; exact .obj upd_same h2 (h3.mono sm)
  | _ => exact h2.elim
theorem Slots.mono {σ : St} {ρ : Env} (s : Same F F') (h : Slots K cl F σ ρ) : Slots K cl F' σ ρ := ⟨h.len, fun i d e => by
  obtain ⟨v, h1, h2⟩ := h.get i d e
  exact ⟨v, h1, h2.mono s⟩⟩
theorem Slots.set {σ : St} {ρ : Env} {v : V} {d : D} (h : Slots K cl F σ ρ) (i : Nat) (r : Rep K cl F v d) : Slots K cl F (σ.set i (some v)) (ρ.set i (some d)) := ⟨by rw [List.length_set, List.length_set]; exact h.len, fun j e q => by
  by_cases z : i = j
  · subst z
    rw [List.getElem?_set_self'] at q ⊢
    cases w : ρ[i]? with
    | none => rw [w] at q; cases q
    | some x =>
      rw [w] at q
      have hi : i < σ.length := by rw [h.len]; exact (List.getElem?_eq_some_iff.mp w).1
      have e1 : some d = some e := Option.some.inj q
      cases e1
      rw [List.getElem?_eq_getElem hi]
      exact ⟨v, rfl, r⟩
  · rw [List.getElem?_set_ne z] at q ⊢
    exact h.get j e q⟩
theorem Slots.setN {σ : St} {ρ : Env} {v : Option V} (h : Slots K cl F σ ρ) (i : Nat) : Slots K cl F (σ.set i v) (ρ.set i none) := ⟨by rw [List.length_set, List.length_set]; exact h.len, fun j e q => by
  by_cases z : i = j
  · subst z
    rw [List.getElem?_set_self'] at q
    cases w : ρ[i]? with
    | none => rw [w] at q; cases q
    | some x => rw [w] at q; cases q
  · rw [List.getElem?_set_ne z] at q ⊢
    exact h.get j e q⟩
theorem ExcAt.mono {dd : Option Addr} {ns : List Str} {ds : List D} (s : Same F F') (h : ExcAt K cl F dd ns ds) : ExcAt K cl F' dd ns ds := by
  rcases h with h | ⟨d, vs, h1, h2, h3, h4⟩
  · exact .inl h
  · exact .inr ⟨d, vs, h1, s _ _ h2, h3, h4.mono s⟩
end

/-! ### readings over data -/
abbrev DV := D → Mem → Prop
abbrev DX := Nat → List Str → List D → Env → Mem → Prop
abbrev DTE := Env → Mem → DV → DX → Prop
abbrev DTT := Env → Mem → (Bool → Mem → Prop) → DX → Prop
abbrev DTA := Env → Mem → (List D → Mem → Prop) → DX → Prop
structure DEnds where
  nx : Env → Mem → Prop
  rt : DV
  bk : Env → Mem → Prop
  ct : Env → Mem → Prop
  ex : DX
abbrev DTS := DEnds → Env → Mem → Prop
abbrev DEK := Nat → List Str → List D → Mem → Prop
abbrev SpD := List D → Mem → DV → DEK → Prop

section
variable (K : PySem.W.Frag) (cl : Nat → Addr)
def Post (F : Hp) (Q : VK) (Qd : DV) : Prop := ∀ v H' F' d M', Same F F' → Good K cl F' H' M' → Rep K cl F' v d → Qd d M' → Q v H'
def PostT (F : Hp) (Q : Bool → Hp → Prop) (Qd : Bool → Mem → Prop) : Prop := ∀ b H' F' M', Same F F' → Good K cl F' H' M' → Qd b M' → Q b H'
def PostA (F : Hp) (Q : List V → Hp → Prop) (Qd : List D → Mem → Prop) : Prop := ∀ vs H' F' ds M', Same F F' → Good K cl F' H' M' → Reps K cl F' vs ds → Qd ds M' → Q vs H'
def PostS (F : Hp) (Q : St → Hp → Prop) (Qd : Env → Mem → Prop) : Prop := ∀ σ H' F' ρ M', Same F F' → Good K cl F' H' M' → Slots K cl F' σ ρ → Qd ρ M' → Q σ H'
def WOk (W : WX) (F : Hp) (Xd : DX) : Prop := ∀ c ns ds σ H' F' ρ M' dd, Same F F' → Good K cl F' H' M' → Slots K cl F' σ ρ → ExcAt K cl F' dd ns ds → Xd c ns ds ρ M' → W (.ref (cl c)) dd σ H'
def EOk (F : Hp) (E : XK) (Ed : DEK) : Prop := ∀ c ns ds H' F' M' dd, Same F F' → Good K cl F' H' M' → ExcAt K cl F' dd ns ds → Ed c ns ds M' → E (.ref (cl c)) dd H'
structure EndsOk (W : WX) (F : Hp) (D : Ends) (Dd : DEnds) : Prop where
  nx : PostS K cl F D.nx Dd.nx
  rt : Post K cl F D.rt Dd.rt
  bk : PostS K cl F D.bk Dd.bk
  ct : PostS K cl F D.ct Dd.ct
  ex : WOk K cl W F Dd.ex
def lowE (W : WX) (τ : DTE) : TE := fun σ H Q => ∃ F ρ M Qd Xd, Good K cl F H M ∧ Slots K cl F σ ρ ∧ τ ρ M Qd Xd ∧ Post K cl F Q Qd ∧ WOk K cl W F Xd
def lowT (W : WX) (τ : DTT) : TT := fun σ H Q => ∃ F ρ M Qd Xd, Good K cl F H M ∧ Slots K cl F σ ρ ∧ τ ρ M Qd Xd ∧ PostT K cl F Q Qd ∧ WOk K cl W F Xd
def lowA (W : WX) (τ : DTA) : TA := fun σ H Q => ∃ F ρ M Qd Xd, Good K cl F H M ∧ Slots K cl F σ ρ ∧ τ ρ M Qd Xd ∧ PostA K cl F Q Qd ∧ WOk K cl W F Xd
def lowS (W : WX) (τ : DTS) : TS := fun D σ H => ∃ F ρ M Dd, Good K cl F H M ∧ Slots K cl F σ ρ ∧ τ Dd ρ M ∧ EndsOk K cl W F D Dd
/-- a promise over data -/
def lower (spd : SpD) : Sp := fun vs H Q E => ∃ F M ds Qd Ed, Good K cl F H M ∧ Reps K cl F vs ds ∧ spd ds M Qd Ed ∧ Post K cl F Q Qd ∧ EOk K cl F E Ed
end
section
variable {K : PySem.W.Frag} {cl : Nat → Addr} {F F' : Hp}
theorem Post.mono {Q : VK} {Qd : DV} (s : Same F F') (h : Post K cl F Q Qd) : Post K cl F' Q Qd := fun v H' G d M' s' => h v H' G d M' (s.trans s')
theorem PostT.mono {Q : Bool → Hp → Prop} {Qd : Bool → Mem → Prop} (s : Same F F') (h : PostT K cl F Q Qd) : PostT K cl F' Q Qd := fun v H' G M' s' => h v H' G M' (s.trans s')
theorem PostA.mono {Q : List V → Hp → Prop} {Qd : List D → Mem → Prop} (s : Same F F') (h : PostA K cl F Q Qd) : PostA K cl F' Q Qd := fun v H' G d M' s' => h v H' G d M' (s.trans s')
theorem PostS.mono {Q : St → Hp → Prop} {Qd : Env → Mem → Prop} (s : Same F F') (h : PostS K cl F Q Qd) : PostS K cl F' Q Qd := fun v H' G d M' s' => h v H' G d M' (s.trans s')
theorem WOk.mono {W : WX} {Xd : DX} (s : Same F F') (h : WOk K cl W F Xd) : WOk K cl W F' Xd := fun c ns ds σ H' G ρ M' dd s' => h c ns ds σ H' G ρ M' dd (s.trans s')
theorem EOk.mono {E : XK} {Ed : DEK} (s : Same F F') (h : EOk K cl F E Ed) : EOk K cl F' E Ed := fun c ns ds H' G M' dd s' => h c ns ds H' G M' dd (s.trans s')
theorem EndsOk.mono {W : WX} {D : Ends} {Dd : DEnds} (s : Same F F') (h : EndsOk K cl W F D Dd) : EndsOk K cl W F' D Dd := ⟨h.nx.mono s, h.rt.mono s, h.bk.mono s, h.ct.mono s, h.ex.mono s⟩
end

/-! ### judgements -/
structure DE (cl : Nat → Addr) (X : Cx) (W : WX) (e : Expr) (τ : DTE) : Prop where
  pe : PE X e (lowE X.K cl W τ)
structure DT (cl : Nat → Addr) (X : Cx) (W : WX) (e : Expr) (τ : DTT) : Prop where
  pt : PT X e (lowT X.K cl W τ)
structure DW (cl : Nat → Addr) (X : Cx) (W : WX) (e : Expr) (τ : DTT) : Prop where
  pw : PW X e (lowT X.K cl W τ)
structure DA (cl : Nat → Addr) (X : Cx) (W : WX) (es : List Expr) (τ : DTA) : Prop where
  pa : PA X es (lowA X.K cl W τ)
structure DS (cl : Nat → Addr) (X : Cx) (W : WX) (st : Stmt) (τ : DTS) : Prop where
  ps : PS X st (lowS X.K cl W τ)
structure DSs (cl : Nat → Addr) (X : Cx) (W : WX) (st : List Stmt) (τ : DTS) : Prop where
  pss : PSs X st (lowS X.K cl W τ)
section
variable {cl : Nat → Addr} {X : Cx} {W : WX}
theorem pe_imp {e : Expr} {t t' : TE} (h : PE X e t) (i : ∀ σ H Q, t' σ H Q → t σ H Q) : PE X e t' := ⟨fun pins s σ H Q I q => h.run pins s σ H Q I (i σ H Q q)⟩
theorem pt_imp {e : Expr} {t t' : TT} (h : PT X e t) (i : ∀ σ H Q, t' σ H Q → t σ H Q) : PT X e t' := ⟨fun pins s σ H Q I q => h.run pins s σ H Q I (i σ H Q q)⟩
theorem pw_imp {e : Expr} {t t' : TT} (h : PW X e t) (i : ∀ σ H Q, t' σ H Q → t σ H Q) : PW X e t' := ⟨fun wh pins s σ H Q I q => h.run wh pins s σ H Q I (i σ H Q q)⟩
theorem pa_imp {es : List Expr} {t t' : TA} (h : PA X es t) (i : ∀ σ H Q, t' σ H Q → t σ H Q) : PA X es t' := ⟨fun pos pins s σ H Q I q => h.run pos pins s σ H Q I (i σ H Q q)⟩
theorem ps_imp {st : Stmt} {t t' : TS} (h : PS X st t) (i : ∀ D σ H, t' D σ H → t D σ H) : PS X st t' := ⟨fun pins s σ H D I q => h.run pins s σ H D I (i D σ H q)⟩
theorem pss_imp {st : List Stmt} {t t' : TS} (h : PSs X st t) (i : ∀ D σ H, t' D σ H → t D σ H) : PSs X st t' := ⟨fun pins s σ H D I q => h.run pins s σ H D I (i D σ H q)⟩
end
end DL

set_option Elab.async false
set_option linter.all false
set_option maxRecDepth 100000
set_option maxHeartbeats 2000000
namespace DL
open PySem L2

/-! ### views: a value's data, read at its top -/
def vw (M : Mem) : D → D
  | .ref a => (M a).getD (.ref a)
  | d => d
def Vw (K : PySem.W.Frag) (cl : Nat → Addr) (F H : Hp) (v : V) (d : D) : Prop := Rep K cl F v d ∨ ∃ a, v = .ref a ∧ RepTop K cl F H a d
section
variable {K : PySem.W.Frag} {cl : Nat → Addr} {F F' H H' : Hp} {M : Mem} {v : V} {d : D}
theorem vw_ok (g : Good K cl F H M) (r : Rep K cl F v d) : Vw K cl F H v (vw M d) := by
  cases d with
  | ref a =>
    obtain rfl := r.toRef
    show Vw K cl F H (.ref a) ((M a).getD (.ref a))
    cases e : M a with
    | none => exact .inl (.ref a)
    | some c => exact .inr ⟨a, rfl, (g.cell a c e).2⟩
  | _ => exact .inl r
theorem Vw.int {i : Int} (h : Vw K cl F H v (.int i)) : v = .int i := by
  rcases h with h | ⟨a, _, h⟩
  · exact h.toInt
  · exact h.elim
theorem Vw.bl {i : Bool} (h : Vw K cl F H v (.bl i)) : v = .bl i := by
  rcases h with h | ⟨a, _, h⟩
  · exact h.toBl
  · exact h.elim
theorem Vw.str {i : Str} (h : Vw K cl F H v (.str i)) : v = .str i := by
  rcases h with h | ⟨a, _, h⟩
  · exact h.toStr
  · exact h.elim
theorem Vw.byt {i : Array UInt8} (h : Vw K cl F H v (.byt i)) : v = .byt i := by
  rcases h with h | ⟨a, _, h⟩
  · exact h.toByt
  · exact h.elim
theorem Vw.non (h : Vw K cl F H v .non) : v = .non := by
  rcases h with h | ⟨a, _, h⟩
  · exact h.toNon
  · exact h.elim
theorem Vw.lst {ds : List D} (g : Same F H) (h : Vw K cl F H v (.lst ds)) : ∃ a vs, v = .ref a ∧ SqL K H a vs ∧ Reps K cl F vs ds := by
  rcases h with h | ⟨a, rfl, vs, h1, h2⟩
  · obtain ⟨a, vs, rfl, h1, h2⟩ := h.toLst
    exact ⟨a, vs, rfl, same_l g h1, h2⟩
  · exact ⟨a, vs, rfl, SqL.of h1, h2⟩
theorem Vw.tup {ds : List D} (g : Same F H) (h : Vw K cl F H v (.tup ds)) : ∃ a vs, v = .ref a ∧ SqT K H a vs ∧ Reps K cl F vs ds := by
  rcases h with h | ⟨a, rfl, h1⟩
  · obtain ⟨a, vs, rfl, h1, h2⟩ := h.toTup
    exact ⟨a, vs, rfl, same_t g h1, h2⟩
  · exact h1.elim
theorem Vw.obj {c : Nat} {ns : List Str} {ds : List D} (g : Same F H) (h : Vw K cl F H v (.obj c ns ds)) : ∃ a dx vs, v = .ref a ∧ H a = some (.ins (cl c) dx (ns.zip vs)) ∧ ns.length = vs.length ∧ Reps K cl F vs ds := by
  rcases h with h | ⟨a, rfl, dx, vs, h1, h2, h3⟩
  · obtain ⟨a, dx, vs, rfl, h1, h2, h3⟩ := h.toObj
    exact ⟨a, dx, vs, rfl, g _ _ h1, h2, h3⟩
  · exact ⟨a, dx, vs, rfl, h1, h2, h3⟩
/-! ### what comes out -/
theorem Post.val {Q : VK} {Qd : DV} (p : Post K cl F Q Qd) (g : Good K cl F H M) (r : Rep K cl F v d) (q : Qd d M) : Q v H := p v H F d M (Same.refl F) g r q
theorem Post.newL {Q : VK} {Qd : DV} {vs : List V} {ds : List D} (p : Post K cl F Q Qd) (g : Good K cl F H M) (r : Reps K cl F vs ds) (q : Qd (.lst ds) M) {a : Addr} (h : H a = none) : Q (.ref a) (upd H a (.lst vs)) :=
  p _ _ (upd F a (.lst vs)) (.lst ds) M (same_new (g.freshF h)) (g.new h) (.lst (SqL.of upd_same) (r.mono (same_new (g.freshF h)))) q
theorem Post.newT {Q : VK} {Qd : DV} {vs : List V} {ds : List D} (p : Post K cl F Q Qd) (g : Good K cl F H M) (r : Reps K cl F vs ds) (q : Qd (.tup ds) M) {a : Addr} (h : H a = none) : Q (.ref a) (upd H a (.tup vs)) :=
  p _ _ (upd F a (.tup vs)) (.tup ds) M (same_new (g.freshF h)) (g.new h) (.tup (SqT1.of upd_same) (r.mono (same_new (g.freshF h)))) q
end

/-! ### operations over data -/
def LOp (K : PySem.W.Frag) (cl : Nat → Addr) (r : R2) (f : D → D → Option D) : Prop :=
  ∀ F H M x y d e z Q Qd, Good K cl F H M → Vw K cl F H x d → Vw K cl F H y e → f d e = some z → Post K cl F Q Qd → Qd z M → r x y H Q
def LUn (K : PySem.W.Frag) (cl : Nat → Addr) (r : V → Hp → VK → Prop) (f : D → Option D) : Prop :=
  ∀ F H M x d z Q Qd, Good K cl F H M → Vw K cl F H x d → f d = some z → Post K cl F Q Qd → Qd z M → r x H Q
/-- a call of a built-in: the arguments' data, then the views -/
def LCall (K : PySem.W.Frag) (cl : Nat → Addr) (r : List V → Hp → VK → Prop) (f : List D → Option D) : Prop :=
  ∀ F H M xs ds z Q Qd, Good K cl F H M → Reps K cl F xs ds → f (ds.map (vw M)) = some z → Post K cl F Q Qd → Qd z M → r xs H Q

@[simp] def dVar (i : Nat) : DTE := fun ρ M Q _ => ∃ d, ρ[i]? = some (some d) ∧ Q d M
@[simp] def dC (d : D) : DTE := fun _ M Q _ => Q d M
@[simp] def dOp (f : D → D → Option D) (τa τb : DTE) : DTE := fun ρ M Q X => τa ρ M (fun d M1 => τb ρ M1 (fun e M2 => ∃ z, f (vw M2 d) (vw M2 e) = some z ∧ Q z M2) X) X
@[simp] def dUn (f : D → Option D) (τa : DTE) : DTE := fun ρ M Q X => τa ρ M (fun d M1 => ∃ z, f (vw M1 d) = some z ∧ Q z M1) X
@[simp] def dTest (τ : DTE) : DTT := fun ρ M Q X => τ ρ M (fun d M1 => ∃ b, d = .bl b ∧ Q b M1) X
@[simp] def dAnd (τ υ : DTT) : DTT := fun ρ M Q X => τ ρ M (fun c M1 => if c = true then υ ρ M1 Q X else Q false M1) X
@[simp] def dOr (τ υ : DTT) : DTT := fun ρ M Q X => τ ρ M (fun c M1 => if c = true then Q true M1 else υ ρ M1 Q X) X
@[simp] def dNot (τ : DTT) : DTT := fun ρ M Q X => τ ρ M (fun c M1 => Q (!c) M1) X
@[simp] def dIfE (τ : DTT) (τa τb : DTE) : DTE := fun ρ M Q X => τ ρ M (fun c M1 => if c = true then τa ρ M1 Q X else τb ρ M1 Q X) X
@[simp] def dNil : DTA := fun _ M Q _ => Q [] M
@[simp] def dCons (τ : DTE) (τr : DTA) : DTA := fun ρ M Q X => τ ρ M (fun d M1 => τr ρ M1 (fun ds M2 => Q (d :: ds) M2) X) X
@[simp] def dTup (τ : DTA) : DTE := fun ρ M Q X => τ ρ M (fun ds M1 => ds.length ≤ sizeLine ∧ Q (.tup ds) M1) X
@[simp] def dLst (τ : DTA) : DTE := fun ρ M Q X => τ ρ M (fun ds M1 => ds.length ≤ sizeLine ∧ Q (.lst ds) M1) X
/-- a list that will be changed -/
def dLstM (τ : DTA) : DTE := fun ρ M Q X => τ ρ M (fun ds M1 => ds.length ≤ sizeLine ∧ ∀ a, M1 a = none → Q (.ref a) (updM M1 a (.lst ds))) X
/-- what was changed is now for good -/
@[simp] def frz (d : D) (M : Mem) (Q : DV) : Prop := match d with
  | .ref a => (match M a with
    | some c => Q c (delM M a)
    | none => Q d M)
  | d => Q d M
@[simp] def dFrz (τ : DTE) : DTE := fun ρ M Q X => τ ρ M (fun d M1 => frz d M1 Q) X
/-- a call of a built-in -/
@[simp] def dCB (f : List D → Option D) (τ : DTA) : DTE := fun ρ M Q X => τ ρ M (fun ds M1 => ∃ z, f (ds.map (vw M1)) = some z ∧ Q z M1) X
@[simp] def dSl (f : D → Option Int → Option Int → Option D) (τ : DTE) (lo hi : Env → Mem → (Option Int → Mem → Prop) → DX → Prop) : DTE := fun ρ M Q X => τ ρ M (fun d M1 => lo ρ M1 (fun l M2 => hi ρ M2 (fun h M3 => ∃ z, f (vw M3 d) l h = some z ∧ Q z M3) X) X) X
abbrev DTO := Env → Mem → (Option Int → Mem → Prop) → DX → Prop
@[simp] def dNoPart : DTO := fun _ M Q _ => Q none M
@[simp] def dPart (τ : DTE) : DTO := fun ρ M Q X => τ ρ M (fun d M1 => ∃ i, d = .int i ∧ Q (some i) M1) X

section
variable {cl : Nat → Addr} {X : Cx} {W : WX} {a b e c : Expr} {es rest : List Expr} {pos : Pos} {τ τa τb τc : DTE} {υ υ' : DTT} {α : DTA}
theorem d_var {x : Str} (i : Nat) (hN : X.N[i]? = some x := by rfl) (hv : Vis X.env.scope x := by first | exact Or.inl rfl | exact Or.inr (Or.inl rfl) | exact Or.inr (Or.inr rfl)) (hd : (x == ("__debug__" : Str)) = false := by decide)
    (hcd : (x == ("__classdict__" : Str)) = false := by decide) : DE cl X W (.Name x pos) (dVar i) :=
  ⟨pe_imp (pe_var hN hv hd hcd) fun σ H Q ⟨F, ρ, M, Qd, Xd, g, s, ⟨d, h1, h2⟩, p, w⟩ => by
    obtain ⟨v, e1, r⟩ := s.get i d h1
    exact ⟨v, e1, p.val g r h2⟩⟩
theorem d_c {v : V} {d : D} (h : PE X e (tC v)) (r : ∀ F, Rep X.K cl F v d) : DE cl X W e (dC d) :=
  ⟨pe_imp h fun σ H Q ⟨F, ρ, M, Qd, Xd, g, s, h2, p, w⟩ => p.val g (r F) h2⟩
theorem d_int {i j} : DE cl X W (.Constant (.int i) j pos) (dC (.int i)) := d_c pe_int fun _ => .int i
theorem d_bl {i j} : DE cl X W (.Constant (.bool i) j pos) (dC (.bl i)) := d_c pe_bl fun _ => .bl i
theorem d_str {i j} : DE cl X W (.Constant (.str i) j pos) (dC (.str i)) := d_c pe_str fun _ => .str i
theorem d_non {j} : DE cl X W (.Constant .none j pos) (dC .non) := d_c pe_non fun _ => .non
theorem d_byt {x j} : DE cl X W (.Constant (.bytes x) j pos) (dC (.byt x.toArray)) := d_c (v := .byt x.toArray) pe_byt fun _ => .byt _
theorem d_op {op : Operator} {r : R2} {f : D → D → Option D} (ho : OpR X (binaryOp op) r) (hf : LOp X.K cl r f) (ha : DE cl X W a τa) (hb : DE cl X W b τb) : DE cl X W (.BinOp a op b pos) (dOp f τa τb) :=
  ⟨pe_imp (pe_op ho ha.pe hb.pe) fun σ H Q ⟨F, ρ, M, Qd, Xd, g, s, t, p, w⟩ =>
    ⟨F, ρ, M, _, Xd, g, s, t, fun v H' F' d M' sm g' r' q => ⟨F', ρ, M', _, Xd, g', s.mono sm, q, fun u H2 F2 e M2 sm2 g2 r2 q2 => by
      obtain ⟨z, e1, e2⟩ := q2
      exact hf F2 H2 M2 v u _ _ z Q Qd g2 (vw_ok g2 (r'.mono sm2)) (vw_ok g2 r2) e1 (p.mono (sm.trans sm2)) e2, w.mono sm⟩, w⟩⟩
theorem d_cmp {op : CmpOp} {r : R2} {f : D → D → Option D} (ho : OpR X (compareOp op) r) (hf : LOp X.K cl r f) (ha : DE cl X W a τa) (hb : DE cl X W b τb) (hm : behindInMarks op b = false) : DE cl X W (.Compare a [op] [b] pos) (dOp f τa τb) :=
  ⟨pe_imp (pe_cmpR ho ha.pe hb.pe hm) fun σ H Q ⟨F, ρ, M, Qd, Xd, g, s, t, p, w⟩ =>
    ⟨F, ρ, M, _, Xd, g, s, t, fun v H' F' d M' sm g' r' q => ⟨F', ρ, M', _, Xd, g', s.mono sm, q, fun u H2 F2 e M2 sm2 g2 r2 q2 => by
      obtain ⟨z, e1, e2⟩ := q2
      exact hf F2 H2 M2 v u _ _ z Q Qd g2 (vw_ok g2 (r'.mono sm2)) (vw_ok g2 r2) e1 (p.mono (sm.trans sm2)) e2, w.mono sm⟩, w⟩⟩
theorem PostT.test {K : PySem.W.Frag} {F : Hp} {Q : Bool → Hp → Prop} {Qd : Bool → Mem → Prop} (p : PostT K cl F Q Qd) : Post K cl F (fun x H' => ∃ k, x = .bl k ∧ Q k H') (fun d M1 => ∃ b, d = .bl b ∧ Qd b M1) := fun v H' F' d M' sm g r ⟨b, e1, q⟩ => by
  subst e1
  exact ⟨b, r.toBl, p b H' F' M' sm g q⟩
theorem d_tcmp {op : CmpOp} {r : R2} {f : D → D → Option D} (ho : OpR X (compareOp op) r) (hf : LOp X.K cl r f) (ha : DE cl X W a τa) (hb : DE cl X W b τb) (hm : behindInMarks op b = false) : DT cl X W (.Compare a [op] [b] pos) (dTest (dOp f τa τb)) :=
  ⟨pt_imp (pt_cmpR ho ha.pe hb.pe hm) fun σ H Q ⟨F, ρ, M, Qd, Xd, g, s, t, p, w⟩ =>
    ⟨F, ρ, M, _, Xd, g, s, t, fun v H' F' d M' sm g' r' q => ⟨F', ρ, M', _, Xd, g', s.mono sm, q, fun u H2 F2 e M2 sm2 g2 r2 q2 => by
      obtain ⟨z, e1, e2⟩ := q2
      exact hf F2 H2 M2 v u _ _ z _ _ g2 (vw_ok g2 (r'.mono sm2)) (vw_ok g2 r2) e1 (PostT.test (p.mono (sm.trans sm2))) e2, w.mono sm⟩, w⟩⟩
/-- a chain of two comparisons -/
@[simp] def dChain (f f' : D → D → Option D) (τa τb τc : DTE) : DTE := fun ρ M Q X => τa ρ M (fun d M1 => τb ρ M1 (fun e M2 => ∃ k, f (vw M2 d) (vw M2 e) = some (.bl k) ∧ if k = true then τc ρ M2 (fun h M3 => ∃ z, f' (vw M3 e) (vw M3 h) = some z ∧ Q z M3) X else Q (.bl false) M2) X) X
theorem d_chain {op op' : CmpOp} {r r' : R2} {f f' : D → D → Option D} (ho : OpR X (compareOp op) r) (ho' : OpR X (compareOp op') r') (hf : LOp X.K cl r f) (hf' : LOp X.K cl r' f') (ha : DE cl X W a τa) (hb : DE cl X W b τb) (hc : DE cl X W c τc)
    (hm : lastMarks [op, op'] [b, c] = false := by with_unfolding_all rfl) : DE cl X W (.Compare a [op, op'] [b, c] pos) (dChain f f' τa τb τc) :=
  ⟨pe_imp (pe_chain ho ho' ha.pe hb.pe hc.pe hm) fun σ H Q ⟨F, ρ, M, Qd, Xd, g, s, t, p, w⟩ =>
    ⟨F, ρ, M, _, Xd, g, s, t, fun v H' F' d M' sm g' r' q => ⟨F', ρ, M', _, Xd, g', s.mono sm, q, fun u H2 F2 e M2 sm2 g2 r2 q2 => by
      obtain ⟨k, e1, e2⟩ := q2
      refine hf F2 H2 M2 v u _ _ (.bl k) _ (fun z M3 => z = .bl k ∧ M3 = M2) g2 (vw_ok g2 (r'.mono sm2)) (vw_ok g2 r2) e1 ?_ ⟨rfl, rfl⟩
      intro z H3 F3 dz M3 sm3 g3 r3 ⟨h3, h4⟩
      subst h3 h4
      refine ⟨k, r3.toBl, ?_⟩
      cases k with
      | true =>
        rw [if_pos rfl] at e2 ⊢
        refine ⟨F3, ρ, M3, _, Xd, g3, s.mono ((sm.trans sm2).trans sm3), e2, fun y H4 F4 h M4 sm4 g4 r4 ⟨z4, h5, h6⟩ => ?_, w.mono ((sm.trans sm2).trans sm3)⟩
        exact hf' F4 H4 M4 u y _ _ z4 Q Qd g4 (vw_ok g4 (r2.mono (sm3.trans sm4))) (vw_ok g4 r4) h5 (p.mono (((sm.trans sm2).trans sm3).trans sm4)) h6
      | false =>
        rw [if_neg Bool.false_ne_true] at e2 ⊢
        exact p _ _ _ _ _ ((sm.trans sm2).trans sm3) g3 (.bl false) e2, w.mono sm⟩, w⟩⟩
theorem d_tchain {op op' : CmpOp} {r r' : R2} {f f' : D → D → Option D} (ho : OpR X (compareOp op) r) (ho' : OpR X (compareOp op') r') (hf : LOp X.K cl r f) (hf' : LOp X.K cl r' f') (ha : DE cl X W a τa) (hb : DE cl X W b τb) (hc : DE cl X W c τc)
    (hm : lastMarks [op, op'] [b, c] = false := by with_unfolding_all rfl) : DT cl X W (.Compare a [op, op'] [b, c] pos) (dTest (dChain f f' τa τb τc)) :=
  ⟨pt_imp (pt_chain ho ho' ha.pe hb.pe hc.pe hm) fun σ H Q ⟨F, ρ, M, Qd, Xd, g, s, t, p, w⟩ =>
    ⟨F, ρ, M, _, Xd, g, s, t, fun v H' F' d M' sm g' r' q => ⟨F', ρ, M', _, Xd, g', s.mono sm, q, fun u H2 F2 e M2 sm2 g2 r2 q2 => by
      obtain ⟨k, e1, e2⟩ := q2
      refine hf F2 H2 M2 v u _ _ (.bl k) _ (fun z M3 => z = .bl k ∧ M3 = M2) g2 (vw_ok g2 (r'.mono sm2)) (vw_ok g2 r2) e1 ?_ ⟨rfl, rfl⟩
      intro z H3 F3 dz M3 sm3 g3 r3 ⟨h3, h4⟩
      subst h3 h4
      refine ⟨k, r3.toBl, ?_⟩
      cases k with
      | true =>
        rw [if_pos rfl] at e2 ⊢
        refine ⟨F3, ρ, M3, _, Xd, g3, s.mono ((sm.trans sm2).trans sm3), e2, fun y H4 F4 h M4 sm4 g4 r4 ⟨z4, h5, h6⟩ => ?_, w.mono ((sm.trans sm2).trans sm3)⟩
        exact hf' F4 H4 M4 u y _ _ z4 _ _ g4 (vw_ok g4 (r2.mono (sm3.trans sm4))) (vw_ok g4 r4) h5 (PostT.test (p.mono (((sm.trans sm2).trans sm3).trans sm4))) h6
      | false =>
        rw [if_neg Bool.false_ne_true] at e2 ⊢
        exact PostT.test p _ _ _ _ _ ((sm.trans sm2).trans sm3) g3 (.bl false) e2, w.mono sm⟩, w⟩⟩
theorem d_un {op : UnaryOp} {r : V → Hp → VK → Prop} {f : D → Option D} (ho : UnR X (unaryOp op) r) (hf : LUn X.K cl r f) (ha : DE cl X W a τa) : DE cl X W (.UnaryOp op a pos) (dUn f τa) :=
  ⟨pe_imp (pe_un ho ha.pe) fun σ H Q ⟨F, ρ, M, Qd, Xd, g, s, t, p, w⟩ =>
    ⟨F, ρ, M, _, Xd, g, s, t, fun v H' F' d M' sm g' r' ⟨z, e1, e2⟩ => hf F' H' M' v _ z Q Qd g' (vw_ok g' r') e1 (p.mono sm) e2, w⟩⟩
theorem d_val (h : DE cl X W e τ) (he : ∀ whole, isTrue e X.env whole = (do let v ← whole; standAt e.pos; holding [v] (truthy v)) := by intro _; rfl) : DT cl X W e (dTest τ) :=
  ⟨pt_imp (pt_val h.pe he) fun σ H Q ⟨F, ρ, M, Qd, Xd, g, s, t, p, w⟩ => ⟨F, ρ, M, _, Xd, g, s, t, p.test, w⟩⟩
theorem dw_and1 (h : DT cl X W a υ) : DW cl X W (.BoolOp .And [a] pos) υ := ⟨pw_and1 h.pt⟩
theorem dw_or1 (h : DT cl X W a υ) : DW cl X W (.BoolOp .Or [a] pos) υ := ⟨pw_or1 h.pt⟩
theorem dw_and (h : DT cl X W a υ) (h' : DW cl X W (.BoolOp .And (b :: rest) pos) υ') : DW cl X W (.BoolOp .And (a :: b :: rest) pos) (dAnd υ υ') :=
  ⟨pw_imp (pw_and h.pt h'.pw) fun σ H Q ⟨F, ρ, M, Qd, Xd, g, s, t, p, w⟩ => ⟨F, ρ, M, _, Xd, g, s, t, fun k H' F' M' sm g' q => by
    cases k with
    | true => rw [if_pos rfl] at q ⊢; exact ⟨F', ρ, M', Qd, Xd, g', s.mono sm, q, p.mono sm, w.mono sm⟩
    | false => rw [if_neg Bool.false_ne_true] at q ⊢; exact p _ _ _ _ sm g' q, w⟩⟩
theorem dw_or (h : DT cl X W a υ) (h' : DW cl X W (.BoolOp .Or (b :: rest) pos) υ') : DW cl X W (.BoolOp .Or (a :: b :: rest) pos) (dOr υ υ') :=
  ⟨pw_imp (pw_or h.pt h'.pw) fun σ H Q ⟨F, ρ, M, Qd, Xd, g, s, t, p, w⟩ => ⟨F, ρ, M, _, Xd, g, s, t, fun k H' F' M' sm g' q => by
    cases k with
    | true => rw [if_pos rfl] at q ⊢; exact p _ _ _ _ sm g' q
    | false => rw [if_neg Bool.false_ne_true] at q ⊢; exact ⟨F', ρ, M', Qd, Xd, g', s.mono sm, q, p.mono sm, w.mono sm⟩, w⟩⟩
theorem DW.dt (h : DW cl X W e υ) : DT cl X W e υ := ⟨h.pw.pt⟩
theorem d_tnot (h : DT cl X W a υ) : DT cl X W (.UnaryOp .Not a pos) (dNot υ) :=
  ⟨pt_imp (pt_not h.pt) fun σ H Q ⟨F, ρ, M, Qd, Xd, g, s, t, p, w⟩ => ⟨F, ρ, M, _, Xd, g, s, t, fun k H' F' M' sm g' q => p _ _ _ _ sm g' q, w⟩⟩
theorem d_ifE (h : DT cl X W c υ) (ha : DE cl X W a τa) (hb : DE cl X W b τb) : DE cl X W (.IfExp c a b pos) (dIfE υ τa τb) :=
  ⟨pe_imp (pe_ifExp h.pt ha.pe hb.pe) fun σ H Q ⟨F, ρ, M, Qd, Xd, g, s, t, p, w⟩ => ⟨F, ρ, M, _, Xd, g, s, t, fun k H' F' M' sm g' q => by
    cases k with
    | true => rw [if_pos rfl] at q ⊢; exact ⟨F', ρ, M', Qd, Xd, g', s.mono sm, q, p.mono sm, w.mono sm⟩
    | false => rw [if_neg Bool.false_ne_true] at q ⊢; exact ⟨F', ρ, M', Qd, Xd, g', s.mono sm, q, p.mono sm, w.mono sm⟩, w⟩⟩
/-- and, or, not as values of truth -/
@[simp] def dAndV (τa τb : DTE) : DTE := fun ρ M Q X => τa ρ M (fun d M1 => ∃ c, d = .bl c ∧ if c = true then τb ρ M1 Q X else Q (.bl false) M1) X
@[simp] def dOrV (τa τb : DTE) : DTE := fun ρ M Q X => τa ρ M (fun d M1 => ∃ c, d = .bl c ∧ if c = true then Q (.bl true) M1 else τb ρ M1 Q X) X
@[simp] def dNotV (τa : DTE) : DTE := fun ρ M Q X => τa ρ M (fun d M1 => ∃ c, d = .bl c ∧ Q (.bl (!c)) M1) X
theorem d_one {op} (h : DE cl X W a τ) : DE cl X W (.BoolOp op [a] pos) τ := ⟨pe_one h.pe⟩
theorem d_andV (ha : DE cl X W a τa) (hb : DE cl X W (.BoolOp .And (b :: rest) pos) τb) : DE cl X W (.BoolOp .And (a :: b :: rest) pos) (dAndV τa τb) :=
  ⟨pe_imp (pe_and ha.pe hb.pe) fun σ H Q ⟨F, ρ, M, Qd, Xd, g, s, t, p, w⟩ => ⟨F, ρ, M, _, Xd, g, s, t, fun v H' F' d M' sm g' r ⟨k, e1, q⟩ => by
    subst e1
    refine ⟨k, r.toBl, ?_⟩
    cases k with
    | true => rw [if_pos rfl] at q ⊢; exact ⟨F', ρ, M', Qd, Xd, g', s.mono sm, q, p.mono sm, w.mono sm⟩
    | false => rw [if_neg Bool.false_ne_true] at q ⊢; exact p _ _ _ _ _ sm g' (.bl false) q, w⟩⟩
theorem d_orV (ha : DE cl X W a τa) (hb : DE cl X W (.BoolOp .Or (b :: rest) pos) τb) : DE cl X W (.BoolOp .Or (a :: b :: rest) pos) (dOrV τa τb) :=
  ⟨pe_imp (pe_or ha.pe hb.pe) fun σ H Q ⟨F, ρ, M, Qd, Xd, g, s, t, p, w⟩ => ⟨F, ρ, M, _, Xd, g, s, t, fun v H' F' d M' sm g' r ⟨k, e1, q⟩ => by
    subst e1
    refine ⟨k, r.toBl, ?_⟩
    cases k with
    | true => rw [if_pos rfl] at q ⊢; exact p _ _ _ _ _ sm g' (.bl true) q
    | false => rw [if_neg Bool.false_ne_true] at q ⊢; exact ⟨F', ρ, M', Qd, Xd, g', s.mono sm, q, p.mono sm, w.mono sm⟩, w⟩⟩
theorem d_notV (ha : DE cl X W a τa) : DE cl X W (.UnaryOp .Not a pos) (dNotV τa) :=
  ⟨pe_imp (pe_not ha.pe) fun σ H Q ⟨F, ρ, M, Qd, Xd, g, s, t, p, w⟩ => ⟨F, ρ, M, _, Xd, g, s, t, fun v H' F' d M' sm g' r ⟨k, e1, q⟩ => by
    subst e1
    exact ⟨k, r.toBl, p _ _ _ _ _ sm g' (.bl _) q⟩, w⟩⟩
/-! arguments, displays -/
theorem da_nil : DA cl X W [] dNil := ⟨pa_imp pa_nil fun σ H Q ⟨F, ρ, M, Qd, Xd, g, s, t, p, w⟩ => p [] H F [] M (Same.refl F) g .nil t⟩
theorem da_cons (ha : DE cl X W e τ) (hr : DA cl X W es α) (hs : starEach (e :: es) X.env = (false, eval e X.env) :: starEach es X.env := by rfl) : DA cl X W (e :: es) (dCons τ α) :=
  ⟨pa_imp (pa_cons ha.pe hr.pa hs) fun σ H Q ⟨F, ρ, M, Qd, Xd, g, s, t, p, w⟩ => ⟨F, ρ, M, _, Xd, g, s, t, fun v H' F' d M' sm g' r q => ⟨F', ρ, M', _, Xd, g', s.mono sm, q, fun vs H2 F2 ds M2 sm2 g2 r2 q2 => p _ _ _ _ _ (sm.trans sm2) g2 (.cons (r.mono sm2) r2) q2, w.mono sm⟩, w⟩⟩
theorem d_tup {x1} (h : DA cl X W es α) : DE cl X W (.Tuple es x1 pos) (dTup α) :=
  ⟨pe_imp (pe_tup h.pa) fun σ H Q ⟨F, ρ, M, Qd, Xd, g, s, t, p, w⟩ => ⟨F, ρ, M, _, Xd, g, s, t, fun vs H' F' ds M' sm g' r ⟨hl, q⟩ => ⟨by rw [r.length]; exact hl, fun a ha => (p.mono sm).newT g' r q ha⟩, w⟩⟩
theorem d_lst (h : DA cl X W es α) : DE cl X W (.List es pos) (dLst α) :=
  ⟨pe_imp (pe_lst h.pa) fun σ H Q ⟨F, ρ, M, Qd, Xd, g, s, t, p, w⟩ => ⟨F, ρ, M, _, Xd, g, s, t, fun vs H' F' ds M' sm g' r ⟨hl, q⟩ => ⟨by rw [r.length]; exact hl, fun a ha => (p.mono sm).newL g' r q ha⟩, w⟩⟩
theorem d_lstM (h : DA cl X W es α) : DE cl X W (.List es pos) (dLstM α) :=
  ⟨pe_imp (pe_lst h.pa) fun σ H Q ⟨F, ρ, M, Qd, Xd, g, s, t, p, w⟩ => ⟨F, ρ, M, _, Xd, g, s, t, fun vs H' F' ds M' sm g' r ⟨hl, q⟩ => ⟨by rw [r.length]; exact hl, fun a ha =>
    p _ _ F' _ _ sm (g'.newM (d := .lst ds) ha ⟨vs, upd_same, r⟩) (.ref a) (q a (g'.freshM ha))⟩, w⟩⟩
theorem d_frz (h : DE cl X W e τ) : DE cl X W e (dFrz τ) :=
  ⟨pe_imp h.pe fun σ H Q ⟨F, ρ, M, Qd, Xd, g, s, t, p, w⟩ => ⟨F, ρ, M, _, Xd, g, s, t, fun v H' F' d M' sm g' r q => by
    cases d with
    | ref a =>
      obtain rfl := r.toRef
      cases e : M' a with
      | none =>
        have q' : Qd (.ref a) M' := by
          simp only [frz] at q
          rw [e] at q
          exact q
        exact p _ _ _ _ _ sm g' r q'
      | some c =>
        have q' : Qd c (delM M' a) := by
          simp only [frz] at q
          rw [e] at q
          exact q
        obtain ⟨F2, s2, g2, r2⟩ := g'.freeze e
        exact p _ _ _ _ _ (sm.trans s2) g2 r2 q'
    | _ => exact p _ _ _ _ _ sm g' r q, w⟩⟩
/-! built-ins called by name -/
theorem d_callB {x : Str} {id : String} {p : Pos} {r : List V → Hp → VK → Prop} {f : List D → Option D} (hc : CallR X (.builtin id) r) (hf : LCall X.K cl r f) (hg : Gl X x) (hm : X.mg x = none) (hv : bootBuiltins x = some (.builtin id)) (ha : DA cl X W (e :: es) α) (hn : x ≠ "__name__" := by decide) (hdb : (x == ("__debug__" : Str)) = false := by decide)
    (he : starEach (e :: es) X.env = (false, eval e X.env) :: starEach es X.env := by rfl) (hpl : (backTo pos (starEach es X.env)).any (·.1) = false := by rfl) : DE cl X W (.Call (.Name x p) (e :: es) [] pos) (dCB f α) :=
  ⟨pe_imp (pe_callB hc hg hm hv ha.pa hn hdb he hpl) fun σ H Q ⟨F, ρ, M, Qd, Xd, g, s, t, p, w⟩ => ⟨F, ρ, M, _, Xd, g, s, t, fun vs H' F' ds M' sm g' r ⟨z, e1, e2⟩ => hf F' H' M' vs ds z Q Qd g' r e1 (p.mono sm) e2, w⟩⟩
theorem d_callTy {x : Str} {T : String} {p : Pos} {r : List V → Hp → VK → Prop} {f : List D → Option D} (hc : CallR X (.type T) r) (hf : LCall X.K cl r f) (hg : Gl X x) (hm : X.mg x = none) (hv : bootBuiltins x = some (.type T)) (ha : DA cl X W (e :: es) α) (hn : x ≠ "__name__" := by decide) (hdb : (x == ("__debug__" : Str)) = false := by decide)
    (he : starEach (e :: es) X.env = (false, eval e X.env) :: starEach es X.env := by rfl) (hpl : (backTo pos (starEach es X.env)).any (·.1) = false := by rfl) : DE cl X W (.Call (.Name x p) (e :: es) [] pos) (dCB f α) :=
  ⟨pe_imp (pe_callTy hc hg hm hv ha.pa hn hdb he hpl) fun σ H Q ⟨F, ρ, M, Qd, Xd, g, s, t, p, w⟩ => ⟨F, ρ, M, _, Xd, g, s, t, fun vs H' F' ds M' sm g' r ⟨z, e1, e2⟩ => hf F' H' M' vs ds z Q Qd g' r e1 (p.mono sm) e2, w⟩⟩
end
end DL

set_option Elab.async false
set_option linter.all false
set_option maxRecDepth 100000
set_option maxHeartbeats 2000000
namespace DL
open PySem L2

/-! ### operators -/
def addD : D → D → Option D
  | .int i, .int j => some (.int (i + j))
  | .str x, .str y => if x.length + y.length ≤ sizeLine then some (.str (x ++ y)) else none
  | .lst xs, .lst ys => if xs.length + ys.length ≤ sizeLine then some (.lst (xs ++ ys)) else none
  | .tup xs, .tup ys => if xs.length + ys.length ≤ sizeLine then some (.tup (xs ++ ys)) else none
  | .byt x, .byt y => if x.size + y.size ≤ 16777216 then some (.byt (x ++ y)) else none
  | _, _ => none
@[simp] def subD : D → D → Option D
  | .int i, .int j => some (.int (i - j))
  | _, _ => none
def mulD : D → D → Option D
  | .int i, .int j => if (-(2 ^ 64) < i ∧ i < 2 ^ 64) ∨ (-(2 ^ 64) < j ∧ j < 2 ^ 64) then some (.int (i * j)) else none
  | _, _ => none
def fdivD : D → D → Option D
  | .int i, .int j => if 0 < j ∧ j < 2 ^ 200 then some (.int (i / j)) else none
  | _, _ => none
def modD : D → D → Option D
  | .int i, .int j => if 0 < j then some (.int (i % j)) else none
  | _, _ => none
def powD : D → D → Option D
  | .int i, .int j => if 0 ≤ j ∧ j ≤ 1000000 ∧ i.natAbs < 2 ^ 64 then some (.int (i ^ j.toNat)) else none
  | _, _ => none
@[simp] def cmpD (p : Int → Int → Bool) : D → D → Option D
  | .int i, .int j => some (.bl (p i j))
  | _, _ => none
@[simp] def negD : D → Option D
  | .int i => some (.int (-i))
  | _ => none
@[simp] def isNonD : D → D → Option D
  | .non, .non => some (.bl true)
  | _, .non => some (.bl false)
  | _, _ => none
@[simp] def notNonD : D → D → Option D
  | .non, .non => some (.bl false)
  | _, .non => some (.bl true)
  | _, _ => none
section
variable {K : PySem.W.Frag} {cl : Nat → Addr} {X : Cx}
/-- list + list, each read as it stands -/
def rCatS (K : PySem.W.Frag) : R2 := fun x y H Q => ∃ l b xs zs, x = .ref l ∧ y = .ref b ∧ SqL K H l xs ∧ SqL K H b zs ∧ xs.length + zs.length ≤ sizeLine ∧ ∀ p, H p = none → Q (.ref p) (upd H p (.lst (xs ++ zs)))
theorem op_catS : OpR X (binaryOp .Add) (rCatS X.K) := by
  intro pins s σ H x y v u Q I rx ry h
  obtain ⟨l, b, xs, zs, rfl, rfl, hH, hB, hz, q⟩ := h
  cases rx
  cases ry
  obtain ⟨its, r, ⟨o, n, ho, hc, hd, hs⟩, z⟩ := I.list hH
  obtain ⟨its2, r2, ⟨o2, n2, ho2, hc2, hd2, hs2⟩, z2⟩ := I.list hB
  obtain ⟨c1, d1, t1, sl1⟩ := o
  obtain ⟨c2, d2, t2, sl2⟩ := o2
  simp only at hc hd hs hc2 hd2 hs2
  subst hc hd hs hc2 hd2 hs2
  have l1 := r.length
  have l2 := r2.length
  have ea : its.toArray ++ its2.toArray = (its ++ its2).toArray := by simp
  refine concat_meets ⟨_, ho, rfl⟩ ⟨_, ho2, rfl⟩ noFill_list_add seq_list_add PySem.F.slot_list_add PySem.F.entry_list_add (PySem.F.args_list_add_2 _ _) (PyProof.Rows.list_addW l b its.toArray its2.toArray n n2 none none sl1 sl2 (by simp; omega)) ⟨ho, ho2, ?_⟩
  rw [ea]
  exact ⟨.ref _, _, I.lnew (t' := s.toks) (r.append r2) (by rw [List.length_append]; omega), rfl, q _ I.fresh⟩
def rAddAll (K : PySem.W.Frag) : R2 := fun x y H Q => rI0 (fun i j => .int (i + j)) x y H Q ∨ (fun x y H Q => ∃ i j, x = .str i ∧ y = .str j ∧ i.length + j.length ≤ sizeLine ∧ Q (.str (i ++ j)) H) x y H Q ∨ rCatS K x y H Q ∨ rCatA K x y H Q ∨ (fun x y H Q => ∃ i j, x = .byt i ∧ y = .byt j ∧ i.size + j.size ≤ 16777216 ∧ Q (.byt (i ++ j)) H) x y H Q
theorem op_addAll : OpR X (binaryOp .Add) (rAddAll X.K) := op_add.or (op_add_str.or (op_catS.or (op_catA.or op_add_byt)))
theorem lop_add : LOp K cl (rAddAll K) addD := by
  intro F H M x y d e z Q Qd g hx hy h p q
  cases d with
  | int i =>
    cases e with
    | int j =>
      cases h
      obtain rfl := hx.int; obtain rfl := hy.int
      exact .inl ⟨i, j, rfl, rfl, p.val g (.int _) q⟩
    | _ => cases h
  | str i =>
    cases e with
    | str j =>
      simp only [addD] at h
      split at h
      · cases h
        obtain rfl := hx.str; obtain rfl := hy.str
        exact .inr (.inl ⟨i, j, rfl, rfl, by assumption, p.val g (.str _) q⟩)
      · cases h
    | _ => cases h
  | lst ds =>
    cases e with
    | lst es =>
      simp only [addD] at h
      split at h
      · cases h
        obtain ⟨a, vs, rfl, h1, h2⟩ := hx.lst g.sub
        obtain ⟨b, us, rfl, h3, h4⟩ := hy.lst g.sub
        exact .inr (.inr (.inl ⟨a, b, vs, us, rfl, rfl, h1, h3, by rw [h2.length, h4.length]; assumption, fun c hc => p.newL g (h2.append h4) q hc⟩))
      · cases h
    | _ => cases h
  | tup ds =>
    cases e with
    | tup es =>
      simp only [addD] at h
      split at h
      · cases h
        rcases hx with hx | ⟨_, _, hx⟩
        · rcases hy with hy | ⟨_, _, hy⟩
          · obtain ⟨a, vs, rfl, h1, h2⟩ := hx.toTup
            obtain ⟨b, us, rfl, h3, h4⟩ := hy.toTup
            refine .inr (.inr (.inr (.inl ⟨a, b, vs, us, rfl, rfl, same_t g.sub h1, same_t g.sub h3, by rw [h2.length, h4.length]; assumption, fun e => ?_, fun _ e => ?_, fun _ _ c hc => p.newT g (h2.append h4) q hc⟩)))
            · subst e
              cases h2
              exact p.val g hy q
            · subst e
              cases h4
              rw [List.append_nil] at q
              exact p.val g hx q
          · exact hy.elim
        · exact hx.elim
      · cases h
    | _ => cases h
  | byt i =>
    cases e with
    | byt j =>
      simp only [addD] at h
      split at h
      · cases h
        obtain rfl := hx.byt; obtain rfl := hy.byt
        exact .inr (.inr (.inr (.inr ⟨i, j, rfl, rfl, by assumption, p.val g (.byt _) q⟩)))
      · cases h
    | _ => cases h
  | _ => cases h
theorem lop_sub : LOp K cl (rI0 fun i j => .int (i - j)) subD := by
  intro F H M x y d e z Q Qd g hx hy h p q
  cases d <;> cases e <;> first | (cases h; obtain rfl := hx.int; obtain rfl := hy.int; exact ⟨_, _, rfl, rfl, p.val g (.int _) q⟩) | cases h
theorem lop_mul : LOp K cl (rI CMul fun i j => .int (i * j)) mulD := by
  intro F H M x y d e z Q Qd g hx hy h p q
  cases d <;> cases e <;> first | (simp only [mulD] at h; split at h <;> first | (cases h; obtain rfl := hx.int; obtain rfl := hy.int; exact ⟨_, _, rfl, rfl, (by assumption), p.val g (.int _) q⟩) | cases h) | cases h
theorem cdivW_of {i j : Int} (h : 0 < j ∧ j < 2 ^ 200) : CDivW i j := by
  refine wide_div (b := 200) h.1 ?_ (by decide) (by decide)
  have h2 : ((j.natAbs : Nat) : Int) < ((2 ^ 200 : Nat) : Int) := by
    rw [Int.natAbs_of_nonneg (Int.le_of_lt h.1)]
    exact_mod_cast h.2
  exact Int.ofNat_lt.mp h2
theorem lop_fdiv : LOp K cl (rI CDivW fun i j => .int (i / j)) fdivD := by
  intro F H M x y d e z Q Qd g hx hy h p q
  cases d with
  | int i =>
    cases e with
    | int j =>
      simp only [fdivD] at h
      split at h
      · cases h
        obtain rfl := hx.int; obtain rfl := hy.int
        exact ⟨i, j, rfl, rfl, cdivW_of (by assumption), p.val g (.int _) q⟩
      · cases h
    | _ => cases h
  | _ => cases h
theorem lop_mod : LOp K cl (rI (fun _ j => 0 < j) fun i j => .int (i % j)) modD := by
  intro F H M x y d e z Q Qd g hx hy h p q
  cases d with
  | int i =>
    cases e with
    | int j =>
      simp only [modD] at h
      split at h
      · cases h
        obtain rfl := hx.int; obtain rfl := hy.int
        exact ⟨i, j, rfl, rfl, by assumption, p.val g (.int _) q⟩
      · cases h
    | _ => cases h
  | _ => cases h
theorem lop_pow : LOp K cl (rI CPow fun i j => .int (i ^ j.toNat)) powD := by
  intro F H M x y d e z Q Qd g hx hy h p q
  cases d with
  | int i =>
    cases e with
    | int j =>
      simp only [powD] at h
      split at h
      · cases h
        obtain rfl := hx.int; obtain rfl := hy.int
        exact ⟨i, j, rfl, rfl, by assumption, p.val g (.int _) q⟩
      · cases h
    | _ => cases h
  | _ => cases h
theorem lop_cmp (k : Int → Int → Bool) : LOp K cl (rI0 fun i j => .bl (k i j)) (cmpD k) := by
  intro F H M x y d e z Q Qd g hx hy h p q
  cases d with
  | int i =>
    cases e with
    | int j =>
      cases h
      obtain rfl := hx.int; obtain rfl := hy.int
      exact ⟨i, j, rfl, rfl, p.val g (.bl _) q⟩
    | _ => cases h
  | _ => cases h
abbrev ltD := cmpD fun i j => decide (i < j)
abbrev leD := cmpD fun i j => decide (i ≤ j)
abbrev gtD := cmpD fun i j => decide (j < i)
abbrev geD := cmpD fun i j => decide (j ≤ i)
theorem lun_neg : LUn K cl (rU fun i => .int (-i)) negD := by
  intro F H M x d z Q Qd g hx h p q
  cases d with
  | int i =>
    cases h
    obtain rfl := hx.int
    exact ⟨i, rfl, p.val g (.int _) q⟩
  | _ => cases h
theorem Vw.ne_non {F H : Hp} {v : V} {d : D} (h : Vw K cl F H v d) (hd : d ≠ .non) : v ≠ .non := by
  intro e
  subst e
  rcases h with h | ⟨a, e, _⟩
  · cases h; exact hd rfl
  · cases e
theorem lop_isN : LOp K cl (fun x y H Q => y = .non ∧ Q (.bl (decide (x = .non))) H) isNonD := by
  intro F H M x y d e z Q Qd g hx hy h p q
  cases e with
  | non =>
    refine ⟨hy.non, ?_⟩
    by_cases hd : d = .non
    · subst hd
      cases h
      obtain rfl := hx.non
      rw [decide_eq_true rfl]
      exact p.val g (.bl _) q
    · have hz : z = .bl false := by cases d <;> first | exact absurd rfl hd | (cases h; rfl)
      subst hz
      rw [decide_eq_false (hx.ne_non hd)]
      exact p.val g (.bl _) q
  | _ => cases d <;> cases h
theorem lop_notN : LOp K cl (fun x y H Q => y = .non ∧ Q (.bl (!decide (x = .non))) H) notNonD := by
  intro F H M x y d e z Q Qd g hx hy h p q
  cases e with
  | non =>
    refine ⟨hy.non, ?_⟩
    by_cases hd : d = .non
    · subst hd
      cases h
      obtain rfl := hx.non
      rw [decide_eq_true rfl]
      exact p.val g (.bl _) q
    · have hz : z = .bl true := by cases d <;> first | exact absurd rfl hd | (cases h; rfl)
      subst hz
      rw [decide_eq_false (hx.ne_non hd)]
      exact p.val g (.bl _) q
  | _ => cases d <;> cases h
/-! ### items and slices -/
def ixD : D → D → Option D
  | .lst xs, .int i => atI xs i
  | .tup xs, .int i => atI xs i
  | .str z, .int i => if z.length ≤ sizeLine then (atI z.cps.toList i).map fun c => .str ⟨#[c]⟩ else none
  | _, _ => none
theorem reps_atI {F : Hp} {vs : List V} {ds : List D} {i : Int} {d : D} (r : Reps K cl F vs ds) (h : atI ds i = some d) : ∃ v, atI vs i = some v ∧ Rep K cl F v d := by
  unfold atI at h ⊢
  rw [r.length]
  cases e : ixN ds.length i with
  | none => rw [e] at h; cases h
  | some j =>
    rw [e] at h
    exact r.get h
theorem lix : LOp K cl (rIx K) ixD := by
  intro F H M x y d e z Q Qd g hx hy h p q
  cases d with
  | lst ds =>
    cases e with
    | int i =>
      obtain rfl := hy.int
      obtain ⟨a, vs, rfl, h1, h2⟩ := hx.lst g.sub
      obtain ⟨v, h3, h4⟩ := reps_atI h2 h
      exact .inl ⟨a, vs, i, v, rfl, rfl, h1, h3, p.val g h4 q⟩
    | _ => cases h
  | tup ds =>
    cases e with
    | int i =>
      obtain rfl := hy.int
      obtain ⟨a, vs, rfl, h1, h2⟩ := hx.tup g.sub
      obtain ⟨v, h3, h4⟩ := reps_atI h2 h
      exact .inr (.inl ⟨a, vs, i, v, rfl, rfl, h1, h3, p.val g h4 q⟩)
    | _ => cases h
  | str w =>
    cases e with
    | int i =>
      obtain rfl := hy.int
      obtain rfl := hx.str
      simp only [ixD] at h
      split at h
      · rename_i hl
        cases e1 : atI w.cps.toList i with
        | none => rw [e1] at h; cases h
        | some c =>
          rw [e1] at h
          cases h
          exact .inr (.inr ⟨w, i, c, rfl, rfl, hl, e1, p.val g (.str _) q⟩)
      · cases h
    | _ => cases h
  | _ => cases h
variable {W : WX} {a b e : Expr} {pos : Pos} {τ τa τb : DTE}
theorem d_ix (ha : DE cl X W a τa) (hb : DE cl X W b τb) (hs : PlainIx b := by exact fun _ _ => rfl) : DE cl X W (.Subscript a b pos) (dOp ixD τa τb) :=
  ⟨pe_imp (pe_ix ix_seq ha.pe hb.pe hs) fun σ H Q ⟨F, ρ, M, Qd, Xd, g, s, t, p, w⟩ =>
    ⟨F, ρ, M, _, Xd, g, s, t, fun v H' F' d M' sm g' r' q => ⟨F', ρ, M', _, Xd, g', s.mono sm, q, fun u H2 F2 e M2 sm2 g2 r2 q2 => by
      obtain ⟨z, e1, e2⟩ := q2
      exact lix F2 H2 M2 v u _ _ z Q Qd g2 (vw_ok g2 (r'.mono sm2)) (vw_ok g2 r2) e1 (p.mono (sm.trans sm2)) e2, w.mono sm⟩, w⟩⟩
structure DO (cl : Nat → Addr) (X : Cx) (W : WX) (e : Option Expr) (τ : DTO) : Prop where
  po : PO X e (fun σ H Q => ∃ F ρ M Qd Xd, Good X.K cl F H M ∧ Slots X.K cl F σ ρ ∧ τ ρ M Qd Xd ∧ (∀ o H' F' M', Same F F' → Good X.K cl F' H' M' → Qd o M' → Q o H') ∧ WOk X.K cl W F Xd)
theorem do_none : DO cl X W none dNoPart := ⟨⟨fun pins s σ H Q I ⟨F, ρ, M, Qd, Xd, g, sl, t, p, w⟩ => po_none.run pins s σ H Q I (p none H F M (Same.refl F) g t)⟩⟩
theorem do_some (h : DE cl X W e τ) : DO cl X W (some e) (dPart τ) := ⟨⟨fun pins s σ H Q I ⟨F, ρ, M, Qd, Xd, g, sl, t, p, w⟩ => (po_some h.pe).run pins s σ H Q I
  ⟨F, ρ, M, _, Xd, g, sl, t, fun v H' F' d M' sm g' r ⟨i, e1, q⟩ => by subst e1; exact ⟨i, r.toInt, p _ _ _ _ sm g' q⟩, w⟩⟩⟩
def cutD (xs : List D) (lo hi : Option Int) : List D := (xs.drop (HT.sIx xs.length 0 lo)).take (HT.sIx xs.length xs.length hi - HT.sIx xs.length 0 lo)
def slD : D → Option Int → Option Int → Option D
  | .lst xs, lo, hi => some (.lst (cutD xs lo hi))
  | .tup xs, lo, hi => some (.tup (cutD xs lo hi))
  | .str z, lo, hi => if z.length ≤ sizeLine then some (.str (cutS z lo hi)) else none
  | _, _, _ => none
theorem reps_cut {F : Hp} {vs : List V} {ds : List D} (r : Reps K cl F vs ds) (lo hi : Option Int) : Reps K cl F (cutV vs lo hi) (cutD ds lo hi) := by
  unfold cutV cutD
  rw [r.length]
  exact (r.drop _).take _
theorem cutD_whole {xs : List D} {lo hi : Option Int} (h : HT.sIx xs.length 0 lo = 0 ∧ HT.sIx xs.length xs.length hi = xs.length) : cutD xs lo hi = xs := by
  unfold cutD
  rw [h.1, h.2]
  simp
theorem d_slice {lo hi : Option Expr} {τl τh : DTO} {p2 : Pos} (he : DE cl X W e τ) (hl : DO cl X W lo τl) (hu : DO cl X W hi τh) : DE cl X W (.Subscript e (.Slice lo hi none p2) pos) (dSl slD τ τl τh) :=
  ⟨pe_imp (pe_slice (sl_list.or (sl_tupA.or sl_str)) he.pe hl.po hu.po) fun σ H Q ⟨F, ρ, M, Qd, Xd, g, s, t, p, w⟩ =>
    ⟨F, ρ, M, _, Xd, g, s, t, fun v H1 F1 d M1 sm1 g1 r1 q1 => ⟨F1, ρ, M1, _, Xd, g1, s.mono sm1, q1, fun l H2 F2 M2 sm2 g2 q2 => ⟨F2, ρ, M2, _, Xd, g2, s.mono (sm1.trans sm2), q2, fun h H3 F3 M3 sm3 g3 q3 => (by
      obtain ⟨z, e1, e2⟩ := q3
      have hv := vw_ok g3 (r1.mono (sm2.trans sm3))
      have p' := p.mono ((sm1.trans sm2).trans sm3)
      cases hd : vw M3 d with
      | lst ds =>
        rw [hd] at hv e1
        cases e1
        obtain ⟨a, vs, rfl, h1, h2⟩ := hv.lst g3.sub
        exact .inl ⟨a, vs, rfl, h1, fun c hc => p'.newL g3 (reps_cut h2 l h) e2 hc⟩
      | tup ds =>
        rw [hd] at hv e1
        cases e1
        rcases hv with hv | ⟨_, _, hv⟩
        · obtain ⟨a, vs, rfl, h1, h2⟩ := hv.toTup
          refine .inr (.inl ⟨a, vs, rfl, same_t g3.sub h1, fun hw => ?_, fun _ c hc => p'.newT g3 (reps_cut h2 l h) e2 hc⟩)
          rw [h2.length] at hw
          rw [cutD_whole hw] at e2
          exact p'.val g3 hv e2
        · exact hv.elim
      | str w =>
        rw [hd] at hv e1
        simp only [slD] at e1
        split at e1
        · cases e1
          exact .inr (.inr ⟨w, hv.str, by assumption, p'.val g3 (.str _) e2⟩)
        · cases e1
      | _ =>
        rw [hd] at e1
        cases e1), w.mono (sm1.trans sm2)⟩, w.mono sm1⟩, w⟩⟩
end
end DL

set_option Elab.async false
set_option linter.all false
set_option maxRecDepth 100000
set_option maxHeartbeats 2000000
namespace DL
open PySem L2

/-! ### statements -/
@[simp] def dNext : DTS := fun E ρ M => E.nx ρ M
@[simp] def dSeq (t u : DTS) : DTS := fun E ρ M => t { E with nx := u E } ρ M
@[simp] def dIf (υ : DTT) (t u : DTS) : DTS := fun E ρ M => υ ρ M (fun b M1 => if b = true then t E ρ M1 else u E ρ M1) E.ex
@[simp] def dRet (τ : DTE) : DTS := fun E ρ M => τ ρ M E.rt E.ex
@[simp] def dRetN : DTS := fun E _ M => E.rt .non M
@[simp] def dDrop (τ : DTE) : DTS := fun E ρ M => τ ρ M (fun _ M1 => E.nx ρ M1) E.ex
@[simp] def dBrk : DTS := fun E ρ M => E.bk ρ M
@[simp] def dCnt : DTS := fun E ρ M => E.ct ρ M
@[simp] def dNever : DTS := fun _ _ _ => False
abbrev DTG := D → Env → Mem → (Env → Mem → Prop) → DX → Prop
abbrev DTGs := List D → Env → Mem → (Env → Mem → Prop) → DX → Prop
@[simp] def gN (i : Nat) : DTG := fun d ρ M Q _ => Q (ρ.set i (some d)) M
@[simp] def gsNil : DTGs := fun ds ρ M Q _ => ds = [] ∧ Q ρ M
@[simp] def gsCons (γ : DTG) (γs : DTGs) : DTGs := fun ds ρ M Q X => ∃ d r, ds = d :: r ∧ γ d ρ M (fun ρ1 M1 => γs r ρ1 M1 Q X) X
/-- a tuple or a list taken apart -/
@[simp] def gT (n : Nat) (γs : DTGs) : DTG := fun d ρ M Q X => ∃ ds, (vw M d = .tup ds ∨ vw M d = .lst ds) ∧ ds.length = n ∧ γs ds ρ M Q X
/-- a list's item stored -/
@[simp] def gSubL (τo τi : DTE) : DTG := fun d ρ M Q X => τo ρ M (fun o M1 => τi ρ M1 (fun i M2 => ∃ a xs k j, o = .ref a ∧ M2 a = some (.lst xs) ∧ i = .int k ∧ ixN xs.length k = some j ∧ Q ρ (updM M2 a (.lst (xs.set j d)))) X) X
@[simp] def dAsg (τ : DTE) (γ : DTG) : DTS := fun E ρ M => τ ρ M (fun d M1 => γ d ρ M1 E.nx E.ex) E.ex
@[simp] def dPar (i j : Nat) (α : DTA) : DTS := fun E ρ M => α ρ M (fun ds M1 => ∃ d e, ds = [d, e] ∧ E.nx ((ρ.set i (some d)).set j (some e)) M1) E.ex
@[simp] def dPar3 (i j l : Nat) (α : DTA) : DTS := fun E ρ M => α ρ M (fun ds M1 => ∃ d e f, ds = [d, e, f] ∧ E.nx (((ρ.set i (some d)).set j (some e)).set l (some f)) M1) E.ex
@[simp] def dAug (i : Nat) (f : D → D → Option D) (τ : DTE) : DTS := fun E ρ M => ∃ d, ρ[i]? = some (some d) ∧ τ ρ M (fun e M1 => ∃ z, f d (vw M1 e) = some z ∧ E.nx (ρ.set i (some z)) M1) E.ex
/-- x += e of whole numbers -/
@[simp] def augI : D → D → Option D
  | .int i, .int j => some (.int (i + j))
  | _, _ => none
def dWhile (υ : DTT) (t : DTS) : DTS := fun E ρ M => ∃ Wd : Nat → Env → Mem → Prop, (∃ m, Wd m ρ M) ∧ ∀ m ρ M, Wd m ρ M →
  υ ρ M (fun b M1 => if b = true then ∃ N : Env → Mem → Prop, (∀ ρ' M', N ρ' M' → ∃ m', m' < m ∧ Wd m' ρ' M') ∧ t { E with nx := N, ct := N, bk := E.nx } ρ M1 else E.nx ρ M1) E.ex
def forD (γ : DTG) (t : DTS) : List D → DTS
  | [] => fun E ρ M => E.nx ρ M
  | x :: xs => fun E ρ M => γ x ρ M (fun ρ2 M2 => t { E with nx := forD γ t xs E, ct := forD γ t xs E, bk := E.nx } ρ2 M2) E.ex
abbrev DTI := Env → Mem → (List D → Mem → Prop) → DX → Prop
def dFor (ι : DTI) (γ : DTG) (t : DTS) : DTS := fun E ρ M => ι ρ M (fun xs M1 => forD γ t xs E ρ M1) E.ex
def noX : DX := fun _ _ _ _ _ => False
@[simp] def wipeD (ρ : Env) : List Nat → Env
  | [] => ρ
  | v :: vs => (wipeD ρ vs).set v none
def lcD (γ : DTG) (υ : DTT) (τ : DTE) (vs : List Nat) (a : Addr) : List D → Env → Mem → DV → Prop
  | [] => fun _ M Q => ∃ ds, M a = some (.lst ds) ∧ Q (.lst ds) (delM M a)
  | x :: xs => fun ρ M Q => γ x (wipeD ρ vs) M (fun ρ2 M2 => υ ρ2 M2 (fun b M3 => if b = true then τ ρ2 M3 (fun d M4 => ∃ acc, M4 a = some (.lst acc) ∧ acc.length < sizeLine ∧ lcD γ υ τ vs a xs ρ (updM M4 a (.lst (acc ++ [d]))) Q) noX else lcD γ υ τ vs a xs ρ M3 Q) noX) noX
def dLc (ι : DTI) (γ : DTG) (υ : DTT) (τ : DTE) (vs : List Nat) : DTE := fun ρ M Q X => ι ρ M (fun xs M1 => ∀ a, M1 a = none → lcD γ υ τ vs a xs ρ (updM M1 a (.lst [])) Q) X
@[simp] def dYes : DTT := fun _ M Q _ => Q true M

section
variable {cl : Nat → Addr} {X : Cx} {W : WX} {a b e c : Expr} {es : List Expr} {st : Stmt} {sts sts' : List Stmt} {pos : Pos} {τ τa τb τc : DTE} {υ : DTT} {α : DTA} {t u : DTS}
theorem dss_nil : DSs cl X W [] dNext := ⟨pss_imp pss_nil fun D σ H ⟨F, ρ, M, E, g, s, q, ok⟩ => ok.nx σ H F ρ M (Same.refl F) g s q⟩
theorem dss_cons (h1 : DS cl X W st t) (h2 : DSs cl X W sts u) : DSs cl X W (st :: sts) (dSeq t u) := ⟨pss_imp (pss_cons h1.ps h2.pss) fun D σ H ⟨F, ρ, M, E, g, s, q, ok⟩ =>
  ⟨F, ρ, M, { E with nx := u E }, g, s, q, ⟨fun σ' H' F' ρ' M' sm g' s' q' => ⟨F', ρ', M', E, g', s', q', ok.mono sm⟩, ok.rt, ok.bk, ok.ct, ok.ex⟩⟩⟩
theorem dss_one (h1 : DS cl X W st t) : DSs cl X W [st] t := ⟨pss_one h1.ps⟩
theorem ds_pass : DS cl X W (.Pass pos) dNext := ⟨ps_imp ps_pass fun D σ H ⟨F, ρ, M, E, g, s, q, ok⟩ => ok.nx σ H F ρ M (Same.refl F) g s q⟩
theorem ds_break : DS cl X W (.Break pos) dBrk := ⟨ps_imp ps_break fun D σ H ⟨F, ρ, M, E, g, s, q, ok⟩ => ok.bk σ H F ρ M (Same.refl F) g s q⟩
theorem ds_continue : DS cl X W (.Continue pos) dCnt := ⟨ps_imp ps_continue fun D σ H ⟨F, ρ, M, E, g, s, q, ok⟩ => ok.ct σ H F ρ M (Same.refl F) g s q⟩
theorem ds_never : DS cl X W st dNever := ⟨ps_imp ps_never fun D σ H ⟨_, _, _, _, _, _, q, _⟩ => q⟩
theorem dss_never : DSs cl X W sts dNever := ⟨pss_imp pss_never fun D σ H ⟨_, _, _, _, _, _, q, _⟩ => q⟩
theorem ds_if (h : DT cl X W c υ) (h1 : DSs cl X W sts t) (h2 : DSs cl X W sts' u) : DS cl X W (.If c sts sts' pos) (dIf υ t u) := ⟨ps_imp (ps_if h.pt h1.pss h2.pss) fun D σ H ⟨F, ρ, M, E, g, s, q, ok⟩ =>
  ⟨F, ρ, M, _, E.ex, g, s, q, fun k H' F' M' sm g' q' => by
    cases k with
    | true => rw [if_pos rfl] at q' ⊢; exact ⟨F', ρ, M', E, g', s.mono sm, q', ok.mono sm⟩
    | false => rw [if_neg Bool.false_ne_true] at q' ⊢; exact ⟨F', ρ, M', E, g', s.mono sm, q', ok.mono sm⟩, ok.ex⟩⟩
theorem ds_ret (h : DE cl X W e τ) : DS cl X W (.Return (some e) pos) (dRet τ) := ⟨ps_imp (ps_ret h.pe) fun D σ H ⟨F, ρ, M, E, g, s, q, ok⟩ => ⟨F, ρ, M, _, E.ex, g, s, q, ok.rt, ok.ex⟩⟩
theorem ds_retN : DS cl X W (.Return none pos) dRetN := ⟨ps_imp ps_retN fun D σ H ⟨F, ρ, M, E, g, s, q, ok⟩ => ok.rt.val g .non q⟩
theorem ds_expr (h : DE cl X W e τ) (hs : swapsWith e none pos.line X.env = pure false := by rfl) : DS cl X W (.Expr e pos) (dDrop τ) := ⟨ps_imp (ps_expr h.pe hs) fun D σ H ⟨F, ρ, M, E, g, s, q, ok⟩ =>
  ⟨F, ρ, M, _, E.ex, g, s, q, fun v H' F' d M' sm g' r q' => ok.nx _ _ _ _ _ sm g' (s.mono sm) q', ok.ex⟩⟩
/-! targets -/
structure DG (cl : Nat → Addr) (X : Cx) (W : WX) (tg : Expr) (is : List Nat) (γ : DTG) : Prop where
  pg : PG X tg (fun v σ H Q => ∃ F ρ M d Qd Xd, Good X.K cl F H M ∧ Slots X.K cl F σ ρ ∧ Rep X.K cl F v d ∧ γ d ρ M Qd Xd ∧ (∀ σ' H' F' ρ' M', Same F F' → Good X.K cl F' H' M' → Slots X.K cl F' σ' ρ' → (∀ vs : List Nat, (∀ i ∈ is, i ∈ vs) → wipe σ' vs = wipe σ vs) → Qd ρ' M' → Q σ' H') ∧ WOk X.K cl W F Xd)
structure DGs (cl : Nat → Addr) (X : Cx) (W : WX) (tgs : List Expr) (is : List Nat) (γs : DTGs) : Prop where
  pgs : PGs X tgs (fun vs σ H Q => ∃ F ρ M ds Qd Xd, Good X.K cl F H M ∧ Slots X.K cl F σ ρ ∧ Reps X.K cl F vs ds ∧ γs ds ρ M Qd Xd ∧ (∀ σ' H' F' ρ' M', Same F F' → Good X.K cl F' H' M' → Slots X.K cl F' σ' ρ' → (∀ vs : List Nat, (∀ i ∈ is, i ∈ vs) → wipe σ' vs = wipe σ vs) → Qd ρ' M' → Q σ' H') ∧ WOk X.K cl W F Xd)
theorem pg_imp {tg : Expr} {t t' : TG} (h : PG X tg t) (i : ∀ v σ H Q, t' v σ H Q → t v σ H Q) : PG X tg t' := ⟨fun pins s σ H v u Q I r q => h.run pins s σ H v u Q I r (i v σ H Q q)⟩
theorem pgs_imp {tg : List Expr} {t t' : TGs} (h : PGs X tg t) (i : ∀ v σ H Q, t' v σ H Q → t v σ H Q) : PGs X tg t' := ⟨fun pins s σ H v u Q I r q => h.run pins s σ H v u Q I r (i v σ H Q q)⟩
theorem wipe_set {σ : St} {i : Nat} {x : Option V} : ∀ {vs : List Nat}, i ∈ vs → wipe (σ.set i x) vs = wipe σ vs
  | v :: vs, h => by
    unfold wipe
    by_cases e : i ∈ vs
    · rw [wipe_set e]
    · have e2 : i = v := by
        rcases List.mem_cons.mp h with h | h
        · exact h
        · exact absurd h e
      subst e2
      have : ∀ (vs : List Nat), i ∉ vs → wipe (σ.set i x) vs = (wipe σ vs).set i x := by
        intro vs
        induction vs with
        | nil => intro _; rfl
        | cons w ws ih =>
          intro hn
          have h1 : i ≠ w := fun z => hn (z ▸ List.mem_cons_self)
          have h2 : i ∉ ws := fun z => hn (List.mem_cons_of_mem _ z)
          show (wipe (σ.set i x) ws).set w none = ((wipe σ ws).set w none).set i x
          rw [ih h2, List.set_comm _ _ h1]
      rw [this vs e, List.set_set]
theorem dg_name {x : Str} (i : Nat) (hN : X.N.Nodup) (hi : X.N[i]? = some x := by rfl) (hx : Loc X.env.scope x := by first | exact Or.inl rfl | exact Or.inr rfl) (hf : X.fn x = true ∨ X.env.scope.names.lookup x = some .local := by first | exact .inl rfl | exact .inr rfl) : DG cl X W (.Name x pos) [i] (gN i) :=
  ⟨pg_imp (pg_name hN hi hx hf) fun v σ H Q ⟨F, ρ, M, d, Qd, Xd, g, s, r, q, p, w⟩ => p _ _ F _ M (Same.refl F) g (s.set i r) (fun vs h => wipe_set (h i (List.mem_singleton.mpr rfl))) q⟩
theorem dgs_nil : DGs cl X W [] [] gsNil := ⟨pgs_imp pgs_nil fun v σ H Q ⟨F, ρ, M, d, Qd, Xd, g, s, r, ⟨e1, q⟩, p, w⟩ => by
  subst e1
  exact ⟨r.inv0, p _ _ F _ M (Same.refl F) g s (fun _ _ => rfl) q⟩⟩
theorem dgs_cons {tgs : List Expr} {is js : List Nat} {γ : DTG} {γs : DTGs} (h1 : DG cl X W e is γ) (h2 : DGs cl X W tgs js γs) (hs : (assignEach (e :: tgs) X.env).map (·.2) = assign e X.env :: (assignEach tgs X.env).map (·.2) := by rfl) : DGs cl X W (e :: tgs) (is ++ js) (gsCons γ γs) :=
  ⟨pgs_imp (pgs_cons h1.pg h2.pgs hs) fun vs σ H Q ⟨F, ρ, M, ds, Qd, Xd, g, s, r, ⟨d, rest, e1, q⟩, p, w⟩ => by
    subst e1
    obtain ⟨v, ws, rfl, r1, r2⟩ := r.inv
    refine ⟨v, ws, rfl, F, ρ, M, d, _, Xd, g, s, r1, q, fun σ1 H1 F1 ρ1 M1 sm1 g1 s1 w1 q1 => ?_, w⟩
    refine ⟨F1, ρ1, M1, rest, Qd, Xd, g1, s1, r2.mono sm1, q1, fun σ2 H2 F2 ρ2 M2 sm2 g2 s2 w2 q2 => ?_, w.mono sm1⟩
    exact p _ _ _ _ _ (sm1.trans sm2) g2 s2 (fun vs hv => (w2 vs fun i hi => hv i (List.mem_append_right _ hi)).trans (w1 vs fun i hi => hv i (List.mem_append_left _ hi))) q2⟩
def gTL (K : PySem.W.Frag) (n : Nat) (t : TGs) : TG := fun v σ H Q => gTup K n t v σ H Q ∨ gLst K n t v σ H Q
theorem pg_tl {k : Nat} {t : TGs} {n : Nat} (hc : X.calm = true) (h : PGs X es t) (hn : (assignEach es X.env).length = n := by rfl) (hst : (assignEach es X.env).findIdx? (·.1) = none := by rfl) : PG X (.Tuple es k pos) (gTL X.K n t) :=
  ⟨fun pins s σ H v u Q I r q => q.elim (fun q => (pg_tup hc h hn hst).run pins s σ H v u Q I r q) fun q => (pg_lst hc h hn hst).run pins s σ H v u Q I r q⟩
theorem dg_tup {k n : Nat} {is : List Nat} {γs : DTGs} (hc : X.calm = true) (h : DGs cl X W es is γs) (hn : (assignEach es X.env).length = n := by rfl) (hst : (assignEach es X.env).findIdx? (·.1) = none := by rfl) : DG cl X W (.Tuple es k pos) is (gT n γs) :=
  ⟨pg_imp (pg_tl hc h.pgs hn hst) fun v σ H Q ⟨F, ρ, M, d, Qd, Xd, g, s, r, ⟨ds, e1, e2, q⟩, p, w⟩ => by
    have hv := vw_ok g r
    rcases e1 with e1 | e1
    · rw [e1] at hv
      obtain ⟨a, vs, rfl, h1, h2⟩ := hv.tup g.sub
      exact .inl ⟨a, vs, rfl, h1, by rw [h2.length]; exact e2, F, ρ, M, ds, Qd, Xd, g, s, h2, q, p, w⟩
    · rw [e1] at hv
      obtain ⟨a, vs, rfl, h1, h2⟩ := hv.lst g.sub
      exact .inr ⟨a, vs, rfl, h1, by rw [h2.length]; exact e2, F, ρ, M, ds, Qd, Xd, g, s, h2, q, p, w⟩⟩
theorem dg_subL {o i : Expr} {τo τi : DTE} (ho : DE cl X W o τo) (hi : DE cl X W i τi) (ha : ∀ v, assign (.Subscript o i pos) X.env v = (do
      let ov ← holding [v] (eval o X.env)
      let iv ← holding [v, ov] (eval i X.env)
      standAt pos
      holding [v, ov, iv] (setItem ov iv v)
      release [v, ov, iv] []) := by intro _; rfl) : DG cl X W (.Subscript o i pos) [] (gSubL τo τi) :=
  ⟨pg_imp (pg_sub ho.pe hi.pe set_list ha) fun v σ H Q ⟨F, ρ, M, d, Qd, Xd, g, s, r, q, p, w⟩ =>
    ⟨F, ρ, M, _, Xd, g, s, q, fun x H1 F1 od M1 sm1 g1 r1 q1 => ⟨F1, ρ, M1, _, Xd, g1, s.mono sm1, q1, fun y H2 F2 jd M2 sm2 g2 r2 q2 => (by
      obtain ⟨a, xs, k, j, e1, e2, e3, e4, e5⟩ := q2
      subst e1 e3
      obtain rfl := r1.toRef
      obtain rfl := r2.toInt
      obtain ⟨hF, vs, h1, h2⟩ := g2.cell a _ e2
      refine ⟨a, vs, k, j, rfl, rfl, h1, by rw [h2.length]; exact e4, ?_⟩
      exact p _ _ F2 ρ _ (sm1.trans sm2) (g2.put (d := .lst (xs.set j d)) e2 ⟨vs.set j v, upd_same, h2.set (r.mono (sm1.trans sm2)) j⟩) (s.mono (sm1.trans sm2)) (fun _ _ => rfl) e5), w.mono sm1⟩, w⟩⟩
theorem ds_asg {tg : Expr} {is : List Nat} {γ : DTG} (he : DE cl X W e τ) (hg : DG cl X W tg is γ) (hs : swapsWithSole [tg] e pos.line X.env = pure false := by rfl) (hw : swappedStores [tg] e X.env = pure none := by rfl)
    (h1 : (assignEach [tg] X.env).map (·.2) = [assign tg X.env] := by rfl) : DS cl X W (.Assign [tg] e pos) (dAsg τ γ) := ⟨ps_imp (ps_asg he.pe hg.pg hs hw h1) fun D σ H ⟨F, ρ, M, E, g, s, q, ok⟩ =>
  ⟨F, ρ, M, _, E.ex, g, s, q, fun v H' F' d M' sm g' r q' => ⟨F', ρ, M', d, E.nx, E.ex, g', s.mono sm, r, q', fun σ2 H2 F2 ρ2 M2 sm2 g2 s2 _ q2 => ok.nx _ _ _ _ _ (sm.trans sm2) g2 s2 q2, ok.ex.mono sm⟩, ok.ex⟩⟩
theorem ds_set {x : Str} {pos' : Pos} (i : Nat) (hN : X.N.Nodup) (he : DE cl X W e τ) (hi : X.N[i]? = some x := by rfl) (hx : Loc X.env.scope x := by first | exact Or.inl rfl | exact Or.inr rfl) (hs : swapsWith e (some (.Name x pos')) pos.line X.env = pure false := by rfl) (hf : X.fn x = true ∨ X.env.scope.names.lookup x = some .local := by first | exact .inl rfl | exact .inr rfl) :
    DS cl X W (.Assign [.Name x pos'] e pos) (dAsg τ (gN i)) := ⟨ps_imp (ps_set hN hi hx he.pe hs hf) fun D σ H ⟨F, ρ, M, E, g, s, q, ok⟩ =>
  ⟨F, ρ, M, _, E.ex, g, s, q, fun v H' F' d M' sm g' r q' => ok.nx _ _ _ _ _ sm g' ((s.mono sm).set i r) q', ok.ex⟩⟩
theorem ds_par {i j : Nat} {x y : Str} {px py pt : Pos} {kt k2 pt2} (hc : X.calm = true) (hN : X.N.Nodup) (ha : DA cl X W [a, b] α) (hi : X.N[i]? = some x := by rfl) (hj : X.N[j]? = some y := by rfl) (hij : i ≠ j := by decide)
    (hx : X.env.scope.names.lookup x = some .local := by rfl) (hy : X.env.scope.names.lookup y = some .local := by rfl)
    (hw : swappedStores [.Tuple [.Name x px, .Name y py] kt pt] (.Tuple [a, b] k2 pt2) X.env = pure (some [x, y]) := by rfl)
    (hs : swapsWithSole [.Tuple [.Name x px, .Name y py] kt pt] (.Tuple [a, b] k2 pt2) pos.line X.env = pure false := by rfl) :
    DS cl X W (.Assign [.Tuple [.Name x px, .Name y py] kt pt] (.Tuple [a, b] k2 pt2) pos) (dPar i j α) := ⟨ps_imp (ps_par hc hN hi hj hij hx hy ha.pa hw hs) fun D σ H ⟨F, ρ, M, E, g, s, q, ok⟩ =>
  ⟨F, ρ, M, _, E.ex, g, s, q, fun vs H' F' ds M' sm g' r q' => by
    obtain ⟨d, e, e1, q'⟩ := q'
    subst e1
    obtain ⟨v, ws, rfl, r1, r2⟩ := r.inv
    obtain ⟨v2, ws, rfl, r3, r4⟩ := r2.inv
    obtain rfl := r4.inv0
    exact ⟨v, v2, rfl, ok.nx _ _ _ _ _ sm g' (((s.mono sm).set i r1).set j r3) q'⟩, ok.ex⟩⟩
theorem ds_par3 {i j l : Nat} {x y z : Str} {px py pz pt : Pos} {kt k2 pt2} (hc : X.calm = true) (hN : X.N.Nodup) (ha : DA cl X W [a, b, c] α) (hi : X.N[i]? = some x := by rfl) (hj : X.N[j]? = some y := by rfl) (hl : X.N[l]? = some z := by rfl) (hij : i ≠ j := by decide) (hil : i ≠ l := by decide) (hjl : j ≠ l := by decide)
    (hx : X.env.scope.names.lookup x = some .local := by rfl) (hy : X.env.scope.names.lookup y = some .local := by rfl) (hz : X.env.scope.names.lookup z = some .local := by rfl)
    (hw : swappedStores [.Tuple [.Name x px, .Name y py, .Name z pz] kt pt] (.Tuple [a, b, c] k2 pt2) X.env = pure (some [x, y, z]) := by rfl)
    (hs : swapsWithSole [.Tuple [.Name x px, .Name y py, .Name z pz] kt pt] (.Tuple [a, b, c] k2 pt2) pos.line X.env = pure false := by rfl) :
    DS cl X W (.Assign [.Tuple [.Name x px, .Name y py, .Name z pz] kt pt] (.Tuple [a, b, c] k2 pt2) pos) (dPar3 i j l α) := ⟨ps_imp (ps_par3 hc hN hi hj hl hij hil hjl hx hy hz ha.pa hw hs) fun D σ H ⟨F, ρ, M, E, g, s, q, ok⟩ =>
  ⟨F, ρ, M, _, E.ex, g, s, q, fun vs H' F' ds M' sm g' r q' => by
    obtain ⟨d, e, f, e1, q'⟩ := q'
    subst e1
    obtain ⟨v, ws, rfl, r1, r2⟩ := r.inv
    obtain ⟨v2, ws, rfl, r3, r4⟩ := r2.inv
    obtain ⟨v3, ws, rfl, r5, r6⟩ := r4.inv
    obtain rfl := r6.inv0
    exact ⟨v, v2, v3, rfl, ok.nx _ _ _ _ _ sm g' ((((s.mono sm).set i r1).set j r3).set l r5) q'⟩, ok.ex⟩⟩
theorem ds_augAdd {x : Str} {pos' : Pos} (i : Nat) (hN : X.N.Nodup) (he : DE cl X W e τ) (hi : X.N[i]? = some x := by rfl) (hx : Loc X.env.scope x := by first | exact Or.inl rfl | exact Or.inr rfl) (hf : X.fn x = true ∨ X.env.scope.names.lookup x = some .local := by first | exact .inl rfl | exact .inr rfl) :
    DS cl X W (.AugAssign (.Name x pos') .Add e pos) (dAug i augI τ) := ⟨ps_imp (ps_aug hN hi hx he.pe ip_add hf) fun D σ H ⟨F, ρ, M, E, g, s, ⟨d, e1, q⟩, ok⟩ => by
  obtain ⟨v, h1, h2⟩ := s.get i d e1
  refine ⟨v, h1, F, ρ, M, _, E.ex, g, s, q, fun v2 H' F' d2 M' sm g' r q' => ?_, ok.ex⟩
  obtain ⟨z, e2, q2⟩ := q'
  have hv := vw_ok g' r
  cases d with
  | int k =>
    obtain rfl := h2.toInt
    cases e3 : vw M' d2 with
    | int m =>
      rw [e3] at hv e2
      obtain rfl := hv.int
      cases e2
      exact ⟨k, m, rfl, rfl, ok.nx _ _ _ _ _ sm g' ((s.mono sm).set i (.int _)) q2⟩
    | _ => rw [e3] at e2; cases e2
  | _ => cases e2⟩
theorem ds_while (hp : PassesOwn (model X.prog X.w) X.A X.env X.xe) (hc : DT cl X W c υ) (hb : DSs cl X W sts t) : DS cl X W (.While c sts [] pos) (dWhile υ t) := ⟨ps_imp (ps_while hp hc.pt hb.pss) fun D σ H ⟨F, ρ, M, E, g, s, ⟨Wd, ⟨m0, w0⟩, turn⟩, ok⟩ => by
  refine ⟨fun m σ H => ∃ F' ρ M, Same F F' ∧ Good X.K cl F' H M ∧ Slots X.K cl F' σ ρ ∧ Wd m ρ M, ⟨m0, F, ρ, M, Same.refl F, g, s, w0⟩, ?_⟩
  rintro m σ1 H1 ⟨F1, ρ1, M1, sm1, g1, s1, w1⟩
  refine ⟨F1, ρ1, M1, _, E.ex, g1, s1, turn m ρ1 M1 w1, fun k H2 F2 M2 sm2 g2 q2 => ?_, ok.ex.mono sm1⟩
  cases k with
  | true =>
    rw [if_pos rfl] at q2 ⊢
    obtain ⟨N, hN, q2⟩ := q2
    refine ⟨fun σ' H' => ∃ F' ρ' M', Same F F' ∧ Good X.K cl F' H' M' ∧ Slots X.K cl F' σ' ρ' ∧ N ρ' M', fun σ' H' ⟨F', ρ', M', sm', g', s', n'⟩ => ?_, ?_⟩
    · obtain ⟨m', hm, w'⟩ := hN ρ' M' n'
      exact ⟨m', hm, F', ρ', M', sm', g', s', w'⟩
    · refine ⟨F2, ρ1, M2, _, g2, s1.mono sm2, q2, ⟨fun σ' H' F' ρ' M' sm' g' s' q' => ⟨F', ρ', M', (sm1.trans sm2).trans sm', g', s', q'⟩, ok.rt.mono (sm1.trans sm2), ok.nx.mono (sm1.trans sm2), fun σ' H' F' ρ' M' sm' g' s' q' => ⟨F', ρ', M', (sm1.trans sm2).trans sm', g', s', q'⟩, ok.ex.mono (sm1.trans sm2)⟩⟩
  | false =>
    rw [if_neg Bool.false_ne_true] at q2 ⊢
    exact ok.nx _ _ _ _ _ (sm1.trans sm2) g2 (s1.mono sm2) q2⟩
/-! what is walked -/
def Walks (K : PySem.W.Frag) (cl : Nat → Addr) (J : It) (F : Hp) (xs : List D) : Prop := ∀ i F' H' M', Same F F' → Good K cl F' H' M' →
  (∀ d, xs[i]? = some d → J.go i H' ∧ ∀ x H3, J.yld i H' x H3 → ∃ F3, Same F' F3 ∧ Good K cl F3 H3 M' ∧ Rep K cl F3 x d) ∧ (xs.length ≤ i → J.stop i H')
structure DI (cl : Nat → Addr) (X : Cx) (W : WX) (tg iter : Expr) (ι : DTI) : Prop where
  pi : PI X tg iter (fun σ H R => ∃ F ρ M Rd Xd, Good X.K cl F H M ∧ Slots X.K cl F σ ρ ∧ ι ρ M Rd Xd ∧ (∀ J H' F' xs M', Same F F' → Good X.K cl F' H' M' → Walks X.K cl J F' xs → Rd xs M' → R J H') ∧ WOk X.K cl W F Xd)
theorem pi_imp {tg it : Expr} {t t' : TI} (h : PI X tg it t) (i : ∀ σ H R, t' σ H R → t σ H R) : PI X tg it t' := ⟨fun pins s σ H R I q => h.run pins s σ H R I (i σ H R q)⟩
@[simp] def iL (τ : DTE) : DTI := fun ρ M R X => τ ρ M (fun d M1 => ∃ xs, d = .lst xs ∧ R xs M1) X
@[simp] def iT (τ : DTE) : DTI := fun ρ M R X => τ ρ M (fun d M1 => ∃ xs, d = .tup xs ∧ R xs M1) X
@[simp] def iR1 (τ : DTE) : DTI := fun ρ M R X => τ ρ M (fun d M1 => ∃ n, d = .int n ∧ -(2 ^ 62) ≤ n ∧ n < 2 ^ 62 ∧ R ((List.range n.toNat).map fun (i : Nat) => D.int (i : Int)) M1) X
@[simp] def iR2 (τ τ' : DTE) : DTI := fun ρ M R X => τ ρ M (fun d M1 => τ' ρ M1 (fun e M2 => ∃ l n, d = .int l ∧ e = .int n ∧ (-(2 ^ 62) ≤ l ∧ l < 2 ^ 62 ∧ -(2 ^ 62) ≤ n ∧ n < 2 ^ 62) ∧ R ((List.range (n - l).toNat).map fun (i : Nat) => D.int (l + (i : Int))) M2) X) X
theorem sqL_fun {K : PySem.W.Frag} {P : Program} {w : World} {H : Hp} {a : Addr} {xs : List V} (h : SqL K H a xs) : True := trivial
theorem di_list {tg : Expr} (h : DE cl X W e τ) : DI cl X W tg e (iL τ) := ⟨pi_imp (pi_list h.pe) fun σ H R ⟨F, ρ, M, Rd, Xd, g, s, q, p, w⟩ =>
  ⟨F, ρ, M, _, Xd, g, s, q, fun v H' F' d M' sm g' r ⟨xs, e1, q'⟩ => by
    subst e1
    obtain ⟨a, vs, rfl, h1, h2⟩ := r.toLst
    refine ⟨a, rfl, ⟨vs, same_l g'.sub h1⟩, p _ _ F' xs M' sm g' (fun i F2 H2 M2 sm2 g2 => ⟨fun d hd => ?_, fun hl => ⟨vs, same_l (sm2.trans g2.sub) h1, by rw [h2.length]; exact hl⟩⟩) q'⟩
    obtain ⟨v, hv, rv⟩ := h2.get hd
    refine ⟨⟨vs, v, same_l (sm2.trans g2.sub) h1, hv⟩, fun x H3 ⟨e1, e2⟩ => ?_⟩
    subst e1
    have := e2 vs (same_l (sm2.trans g2.sub) h1)
    rw [hv] at this
    cases this
    exact ⟨F2, Same.refl F2, g2, rv.mono sm2⟩, w⟩⟩
theorem di_tup {tg : Expr} (h : DE cl X W e τ) : DI cl X W tg e (iT τ) := ⟨pi_imp (pi_tup h.pe) fun σ H R ⟨F, ρ, M, Rd, Xd, g, s, q, p, w⟩ =>
  ⟨F, ρ, M, _, Xd, g, s, q, fun v H' F' d M' sm g' r ⟨xs, e1, q'⟩ => by
    subst e1
    obtain ⟨a, vs, rfl, h1, h2⟩ := r.toTup
    refine ⟨a, rfl, ⟨vs, same_t g'.sub h1⟩, p _ _ F' xs M' sm g' (fun i F2 H2 M2 sm2 g2 => ⟨fun d hd => ?_, fun hl => ⟨vs, same_t (sm2.trans g2.sub) h1, by rw [h2.length]; exact hl⟩⟩) q'⟩
    obtain ⟨v, hv, rv⟩ := h2.get hd
    refine ⟨⟨vs, v, same_t (sm2.trans g2.sub) h1, hv⟩, fun x H3 ⟨e1, e2⟩ => ?_⟩
    subst e1
    have := e2 vs (same_t (sm2.trans g2.sub) h1)
    rw [hv] at this
    cases this
    exact ⟨F2, Same.refl F2, g2, rv.mono sm2⟩, w⟩⟩
theorem walks_range {K : PySem.W.Frag} {F : Hp} (l : Int) (n : Nat) : Walks K cl (Itr l n) F ((List.range n).map fun (i : Nat) => D.int (l + (i : Int))) := fun i F2 H2 M2 sm2 g2 => by
  refine ⟨fun d hd => ?_, fun hl => (show n ≤ i by simpa using hl)⟩
  rw [List.getElem?_map] at hd
  cases e : (List.range n)[i]? with
  | none => rw [e] at hd; cases hd
  | some j =>
    obtain ⟨hj, ej⟩ := List.getElem?_eq_some_iff.mp e
    rw [List.getElem_range] at ej
    subst ej
    rw [e] at hd
    cases hd
    refine ⟨(show i < n by simpa using hj), fun x H3 ⟨e1, e2⟩ => ?_⟩
    subst e1 e2
    exact ⟨F2, Same.refl F2, g2, .int _⟩
theorem di_range1 {tg : Expr} {p : Pos} (hg : Gl X "range") (hm : X.mg "range" = none) (ha : DE cl X W a τa) (hs : starEach [a] X.env = [(false, eval a X.env)] := by rfl) : DI cl X W tg (.Call (.Name "range" p) [a] [] pos) (iR1 τa) :=
  ⟨pi_imp (pi_range1 hg hm (da_cons (W := W) (cl := cl) ha da_nil hs).pa hs) fun σ H R ⟨F, ρ, M, Rd, Xd, g, s, q, p, w⟩ =>
    ⟨F, ρ, M, fun ds M1 => ∃ n : Int, ds = [.int n] ∧ -(2 ^ 62) ≤ n ∧ n < 2 ^ 62 ∧ Rd ((List.range n.toNat).map fun (i : Nat) => D.int (i : Int)) M1, Xd, g, s, (by
      unfold iR1 at q
      unfold dCons dNil
      have mono : (fun d M1 => ∃ n, d = D.int n ∧ -(2 ^ 62) ≤ n ∧ n < 2 ^ 62 ∧ Rd ((List.range n.toNat).map fun (i : Nat) => D.int (i : Int)) M1) = (fun d M1 => ∃ n : Int, [d] = [.int n] ∧ -(2 ^ 62) ≤ n ∧ n < 2 ^ 62 ∧ Rd ((List.range n.toNat).map fun (i : Nat) => D.int (i : Int)) M1) := by
        funext d M1
        simp
      rw [mono] at q
      exact q), fun vs H' F' ds M' sm g' r ⟨n, e1, b1, b2, q'⟩ => by
      subst e1
      obtain ⟨v, ws, rfl, r1, r2⟩ := r.inv
      obtain rfl := r2.inv0
      obtain rfl := r1.toInt
      refine ⟨n, rfl, b1, b2, p _ _ F' _ M' sm g' (walks_range 0 n.toNat) ?_⟩
      simpa using q', w⟩⟩
theorem di_range2 {tg : Expr} {p : Pos} (hg : Gl X "range") (hm : X.mg "range" = none) (ha : DE cl X W a τa) (hb : DE cl X W b τb) (hs : starEach [a, b] X.env = [(false, eval a X.env), (false, eval b X.env)] := by rfl) (hs2 : starEach [b] X.env = [(false, eval b X.env)] := by rfl) : DI cl X W tg (.Call (.Name "range" p) [a, b] [] pos) (iR2 τa τb) :=
  ⟨pi_imp (pi_range2 hg hm (da_cons (W := W) (cl := cl) ha (da_cons hb da_nil hs2) (by rw [hs, hs2])).pa hs hs2) fun σ H R ⟨F, ρ, M, Rd, Xd, g, s, q, p, w⟩ =>
    ⟨F, ρ, M, fun ds M1 => ∃ l n : Int, ds = [.int l, .int n] ∧ (-(2 ^ 62) ≤ l ∧ l < 2 ^ 62 ∧ -(2 ^ 62) ≤ n ∧ n < 2 ^ 62) ∧ Rd ((List.range (n - l).toNat).map fun (i : Nat) => D.int (l + (i : Int))) M1, Xd, g, s, (by
      unfold iR2 at q
      unfold dCons dNil
      have mono : (fun d M1 => τb ρ M1 (fun e M2 => ∃ l n, d = D.int l ∧ e = D.int n ∧ (-(2 ^ 62) ≤ l ∧ l < 2 ^ 62 ∧ -(2 ^ 62) ≤ n ∧ n < 2 ^ 62) ∧ Rd ((List.range (n - l).toNat).map fun (i : Nat) => D.int (l + (i : Int))) M2) Xd) = (fun d M1 => τb ρ M1 (fun e M2 => ∃ l n : Int, [d, e] = [.int l, .int n] ∧ (-(2 ^ 62) ≤ l ∧ l < 2 ^ 62 ∧ -(2 ^ 62) ≤ n ∧ n < 2 ^ 62) ∧ Rd ((List.range (n - l).toNat).map fun (i : Nat) => D.int (l + (i : Int))) M2) Xd) := by
        funext d M1
        congr 1
        funext e M2
        simp [and_assoc]
      rw [mono] at q
      exact q), fun vs H' F' ds M' sm g' r ⟨l, n, e1, b1, q'⟩ => by
      subst e1
      obtain ⟨v, ws, rfl, r1, r2⟩ := r.inv
      obtain ⟨v2, ws, rfl, r3, r4⟩ := r2.inv
      obtain rfl := r4.inv0
      obtain rfl := r1.toInt
      obtain rfl := r3.toInt
      exact ⟨l, n, rfl, b1, p _ _ F' _ M' sm g' (walks_range l (n - l).toNat) q'⟩, w⟩⟩
theorem ds_for {tg iter : Expr} {is : List Nat} {ι : DTI} {γ : DTG} (hp : PassesOwn (model X.prog X.w) X.A X.env X.xe) (hc : X.calm = true) (hi : DI cl X W tg iter ι) (hg : DG cl X W tg is γ) (hb : DSs cl X W sts t) (hs : ∀ x, foldedSetIterable iter X.env x = pure x := by intro _; rfl) :
    DS cl X W (.For tg iter sts [] pos) (dFor ι γ t) := ⟨ps_imp (ps_for hp hc hi.pi hg.pg hb.pss hs) fun D σ H ⟨F, ρ, M, E, g, s, q, ok⟩ => by
  refine ⟨F, ρ, M, _, E.ex, g, s, q, fun J H1 F1 xs M1 sm1 g1 wk q1 => ?_, ok.ex⟩
  refine ⟨fun i m σ H => m = xs.length - i ∧ i ≤ xs.length ∧ ∃ F' ρ M, Same F1 F' ∧ Good X.K cl F' H M ∧ Slots X.K cl F' σ ρ ∧ forD γ t (xs.drop i) E ρ M, ⟨xs.length, by simp, Nat.zero_le _, F1, ρ, M1, Same.refl F1, g1, s.mono sm1, by simpa using q1⟩, ?_⟩
  rintro i m σ2 H2 ⟨rfl, hi, F2, ρ2, M2, sm2, g2, s2, q2⟩
  have ok2 := ok.mono (sm1.trans sm2)
  by_cases hlt : i < xs.length
  · obtain ⟨go, yl⟩ := (wk i F2 H2 M2 sm2 g2).1 xs[i] (by simp [hlt])
    rw [List.drop_eq_getElem_cons hlt] at q2
    refine .inr ⟨go, fun σ' H' => ∃ F' ρ' M', Same F1 F' ∧ Good X.K cl F' H' M' ∧ Slots X.K cl F' σ' ρ' ∧ forD γ t (xs.drop (i + 1)) E ρ' M', fun σ' H' n => ⟨xs.length - (i + 1), by omega, rfl, hlt, n⟩, fun x H3 y => ?_⟩
    obtain ⟨F3, sm3, g3, r3⟩ := yl x H3 y
    refine ⟨F3, ρ2, M2, xs[i], _, E.ex, g3, s2.mono sm3, r3, q2, fun σ4 H4 F4 ρ4 M4 sm4 g4 s4 _ q4 => ?_, ok2.ex.mono sm3⟩
    have ok4 := ok2.mono (sm3.trans sm4)
    exact ⟨F4, ρ4, M4, _, g4, s4, q4, ⟨fun σ' H' F' ρ' M' sm' g' s' q' => ⟨F', ρ', M', ((sm2.trans sm3).trans sm4).trans sm', g', s', q'⟩, ok4.rt, ok4.nx, fun σ' H' F' ρ' M' sm' g' s' q' => ⟨F', ρ', M', ((sm2.trans sm3).trans sm4).trans sm', g', s', q'⟩, ok4.ex⟩⟩
  · have e : i = xs.length := by omega
    subst e
    rw [List.drop_length] at q2
    exact .inl ⟨(wk _ F2 H2 M2 sm2 g2).2 (Nat.le_refl _), ok2.nx _ _ F2 ρ2 M2 (Same.refl F2) g2 s2 q2⟩⟩
end
end DL

set_option Elab.async false
set_option linter.all false
set_option maxRecDepth 100000
set_option maxHeartbeats 2000000
namespace DL
open PySem L2

abbrev W0 : WX := fun _ _ _ _ => False
theorem wok0 {K : PySem.W.Frag} {cl : Nat → Addr} {F : Hp} : WOk K cl W0 F noX := fun _ _ _ _ _ _ _ _ _ _ _ _ _ h => h
/-! ### comprehensions -/
theorem wipe_idem (σ : St) : ∀ vs : List Nat, ∀ ws : List Nat, (∀ v ∈ vs, v ∈ ws) → wipe (wipe σ vs) ws = wipe σ ws
  | [], ws, _ => rfl
  | v :: vs, ws, h => by
    show wipe ((wipe σ vs).set v none) ws = wipe σ ws
    rw [wipe_set (h v List.mem_cons_self), wipe_idem σ vs ws fun x hx => h x (List.mem_cons_of_mem _ hx)]
theorem Slots.wipe {K : PySem.W.Frag} {cl : Nat → Addr} {F : Hp} {σ : St} {ρ : Env} (h : Slots K cl F σ ρ) : ∀ vs : List Nat, Slots K cl F (wipe σ vs) (wipeD ρ vs)
  | [] => h
  | v :: vs => (Slots.wipe h vs).setN v
structure DTs (cl : Nat → Addr) (X : Cx) (W : WX) (ifs : List Expr) (υ : DTT) : Prop where
  pts : PTs X ifs (lowT X.K cl W υ)
section
variable {cl : Nat → Addr} {X : Cx} {W : WX} {c : Expr} {υ : DTT}
theorem dts_nil : DTs cl X W [] dYes := ⟨⟨fun pins s σ H Q I ⟨F, ρ, M, Qd, Xd, g, sl, t, p, w⟩ => pts_nil.run pins s σ H Q I (p true H F M (Same.refl F) g t)⟩⟩
theorem dts_one (h : DT cl X W c υ) : DTs cl X W [c] υ := ⟨pts_one h.pt⟩
end
section
variable {cl : Nat → Addr} {X : Cx} {W : WX} {elt tg iter : Expr} {ifs : List Expr} {scope : Scope} {own : List (Str × Nat)} {pos : Pos} {ι : DTI} {is : List Nat} {γ : DTG} {υ : DTT} {τ : DTE}
theorem lc_lift {K : PySem.W.Frag} (his : ∀ i ∈ is, i ∈ own.map (·.2)) {σ : St} {H : Hp} {Q : VK} {F : Hp} {ρ : Env} {M : Mem} {Qd : DV} {Xd : DX} (g : Good K cl F H M) (s : Slots K cl F σ ρ) (q : dLc ι γ υ τ (own.map (·.2)) ρ M Qd Xd) (p : Post K cl F Q Qd) (w : WOk K cl W F Xd) :
    tLc (fun σ H R => ∃ F ρ M Rd Xd, Good K cl F H M ∧ Slots K cl F σ ρ ∧ ι ρ M Rd Xd ∧ (∀ J H' F' xs M', Same F F' → Good K cl F' H' M' → Walks K cl J F' xs → Rd xs M' → R J H') ∧ WOk K cl W F Xd)
      (fun v σ H Q => ∃ F ρ M d Qd Xd, Good K cl F H M ∧ Slots K cl F σ ρ ∧ Rep K cl F v d ∧ γ d ρ M Qd Xd ∧ (∀ σ' H' F' ρ' M', Same F F' → Good K cl F' H' M' → Slots K cl F' σ' ρ' → (∀ vs : List Nat, (∀ i ∈ is, i ∈ vs) → wipe σ' vs = wipe σ vs) → Qd ρ' M' → Q σ' H') ∧ WOk K cl W0 F Xd)
      (lowT K cl W0 υ) (lowE K cl W0 τ) (own.map (·.2)) σ H Q := by
  refine ⟨F, ρ, M, _, Xd, g, s, q, fun J H1 F1 xs M1 sm1 g1 wk q1 a hD => ?_, w⟩
  refine ⟨fun i m H => m = xs.length - i ∧ i ≤ xs.length ∧ ∃ F' M, Same F1 F' ∧ Good K cl F' H M ∧ lcD γ υ τ (own.map (·.2)) a (xs.drop i) ρ M Qd,
    ⟨xs.length, by simp, Nat.zero_le _, F1, updM M1 a (.lst []), Same.refl F1, g1.newM (d := .lst []) hD ⟨[], upd_same, .nil⟩, by simpa using q1 a (g1.freshM hD)⟩, ?_⟩
  rintro i m H2 ⟨rfl, hi, F2, M2, sm2, g2, q2⟩
  by_cases hlt : i < xs.length
  · obtain ⟨go, yl⟩ := (wk i F2 H2 M2 sm2 g2).1 xs[i] (by simp [hlt])
    rw [List.drop_eq_getElem_cons hlt] at q2
    unfold lcD at q2
    refine .inr ⟨go, fun H' => ∃ F' M', Same F1 F' ∧ Good K cl F' H' M' ∧ lcD γ υ τ (own.map (·.2)) a (xs.drop (i + 1)) ρ M' Qd, fun H' n => ⟨xs.length - (i + 1), by omega, rfl, hlt, n⟩, fun x H3 y => ?_⟩
    obtain ⟨F3, sm3, g3, r3⟩ := yl x H3 y
    refine ⟨F3, wipeD ρ (own.map (·.2)), M2, xs[i], _, noX, g3, (s.mono ((sm1.trans sm2).trans sm3)).wipe _, r3, q2, fun σ4 H4 F4 ρ4 M4 sm4 g4 s4 w4 q4 => ⟨?_, ?_⟩, wok0⟩
    · rw [w4 _ his]
      exact wipe_idem _ _ _ fun _ h => h
    · refine ⟨F4, ρ4, M4, _, noX, g4, s4, q4, fun k H5 F5 M5 sm5 g5 q5 => ?_, wok0⟩
      cases k with
      | true =>
        rw [if_pos rfl] at q5 ⊢
        refine ⟨F5, ρ4, M5, _, noX, g5, s4.mono sm5, q5, fun y2 H6 F6 d M6 sm6 g6 r6 q6 => ?_, wok0⟩
        obtain ⟨acc, e1, e2, q6⟩ := q6
        obtain ⟨hF, vs, h1, h2⟩ := g6.cell a _ e1
        refine ⟨vs, h1, by rw [h2.length]; exact e2, F6, _, (((sm2.trans sm3).trans sm4).trans sm5).trans sm6, g6.put (d := .lst (acc ++ [d])) e1 ⟨vs ++ [y2], upd_same, h2.append (.one r6)⟩, q6⟩
      | false =>
        rw [if_neg Bool.false_ne_true] at q5 ⊢
        exact ⟨F5, M5, ((sm2.trans sm3).trans sm4).trans sm5, g5, q5⟩
  · have e : i = xs.length := by omega
    subst e
    rw [List.drop_length] at q2
    obtain ⟨ds, e1, q2⟩ := q2
    obtain ⟨F3, sm3, g3, r3⟩ := g2.freeze e1
    exact .inl ⟨(wk _ F2 H2 M2 sm2 g2).2 (Nat.le_refl _), p _ _ _ _ _ ((sm1.trans sm2).trans sm3) g3 r3 q2⟩
theorem d_lc (hc : X.calm = true) (hN : X.N.Nodup) (hi : DI cl X W tg iter ι) (ok : BlkOk X.N X.env.scope scope own)
    (hg : ∀ (s : Shared) (H : Hp) (C : Addr) (cs : List (Str × Addr)) (fp : List Addr), DG cl (X.blk s H scope (compEnvC scope cs C X.env) fp) W0 tg is γ) (ht : ∀ (s : Shared) (H : Hp) (C : Addr) (cs : List (Str × Addr)) (fp : List Addr), DTs cl (X.blk s H scope (compEnvC scope cs C X.env) fp) W0 ifs υ)
    (he : ∀ (s : Shared) (H : Hp) (C : Addr) (cs : List (Str × Addr)) (fp : List Addr), DE cl (X.blk s H scope (compEnvC scope cs C X.env) fp) W0 elt τ) (his : ∀ i ∈ is, i ∈ own.map (·.2) := by decide) (hs : ∀ x, foldedSetIterable iter X.env x = pure x := by intro _; rfl) :
    DE cl X W (.ListComp elt [⟨tg, iter, ifs, 0⟩] scope pos) (dLc ι γ υ τ (own.map (·.2))) :=
  ⟨pe_imp (pe_lc hc hN hi.pi ok (fun s H C cs fp => (hg s H C cs fp).pg) (fun s H C cs fp => (ht s H C cs fp).pts) (fun s H C cs fp => (he s H C cs fp).pe) hs) fun σ H Q ⟨F, ρ, M, Qd, Xd, g, s, q, p, w⟩ => lc_lift his g s q p w⟩
theorem ds_setLc {y : Str} {py spos : Pos} (i : Nat) (hc : X.calm = true) (hN : X.N.Nodup) (hi : DI cl X W tg iter ι) (ok : BlkOk X.N X.env.scope scope own)
    (hg : ∀ (s : Shared) (H : Hp) (C : Addr) (cs : List (Str × Addr)) (fp : List Addr), DG cl (X.blk s H scope (compEnvC scope cs C X.env) fp) W0 tg is γ) (ht : ∀ (s : Shared) (H : Hp) (C : Addr) (cs : List (Str × Addr)) (fp : List Addr), DTs cl (X.blk s H scope (compEnvC scope cs C X.env) fp) W0 ifs υ)
    (he : ∀ (s : Shared) (H : Hp) (C : Addr) (cs : List (Str × Addr)) (fp : List Addr), DE cl (X.blk s H scope (compEnvC scope cs C X.env) fp) W0 elt τ) (hy : X.N[i]? = some y := by rfl) (hyl : X.env.scope.names.lookup y = some .local := by rfl)
    (hsw : swapsWith (.ListComp elt [⟨tg, iter, ifs, 0⟩] scope pos) (some (.Name y py)) spos.line X.env = pure true := by exact sw_true rfl rfl rfl (by decide +kernel)) (his : ∀ i ∈ is, i ∈ own.map (·.2) := by decide) (hs : ∀ x, foldedSetIterable iter X.env x = pure x := by intro _; rfl) :
    DS cl X W (.Assign [.Name y py] (.ListComp elt [⟨tg, iter, ifs, 0⟩] scope pos) spos) (dAsg (dLc ι γ υ τ (own.map (·.2))) (gN i)) :=
  ⟨ps_imp (ps_setLc hc hN hy hyl hsw hi.pi ok (fun s H C cs fp => (hg s H C cs fp).pg) (fun s H C cs fp => (ht s H C cs fp).pts) (fun s H C cs fp => (he s H C cs fp).pe) hs) fun D σ H ⟨F, ρ, M, E, g, s, q, ok⟩ =>
    lc_lift his g s q (fun v H' F' d M' sm g' r q' => ok.nx _ _ _ _ _ sm g' ((s.mono sm).set i r) q') ok.ex⟩
end

/-! ### defs -/
structure RoomG (k : Nat) (A : Around) : Prop where
  room : Room k A
  gd : A.guards = some []
theorem RoomG.mono {j k : Nat} {A : Around} (r : RoomG k A) (h : j ≤ k) : RoomG j A := ⟨r.room.mono h, r.gd⟩
theorem RoomG.deeper {k : Nat} {A : Around} (r : RoomG (k + 1) A) (env : PySem.Env) : RoomG k (A.deeper env) := ⟨r.room.deeper env, r.gd⟩
theorem RoomG.in1 {k : Nat} {A : Around} (r : RoomG (k + 1) A) : RoomG k A.in1 := ⟨r.room.in1, r.gd⟩
theorem make_guards {A : Around} {C : Addr} {us : List Value} {kw : List (Str × Value)} : (A.under (.builtin "type.__call__" ⟨.ref C :: us, kw⟩)).guards = A.guards := by
  cases A with
  | mk a b c d e => cases d <;> first | rfl | simp [Around.under, pushGuards, Code.guards, Code.isGuard, guardIds]
theorem RoomG.make {k : Nat} {A : Around} (r : RoomG (k + 1) A) (C : Addr) (us : List Value) (kw : List (Str × Value)) : RoomG k (A.under (.builtin "type.__call__" ⟨.ref C :: us, kw⟩)) := ⟨r.room.make C us kw, make_guards.trans r.gd⟩
/-- the def at f keeps the promise spd over data -/
structure FnG (cl : Nat → Addr) (P : Program) (w : World) (K : PySem.W.Frag) (mg : Str → Option Value) (base : Heap) (k : Nat) (f : Addr) (fd : FuncData) (ps : List Str) (spd : SpD) : Prop where
  len : ∀ ds M Q E, spd ds M Q E → ds.length = ps.length
  run : ∀ (A : Around) (outer : List PySem.Env) (s : Shared) (H : Hp) (args : Args) (us : List Value) (vs : List V) (Q : VK) (E : XK), RoomG k A → Env0 P w K mg base A outer s H → BindsTo s fd args (ps.zip us) → Vals vs us → lower K cl spd vs H Q E →
    codeAny (model P w) A (.call (.ref f) args) (CR (L2.CX P w) outer P w H s Q E) s
theorem FnG.mono {cl : Nat → Addr} {P : Program} {w : World} {K : PySem.W.Frag} {mg : Str → Option Value} {base : Heap} {j k : Nat} {f : Addr} {fd : FuncData} {ps : List Str} {spd : SpD} (F : FnG cl P w K mg base j f fd ps spd) (h : j ≤ k) : FnG cl P w K mg base k f fd ps spd :=
  ⟨F.len, fun A outer s H args us vs Q E hr => F.run A outer s H args us vs Q E (hr.mono h)⟩
theorem FnG.lenV {cl : Nat → Addr} {P : Program} {w : World} {K : PySem.W.Frag} {mg : Str → Option Value} {base : Heap} {k : Nat} {f : Addr} {fd : FuncData} {ps : List Str} {spd : SpD} (F : FnG cl P w K mg base k f fd ps spd) {vs : List V} {H : Hp} {Q : VK} {E : XK} (h : lower K cl spd vs H Q E) : vs.length = ps.length := by
  obtain ⟨_, M, ds, Qd, Ed, _, r, q, _⟩ := h
  rw [r.length]
  exact F.len ds M Qd Ed q
/-- what a body's rules lean on -/
structure Cap (X : Cx) (W : WX) (k : Nat) : Prop where
  tk : Takes X W
  hr : RoomG k X.A
  po : PassesOwn (model X.prog X.w) X.A X.env X.xe
  calm : X.calm = true
theorem Cap.blk {X : Cx} {W : WX} {k : Nat} (c : Cap X W k) {s : Shared} {H : Hp} {scope : Scope} {cenv : PySem.Env} {fp : List Addr} : Cap (X.blk s H scope cenv fp) W0 k := ⟨takes0, c.hr, PassesOwn.never, c.calm⟩
@[simp] def startD (N : List Str) (ds : List D) : Env := ds.map some ++ List.replicate (N.length - ds.length) none
theorem slots_start {K : PySem.W.Frag} {cl : Nat → Addr} {F : Hp} {vs : List V} {ds : List D} (N : List Str) (r : Reps K cl F vs ds) : Slots K cl F (L2.start N vs) (startD N ds) := by
  have hl := r.length
  refine ⟨by simp [L2.start, startD, hl], fun i d h => ?_⟩
  unfold startD at h
  unfold L2.start
  by_cases hi : i < ds.length
  · rw [List.getElem?_append_left (by simpa using hi)] at h
    rw [List.getElem?_append_left (by simp [hl]; exact hi)]
    rw [List.getElem?_map] at h
    cases e : ds[i]? with
    | none => rw [e] at h; cases h
    | some x =>
      rw [e] at h
      cases h
      obtain ⟨v, hv, rv⟩ := r.get e
      exact ⟨v, by rw [List.getElem?_map, hv]; rfl, rv⟩
  · rw [List.getElem?_append_right (by simpa using Nat.le_of_not_lt hi)] at h
    rw [List.getElem?_replicate] at h
    split at h <;> cases h
@[simp] def dEnds (Q : DV) (E : DEK) : DEnds := { nx := fun _ M => Q .non M, rt := Q, bk := fun _ _ => False, ct := fun _ _ => False, ex := fun c ns ds _ M => E c ns ds M }
theorem fn_d {cl : Nat → Addr} {P : Program} {w : World} {K : PySem.W.Frag} {mg : Str → Option Value} {base : Heap} {k : Nat} {f : Addr} {x qual : Str} {params : Arguments} {body : List Stmt} {scope : Scope} {dvs : List V} {kws : List (Str × V)} {fd : FuncData} {N ps : List Str} {spd : SpD}
    (F : FunD K x qual params body scope dvs kws f fd) (S : FnScope N ps scope) (t : DTS)
    (hbody : ∀ (cdv : Value) (A : Around) (outer : List PySem.Env) (s : Shared) (H : Hp) (E : XK), Cap (cxOf (L2.CX P w) P w K mg base N qual scope f cdv A outer s H E) (fun cls d _ H => E cls d H) k →
      DSs cl (cxOf (L2.CX P w) P w K mg base N qual scope f cdv A outer s H E) (fun cls d _ H => E cls d H) body t)
    (hsp : ∀ ds M Q E, spd ds M Q E → ds.length = ps.length ∧ t (dEnds Q E) (startD N ds) M) : FnG cl P w K mg base (k + 1) f fd ps spd := by
  refine ⟨fun ds M Q E h => (hsp ds M Q E h).1, fun A outer s H args us vs Q E hr e0 hb r hl => ?_⟩
  obtain ⟨oc, od, dV, kV, doc, pm, an, cdv, ct, osl, rfl, lk, hcd, _, _⟩ := F.ex
  have lenV : ∀ vs H Q E, lower K cl spd vs H Q E → vs.length = ps.length := fun vs H Q E ⟨_, M, ds, Qd, Ed, _, r, q, _⟩ => by
    rw [r.length]
    exact (hsp ds M Qd Ed q).1
  have hr' := hr.deeper (PyProof.Rows.envOfC qual scope s.heap.objs.size f cdv)
  have KX : K.In s.heap := e0.mod.kin.keeps fun b o e => (e0.bs b o e).1
  have lim : s.heap.NoLimit := e0.mod.nolimit.keeps fun b o e => (e0.bs b o e).1
  have hkind : ∀ y ∈ ps.zip us, scope.names.lookup y.1 = some .local ∨ (scope.names.lookup y.1 = some .cell ∧ ((cellsFrom (s.heap.objs.size + 1) scope.names []).lookup y.1).isSome = true) := fun ⟨n, v⟩ hy => by
    rcases S.par n (List.of_mem_zip hy).1 with q | q
    · exact .inl q
    · exact .inr ⟨q, PySem.W.cellsFrom_some _ _ _ (.inl q)⟩
  refine codeAny_call_function hr.room.depth (KX _ _ lk) rfl S.co S.gen rfl (PySem.W.codeRec_of KX hcd) (hb _ _ _ _ ?_)
  refine wpAny_newFunctionEnv_cells S.kind hkind fun env he s1 x => ?_
  subst he
  refine ⟨lim.keeps x.toInCall.keep, codeAny_func ?_⟩
  have ht := hbody cdv A outer s H E ⟨takes_of rfl rfl rfl rfl, hr', passes_of rfl, rfl⟩
  have I : Inv (cxOf (L2.CX P w) P w K mg base N qual scope f cdv A outer s H E) [] (L2.start N vs) H s1 := inv_start S hr.room.hd e0 (lenV _ _ _ _ hl) r x
  obtain ⟨F0, M0, ds0, Qd, Ed, g0, r0, q0, p0, ep0⟩ := hl
  have hq : lowS K cl (fun cls d _ H => E cls d H) t { nx := fun _ H' => Q .non H', rt := Q } (L2.start N vs) H :=
    ⟨F0, startD N ds0, M0, dEnds Qd Ed, g0, slots_start N r0, (hsp ds0 M0 Qd Ed q0).2,
      ⟨fun σ' H' F' ρ' M' sm g' s' q' => p0 _ _ _ _ _ sm g' .non q', p0, fun _ _ _ _ _ _ _ _ q' => q', fun _ _ _ _ _ _ _ _ q' => q', fun c ns ds σ' H' F' ρ' M' dd sm g' s' ea q' => ep0 _ _ _ _ _ _ _ sm g' ea q'⟩⟩
  refine wpAny_mono (ht.pss.run [] s1 (L2.start N vs) H _ I hq) (fun fl s' hs => ?_) fun e s' hs => hs
  have fin : ∀ {σ' : St} {H' : Hp} {v : V} {u : Value}, Inv (cxOf (L2.CX P w) P w K mg base N qual scope f cdv A outer s H E) [] σ' H' s' → RelV v u → Q v H' → CE outer P w H s Q u s' :=
    fun {σ' H' v u} J rv q => ⟨v, H', J.os, J.bare, J.base, J.hok, rv, q⟩
  cases fl with
  | ret u =>
    obtain ⟨v, σ', H', J, rv, q⟩ := hs
    exact fin J rv q
  | next =>
    obtain ⟨σ', H', J, q⟩ := hs
    exact fin (v := V.non) (u := Value.none) J rfl q
  | brk =>
    obtain ⟨_, _, _, q⟩ := hs
    exact False.elim q
  | cont =>
    obtain ⟨_, _, _, q⟩ := hs
    exact False.elim q

/-! ### calls -/
@[simp] def dCall (spd : SpD) (dds : List D) (α : DTA) : DTE := fun ρ M Q X => α ρ M (fun ds M1 => spd (ds ++ dds) M1 Q (fun c ns es M2 => X c ns es ρ M2)) X
section
variable {cl : Nat → Addr} {X : Cx} {W : WX} {k : Nat} {f C : Addr} {fd : FuncData} {ps : List Str} {spd : SpD} {dvs : List V} {ds : List Value} {dds : List D} {x m : Str} {p pos apos : Pos} {e o : Expr} {es : List Expr} {τ : DTE} {α : DTA}
theorem run_g {pins : List (Addr × Obj)} {σ : St} {H : Hp} {s : Shared} {Q : VK} {us : List Value} {vs : List V} (c : Cap X W k) (F : FnG cl X.prog X.w X.K X.mg X.base k f fd ps spd) (hb : Binds X.K fd ps ds) (hd : Vals dvs ds)
    (I : Inv X pins σ H s) (r : Vals vs us) (h : lower X.K cl spd (vs ++ dvs) H Q (WE W σ)) : wpAny (model X.prog X.w) X.A (call (.ref f) us) (EP X pins σ Q) X.xe s := by
  have r2 : Vals (vs ++ dvs) (us ++ ds) := r.append hd
  have hl : (us ++ ds).length = ps.length := by rw [← r2.length]; exact F.lenV h
  refine wpAny_call (codeAny_mono (F.run X.A X.stack s H ⟨us, []⟩ (us ++ ds) (vs ++ dvs) Q _ c.hr I.env0 (hb s us I.kIn hl) r2 h) fun r s' hq => ?_)
  cases r with
  | error e => exact passAt c.tk σ pins H s e s' I hq
  | ok fl =>
    cases fl with
    | ret u => exact I.after hq
    | next => exact False.elim hq
    | brk => exact False.elim hq
    | cont => exact False.elim hq
theorem low_call {σ : St} {F : Hp} {ρ : Env} {M : Mem} {Qd : DV} {Xd : DX} {vs : List V} {es : List D} {H : Hp} {Q : VK} {K : PySem.W.Frag} (g : Good K cl F H M) (s : Slots K cl F σ ρ) (r : Reps K cl F vs es) (q : spd es M Qd (fun c ns es M2 => Xd c ns es ρ M2)) (p : Post K cl F Q Qd) (w : WOk K cl W F Xd) : lower K cl spd vs H Q (WE W σ) :=
  ⟨F, M, es, Qd, _, g, r, q, p, fun c ns ds H' F' M' dd sm g' ea q' => w c ns ds σ H' F' ρ M' dd sm g' (s.mono sm) ea q'⟩
theorem d_call (c : Cap X W k) (G : FnG cl X.prog X.w X.K X.mg X.base k f fd ps spd) (hg : Gl X x) (hm : X.mg x = some (.ref f)) (hk : PySem.W.keepIn X.K (.ref f) = true) (hb : Binds X.K fd ps ds) (hd : Vals dvs ds) (hdd : ∀ F, Reps X.K cl F dvs dds)
    (ha : DA cl X W (e :: es) α) (hdb : (x == ("__debug__" : Str)) = false := by decide) (he : starEach (e :: es) X.env = (false, eval e X.env) :: starEach es X.env := by rfl) (hpl : (backTo pos (starEach es X.env)).any (·.1) = false := by rfl) :
    DE cl X W (.Call (.Name x p) (e :: es) [] pos) (dCall spd dds α) := ⟨⟨fun pins s σ H Q I h => by
  obtain ⟨F, ρ, M, Qd, Xd, g, sl, q, p, w⟩ := h
  refine wpAny_Call_Name_kw (ld_glob I hg hm ?_ hdb)
  refine PySem.W.callWith_K (h₀ := X.base) I.ok.mod.kin hk (thn (ha.pa.run pos pins s σ H (fun vs H1 => lower X.K cl spd (vs ++ dvs) H1 Q (WE W σ)) I ⟨F, ρ, M, _, Xd, g, sl, q, fun vs H' F' ds M' sm g' r q' => ?_, w⟩) fun us s1 ⟨vs, H1, I1, r, q⟩ => ⟨I1.kIn, ?_⟩) he hpl
  · exact low_call g' (sl.mono sm) (r.append (hdd F')) q' (p.mono sm) (w.mono sm)
  · exact run_g c G hb hd I1 r q⟩⟩
theorem d_call0 (c : Cap X W k) (G : FnG cl X.prog X.w X.K X.mg X.base k f fd ps spd) (hg : Gl X x) (hm : X.mg x = some (.ref f)) (hk : PySem.W.keepIn X.K (.ref f) = true) (hb : Binds X.K fd ps ds) (hd : Vals dvs ds) (hdd : ∀ F, Reps X.K cl F dvs dds)
    (hdb : (x == ("__debug__" : Str)) = false := by decide) : DE cl X W (.Call (.Name x p) [] [] pos) (dCall spd dds dNil) := ⟨⟨fun pins s σ H Q I h => by
  obtain ⟨F, ρ, M, Qd, Xd, g, sl, q, p, w⟩ := h
  refine wpAny_Call_Name_kw (ld_glob I hg hm ?_ hdb)
  exact PySem.W.callWith_K0 I.kIn hk (run_g (us := []) (vs := []) c G hb hd I .nil (low_call g sl (hdd F) q p w))⟩⟩
end
end DL

set_option Elab.async false
set_option linter.all false
set_option maxRecDepth 100000
set_option maxHeartbeats 2000000
namespace DL
open PySem L2

/-! ### data as the library's plain data -/
mutual
def toPy : D → Option PyData
  | .non => some .none
  | .bl b => some (.bool b)
  | .int i => some (.int i)
  | .str x => some (.str x)
  | .lst xs => (toPys xs).map .list
  | .tup xs => (toPys xs).map .tuple
  | _ => none
def toPys : List D → Option (List PyData)
  | [] => some []
  | x :: xs => match toPy x, toPys xs with
    | some p, some ps => some (p :: ps)
    | _, _ => none
end
section
variable {K : PySem.W.Frag} {cl : Nat → Addr} {F H : Hp}
mutual
theorem dp_of (s : Same F H) : ∀ (d : D) (v : V) (p : PyData), Rep K cl F v d → toPy d = some p → Dp K H v p
  | .non, v, p, r, e => by simp only [toPy] at e; cases e; rw [r.toNon]; exact .non
  | .bl b, v, p, r, e => by simp only [toPy] at e; cases e; rw [r.toBl]; exact .bl b
  | .int i, v, p, r, e => by simp only [toPy] at e; cases e; rw [r.toInt]; exact .int i
  | .str x, v, p, r, e => by simp only [toPy] at e; cases e; rw [r.toStr]; exact .str x
  | .lst xs, v, p, r, e => by
    simp only [toPy] at e
    obtain ⟨a, vs, rfl, h1, h2⟩ := r.toLst
    cases q : toPys xs with
    | none => rw [q] at e; cases e
    | some ps => rw [q] at e; cases e; exact .lst (same_l s h1) (dps_of s xs vs ps h2 q)
  | .tup xs, v, p, r, e => by
    simp only [toPy] at e
    obtain ⟨a, vs, rfl, h1, h2⟩ := r.toTup
    cases q : toPys xs with
    | none => rw [q] at e; cases e
    | some ps => rw [q] at e; cases e; exact .tup (same_t s h1) (dps_of s xs vs ps h2 q)
  | .byt _, v, p, r, e => by simp only [toPy] at e; cases e
  | .ty _, v, p, r, e => by simp only [toPy] at e; cases e
  | .ref _, v, p, r, e => by simp only [toPy] at e; cases e
  | .dK _ _, v, p, r, e => by simp only [toPy] at e; cases e
  | .dT _ _, v, p, r, e => by simp only [toPy] at e; cases e
  | .obj _ _ _, v, p, r, e => by simp only [toPy] at e; cases e
theorem dps_of (s : Same F H) : ∀ (ds : List D) (vs : List V) (ps : List PyData), Reps K cl F vs ds → toPys ds = some ps → DpAll K H vs ps
  | [], vs, ps, r, e => by simp only [toPys] at e; cases e; rw [r.inv0]; exact .nil
  | d :: ds, vs, ps, r, e => by
    obtain ⟨v, ws, rfl, r1, r2⟩ := r.inv
    simp only [toPys] at e
    cases q1 : toPy d with
    | none => rw [q1] at e; cases e
    | some p =>
      cases q2 : toPys ds with
      | none => rw [q1, q2] at e; cases e
      | some qs => rw [q1, q2] at e; cases e; exact .cons (dp_of s d v p r1 q1) (dps_of s ds ws qs r2 q2)
end
theorem dp_vw (s : Same F H) {v : V} {d : D} {p : PyData} (h : Vw K cl F H v d) (e : toPy d = some p) : Dp K H v p := by
  rcases h with h | ⟨a, rfl, h⟩
  · exact dp_of s d v p h e
  · cases d with
    | lst ds =>
      obtain ⟨vs, h1, h2⟩ := h
      simp only [toPy] at e
      cases q : toPys ds with
      | none => rw [q] at e; cases e
      | some ps => rw [q] at e; cases e; exact .lst (SqL.of h1) (dps_of s ds vs ps h2 q)
    | dK _ _ => simp only [toPy] at e; cases e
    | dT _ _ => simp only [toPy] at e; cases e
    | obj _ _ _ => simp only [toPy] at e; cases e
    | _ => exact h.elim
end
/-- equal by what is told of both as plain data -/
def eqP (d e : D) : Option Bool := match toPy d, toPy e with
  | some p, some q => if SeqAt.shaped p && SeqAt.shaped q then some (PyData.eqv p q) else none
  | _, _ => none
def eqB : D → D → Option Bool
  | .int i, .int j => some (i == j)
  | .str x, .str y => some (x == y)
  | .bl x, .bl y => some (x == y)
  | .byt x, .byt y => some (x == y)
  | .non, .non => some true
  | .non, .int _ => some false
  | .non, .str _ => some false
  | .int _, .non => some false
  | .str _, .non => some false
  | .int _, .str _ => some false
  | .str _, .int _ => some false
  | d, e => eqP d e
def eqD (d e : D) : Option D := (eqB d e).map D.bl
def neD (d e : D) : Option D := (eqB d e).map fun b => D.bl !b
section
variable {K : PySem.W.Frag} {cl : Nat → Addr} {X : Cx}
theorem eqP_inv {d e : D} {b : Bool} (h : eqP d e = some b) : ∃ p q, toPy d = some p ∧ toPy e = some q ∧ SeqAt.shaped p = true ∧ SeqAt.shaped q = true ∧ b = PyData.eqv p q := by
  unfold eqP at h
  cases e1 : toPy d with
  | none => rw [e1] at h; cases h
  | some p =>
    cases e2 : toPy e with
    | none => rw [e1, e2] at h; cases h
    | some q =>
      rw [e1, e2] at h
      simp only at h
      split at h
      · rename_i hs
        cases h
        obtain ⟨h1, h2⟩ := Bool.and_eq_true_iff.mp hs
        exact ⟨p, q, rfl, rfl, h1, h2, rfl⟩
      · cases h
def rEqA (K : PySem.W.Frag) : R2 := fun x y H Q => rEq x y H Q ∨ rEqD K x y H Q
def rNeA (K : PySem.W.Frag) : R2 := fun x y H Q => rNe x y H Q ∨ rNeD K x y H Q
theorem op_eqA (hu : X.A.units + 64 < cLine) : OpR X (compareOp .Eq) (rEqA X.K) := op_eq.or (op_eqD hu)
theorem op_neA (hu : X.A.units + 64 < cLine) : OpR X (compareOp .NotEq) (rNeA X.K) := op_ne.or (op_neD hu)
theorem eqB_at {F H : Hp} (s : Same F H) {x y : V} {d e : D} {b : Bool} (hx : Vw K cl F H x d) (hy : Vw K cl F H y e) (h : eqB d e = some b) :
    (scal x y = true ∧ decide (x = y) = b) ∨ ∃ p q, Dp K H x p ∧ Dp K H y q ∧ SeqAt.shaped p = true ∧ SeqAt.shaped q = true ∧ b = PyData.eqv p q := by
  unfold eqB at h
  split at h
  · cases h; rw [hx.int, hy.int]; exact .inl ⟨rfl, dec_int⟩
  · cases h; rw [hx.str, hy.str]; exact .inl ⟨rfl, dec_str⟩
  · cases h; rw [hx.bl, hy.bl]; exact .inl ⟨rfl, dec_bl⟩
  · cases h
    rw [hx.byt, hy.byt]
    refine .inl ⟨rfl, ?_⟩
    rename_i x1 y1
    by_cases e : x1 = y1
    · subst e; simp
    · rw [decide_eq_false (fun z => e (V.byt.inj z))]
      exact (beq_eq_false_iff_ne.mpr e).symm
  · cases h; rw [hx.non, hy.non]; exact .inl ⟨rfl, rfl⟩
  · cases h; rw [hx.non, hy.int]; exact .inl ⟨rfl, rfl⟩
  · cases h; rw [hx.non, hy.str]; exact .inl ⟨rfl, rfl⟩
  · cases h; rw [hx.int, hy.non]; exact .inl ⟨rfl, rfl⟩
  · cases h; rw [hx.str, hy.non]; exact .inl ⟨rfl, rfl⟩
  · cases h; rw [hx.int, hy.str]; exact .inl ⟨rfl, rfl⟩
  · cases h; rw [hx.str, hy.int]; exact .inl ⟨rfl, rfl⟩
  · obtain ⟨p, q, h1, h2, h3, h4, h5⟩ := eqP_inv h
    exact .inr ⟨p, q, dp_vw s hx h1, dp_vw s hy h2, h3, h4, h5⟩
theorem lop_eq : LOp K cl (rEqA K) eqD := by
  intro F H M x y d e z Q Qd g hx hy h p q
  unfold eqD at h
  cases e1 : eqB d e with
  | none => rw [e1] at h; cases h
  | some b =>
    rw [e1] at h
    cases h
    rcases eqB_at g.sub hx hy e1 with ⟨h1, h2⟩ | ⟨pd, pe, h1, h2, h3, h4, rfl⟩
    · exact .inl ⟨h1, by rw [h2]; exact p.val g (.bl _) q⟩
    · exact .inr ⟨pd, pe, h1, h2, h3, h4, p.val g (.bl _) q⟩
theorem lop_ne : LOp K cl (rNeA K) neD := by
  intro F H M x y d e z Q Qd g hx hy h p q
  unfold neD at h
  cases e1 : eqB d e with
  | none => rw [e1] at h; cases h
  | some b =>
    rw [e1] at h
    cases h
    rcases eqB_at g.sub hx hy e1 with ⟨h1, h2⟩ | ⟨pd, pe, h1, h2, h3, h4, rfl⟩
    · exact .inl ⟨h1, by rw [h2]; exact p.val g (.bl _) q⟩
    · exact .inr ⟨pd, pe, h1, h2, h3, h4, p.val g (.bl _) q⟩
/-! ### built-ins -/
def absF : List D → Option D
  | [.int i] => some (.int (if i < 0 then -i else i))
  | _ => none
def intF : List D → Option D
  | [.int i] => some (.int i)
  | [.bl b] => some (.int (if b then 1 else 0))
  | _ => none
def lenF : List D → Option D
  | [.lst xs] => some (.int xs.length)
  | [.tup xs] => some (.int xs.length)
  | [.str x] => if x.length ≤ sizeLine then some (.int x.length) else none
  | [.byt x] => if x.size ≤ sizeLine then some (.int x.size) else none
  | _ => none
def intsOf : List D → Option (List Int)
  | [] => some []
  | .int i :: r => (intsOf r).map (i :: ·)
  | _ :: _ => none
theorem intsOf_eq : ∀ {ds : List D} {ns : List Int}, intsOf ds = some ns → ds = ns.map D.int
  | [], ns, h => by simp only [intsOf] at h; cases h; rfl
  | d :: ds, ns, h => by
    cases d with
    | int i =>
      simp only [intsOf] at h
      cases e : intsOf ds with
      | none => rw [e] at h; cases h
      | some ms => rw [e] at h; cases h; rw [intsOf_eq e]; rfl
    | _ => simp only [intsOf] at h; cases h
theorem intsOf_map (ns : List Int) : intsOf (ns.map D.int) = some ns := by
  induction ns with
  | nil => rfl
  | cons n ns ih => simp only [List.map_cons, intsOf, ih]; rfl
def minF : List D → Option D
  | [.lst xs] => (intsOf xs).bind fun ns => ns.min?.map D.int
  | [.int i, .int j] => some (.int (if j < i then j else i))
  | _ => none
def maxF : List D → Option D
  | [.lst xs] => (intsOf xs).bind fun ns => ns.max?.map D.int
  | [.int i, .int j] => some (.int (if j > i then j else i))
  | _ => none
def sumF : List D → Option D
  | [.lst xs] => (intsOf xs).map fun ns => D.int ns.sum
  | _ => none
def reprF : List D → Option D
  | [d] => match toPy d with
    | some p => if p.showable && SeqAt.shaped p && decide (p.shown.length ≤ sizeLine) then some (.str p.shown) else none
    | none => none
  | _ => none
theorem reps1 {F : Hp} {M : Mem} {H : Hp} (g : Good K cl F H M) {xs : List V} {ds : List D} {d : D} (r : Reps K cl F xs ds) (e : ds.map (vw M) = [d]) : ∃ x, xs = [x] ∧ Vw K cl F H x d := by
  cases ds with
  | nil => cases e
  | cons a t =>
    cases t with
    | nil =>
      obtain ⟨x, ws, rfl, r1, r2⟩ := r.inv
      obtain rfl := r2.inv0
      simp only [List.map_cons, List.map_nil, List.cons.injEq, and_true] at e
      exact ⟨x, rfl, e ▸ vw_ok g r1⟩
    | cons b t => simp at e
theorem reps2 {F : Hp} {M : Mem} {H : Hp} (g : Good K cl F H M) {xs : List V} {ds : List D} {d e' : D} (r : Reps K cl F xs ds) (e : ds.map (vw M) = [d, e']) : ∃ x y, xs = [x, y] ∧ Vw K cl F H x d ∧ Vw K cl F H y e' := by
  cases ds with
  | nil => cases e
  | cons a t =>
    cases t with
    | nil => simp at e
    | cons b t =>
      cases t with
      | nil =>
        obtain ⟨x, ws, rfl, r1, r2⟩ := r.inv
        obtain ⟨y, ws, rfl, r3, r4⟩ := r2.inv
        obtain rfl := r4.inv0
        simp only [List.map_cons, List.map_nil, List.cons.injEq, and_true] at e
        exact ⟨x, y, rfl, e.1 ▸ vw_ok g r1, e.2 ▸ vw_ok g r3⟩
      | cons c t => simp at e
theorem lc_abs : LCall K cl (fun xs H Q => ∃ i, xs = [.int i] ∧ Q (.int (if i < 0 then -i else i)) H) absF := by
  intro F H M xs ds z Q Qd g r h p q
  generalize e : ds.map (vw M) = es at h
  unfold absF at h
  split at h
  · cases h
    obtain ⟨x, rfl, hv⟩ := reps1 g r e
    obtain rfl := hv.int
    exact ⟨_, rfl, p.val g (.int _) q⟩
  · cases h
theorem lc_int : LCall K cl (fun xs H Q => (∃ i, xs = [.int i] ∧ Q (.int i) H) ∨ ∃ k, xs = [.bl k] ∧ Q (.int (if k then 1 else 0)) H) intF := by
  intro F H M xs ds z Q Qd g r h p q
  generalize e : ds.map (vw M) = es at h
  unfold intF at h
  split at h
  · cases h
    obtain ⟨x, rfl, hv⟩ := reps1 g r e
    obtain rfl := hv.int
    exact .inl ⟨_, rfl, p.val g (.int _) q⟩
  · cases h
    obtain ⟨x, rfl, hv⟩ := reps1 g r e
    obtain rfl := hv.bl
    exact .inr ⟨_, rfl, p.val g (.int _) q⟩
  · cases h
theorem lc_len : LCall K cl (fun xs H Q => ∃ x n, xs = [x] ∧ LenV K x H n ∧ Q (.int n) H) lenF := by
  intro F H M xs ds z Q Qd g r h p q
  generalize e : ds.map (vw M) = es at h
  unfold lenF at h
  split at h
  · cases h
    obtain ⟨x, rfl, hv⟩ := reps1 g r e
    obtain ⟨a, vs, rfl, h1, h2⟩ := hv.lst g.sub
    exact ⟨_, _, rfl, .inl ⟨vs, h1, rfl⟩, by rw [h2.length]; exact p.val g (.int _) q⟩
  · cases h
    obtain ⟨x, rfl, hv⟩ := reps1 g r e
    obtain ⟨a, vs, rfl, h1, h2⟩ := hv.tup g.sub
    exact ⟨_, _, rfl, .inr ⟨vs, h1, rfl⟩, by rw [h2.length]; exact p.val g (.int _) q⟩
  · split at h
    · cases h
      obtain ⟨x, rfl, hv⟩ := reps1 g r e
      obtain rfl := hv.str
      exact ⟨_, _, rfl, ⟨by assumption, rfl⟩, p.val g (.int _) q⟩
    · cases h
  · split at h
    · cases h
      obtain ⟨x, rfl, hv⟩ := reps1 g r e
      obtain rfl := hv.byt
      exact ⟨_, _, rfl, ⟨by assumption, rfl⟩, p.val g (.int _) q⟩
    · cases h
  · cases h
theorem lc_min : LCall K cl (fun xs H Q => rMin K xs H Q ∨ ∃ i j, xs = [.int i, .int j] ∧ Q (.int (if j < i then j else i)) H) minF := by
  intro F H M xs ds z Q Qd g r h p q
  generalize e : ds.map (vw M) = es at h
  unfold minF at h
  split at h
  · obtain ⟨x, rfl, hv⟩ := reps1 g r e
    obtain ⟨a, vs, rfl, h1, h2⟩ := hv.lst g.sub
    rename_i ys
    cases e2 : intsOf ys with
    | none => rw [e2] at h; cases h
    | some ns =>
      rw [e2] at h
      simp only [Option.bind_some] at h
      cases e3 : ns.min? with
      | none => rw [e3] at h; cases h
      | some m =>
        rw [e3] at h
        cases h
        rw [intsOf_eq e2] at h2
        have hm := List.min?_eq_some_iff.mp e3
        refine .inl ⟨a, ns, rfl, by rw [← h2.ints]; exact h1, List.length_pos_of_mem hm.1, fun m' h3 h4 => ?_⟩
        have : m' = m := Int.le_antisymm (h4 m hm.1) (hm.2 m' h3)
        rw [this]
        exact p.val g (.int _) q
  · cases h
    obtain ⟨x, y, rfl, hv, hw⟩ := reps2 g r e
    obtain rfl := hv.int
    obtain rfl := hw.int
    exact .inr ⟨_, _, rfl, p.val g (.int _) q⟩
  · cases h
theorem lc_max : LCall K cl (fun xs H Q => rMax K xs H Q ∨ ∃ i j, xs = [.int i, .int j] ∧ Q (.int (if j > i then j else i)) H) maxF := by
  intro F H M xs ds z Q Qd g r h p q
  generalize e : ds.map (vw M) = es at h
  unfold maxF at h
  split at h
  · obtain ⟨x, rfl, hv⟩ := reps1 g r e
    obtain ⟨a, vs, rfl, h1, h2⟩ := hv.lst g.sub
    rename_i ys
    cases e2 : intsOf ys with
    | none => rw [e2] at h; cases h
    | some ns =>
      rw [e2] at h
      simp only [Option.bind_some] at h
      cases e3 : ns.max? with
      | none => rw [e3] at h; cases h
      | some m =>
        rw [e3] at h
        cases h
        rw [intsOf_eq e2] at h2
        have hm := List.max?_eq_some_iff.mp e3
        refine .inl ⟨a, ns, rfl, by rw [← h2.ints]; exact h1, List.length_pos_of_mem hm.1, fun m' h3 h4 => ?_⟩
        have : m' = m := Int.le_antisymm (hm.2 m' h3) (h4 m hm.1)
        rw [this]
        exact p.val g (.int _) q
  · cases h
    obtain ⟨x, y, rfl, hv, hw⟩ := reps2 g r e
    obtain rfl := hv.int
    obtain rfl := hw.int
    exact .inr ⟨_, _, rfl, p.val g (.int _) q⟩
  · cases h
theorem lc_sum : LCall K cl (rSum K) sumF := by
  intro F H M xs ds z Q Qd g r h p q
  generalize e : ds.map (vw M) = es at h
  unfold sumF at h
  split at h
  · obtain ⟨x, rfl, hv⟩ := reps1 g r e
    obtain ⟨a, vs, rfl, h1, h2⟩ := hv.lst g.sub
    rename_i ys
    cases e2 : intsOf ys with
    | none => rw [e2] at h; cases h
    | some ns =>
      rw [e2] at h
      cases h
      rw [intsOf_eq e2] at h2
      exact ⟨a, ns, rfl, by rw [← h2.ints]; exact h1, p.val g (.int _) q⟩
  · cases h
/-! repr -/
def rRepr (K : PySem.W.Frag) : List V → Hp → VK → Prop := fun xs H Q => ∃ x p, xs = [x] ∧ Dp K H x p ∧ p.showable = true ∧ SeqAt.shaped p = true ∧ p.shown.length ≤ sizeLine ∧ Q (.str p.shown) H
theorem call_repr {k : Nat} (hr : RoomG k X.A) : CallR X (.builtin "repr") (rRepr X.K) := by
  intro pins s σ H xs us Q I r h
  obtain ⟨x, p, rfl, hd, hs, hp, hz, q⟩ := h
  obtain ⟨u, rfl, ru⟩ := vals1 r
  obtain ⟨as, rd⟩ := Dp.reads I p x u hd ru
  have un := hr.room.un
  have dp := SeqAt.depth_of_shaped hp
  cases hd with
  | non => cases ru; exact PySem.P.repr_of_none ⟨.str _, H, I.tok _, ⟨_, rfl⟩, q⟩
  | bl b =>
    cases ru
    refine PySem.P.repr_of_bool ⟨.str _, H, I.tok _, ⟨_, rfl⟩, ?_⟩
    simpa [PyData.shown] using q
  | int i =>
    obtain ⟨t, rfl⟩ := ru
    refine PySem.P.repr_of_int (by simpa [PyData.showable] using hs) ⟨.str _, H, I.tok _, ⟨_, rfl⟩, ?_⟩
    simpa [PyData.shown] using q
  | str z =>
    obtain ⟨t, rfl⟩ := ru
    refine PySem.P.repr_of_str ⟨.str _, H, I.tok _, ⟨_, rfl⟩, ?_⟩ (by simpa [PyData.shown] using hz)
    simpa [PyData.shown] using q
  | lst h1 h2 =>
    cases ru
    exact PySem.repr_of_reads' rd hs (PyData.noDict_hsm (PyData.hasDict_of_canLay _ (SeqAt.canLay_of_shaped hp))) hr.gd (by omega) (fun _ _ e => e) (fun h' t tk kp => ⟨.str _, H, I.kept (t' := tk) kp, ⟨_, rfl⟩, q⟩) hz
  | tup h1 h2 =>
    cases ru
    exact PySem.repr_of_reads' rd hs (PyData.noDict_hsm (PyData.hasDict_of_canLay _ (SeqAt.canLay_of_shaped hp))) hr.gd (by omega) (fun _ _ e => e) (fun h' t tk kp => ⟨.str _, H, I.kept (t' := tk) kp, ⟨_, rfl⟩, q⟩) hz
theorem lc_repr : LCall K cl (rRepr K) reprF := by
  intro F H M xs ds z Q Qd g r h p q
  generalize e : ds.map (vw M) = es at h
  unfold reprF at h
  split at h
  · rename_i d
    obtain ⟨x, rfl, hv⟩ := reps1 g r e
    cases e2 : toPy d with
    | none => rw [e2] at h; cases h
    | some pd =>
      rw [e2] at h
      simp only at h
      split at h
      · rename_i hs
        cases h
        obtain ⟨h12, h3⟩ := Bool.and_eq_true_iff.mp hs
        obtain ⟨h1, h2⟩ := Bool.and_eq_true_iff.mp h12
        exact ⟨x, pd, rfl, dp_vw g.sub hv e2, h1, h2, of_decide_eq_true h3, p.val g (.str _) q⟩
      · cases h
  · cases h
/-! isinstance against built-in classes -/
def tyName : D → Option String
  | .non => some "NoneType"
  | .bl _ => some "bool"
  | .int _ => some "int"
  | .str _ => some "str"
  | .byt _ => some "bytes"
  | .lst _ => some "list"
  | .tup _ => some "tuple"
  | .dK _ _ => some "dict"
  | .dT _ _ => some "dict"
  | _ => none
def tyNames : List String := ["NoneType", "bool", "int", "str", "bytes", "list", "tuple", "dict"]
def isTy (a b : String) : Bool := a == b || (a == "bool" && b == "int")
theorem isTy_kit : ∀ a ∈ tyNames, ∀ b ∈ tyNames, kitB a b = some (isTy a b) := by decide +kernel
theorem tyName_mem {d : D} {n : String} (h : tyName d = some n) : n ∈ tyNames := by
  cases d <;> simp only [tyName] at h <;> first | (cases h; decide) | cases h
theorem tyX_of {F H : Hp} (s : Same F H) {v : V} {d : D} {n : String} (h : Vw K cl F H v d) (e : tyName d = some n) : TyX K H v (.type n) := by
  cases d with
  | non => cases e; rw [h.non]; exact .base .non
  | bl b => cases e; rw [h.bl]; exact .base (.bl b)
  | int i => cases e; rw [h.int]; exact .base (.int i)
  | str x => cases e; rw [h.str]; exact .base (.str x)
  | byt b => cases e; rw [h.byt]; exact .byt b
  | lst ds =>
    cases e
    obtain ⟨a, vs, rfl, h1, h2⟩ := h.lst s
    rcases h1 with (h1 | ⟨o, h1⟩) | ⟨o, its, n, h1, h3, _⟩
    · exact .base (.lst h1)
    · exact .base (.frz h1)
    · exact .kList h1 h3
  | tup ds =>
    cases e
    obtain ⟨a, vs, rfl, h1, h2⟩ := h.tup s
    rcases h1 with (h1 | ⟨o, h1⟩) | ⟨o, its, n, h1, h3, _⟩
    · exact .base (.tup h1)
    · exact .fTuple h1
    · exact .kTuple h1 h3
  | dK ks ds =>
    cases e
    rcases h with h | ⟨a, rfl, vs, h1, _⟩
    · cases h with | dK h1 _ _ => exact .base (.dK (s _ _ h1))
    · exact .base (.dK h1)
  | dT ks ds =>
    cases e
    rcases h with h | ⟨a, rfl, vs, h1, _⟩
    · cases h with | dT h1 _ _ => exact .base (.dT (s _ _ h1))
    · exact .base (.dT h1)
  | _ => cases e
def isiF : List D → Option D
  | [d, .ty n] => match tyName d with
    | some a => if n ∈ tyNames then some (.bl (isTy a n)) else none
    | none => none
  | [d, .tup ts] => match tyName d with
    | some a => if ts.all (fun t => match t with | .ty n => decide (n ∈ tyNames) | _ => false) then some (.bl (ts.any fun t => match t with | .ty n => isTy a n | _ => false)) else none
    | none => none
  | _ => none
theorem kitAny_of {a : String} (ha : a ∈ tyNames) : ∀ {F : Hp} {vs : List V} {ts : List D}, Reps K cl F vs ts → ts.all (fun t => match t with | .ty n => decide (n ∈ tyNames) | _ => false) = true →
    ∃ us, Paired ClsV vs us ∧ PySem.W.kitAny K (.type a) us = some (ts.any fun t => match t with | .ty n => isTy a n | _ => false)
  | F, vs, [], r, _ => by
    obtain rfl := r.inv0
    exact ⟨[], .nil, kitAny_nil⟩
  | F, vs, t :: ts, r, h => by
    obtain ⟨v, ws, rfl, r1, r2⟩ := r.inv
    rw [List.all_cons] at h
    obtain ⟨h1, h2⟩ := Bool.and_eq_true_iff.mp h
    obtain ⟨us, hp, hk⟩ := kitAny_of ha r2 h2
    cases t with
    | ty n =>
      have hn : n ∈ tyNames := of_decide_eq_true h1
      rw [r1.toTy]
      refine ⟨.type n :: us, .cons (.ty n) hp, ?_⟩
      have k1 : PySem.W.kitOne K (.type a) (.type n) = some (isTy a n) := kit_ty (isTy_kit a ha n hn)
      rw [List.any_cons]
      refine kitAny_cons k1 (fun e => ?_) fun e => ?_
      · simp only [e, Bool.false_or]; exact hk
      · simp only [e, Bool.true_or]
    | _ => cases h1
theorem lc_isi : LCall K cl (fun xs H Q => rIsi K xs H Q ∨ rIsiT K xs H Q ∨ rIsiK K xs H Q) isiF := by
  intro F H M xs ds z Q Qd g r h p q
  generalize e : ds.map (vw M) = es at h
  unfold isiF at h
  split at h
  · rename_i d n
    obtain ⟨x, y, rfl, hv, hw⟩ := reps2 g r e
    cases e2 : tyName d with
    | none => rw [e2] at h; cases h
    | some a =>
      rw [e2] at h
      simp only at h
      split at h
      · rename_i hn
        cases h
        have hy : y = .ty n := by
          rcases hw with hw | ⟨_, _, hw⟩
          · exact hw.toTy
          · exact hw.elim
        subst hy
        exact .inl ⟨x, .ty n, .type a, .type n, _, rfl, .ty n, tyX_of g.sub hv e2, kit_ty (isTy_kit a (tyName_mem e2) n hn), p.val g (.bl _) q⟩
      · cases h
  · rename_i d ts
    obtain ⟨x, y, rfl, hv, hw⟩ := reps2 g r e
    cases e2 : tyName d with
    | none => rw [e2] at h; cases h
    | some a =>
      rw [e2] at h
      simp only at h
      split at h
      · rename_i hn
        cases h
        rcases hw with hw | ⟨_, _, hw⟩
        · obtain ⟨b, vs, rfl, h1, h2⟩ := hw.toTup1
          obtain ⟨us, hp, hk⟩ := kitAny_of (tyName_mem e2) h2 hn
          rcases h1 with h1 | ⟨⟨oc, od, dt, sl⟩, its, n, h1, h3, h4, h5, h6⟩
          · exact .inr (.inl ⟨x, b, vs, .type a, us, _, rfl, g.sub _ _ h1, hp, tyX_of g.sub hv e2, hk, p.val g (.bl _) q⟩)
          · simp only at h3 h4
            subst h3 h4
            have e3 := ClsV.all hp h6
            refine .inr (.inr ⟨x, b, od, us, n, sl, .type a, _, rfl, ?_, tyX_of g.sub hv e2, hk, p.val g (.bl _) q⟩)
            rw [← e3]
            simpa using h1
        · exact hw.elim
      · cases h
  · cases h
end
end DL

set_option Elab.async false
set_option linter.all false
set_option autoImplicit false
set_option maxRecDepth 100000
set_option maxHeartbeats 2000000
namespace DL
open PySem L2 PySem.W PySem.Spec

/-! ### a def by its name -/
/-- the module's name x is a def that keeps the promise spd when all its parameters are given -/
def FnB (cl : Nat → Addr) (P : Program) (w : World) (K : Frag) (mg : Str → Option Value) (base : Heap) (k : Nat) (x : Str) (ps : List Str) (spd : SpD) : Prop :=
  ∃ f fd, mg x = some (.ref f) ∧ keepIn K (.ref f) = true ∧ Binds K fd ps [] ∧ FnG cl P w K mg base k f fd ps spd
section
variable {cl : Nat → Addr} {X : Cx} {W : WX} {j k : Nat} {ps : List Str} {spd : SpD} {x : Str} {p pos : Pos} {e : Expr} {es : List Expr} {α : DTA}
theorem d_fn (c : Cap X W k) (G : FnB cl X.prog X.w X.K X.mg X.base j x ps spd) (hj : j ≤ k) (hg : Gl X x) (ha : DA cl X W (e :: es) α)
    (hdb : (x == ("__debug__" : Str)) = false := by decide) (he : starEach (e :: es) X.env = (false, eval e X.env) :: starEach es X.env := by rfl) (hpl : (backTo pos (starEach es X.env)).any (·.1) = false := by rfl) :
    DE cl X W (.Call (.Name x p) (e :: es) [] pos) (dCall spd [] α) := by
  obtain ⟨f, fd, h1, h2, h3, h4⟩ := G
  exact d_call c (h4.mono hj) hg h1 h2 h3 .nil (fun _ => .nil) ha hdb he hpl
theorem d_fn0 (c : Cap X W k) (G : FnB cl X.prog X.w X.K X.mg X.base j x ps spd) (hj : j ≤ k) (hg : Gl X x) (hdb : (x == ("__debug__" : Str)) = false := by decide) :
    DE cl X W (.Call (.Name x p) [] [] pos) (dCall spd [] dNil) := by
  obtain ⟨f, fd, h1, h2, h3, h4⟩ := G
  exact d_call0 c (h4.mono hj) hg h1 h2 h3 .nil (fun _ => .nil) hdb
theorem d_bltn {v : V} {u : Value} {d : D} (hg : Gl X x) (hm : X.mg x = none) (hv : bootBuiltins x = some u) (r : RelV v u) (rd : ∀ F, Rep X.K cl F v d) (hn : x ≠ "__name__" := by decide) (hd : (x == ("__debug__" : Str)) = false := by decide) : DE cl X W (.Name x pos) (dC d) :=
  d_c (pe_bltn hg hm hv r hn hd) rd
theorem d_ty {n : String} (hg : Gl X x) (hm : X.mg x = none) (hv : bootBuiltins x = some (.type n)) (hn : x ≠ "__name__" := by decide) (hd : (x == ("__debug__" : Str)) = false := by decide) : DE cl X W (.Name x pos) (dC (.ty n)) :=
  d_bltn (v := .ty n) hg hm hv rfl (fun _ => .ty n) hn hd
theorem d_globI {i : Int} (hg : Gl X x) (hm : ∃ t, X.mg x = some (.int i t)) (hd : (x == ("__debug__" : Str)) = false := by decide) : DE cl X W (.Name x pos) (dC (.int i)) := by
  obtain ⟨t, h⟩ := hm
  exact d_c (v := .int i) (pe_glob hg h ⟨t, rfl⟩ hd) fun _ => .int i
theorem d_globS {z : Str} (hg : Gl X x) (hm : ∃ t, X.mg x = some (.str z t)) (hd : (x == ("__debug__" : Str)) = false := by decide) : DE cl X W (.Name x pos) (dC (.str z)) := by
  obtain ⟨t, h⟩ := hm
  exact d_c (v := .str z) (pe_glob hg h ⟨t, rfl⟩ hd) fun _ => .str z
end
/-- a def's promise from its place in the text, its body's rules and its pure part -/
theorem fnB_of {cl : Nat → Addr} {P : Program} {w : World} {K : Frag} {mg : Str → Option Value} {base : Heap} {k : Nat} {x qual : Str} {params : Arguments} {body : List Stmt} {scope : Scope} {N ps : List Str} {spd : SpD} {f : Addr} {t : DTS}
    (F : ∃ fd, FunD K x qual params body scope [] [] f fd) (hm : mg x = some (.ref f)) (S : FnScope N ps scope)
    (hb : ∀ (kV doc pm : Value) (an : Option Addr) (cdv ct : Value) (us : List Value), us.length = ps.length → bindArgs (fnOf x qual params body scope .none kV doc pm an cdv ct) ⟨us, []⟩ = pure (ps.zip us))
    (hbody : ∀ (cdv : Value) (A : Around) (outer : List PySem.Env) (s : Shared) (H : Hp) (E : XK), Cap (cxOf (L2.CX P w) P w K mg base N qual scope f cdv A outer s H E) (fun cls d _ H => E cls d H) k →
      DSs cl (cxOf (L2.CX P w) P w K mg base N qual scope f cdv A outer s H E) (fun cls d _ H => E cls d H) body t)
    (hsp : ∀ ds M Q E, spd ds M Q E → ds.length = ps.length ∧ t (dEnds Q E) (startD N ds) M) : FnB cl P w K mg base (k + 1) x ps spd := by
  obtain ⟨fd, F⟩ := F
  exact ⟨f, fd, hm, F.kp, F.bindsN hb, fn_d F S t hbody hsp⟩

/-! ### the law's end -/
theorem good_script {K : Frag} {cl : Nat → Addr} {H : Hp} : Good K cl H H (fun _ => none) := ⟨fun _ _ e => e, fun _ _ e => by cases e⟩
/-- nothing but the law's argument is tracked: what the call leaves -/
theorem law_end {cl : Nat → Addr} {P : Program} {w : World} {K : Frag} {mg mb : Str → Option Value} {k : Nat} {fa a : Addr} {x : Str} {spd : SpD} {s0 : Shared} {vs : List Value} {ns : List Int} {H : Hp}
    (KX : K.In s0.heap) (hns : s0.heap.Ns mainGlobals mg) (hb : s0.heap.Ns builtinsNs mb) (hbb : ∀ x : Str, x ≠ "__name__" → mb x = bootBuiltins x) (hlim : s0.heap.NoLimit) (hg : s0.gens = #[])
    (ha : s0.heap.get? a = some { cls := .type "list", data := .seq vs.toArray }) (hr : RoomG k callerA) (F : ∀ base : Heap, K.In base → base.Ns mainGlobals mg → ∃ fd, Binds K fd [x] [] ∧ FnG cl P w K mg base k fa fd [x] spd)
    (hO : Only H) (hS : SqL K H a (ns.map V.int)) (hok : HOk P w H s0.heap) (hA : ∀ b, H b ≠ none → b = a) (hK : H a ≠ none → K.lookup a = none)
    (hsp : ∀ (M : Mem) (Qd : DV) (Ed : DEK), (∀ M', Qd (.bl true) M') → spd [.lst (ns.map D.int)] M Qd Ed) :
    codeAny (model P w) callerA (.call (.ref fa) ⟨[.ref a], []⟩) (fun r s' => r = .ok (.ret (.bool true)) ∧ OldK s0.heap s'.heap ∧ s'.os = s0.os ∧ PyProof.Rows.AllBare s'.gens) s0 := by
  have only : ∀ {b u}, H b = some u → b = a := fun {b u} e => hA b (by rw [e]; exact nofun)
  have free : ∀ {b o es ep}, s0.heap.get? b = some o → o.data = Data.dict es ep → H b = none := by
    intro b o es ep e1 e2
    cases q : H b with
    | none => rfl
    | some u =>
      rw [only q, ha] at e1
      cases e1
      cases e2
  have ns2 : ∀ {b m}, s0.heap.Ns b m → (hidT s0.heap H).Ns b m := by
    rintro b m ⟨o, es, ep, e1, e2, r⟩
    exact ⟨o, es, ep, hidT_get e1 (free e1 e2), e2, r⟩
  have kin : K.In (hidT s0.heap H) := by
    intro b o e
    refine hidT_get (KX b o e) ?_
    cases q : H b with
    | none => rfl
    | some u =>
      have z := only q
      subst z
      rw [hK (by rw [q]; exact nofun)] at e
      cases e
  obtain ⟨mc, l1, l2⟩ := hlim
  have md : Mod K mg (hidT s0.heap H) := ⟨kin, ns2 hns, ⟨mb, ns2 hb, hbb⟩, mc, ns2 l1, l2⟩
  have env : Env0 P w K mg (hidT s0.heap H) callerA [] s0 H := ⟨rfl, md, fun _ _ e => of_hidT e, Nat.le_of_eq (hidT_size _ _), trivial, fun b z => (by cases z), hok, .of_eq hg⟩
  have low : lower K cl spd [.ref a] H (fun v _ => v = .bl true) (fun _ _ _ => False) :=
    ⟨H, fun _ => none, [.lst (ns.map D.int)], fun d _ => d = .bl true, fun _ _ _ _ => False, good_script, .one (.lst hS (.of_ints ns)), hsp _ _ _ fun _ => rfl, fun v _ _ d _ _ _ r e => by subst e; exact r.toBl, fun _ _ _ _ _ _ _ _ _ _ z => z⟩
  obtain ⟨fd, hbd, G⟩ := F _ kin (ns2 hns)
  refine codeAny_mono (G.run callerA [] s0 H _ [.ref a] [.ref a] _ _ hr env (hbd s0 [.ref a] KX rfl) (.cons rfl .nil) low) fun r s' h => ?_
  cases r with
  | error e =>
    obtain ⟨_, _, _, _, _, _, _, _, _, _, _, _, z⟩ := (show L2.CX P w [] H s0 (fun _ _ _ => False) e s' from h)
    exact z.elim
  | ok fl =>
    cases fl with
    | ret u =>
      obtain ⟨v, H', os, bare, un, hok', rv, q⟩ := (show CE [] P w H s0 (fun v _ => v = .bl true) u s' from h)
      subst q
      cases rv
      refine ⟨rfl, OldK.of_keep fun b o e => ?_, os, bare⟩
      rcases hO b with z | ⟨ob, xs, z⟩
      · exact un.keep b o e z (fun y => by cases y) (fun y => by cases y)
      · have h1 := (hok b _ z).1
        have h2 := (hok' b _ (un.frzs b ob _ z)).1
        rw [e] at h1
        cases h1
        exact h2
    | next => exact False.elim h
    | brk => exact False.elim h
    | cont => exact False.elim h
set_option autoImplicit false in
theorem law_callD {cl : Nat → Addr} {P : Program} {w : World} {K : Frag} {mg mb : Str → Option Value} {k : Nat} {fa a : Addr} {x : Str} {spd : SpD} {s0 : Shared} {vs : List Value} {ns : List Int}
    (KX : K.In s0.heap) (hns : s0.heap.Ns mainGlobals mg) (hb : s0.heap.Ns builtinsNs mb) (hbb : ∀ x : Str, x ≠ "__name__" → mb x = bootBuiltins x) (hlim : s0.heap.NoLimit) (hg : s0.gens = #[])
    (ha : s0.heap.get? a = some { cls := .type "list", data := .seq vs.toArray }) (hi : PyProof.Rows.IntsAre vs ns) (hl : ns.length ≤ sizeLine) (hr : RoomG k callerA) (F : ∀ base : Heap, K.In base → base.Ns mainGlobals mg → ∃ fd, Binds K fd [x] [] ∧ FnG cl P w K mg base k fa fd [x] spd)
    (hsp : ∀ (M : Mem) (Qd : DV) (Ed : DEK), (∀ M', Qd (.bl true) M') → spd [.lst (ns.map D.int)] M Qd Ed) :
    codeAny (model P w) callerA (.call (.ref fa) ⟨[.ref a], []⟩) (fun r s' => r = .ok (.ret (.bool true)) ∧ OldK s0.heap s'.heap ∧ s'.os = s0.os ∧ PyProof.Rows.AllBare s'.gens) s0 := by
  have hv := vals_ints hi
  have hle : vs.length ≤ sizeLine := by rw [hi.length]; exact hl
  cases hk : K.lookup a with
  | some o =>
    have e := KX a o hk
    rw [ha] at e
    cases e
    exact law_end (H := fun _ => none) KX hns hb hbb hlim hg ha hr F (fun _ => .inl rfl) (.inr ⟨_, vs.toArray, _, hk, rfl, rfl, rfl, by simpa using hle, by simpa using hv⟩) (fun _ _ z => by cases z) (fun _ z => (z rfl).elim) (fun z => (z rfl).elim) hsp
  | none =>
    let o : Obj := { cls := .type "list", data := .seq vs.toArray }
    have at_ : upd (fun _ => none) a (.frz o (.lst (ns.map V.int))) a = some (.frz o (.lst (ns.map V.int))) := upd_same
    have off : ∀ {b}, b ≠ a → upd (fun _ => none) a (.frz o (.lst (ns.map V.int))) b = none := fun h => upd_ne h
    refine law_end (H := upd (fun _ => none) a (.frz o (.lst (ns.map V.int)))) KX hns hb hbb hlim hg ha hr F (fun b => ?_) (.inl (.inr ⟨o, at_⟩)) (fun b u z => ?_) (fun b z => ?_) (fun _ => hk) hsp
    · by_cases h : b = a
      · subst h; exact .inr ⟨_, _, at_⟩
      · exact .inl (off h)
    · by_cases h : b = a
      · subst h
        rw [at_] at z
        cases z
        exact ⟨ha, by rw [List.length_map]; exact hl, vs, _, hv, ha⟩
      · rw [off h] at z
        cases z
    · by_cases h : b = a
      · exact h
      · exact (z (off h)).elim
theorem walk_D {l : OpenLaw} {n k : Nat} {q : Program} {loose : List Str} {XP : (Str → Option Value) → Heap → Prop} {YP : World → Heap → Prop} {d : DefRec} {x : Str}
    (hn : l.most = some n) (hn2 : n ≤ sizeLine) (hdf : d.params.defaults = []) (hr : RoomG k callerA)
    (F : ∀ (w : World) (mg : Str → Option Value) (fa : Addr) (h : Heap), YP w h → h.Ns mainGlobals mg → mg d.name = some (.ref fa) →
      ∃ (cl : Nat → Addr) (K : Frag) (spd : SpD), K.In h ∧
        (∀ (ns : List Int) (M : Mem) (Qd : DV) (Ed : DEK), ns.length ≤ n → (∀ M', Qd (.bl true) M') → spd [.lst (ns.map D.int)] M Qd Ed) ∧
        ∀ base : Heap, K.In base → base.Ns mainGlobals mg → ∃ fd, Binds K fd [x] [] ∧ FnG cl l.prog w K mg base k fa fd [x] spd) :
    WalkO q loose XP YP l.row.toRowW d [] (fun f vs => PySem.call f vs) := by
  refine Att.attach_call hn hdf fun w s₀ s₁ mg mb fa o pm cd doc a vs ns G Y ho hd hcd hmg hobj hints hlen hg => ?_
  obtain ⟨cl, K, spd, KX, hsp, hF⟩ := F w mg fa _ Y G.T.g hmg
  exact law_callD KX G.T.g G.T.b G.T.builtins G.T.nolimit hg hobj hints (Nat.le_trans hlen hn2) hr hF (fun M Qd Ed h => hsp ns M Qd Ed hlen h)
end DL

set_option Elab.async false
set_option linter.all false
set_option autoImplicit false
namespace DL
open PySem L2
/-! ### simp's rows -/
@[simp] theorem size_line : sizeLine = 16777216 := sizeLine_eq
@[simp] theorem and_flat (a b c : Prop) : ((a ∧ b) ∧ c) = (a ∧ b ∧ c) := propext and_assoc
section
variable {M : Mem} {i j : Int} {b : Bool} {x y : Str} {xs ys : List D} {d e : D} {a : Addr}
@[simp] theorem vw_non : vw M .non = .non := rfl
@[simp] theorem vw_bl : vw M (.bl b) = .bl b := rfl
@[simp] theorem vw_int : vw M (.int i) = .int i := rfl
@[simp] theorem vw_str : vw M (.str x) = .str x := rfl
@[simp] theorem vw_byt {z : Array UInt8} : vw M (.byt z) = .byt z := rfl
@[simp] theorem vw_ty {n : String} : vw M (.ty n) = .ty n := rfl
@[simp] theorem vw_lst : vw M (.lst xs) = .lst xs := rfl
@[simp] theorem vw_tup : vw M (.tup xs) = .tup xs := rfl
@[simp] theorem vw_dK {ks : List Key} : vw M (.dK ks xs) = .dK ks xs := rfl
@[simp] theorem vw_dT {ks : List (List Key)} : vw M (.dT ks xs) = .dT ks xs := rfl
@[simp] theorem vw_obj {c : Nat} {ns : List Str} : vw M (.obj c ns xs) = .obj c ns xs := rfl
theorem vw_ref (h : M a = some d) : vw M (.ref a) = d := by show (M a).getD _ = d; rw [h]; rfl
@[simp] theorem addD_int : addD (.int i) (.int j) = some (.int (i + j)) := rfl
@[simp] theorem addD_lst (h : xs.length + ys.length ≤ 16777216) : addD (.lst xs) (.lst ys) = some (.lst (xs ++ ys)) := if_pos (by rw [sizeLine_eq]; exact h)
@[simp] theorem addD_tup (h : xs.length + ys.length ≤ 16777216) : addD (.tup xs) (.tup ys) = some (.tup (xs ++ ys)) := if_pos (by rw [sizeLine_eq]; exact h)
@[simp] theorem addD_str (h : x.length + y.length ≤ 16777216) : addD (.str x) (.str y) = some (.str (x ++ y)) := if_pos (by rw [sizeLine_eq]; exact h)
@[simp] theorem mulD_int (h : (-18446744073709551616 < i ∧ i < 18446744073709551616) ∨ (-18446744073709551616 < j ∧ j < 18446744073709551616)) : mulD (.int i) (.int j) = some (.int (i * j)) := if_pos h
@[simp] theorem fdivD_int (h : 0 < j) (h2 : j < 1000000000000000000000000000000000000) : fdivD (.int i) (.int j) = some (.int (i / j)) := if_pos ⟨h, Int.lt_trans h2 (by decide)⟩
@[simp] theorem modD_int (h : 0 < j) : modD (.int i) (.int j) = some (.int (i % j)) := if_pos h
@[simp] theorem absF_int : absF [.int i] = some (.int (if i < 0 then -i else i)) := rfl
@[simp] theorem intF_int : intF [.int i] = some (.int i) := rfl
@[simp] theorem intF_bl : intF [.bl b] = some (.int (if b then 1 else 0)) := rfl
@[simp] theorem vw_upd : vw (updM M a d) (.ref a) = d := by show (updM M a d a).getD _ = d; rw [updM_same]; rfl
@[simp] theorem upd_at : updM M a d a = some d := updM_same
@[simp] theorem powD_int : powD (.int i) (.int j) = if 0 ≤ j ∧ j ≤ 1000000 ∧ i.natAbs < 2 ^ 64 then some (.int (i ^ j.toNat)) else none := rfl
@[simp] theorem ixD_lst : ixD (.lst xs) (.int i) = atI xs i := rfl
@[simp] theorem ixD_tup : ixD (.tup xs) (.int i) = atI xs i := rfl
@[simp] theorem slD_lst {lo hi : Option Int} : slD (.lst xs) lo hi = some (.lst (cutD xs lo hi)) := rfl
@[simp] theorem slD_tup {lo hi : Option Int} : slD (.tup xs) lo hi = some (.tup (cutD xs lo hi)) := rfl
@[simp] theorem lenF_lst : lenF [.lst xs] = some (.int xs.length) := rfl
@[simp] theorem lenF_tup : lenF [.tup xs] = some (.int xs.length) := rfl
@[simp] theorem minF_2 : minF [.int i, .int j] = some (.int (if j < i then j else i)) := rfl
@[simp] theorem maxF_2 : maxF [.int i, .int j] = some (.int (if j > i then j else i)) := rfl
@[simp] theorem minF_l : minF [.lst xs] = (intsOf xs).bind fun ns => ns.min?.map D.int := rfl
@[simp] theorem maxF_l : maxF [.lst xs] = (intsOf xs).bind fun ns => ns.max?.map D.int := rfl
@[simp] theorem intsOf_nil : intsOf [] = some [] := rfl
@[simp] theorem intsOf_cons : intsOf (.int i :: xs) = (intsOf xs).map (i :: ·) := rfl
@[simp] theorem intsOf_ints (ns : List Int) : intsOf (ns.map D.int) = some ns := intsOf_map ns
/-- items by place -/
theorem atI_at {α : Type} {l : List α} {k : Int} (h0 : 0 ≤ k) (h1 : k < l.length) : atI l k = l[k.toNat]? := by
  obtain ⟨n, rfl⟩ := Int.eq_ofNat_of_zero_le h0
  have hn : n < l.length := by omega
  rw [Int.toNat_natCast, List.getElem?_eq_getElem hn]
  exact atI_nat (List.getElem?_eq_getElem hn)
@[simp] theorem atI_0 {α : Type} {u : α} {l : List α} : atI (u :: l) 0 = some u := atI_nat (j := 0) rfl
@[simp] theorem atI_1 {α : Type} {u v : α} {l : List α} : atI (u :: v :: l) 1 = some v := atI_nat (j := 1) rfl
@[simp] theorem atI_2 {α : Type} {u v w : α} {l : List α} : atI (u :: v :: w :: l) 2 = some w := atI_nat (j := 2) rfl
@[simp] theorem atI_3 {α : Type} {u v w z : α} {l : List α} : atI (u :: v :: w :: z :: l) 3 = some z := atI_nat (j := 3) rfl
@[simp] theorem atI_4 {α : Type} {u v w z y : α} {l : List α} : atI (u :: v :: w :: z :: y :: l) 4 = some y := atI_nat (j := 4) rfl
/-! equal data -/
theorem eqP_self {p : PyData} (h : toPy d = some p) (hs : SeqAt.shaped p = true) : eqP d d = some true := by
  unfold eqP
  rw [h]
  simp only [hs, Bool.and_self, if_true]
  rw [SeqAt.eqv_refl_plain p (PyData.plain_of_canLay0 p (SeqAt.canLay_of_shaped hs))]
@[simp] theorem eqD_tup : eqD (.tup xs) (.tup ys) = (eqP (.tup xs) (.tup ys)).map D.bl := rfl
@[simp] theorem neD_tup : neD (.tup xs) (.tup ys) = (eqP (.tup xs) (.tup ys)).map fun b => D.bl !b := rfl
@[simp] theorem eqD_lst : eqD (.lst xs) (.lst ys) = (eqP (.lst xs) (.lst ys)).map D.bl := rfl
@[simp] theorem neD_lst : neD (.lst xs) (.lst ys) = (eqP (.lst xs) (.lst ys)).map fun b => D.bl !b := rfl
@[simp] theorem eqD_int : eqD (.int i) (.int j) = some (.bl (i == j)) := rfl
@[simp] theorem neD_int : neD (.int i) (.int j) = some (.bl (!(i == j))) := rfl
@[simp] theorem eqD_str : eqD (.str x) (.str y) = some (.bl (x == y)) := rfl
@[simp] theorem neD_str : neD (.str x) (.str y) = some (.bl (!(x == y))) := rfl
@[simp] theorem eqD_bl {c : Bool} : eqD (.bl b) (.bl c) = some (.bl (b == c)) := rfl
@[simp] theorem neD_bl {c : Bool} : neD (.bl b) (.bl c) = some (.bl (!(b == c))) := rfl
end
end DL

set_option Elab.async false
set_option linter.all false
set_option maxRecDepth 100000
set_option maxHeartbeats 4000000
namespace LawProof
open PySem L2 DL

/-! ### the source of draws -/
/-- a source of draws stands at r -/
def RngOk (M : Mem) (r : Addr) : Prop := ∃ a b c : Int, M r = some (.lst [.int a, .int b, .int c]) ∧ 0 ≤ a ∧ 0 ≤ b ∧ b < 2147483629 ∧ 0 ≤ c
/-- only the source at r has been turned -/
structure RngTo (M M' : Mem) (r : Addr) : Prop where
  ok : RngOk M' r
  same : ∀ b, b ≠ r → M' b = M b
theorem RngTo.trans {M M1 M2 : Mem} {r : Addr} (h : RngTo M M1 r) (k : RngTo M1 M2 r) : RngTo M M2 r := ⟨k.ok, fun b hb => (k.same b hb).trans (h.same b hb)⟩
theorem RngTo.refl {M : Mem} {r : Addr} (h : RngOk M r) : RngTo M M r := ⟨h, fun _ _ => rfl⟩
theorem RngTo.put {M : Mem} {r : Addr} {a b c : Int} (ha : 0 ≤ a) (hb : 0 ≤ b) (hb2 : b < 2147483629) (hc : 0 ≤ c) : RngTo M (updM M r (.lst [.int a, .int b, .int c])) r :=
  ⟨⟨a, b, c, updM_same, ha, hb, hb2, hc⟩, fun _ h => updM_ne h⟩

def sp_is_integer : SpD := fun ds M Q _ => ∃ d n, ds = [d] ∧ tyName (vw M d) = some n ∧ Q (.bl (n == "int")) M

abbrev N_is_integer : List Str := ["thing"]
def t_is_integer : DTS := (dRet (dAndV (dCB isiF (dCons (dVar 0) (dCons (dC (.ty "int")) dNil))) (dNotV (dCB isiF (dCons (dVar 0) (dCons (dC (.ty "bool")) dNil))))))

theorem pure_is_integer : ∀ ds M Q E, sp_is_integer ds M Q E → ds.length = 1 ∧ t_is_integer (dEnds Q E) (startD N_is_integer ds) M := by
  rintro ds M Q E ⟨d, n, rfl, h, q⟩
  refine ⟨rfl, ?_⟩
  have hn := tyName_mem h
  simp [t_is_integer, isiF, h]
  simp [tyNames] at hn
  rcases hn with rfl | rfl | rfl | rfl | rfl | rfl | rfl | rfl <;> simpa [tyNames, isTy] using q

def sp_check_free : SpD := fun ds M Q _ => ∃ i : Int, ds = [.int i] ∧ 0 ≤ i ∧ i ≤ 10 ^ 30 ∧ Q .non M

abbrev N_check_free : List Str := ["free"]
def t_check_free : DTS := (dIf (dOr (dNot (dTest (dCall sp_is_integer [] (dCons (dVar 0) dNil)))) (dNot (dTest (dChain leD leD (dC (.int 0)) (dVar 0) (dC (.int 1000000000000000000000000000000)))))) dNever dNext)

theorem pure_check_free : ∀ ds M Q E, sp_check_free ds M Q E → ds.length = 1 ∧ t_check_free (dEnds Q E) (startD N_check_free ds) M := by
  rintro ds M Q E ⟨i, rfl, h0, h1, q⟩
  refine ⟨rfl, ?_⟩
  simp [t_check_free, sp_is_integer, tyName, h0, q]
  exact h1

/-- how long a gap lasts -/
def lastN (n : Nat) : Nat := if h : n < 2 then 0 else lastN ((n - 2) / 3) + 1
termination_by n
decreasing_by omega
def lastI (i : Int) : Int := (lastN i.toNat : Int)
theorem lastI_small {i : Int} (h : i < 2) : lastI i = 0 := by
  unfold lastI
  rw [lastN, dif_pos (by omega)]
  rfl
theorem lastI_big {i : Int} (h : 2 ≤ i) : lastI i = lastI ((i - 2) / 3) + 1 := by
  unfold lastI
  rw [lastN, dif_neg (by omega)]
  have e : ((i - 2) / 3).toNat = (i.toNat - 2) / 3 := by omega
  rw [e]
  omega
theorem lastI_nn (i : Int) : 0 ≤ lastI i := Int.natCast_nonneg _
theorem lastN_mono : ∀ (n m : Nat), n ≤ m → lastN n ≤ lastN m := by
  intro n
  induction n using Nat.strongRecOn with
  | _ n ih =>
    intro m h
    by_cases h2 : n < 2
    · rw [lastN, dif_pos h2]; exact Nat.zero_le _
    · rw [lastN, dif_neg h2]
      rw [lastN.eq_def m, dif_neg (by omega)]
      have := ih ((n - 2) / 3) (by omega) ((m - 2) / 3) (by omega)
      omega
theorem lastI_mono {i j : Int} (h : i ≤ j) : lastI i ≤ lastI j := Int.ofNat_le.mpr (lastN_mono _ _ (by omega))
def sp_lasting : SpD := fun ds M Q _ => ∃ i : Int, ds = [.int i] ∧ 0 ≤ i ∧ i ≤ 10 ^ 30 ∧ Q (.int (lastI i)) M

abbrev N_lasting : List Str := ["free", "found"]
def l_lasting_1 : DTS := (dSeq (dAsg (dOp fdivD (dOp subD (dVar 0) (dC (.int 2))) (dC (.int 3))) (gN 0))
    (dAug 1 augI (dC (.int 1))))
def t_lasting : DTS := (dSeq (dDrop (dCall sp_check_free [] (dCons (dVar 0) dNil)))
    (dSeq (dAsg (dC (.int 0)) (gN 1))
    (dSeq (dWhile (dTest (dOp geD (dVar 0) (dC (.int 2)))) l_lasting_1)
    (dRet (dVar 1)))))

theorem pure_lasting : ∀ ds M Q E, sp_lasting ds M Q E → ds.length = 1 ∧ t_lasting (dEnds Q E) (startD N_lasting ds) M := by
  rintro ds M Q E ⟨i, rfl, h0, h1, q⟩
  refine ⟨rfl, ?_⟩
  simp [t_lasting, sp_check_free, h0]
  refine ⟨h1, ?_⟩
  refine ⟨fun m ρ M' => ∃ f k : Int, ρ = [some (.int f), some (.int k)] ∧ 0 ≤ f ∧ m = f.toNat ∧ k + lastI f = lastI i ∧ M' = M, ⟨_, i, 0, rfl, h0, rfl, by omega, rfl⟩, ?_⟩
  rintro m ρ M' ⟨f, k, rfl, hf, rfl, he, rfl⟩
  by_cases h2 : 2 ≤ f
  · simp [h2, l_lasting_1]
    refine ⟨fun ρ' M'' => ρ' = [some (.int ((f - 2) / 3)), some (.int (k + 1))] ∧ M'' = M', ?_, ?_⟩
    · rintro ρ' M'' ⟨rfl, rfl⟩
      refine ⟨_, ?_, _, _, rfl, by omega, rfl, ?_, rfl⟩
      · omega
      · rw [lastI_big h2] at he; omega
    · simp
  · simp [h2]
    rw [lastI_small (by omega)] at he
    have : k = lastI i := by omega
    rw [this]
    exact q

def sp_placed : SpD := fun ds M Q _ => ∃ i : Int, ds = [.int i] ∧ 0 ≤ i ∧ i ≤ 10 ^ 30 ∧ (i < 2 → Q .non M) ∧ (2 ≤ i → Q (.tup [.int ((i - 2) / 3), .int ((i - 2) / 3)]) M)

abbrev N_placed : List Str := ["free", "part"]
def t_placed : DTS := (dSeq (dDrop (dCall sp_check_free [] (dCons (dVar 0) dNil)))
    (dSeq (dIf (dTest (dOp ltD (dVar 0) (dC (.int 2)))) (dRet (dC .non)) dNext)
    (dSeq (dAsg (dOp fdivD (dOp subD (dVar 0) (dC (.int 2))) (dC (.int 3))) (gN 1))
    (dRet (dTup (dCons (dVar 1) (dCons (dVar 1) dNil)))))))

theorem pure_placed : ∀ ds M Q E, sp_placed ds M Q E → ds.length = 1 ∧ t_placed (dEnds Q E) (startD N_placed ds) M := by
  rintro ds M Q E ⟨i, rfl, h0, h1, q1, q2⟩
  refine ⟨rfl, ?_⟩
  by_cases h2 : i < 2
  · simp [t_placed, sp_check_free, h0, h2, q1 h2]
    exact h1
  · simp [t_placed, sp_check_free, h0, h2, q2 (by omega)]
    exact h1

def sp__law_rng : SpD := fun ds M Q _ => ∃ i : Int, ds = [.int i] ∧ ∀ r M', M r = none → RngOk M' r → (∀ b, b ≠ r → M' b = M b) → Q (.ref r) M'

abbrev N__law_rng : List Str := ["_law_cell"]
def t__law_rng : DTS := (dRet (dLstM (dCons (dCB absF (dCons (dVar 0) dNil)) (dCons (dOp modD (dCB intF (dCons (dVar 0) dNil)) (dC (.int 2147483629))) (dCons (dC (.int 0)) dNil)))))

theorem pure__law_rng : ∀ ds M Q E, sp__law_rng ds M Q E → ds.length = 1 ∧ t__law_rng (dEnds Q E) (startD N__law_rng ds) M := by
  rintro ds M Q E ⟨i, rfl, q⟩
  refine ⟨rfl, ?_⟩
  simp (disch := first | (simp; done) | omega) [t__law_rng, dLstM]
  refine fun r hr => q r _ hr ⟨_, _, _, updM_same, ?_, ?_, ?_, ?_⟩ (fun b hb => updM_ne hb) <;> first | omega | (split <;> omega)

def sp__law_draw : SpD := fun ds M Q _ => ∃ (r : Addr) (n : Int), ds = [.ref r, .int n] ∧ RngOk M r ∧ 0 < n ∧ n < 10 ^ 30 ∧ ∀ k M', 0 ≤ k → k < n → RngTo M M' r → Q (.int k) M'

abbrev N__law_draw : List Str := ["_law_rng_here", "_law_limit", "_law_digit", "_law_mixed"]
def t__law_draw : DTS := (dSeq (dIf (dTest (dOp geD (dOp ixD (dVar 0) (dC (.int 0))) (dOp powD (dC (.int 10)) (dC (.int 18))))) (dSeq (dAsg (dOp modD (dCB intF (dCons (dOp ixD (dVar 0) (dC (.int 0))) dNil)) (dVar 1)) (gN 2))
    (dSeq (dAsg (dOp fdivD (dOp ixD (dVar 0) (dC (.int 0))) (dVar 1)) (gSubL (dVar 0) (dC (.int 0))))
    (dRet (dVar 2)))) dNext)
    (dSeq (dAsg (dOp addD (dOp ixD (dVar 0) (dC (.int 2))) (dC (.int 1))) (gSubL (dVar 0) (dC (.int 2))))
    (dSeq (dAsg (dOp modD (dCB intF (dCons (dOp mulD (dOp addD (dOp addD (dOp ixD (dVar 0) (dC (.int 1))) (dOp mulD (dC (.int 7919)) (dOp ixD (dVar 0) (dC (.int 2))))) (dC (.int 1))) (dC (.int 48271))) dNil)) (dC (.int 2147483647))) (gN 3))
    (dSeq (dAsg (dOp modD (dCB intF (dCons (dOp mulD (dVar 3) (dOp addD (dOp fdivD (dVar 3) (dC (.int 1013))) (dC (.int 69621)))) dNil)) (dC (.int 2147483587))) (gN 3))
    (dRet (dOp modD (dCB intF (dCons (dOp modD (dCB intF (dCons (dOp addD (dOp fdivD (dVar 3) (dC (.int 7))) (dOp mulD (dOp modD (dCB intF (dCons (dVar 3) dNil)) (dC (.int 7919))) (dC (.int 40692)))) dNil)) (dC (.int 2147483399))) dNil)) (dVar 1)))))))

theorem pure__law_draw : ∀ ds M Q E, sp__law_draw ds M Q E → ds.length = 2 ∧ t__law_draw (dEnds Q E) (startD N__law_draw ds) M := by
  rintro ds M Q E ⟨r, n, rfl, ⟨a, b, c, hM, ha, hb, hb2, hc⟩, hn, hn2, q⟩
  refine ⟨rfl, ?_⟩
  by_cases ha2 : 1000000000000000000 ≤ a
  · simp (disch := first | (simp; done) | omega) [t__law_draw, vw_ref hM, ha2, hM, ixN]
    exact q _ _ (Int.emod_nonneg _ (by omega)) (Int.emod_lt_of_pos _ hn) (.put (Int.ediv_nonneg ha (by omega)) hb hb2 hc)
  · simp (disch := first | (simp; done) | omega) [t__law_draw, vw_ref hM, ha2, hM, ixN]
    exact q _ _ (Int.emod_nonneg _ (by omega)) (Int.emod_lt_of_pos _ hn) (.put ha hb hb2 (by omega))

def sp__law_pick : SpD := fun ds M Q _ => ∃ (r : Addr) (xs : List D), ds = [.ref r, .lst xs] ∧ RngOk M r ∧ xs ≠ [] ∧ xs.length < 1000 ∧ ∀ x M', x ∈ xs → RngTo M M' r → Q x M'

abbrev N__law_pick : List Str := ["_law_rng_here", "_law_items"]
def t__law_pick : DTS := (dRet (dOp ixD (dVar 1) (dCall sp__law_draw [] (dCons (dVar 0) (dCons (dCB lenF (dCons (dVar 1) dNil)) dNil)))))

theorem pure__law_pick : ∀ ds M Q E, sp__law_pick ds M Q E → ds.length = 2 ∧ t__law_pick (dEnds Q E) (startD N__law_pick ds) M := by
  rintro ds M Q E ⟨r, xs, rfl, hr, h0, h1, q⟩
  have hl : 0 < xs.length := List.length_pos_iff.mpr h0
  refine ⟨rfl, ?_⟩
  simp [t__law_pick, sp__law_draw]
  refine ⟨hr, by omega, by omega, fun k M' k0 k1 hM => ⟨xs[k.toNat]'(by omega), ?_, ?_⟩⟩
  · rw [atI_at k0 k1, List.getElem?_eq_getElem]
  · exact q _ _ (List.getElem_mem _) hM

def sp__law_next : SpD := fun ds M Q _ => ∃ (r : Addr) (p q w : Int), ds = [.ref r, .lst [.int p, .int p, .int q], .int w] ∧ RngOk M r ∧ p ≤ q ∧ 0 ≤ w ∧ w ≤ 4 ∧
  ∀ x M', (x = p ∨ (x = q ∧ 3 ≤ w)) → RngTo M M' r → Q (.int x) M'

abbrev N__law_next : List Str := ["_law_rng_here", "_law_parts", "_law_way"]
def t__law_next : DTS := (dSeq (dIf (dTest (dOp eqD (dVar 2) (dC (.int 0)))) (dRet (dCB minF (dCons (dVar 1) dNil))) dNext)
    (dRet (dIfE (dTest (dOp ltD (dVar 2) (dC (.int 4)))) (dOp ixD (dVar 1) (dOp subD (dVar 2) (dC (.int 1)))) (dCall sp__law_pick [] (dCons (dVar 0) (dCons (dVar 1) dNil))))))

theorem pure__law_next : ∀ ds M Q E, sp__law_next ds M Q E → ds.length = 3 ∧ t__law_next (dEnds Q E) (startD N__law_next ds) M := by
  rintro ds M Q E ⟨r, p, q, w, rfl, hr, hpq, h0, h1, k⟩
  refine ⟨rfl, ?_⟩
  have hw : w = 0 ∨ w = 1 ∨ w = 2 ∨ w = 3 ∨ w = 4 := by omega
  rcases hw with rfl | rfl | rfl | rfl | rfl
  · simp [t__law_next, List.min?]
    rw [Int.min_eq_left hpq]
    exact k _ _ (.inl rfl) (.refl hr)
  · simp [t__law_next]
    exact k _ _ (.inl rfl) (.refl hr)
  · simp [t__law_next]
    exact k _ _ (.inl rfl) (.refl hr)
  · simp [t__law_next]
    exact k _ _ (.inr ⟨rfl, by omega⟩) (.refl hr)
  · simp [t__law_next, sp__law_pick]
    refine ⟨hr, fun x M' hx hM => ?_⟩
    rcases hx with rfl | rfl
    · exact k _ _ (.inl rfl) hM
    · exact k _ _ (.inr ⟨rfl, by omega⟩) hM

theorem log2_small {i : Int} (h0 : 0 ≤ i) (h1 : i ≤ 10 ^ 30) : i.natAbs.log2 < 1920 := by
  have h2 : i.natAbs < 2 ^ 1920 := Nat.lt_of_le_of_lt (show i.natAbs ≤ 10 ^ 30 by omega) (by decide +kernel)
  exact PySem.Flt.log2_lt_of (by decide) h2
theorem shown_small {i : Int} (h0 : 0 ≤ i) (h1 : i ≤ 10 ^ 30) : (PyData.shown (.int i)).length ≤ 41 := by
  have e := int_text_length_le10 (a := i) (k := 40) (by decide) (Nat.lt_of_le_of_lt (show i.natAbs ≤ 10 ^ 30 by omega) (by decide +kernel))
  simp only [PyData.shown]
  show (Str.ofString (toString i)).length ≤ 41
  rw [ofString_length]
  exact e
theorem repr_pair {p q : Int} (h0 : 0 ≤ p) (h1 : p ≤ 10 ^ 30) (h2 : 0 ≤ q) (h3 : q ≤ 10 ^ 30) : ∃ s, reprF [.tup [.int p, .int q]] = some (.str s) := by
  have e1 := log2_small h0 h1
  have e2 := log2_small h2 h3
  have e3 : (PyData.shown (.tuple [.int p, .int q])).length ≤ sizeLine := by
    have e4 := shown_small h0 h1
    have e5 := shown_small h2 h3
    simp only [PyData.shown, PyData.shownAll] at e4 e5 ⊢
    refine Nat.le_trans (tupleText_len_le _) ?_
    simp only [List.map_cons, List.map_nil, List.sum_cons, List.sum_nil, List.length_cons, List.length_nil]
    rw [sizeLine_eq]
    omega
  refine ⟨PyData.shown (.tuple [.int p, .int q]), ?_⟩
  simp only [reprF, toPy, toPys, Option.map_some]
  rw [if_pos]
  simp [PyData.showable, PyData.showableAll, e1, e2, SeqAt.shaped, PyData.canLay0, PyData.canLayAll0, PyData.depth, PyData.depthAll]
  exact Nat.le_trans e3 (Nat.le_of_eq sizeLine_eq)
theorem eq_pair (p q : Int) : eqP (.tup [.int p, .int q]) (.tup [.int p, .int q]) = some true := by
  refine eqP_self (p := .tuple [.int p, .int q]) rfl ?_
  simp [SeqAt.shaped, PyData.canLay0, PyData.canLayAll0, PyData.depth, PyData.depthAll]
def sp__law_right : SpD := fun ds M Q _ => ∃ (r : Addr) (f w : Int), ds = [.ref r, .int f, .int w] ∧ RngOk M r ∧ 0 ≤ f ∧ f ≤ 10 ^ 30 ∧ 0 ≤ w ∧ w ≤ 4 ∧ ∀ M', RngTo M M' r → Q (.bl true) M'

abbrev N__law_right : List Str := ["_law_rng_here", "_law_free", "_law_way", "_law_here", "_law_turns", "_law_due", "_law_told", "_law_before", "_law_inside", "_law_parts"]
def l__law_right_1 : DTS := (dSeq (dAsg (dCall sp_placed [] (dCons (dVar 3) dNil)) (gN 6))
    (dSeq (dIf (dTest (dOp isNonD (dVar 6) (dC .non))) (dRet (dAndV (dOp ltD (dVar 3) (dC (.int 2))) (dAndV (dOp geD (dVar 4) (dVar 5)) (dOrV (dOp gtD (dVar 2) (dC (.int 0))) (dOp eqD (dVar 4) (dVar 5)))))) dNext)
    (dSeq (dAsg (dVar 6) (gT 2 (gsCons (gN 7) (gsCons (gN 8) gsNil))))
    (dSeq (dIf (dOr (dTest (dOp neD (dCB reprF (dCons (dVar 6) dNil)) (dCB reprF (dCons (dTup (dCons (dVar 7) (dCons (dVar 8) dNil))) dNil)))) (dOr (dNot (dTest (dCB isiF (dCons (dVar 6) (dCons (dC (.ty "tuple")) dNil))))) (dTest (dOp neD (dCall sp_placed [] (dCons (dVar 3) dNil)) (dVar 6))))) (dRet (dC (.bl false))) dNext)
    (dSeq (dAsg (dLst (dCons (dVar 7) (dCons (dVar 8) (dCons (dOp subD (dOp subD (dOp subD (dVar 3) (dC (.int 2))) (dVar 7)) (dVar 8)) dNil)))) (gN 9))
    (dSeq (dIf (dTest (dOp ltD (dCB minF (dCons (dVar 9) dNil)) (dC (.int 0)))) (dRet (dC (.bl false))) dNext)
    (dSeq (dPar 3 4 (dCons (dCall sp__law_next [] (dCons (dVar 0) (dCons (dVar 9) (dCons (dVar 2) dNil)))) (dCons (dOp addD (dVar 4) (dC (.int 1))) dNil)))
    (dIf (dAnd (dTest (dOp eqD (dVar 2) (dC (.int 4)))) (dTest (dOp geD (dVar 4) (dVar 5)))) (dRet (dC (.bl true))) dNext))))))))
def t__law_right : DTS := (dSeq (dPar3 3 4 5 (dCons (dVar 1) (dCons (dC (.int 0)) (dCons (dCall sp_lasting [] (dCons (dVar 1) dNil)) dNil))))
    (dSeq (dWhile (dTest (dOp leD (dVar 4) (dOp addD (dVar 5) (dC (.int 200))))) l__law_right_1)
    (dRet (dOp gtD (dVar 2) (dC (.int 0))))))

theorem pure__law_right : ∀ ds M Q E, sp__law_right ds M Q E → ds.length = 3 ∧ t__law_right (dEnds Q E) (startD N__law_right ds) M := by
  rintro ds M Q E ⟨r, f, w, rfl, hr, h0, h1, w0, w1, q⟩
  refine ⟨rfl, ?_⟩
  simp [t__law_right, sp_lasting, h0]
  refine ⟨h1, ?_⟩
  refine ⟨fun m ρ M' => ∃ (e k : Int) (o6 o7 o8 o9 : Option D), ρ = [some (.ref r), some (.int f), some (.int w), some (.int e), some (.int k), some (.int (lastI f)), o6, o7, o8, o9] ∧ 0 ≤ e ∧ e ≤ 10 ^ 30 ∧ 0 ≤ k ∧ m = e.toNat ∧
    lastI f ≤ k + lastI e ∧ (w ≤ 2 → lastI f = k + lastI e) ∧ RngTo M M' r, ⟨_, f, 0, none, none, none, none, rfl, h0, h1, by omega, rfl, by omega, fun _ => by omega, .refl hr⟩, ?_⟩
  rintro m ρ M' ⟨e, k, o6, o7, o8, o9, rfl, e0, e1, k0, rfl, hle, heq, hM⟩
  have e1' : e ≤ 1000000000000000000000000000000 := e1
  by_cases hk : k ≤ lastI f + 200
  · by_cases h2 : e < 2
    · have h3 : ¬ 2 ≤ e := by omega
      have hl := lastI_small h2
      simp [l__law_right_1, hk, sp_placed, e0, h2, h3, e1']
      refine ⟨⟨fun _ _ => False, fun _ _ z => z.elim⟩, Or.inr ⟨by omega, ?_⟩⟩
      by_cases hw : w ≤ 0
      · have : k = lastI f := by have := heq (by omega); omega
        refine Or.inl ⟨hw, ?_⟩
        rw [this, beq_self_eq_true]
        exact q M' hM
      · exact Or.inr ⟨by omega, q M' hM⟩
    · have h3 : 2 ≤ e := by omega
      obtain ⟨p, hp⟩ : ∃ p, (e - 2) / 3 = p := ⟨_, rfl⟩
      obtain ⟨u, hu⟩ : ∃ u, e - 2 - p - p = u := ⟨_, rfl⟩
      have b1 : 0 ≤ p := by omega
      have b2 : p ≤ u := by omega
      have b3 : u < e := by omega
      have b4 : p ≤ 10 ^ 30 := by omega
      obtain ⟨s, hs⟩ := repr_pair b1 b4 b1 b4
      have hmin : min p u = p := Int.min_eq_left b2
      have nb1 : ¬ p < 0 := by omega
      simp [l__law_right_1, hk, sp_placed, e0, h2, h3, e1', hp, hu, hs, isiF, tyName, tyNames, isTy, eq_pair, hmin, b1, nb1, List.min?, sp__law_next, b2, w0, w1, hM.ok]
      refine ⟨fun ρ' M'' => ∃ (x : Int) (o6 o7 o8 o9 : Option D), ρ' = [some (.ref r), some (.int f), some (.int w), some (.int x), some (.int (k + 1)), some (.int (lastI f)), o6, o7, o8, o9] ∧ (x = p ∨ (x = u ∧ 3 ≤ w)) ∧ RngTo M' M'' r, ?_, ?_⟩
      · rintro ρ' M'' ⟨x, o6, o7, o8, o9, rfl, hx, hM2⟩
        have hb := lastI_big h3
        rw [hp] at hb
        have hx2 : lastI p ≤ lastI x := by
          rcases hx with rfl | ⟨rfl, _⟩
          · exact Int.le_refl _
          · exact lastI_mono b2
        refine ⟨x.toNat, by omega, x, k + 1, ⟨o6, o7, o8, o9, rfl⟩, by omega, by omega, by omega, rfl, by omega, fun hw => ?_, hM.trans hM2⟩
        rcases hx with rfl | ⟨_, hw2⟩
        · have := heq hw; omega
        · omega
      · refine fun x M2 hx hM2 => ?_
        by_cases hw4 : w = 4
        · refine Or.inr ⟨hw4, ?_⟩
          by_cases hk2 : k + 1 < lastI f
          · exact Or.inl ⟨hk2, x, _, _, _, _, rfl, hx, hM2⟩
          · exact Or.inr ⟨by omega, q _ (hM.trans hM2)⟩
        · exact Or.inl ⟨hw4, x, _, _, _, _, rfl, hx, hM2⟩
  · simp [hk]
    have hw : 0 < w := by
      have := lastI_nn e
      rcases Int.lt_or_le 0 w with h | h
      · exact h
      · have := heq (by omega); omega
    rw [decide_eq_true hw]
    exact q M' hM

def sp_law : SpD := fun ds M Q _ => ∃ ns : List Int, ds = [.lst (ns.map D.int)] ∧ ns.length ≤ 63 ∧ ∀ M', Q (.bl true) M'

abbrev N_law : List Str := ["_law_script", "_law_cell", "_law_rng_here", "_law_turn", "_law_free"]
def l_law_1 : DTS := (dSeq (dAsg (dCall sp__law_pick [] (dCons (dVar 2) (dCons (dLst (dCons (dCall sp__law_draw [] (dCons (dVar 2) (dCons (dC (.int 30)) dNil))) (dCons (dCall sp__law_draw [] (dCons (dVar 2) (dCons (dC (.int 1000)) dNil))) (dCons (dOp powD (dC (.int 10)) (dC (.int 9))) (dCons (dOp powD (dC (.int 10)) (dC (.int 30))) (dCons (dOp subD (dOp powD (dC (.int 3)) (dC (.int 40))) (dC (.int 1))) dNil)))))) dNil))) (gN 4))
    (dIf (dNot (dTest (dCall sp__law_right [] (dCons (dVar 2) (dCons (dVar 4) (dCons (dCall sp__law_draw [] (dCons (dVar 2) (dCons (dC (.int 5)) dNil))) dNil)))))) (dRet (dC (.bl false))) dNext))
def l_law_2 : DTS := (dSeq (dAsg (dCall sp__law_rng [] (dCons (dVar 1) dNil)) (gN 2))
    (dFor (iR1 (dC (.int 8))) (gN 3) l_law_1))
def t_law : DTS := (dSeq (dFor (iL (dSl slD (dOp addD (dVar 0) (dLst (dCons (dC (.int 0)) dNil))) dNoPart (dPart (dC (.int 3))))) (gN 1) l_law_2)
    (dRet (dC (.bl true))))

theorem cutD_map {α : Type} (f : α → D) (l : List α) (lo hi : Option Int) : ∃ m : List α, cutD (l.map f) lo hi = m.map f := by
  unfold cutD
  exact ⟨_, by rw [← List.map_drop, ← List.map_take]⟩
/-- eight gaps -/
theorem law_inner {S : D} {r : Addr} {E : DEnds} (hE : ∀ (o1 o3 o4 : Option D) M, E.nx [some S, o1, some (.ref r), o3, o4] M) : ∀ (xs : List D) (o1 o3 o4 : Option D) (M : Mem), RngOk M r → forD (gN 3) l_law_1 xs E [some S, o1, some (.ref r), o3, o4] M
  | [], o1, o3, o4, M, _ => hE o1 o3 o4 M
  | x :: xs, o1, o3, o4, M, hr => by
    have ih := law_inner hE xs
    simp (disch := first | (simp; done) | omega) [forD, l_law_1, sp__law_draw, sp__law_pick, hr]
    refine fun k1 M1 k1a k1b h1 => ⟨h1.ok, fun k2 M2 k2a k2b h2 => ⟨h2.ok, fun d M3 hd h3 => ?_⟩⟩
    obtain ⟨f, rfl, f0, f1⟩ : ∃ f : Int, d = .int f ∧ 0 ≤ f ∧ f ≤ 10 ^ 30 := by
      rcases hd with rfl | rfl | rfl | rfl | rfl
      · exact ⟨_, rfl, k1a, by omega⟩
      · exact ⟨_, rfl, k2a, by omega⟩
      · exact ⟨_, rfl, by decide, by decide⟩
      · exact ⟨_, rfl, by decide, by decide⟩
      · exact ⟨_, rfl, by decide, by decide⟩
    refine ⟨h3.ok, fun k M4 ka kb h4 => ?_⟩
    simp [sp__law_right, h4.ok, f0, ka]
    exact ⟨f1, by omega, fun M5 h5 => ih _ _ _ M5 h5.ok⟩
theorem law_outer {S : D} {E : DEnds} (hE : ∀ (o1 o2 o3 o4 : Option D) M, E.nx [some S, o1, o2, o3, o4] M) : ∀ (ms : List Int) (o1 o2 o3 o4 : Option D) (M : Mem), forD (gN 1) l_law_2 (ms.map D.int) E [some S, o1, o2, o3, o4] M
  | [], o1, o2, o3, o4, M => hE o1 o2 o3 o4 M
  | m :: ms, o1, o2, o3, o4, M => by
    have ih := law_outer hE ms
    simp [forD, l_law_2, sp__law_rng, dFor]
    exact fun r M1 hr hM _ => law_inner (E := { E with nx := forD (gN 1) l_law_2 (ms.map D.int) E, ct := _, bk := _ }) (fun o1 o3 o4 M => ih o1 (some (.ref r)) o3 o4 M) _ _ _ _ _ hM
theorem pure_law : ∀ ds M Q E, sp_law ds M Q E → ds.length = 1 ∧ t_law (dEnds Q E) (startD N_law ds) M := by
  rintro ds M Q E ⟨ns, rfl, hl, q⟩
  refine ⟨rfl, ?_⟩
  simp (disch := first | (simp; done) | (simp; omega)) [t_law, dFor]
  obtain ⟨ms, hm⟩ := cutD_map D.int (ns ++ [0]) none (some 3)
  rw [List.map_append] at hm
  simp only [List.map_cons, List.map_nil] at hm
  rw [hm]
  exact law_outer (fun _ _ _ _ M => q M) ms _ _ _ _ M
theorem law_sp : ∀ (ns : List Int) (M : Mem) (Qd : DV) (Ed : DEK), ns.length ≤ 63 → (∀ M', Qd (.bl true) M') → sp_law [.lst (ns.map D.int)] M Qd Ed := fun ns _ _ _ h q => ⟨ns, rfl, h, q⟩

end LawProof

set_option Elab.async false
set_option linter.all false
set_option maxRecDepth 100000
set_option maxHeartbeats 4000000
namespace LawProof
open PySem L2 DL
def top (i : Nat) : Stmt := PySem.Challenge.pw_forestrows_k45_leaves_put_against_an_opp.main.body.getD i (.Pass ⟨0, 0, 0, 0⟩)

def cl (K : PySem.W.Frag) : Nat → Addr := fun _ => 0

abbrev s_is_integer : Stmt := top 5
theorem sc_is_integer : FnScope N_is_integer ["thing"] (defScope s_is_integer) := ⟨rfl, rfl, rfl, by decide +kernel, rfl, by decide +kernel, by decide +kernel⟩

abbrev s_check_free : Stmt := top 7
theorem sc_check_free : FnScope N_check_free ["free"] (defScope s_check_free) := ⟨rfl, rfl, rfl, by decide +kernel, rfl, by decide +kernel, by decide +kernel⟩

abbrev s_lasting : Stmt := top 8
theorem sc_lasting : FnScope N_lasting ["free"] (defScope s_lasting) := ⟨rfl, rfl, rfl, by decide +kernel, rfl, by decide +kernel, by decide +kernel⟩

abbrev s_placed : Stmt := top 9
theorem sc_placed : FnScope N_placed ["free"] (defScope s_placed) := ⟨rfl, rfl, rfl, by decide +kernel, rfl, by decide +kernel, by decide +kernel⟩

abbrev s__law_rng : Stmt := top 11
theorem sc__law_rng : FnScope N__law_rng ["_law_cell"] (defScope s__law_rng) := ⟨rfl, rfl, rfl, by decide +kernel, rfl, by decide +kernel, by decide +kernel⟩

abbrev s__law_draw : Stmt := top 12
theorem sc__law_draw : FnScope N__law_draw ["_law_rng_here", "_law_limit"] (defScope s__law_draw) := ⟨rfl, rfl, rfl, by decide +kernel, rfl, by decide +kernel, by decide +kernel⟩

abbrev s__law_pick : Stmt := top 13
theorem sc__law_pick : FnScope N__law_pick ["_law_rng_here", "_law_items"] (defScope s__law_pick) := ⟨rfl, rfl, rfl, by decide +kernel, rfl, by decide +kernel, by decide +kernel⟩

abbrev s__law_next : Stmt := top 14
theorem sc__law_next : FnScope N__law_next ["_law_rng_here", "_law_parts", "_law_way"] (defScope s__law_next) := ⟨rfl, rfl, rfl, by decide +kernel, rfl, by decide +kernel, by decide +kernel⟩

abbrev s__law_right : Stmt := top 15
theorem sc__law_right : FnScope N__law_right ["_law_rng_here", "_law_free", "_law_way"] (defScope s__law_right) := ⟨rfl, rfl, rfl, by decide +kernel, rfl, by decide +kernel, by decide +kernel⟩

abbrev s_law : Stmt := top 16
theorem sc_law : FnScope N_law ["_law_script"] (defScope s_law) := ⟨rfl, rfl, rfl, by decide +kernel, rfl, by decide +kernel, by decide +kernel⟩

structure Tx (K : PySem.W.Frag) (mg : Str → Option Value) : Prop where
  f_is_integer : ∃ fd, FunD K "is_integer" "is_integer" (defArgs s_is_integer) (defBody s_is_integer) (defScope s_is_integer) [] [] (He.fAd K ("is_integer", none)) fd
  g_is_integer : mg "is_integer" = some (.ref (He.fAd K ("is_integer", none)))
  f_check_free : ∃ fd, FunD K "check_free" "check_free" (defArgs s_check_free) (defBody s_check_free) (defScope s_check_free) [] [] (He.fAd K ("check_free", none)) fd
  g_check_free : mg "check_free" = some (.ref (He.fAd K ("check_free", none)))
  f_lasting : ∃ fd, FunD K "lasting" "lasting" (defArgs s_lasting) (defBody s_lasting) (defScope s_lasting) [] [] (He.fAd K ("lasting", none)) fd
  g_lasting : mg "lasting" = some (.ref (He.fAd K ("lasting", none)))
  f_placed : ∃ fd, FunD K "placed" "placed" (defArgs s_placed) (defBody s_placed) (defScope s_placed) [] [] (He.fAd K ("placed", none)) fd
  g_placed : mg "placed" = some (.ref (He.fAd K ("placed", none)))
  f__law_rng : ∃ fd, FunD K "_law_rng" "_law_rng" (defArgs s__law_rng) (defBody s__law_rng) (defScope s__law_rng) [] [] (He.fAd K ("_law_rng", none)) fd
  g__law_rng : mg "_law_rng" = some (.ref (He.fAd K ("_law_rng", none)))
  f__law_draw : ∃ fd, FunD K "_law_draw" "_law_draw" (defArgs s__law_draw) (defBody s__law_draw) (defScope s__law_draw) [] [] (He.fAd K ("_law_draw", none)) fd
  g__law_draw : mg "_law_draw" = some (.ref (He.fAd K ("_law_draw", none)))
  f__law_pick : ∃ fd, FunD K "_law_pick" "_law_pick" (defArgs s__law_pick) (defBody s__law_pick) (defScope s__law_pick) [] [] (He.fAd K ("_law_pick", none)) fd
  g__law_pick : mg "_law_pick" = some (.ref (He.fAd K ("_law_pick", none)))
  f__law_next : ∃ fd, FunD K "_law_next" "_law_next" (defArgs s__law_next) (defBody s__law_next) (defScope s__law_next) [] [] (He.fAd K ("_law_next", none)) fd
  g__law_next : mg "_law_next" = some (.ref (He.fAd K ("_law_next", none)))
  f__law_right : ∃ fd, FunD K "_law_right" "_law_right" (defArgs s__law_right) (defBody s__law_right) (defScope s__law_right) [] [] (He.fAd K ("_law_right", none)) fd
  g__law_right : mg "_law_right" = some (.ref (He.fAd K ("_law_right", none)))
  f_law : ∃ fd, FunD K "law" "law" (defArgs s_law) (defBody s_law) (defScope s_law) [] [] (He.fAd K ("law", none)) fd
  g_law : mg "law" = some (.ref (He.fAd K ("law", none)))
  b_isinstance : mg "isinstance" = none
  b_int : mg "int" = none
  b_bool : mg "bool" = none
  b_abs : mg "abs" = none
  b_len : mg "len" = none
  b_min : mg "min" = none
  b_repr : mg "repr" = none
  b_tuple : mg "tuple" = none
  b_range : mg "range" = none
  c_MOST_VALUE : ∃ t, mg "MOST_VALUE" = some (.int 1000000000000000000000000000000 t)

section
variable {P : Program} {w : World} {K : PySem.W.Frag} {mg : Str → Option Value} {base : Heap} {cl : Nat → Addr}

theorem ok_is_integer (T : Tx K mg) : FnB cl P w K mg base 1 "is_integer" ["thing"] sp_is_integer := by
  refine fnB_of (k := 0) (t := t_is_integer) T.f_is_integer T.g_is_integer sc_is_integer (fun _ _ _ _ _ _ us hl => match us, hl with | [_], _ => rfl) (fun cdv A outer s H E c => ?_) pure_is_integer
  exact (dss_one (ds_ret (d_andV (d_callB (call_isi.or (call_isiT.or call_isiK)) lc_isi rfl T.b_isinstance (by decide +kernel) (da_cons (d_var 0) (da_cons (d_ty rfl T.b_int (by decide +kernel)) da_nil))) (d_one (d_notV (d_callB (call_isi.or (call_isiT.or call_isiK)) lc_isi rfl T.b_isinstance (by decide +kernel) (da_cons (d_var 0) (da_cons (d_ty rfl T.b_bool (by decide +kernel)) da_nil))))))))

theorem ok_check_free (T : Tx K mg) : FnB cl P w K mg base 2 "check_free" ["free"] sp_check_free := by
  have G_is_integer : FnB cl P w K mg base 1 "is_integer" ["thing"] sp_is_integer := ok_is_integer T
  refine fnB_of (k := 1) (t := t_check_free) T.f_check_free T.g_check_free sc_check_free (fun _ _ _ _ _ _ us hl => match us, hl with | [_], _ => rfl) (fun cdv A outer s H E c => ?_) pure_check_free
  exact (dss_one (ds_if (DW.dt (dw_or (d_tnot (d_val (d_fn c G_is_integer (by decide) rfl (da_cons (d_var 0) da_nil)))) (dw_or1 (d_tnot (d_tchain op_le op_le (lop_cmp _) (lop_cmp _) d_int (d_var 0) (d_globI rfl T.c_MOST_VALUE)))))) (dss_one ds_never) dss_nil))

theorem ok_lasting (T : Tx K mg) : FnB cl P w K mg base 3 "lasting" ["free"] sp_lasting := by
  have G_check_free : FnB cl P w K mg base 2 "check_free" ["free"] sp_check_free := ok_check_free T
  refine fnB_of (k := 2) (t := t_lasting) T.f_lasting T.g_lasting sc_lasting (fun _ _ _ _ _ _ us hl => match us, hl with | [_], _ => rfl) (fun cdv A outer s H E c => ?_) pure_lasting
  exact (dss_cons (ds_expr (d_fn c G_check_free (by decide) rfl (da_cons (d_var 0) da_nil)))
      (dss_cons (ds_set 1 sc_lasting.nd d_int)
      (dss_cons (ds_while c.po (d_tcmp op_ge (lop_cmp _) (d_var 0) d_int (nomark _)) (dss_cons (ds_set 0 sc_lasting.nd (d_op op_fdivW lop_fdiv (d_op op_sub lop_sub (d_var 0) d_int) d_int))
      (dss_one (ds_augAdd 1 sc_lasting.nd d_int))))
      (dss_one (ds_ret (d_var 1))))))

theorem ok_placed (T : Tx K mg) : FnB cl P w K mg base 3 "placed" ["free"] sp_placed := by
  have G_check_free : FnB cl P w K mg base 2 "check_free" ["free"] sp_check_free := ok_check_free T
  refine fnB_of (k := 2) (t := t_placed) T.f_placed T.g_placed sc_placed (fun _ _ _ _ _ _ us hl => match us, hl with | [_], _ => rfl) (fun cdv A outer s H E c => ?_) pure_placed
  exact (dss_cons (ds_expr (d_fn c G_check_free (by decide) rfl (da_cons (d_var 0) da_nil)))
      (dss_cons (ds_if (d_tcmp op_lt (lop_cmp _) (d_var 0) d_int (nomark _)) (dss_one (ds_ret d_non)) dss_nil)
      (dss_cons (ds_set 1 sc_placed.nd (d_op op_fdivW lop_fdiv (d_op op_sub lop_sub (d_var 0) d_int) d_int))
      (dss_one (ds_ret (d_tup (da_cons (d_var 1) (da_cons (d_var 1) da_nil))))))))

theorem ok__law_rng (T : Tx K mg) : FnB cl P w K mg base 1 "_law_rng" ["_law_cell"] sp__law_rng := by
  refine fnB_of (k := 0) (t := t__law_rng) T.f__law_rng T.g__law_rng sc__law_rng (fun _ _ _ _ _ _ us hl => match us, hl with | [_], _ => rfl) (fun cdv A outer s H E c => ?_) pure__law_rng
  exact (dss_one (ds_ret (d_lstM (da_cons (d_callB call_abs lc_abs rfl T.b_abs (by decide +kernel) (da_cons (d_var 0) da_nil)) (da_cons (d_op op_mod lop_mod (d_callTy call_int1 lc_int rfl T.b_int (by decide +kernel) (da_cons (d_var 0) da_nil)) d_int) (da_cons d_int da_nil))))))

theorem ok__law_draw (T : Tx K mg) : FnB cl P w K mg base 1 "_law_draw" ["_law_rng_here", "_law_limit"] sp__law_draw := by
  refine fnB_of (k := 0) (t := t__law_draw) T.f__law_draw T.g__law_draw sc__law_draw (fun _ _ _ _ _ _ us hl => match us, hl with | [_, _], _ => rfl) (fun cdv A outer s H E c => ?_) pure__law_draw
  exact (dss_cons (ds_if (d_tcmp op_ge (lop_cmp _) (d_ix (d_var 0) d_int) (d_op op_pow lop_pow d_int d_int) (nomark _)) (dss_cons (ds_set 2 sc__law_draw.nd (d_op op_mod lop_mod (d_callTy call_int1 lc_int rfl T.b_int (by decide +kernel) (da_cons (d_ix (d_var 0) d_int) da_nil)) (d_var 1)))
      (dss_cons (ds_asg (d_op op_fdivW lop_fdiv (d_ix (d_var 0) d_int) (d_var 1)) (dg_subL (d_var 0) d_int))
      (dss_one (ds_ret (d_var 2))))) dss_nil)
      (dss_cons (ds_asg (d_op op_addAll lop_add (d_ix (d_var 0) d_int) d_int) (dg_subL (d_var 0) d_int))
      (dss_cons (ds_set 3 sc__law_draw.nd (d_op op_mod lop_mod (d_callTy call_int1 lc_int rfl T.b_int (by decide +kernel) (da_cons (d_op op_mul lop_mul (d_op op_addAll lop_add (d_op op_addAll lop_add (d_ix (d_var 0) d_int) (d_op op_mul lop_mul d_int (d_ix (d_var 0) d_int))) d_int) d_int) da_nil)) d_int))
      (dss_cons (ds_set 3 sc__law_draw.nd (d_op op_mod lop_mod (d_callTy call_int1 lc_int rfl T.b_int (by decide +kernel) (da_cons (d_op op_mul lop_mul (d_var 3) (d_op op_addAll lop_add (d_op op_fdivW lop_fdiv (d_var 3) d_int) d_int)) da_nil)) d_int))
      (dss_one (ds_ret (d_op op_mod lop_mod (d_callTy call_int1 lc_int rfl T.b_int (by decide +kernel) (da_cons (d_op op_mod lop_mod (d_callTy call_int1 lc_int rfl T.b_int (by decide +kernel) (da_cons (d_op op_addAll lop_add (d_op op_fdivW lop_fdiv (d_var 3) d_int) (d_op op_mul lop_mul (d_op op_mod lop_mod (d_callTy call_int1 lc_int rfl T.b_int (by decide +kernel) (da_cons (d_var 3) da_nil)) d_int) d_int)) da_nil)) d_int) da_nil)) (d_var 1))))))))

theorem ok__law_pick (T : Tx K mg) : FnB cl P w K mg base 2 "_law_pick" ["_law_rng_here", "_law_items"] sp__law_pick := by
  have G__law_draw : FnB cl P w K mg base 1 "_law_draw" ["_law_rng_here", "_law_limit"] sp__law_draw := ok__law_draw T
  refine fnB_of (k := 1) (t := t__law_pick) T.f__law_pick T.g__law_pick sc__law_pick (fun _ _ _ _ _ _ us hl => match us, hl with | [_, _], _ => rfl) (fun cdv A outer s H E c => ?_) pure__law_pick
  exact (dss_one (ds_ret (d_ix (d_var 1) (d_fn c G__law_draw (by decide) rfl (da_cons (d_var 0) (da_cons (d_callB call_len lc_len rfl T.b_len PySem.boot_len (da_cons (d_var 1) da_nil)) da_nil))))))

theorem ok__law_next (T : Tx K mg) : FnB cl P w K mg base 3 "_law_next" ["_law_rng_here", "_law_parts", "_law_way"] sp__law_next := by
  have G__law_pick : FnB cl P w K mg base 2 "_law_pick" ["_law_rng_here", "_law_items"] sp__law_pick := ok__law_pick T
  refine fnB_of (k := 2) (t := t__law_next) T.f__law_next T.g__law_next sc__law_next (fun _ _ _ _ _ _ us hl => match us, hl with | [_, _, _], _ => rfl) (fun cdv A outer s H E c => ?_) pure__law_next
  exact (dss_cons (ds_if (d_tcmp (op_eqA c.hr.room.units) lop_eq (d_var 2) d_int (nomark _)) (dss_one (ds_ret (d_callB ((cr_min c.calm).or (call_min2 c.calm)) lc_min rfl T.b_min (by decide +kernel) (da_cons (d_var 1) da_nil)))) dss_nil)
      (dss_one (ds_ret (d_ifE (d_tcmp op_lt (lop_cmp _) (d_var 2) d_int (nomark _)) (d_ix (d_var 1) (d_op op_sub lop_sub (d_var 2) d_int)) (d_fn c G__law_pick (by decide) rfl (da_cons (d_var 0) (da_cons (d_var 1) da_nil)))))))

theorem ok__law_right (T : Tx K mg) : FnB cl P w K mg base 4 "_law_right" ["_law_rng_here", "_law_free", "_law_way"] sp__law_right := by
  have G__law_next : FnB cl P w K mg base 3 "_law_next" ["_law_rng_here", "_law_parts", "_law_way"] sp__law_next := ok__law_next T
  have G_placed : FnB cl P w K mg base 3 "placed" ["free"] sp_placed := ok_placed T
  have G_lasting : FnB cl P w K mg base 3 "lasting" ["free"] sp_lasting := ok_lasting T
  refine fnB_of (k := 3) (t := t__law_right) T.f__law_right T.g__law_right sc__law_right (fun _ _ _ _ _ _ us hl => match us, hl with | [_, _, _], _ => rfl) (fun cdv A outer s H E c => ?_) pure__law_right
  exact (dss_cons (ds_par3 (i := 3) (j := 4) (l := 5) c.calm sc__law_right.nd (da_cons (d_var 1) (da_cons d_int (da_cons (d_fn c G_lasting (by decide) rfl (da_cons (d_var 1) da_nil)) da_nil))))
      (dss_cons (ds_while c.po (d_tcmp op_le (lop_cmp _) (d_var 4) (d_op op_addAll lop_add (d_var 5) d_int) (nomark _)) (dss_cons (ds_set 6 sc__law_right.nd (d_fn c G_placed (by decide) rfl (da_cons (d_var 3) da_nil)))
      (dss_cons (ds_if (d_tcmp op_isN lop_isN (d_var 6) d_non (nomark _)) (dss_one (ds_ret (d_andV (d_cmp op_lt (lop_cmp _) (d_var 3) d_int (nomark _)) (d_andV (d_cmp op_ge (lop_cmp _) (d_var 4) (d_var 5) (nomark _)) (d_one (d_orV (d_cmp op_gt (lop_cmp _) (d_var 2) d_int (nomark _)) (d_one (d_cmp (op_eqA c.hr.room.units) lop_eq (d_var 4) (d_var 5) (nomark _))))))))) dss_nil)
      (dss_cons (ds_asg (d_var 6) (dg_tup c.calm (dgs_cons (dg_name 7 sc__law_right.nd) (dgs_cons (dg_name 8 sc__law_right.nd) dgs_nil))))
      (dss_cons (ds_if (DW.dt (dw_or (d_tcmp (op_neA c.hr.room.units) lop_ne (d_callB (call_repr c.hr) lc_repr rfl T.b_repr (by decide +kernel) (da_cons (d_var 6) da_nil)) (d_callB (call_repr c.hr) lc_repr rfl T.b_repr (by decide +kernel) (da_cons (d_tup (da_cons (d_var 7) (da_cons (d_var 8) da_nil))) da_nil)) (nomark _)) (dw_or (d_tnot (d_val (d_callB (call_isi.or (call_isiT.or call_isiK)) lc_isi rfl T.b_isinstance (by decide +kernel) (da_cons (d_var 6) (da_cons (d_ty rfl T.b_tuple (by decide +kernel)) da_nil))))) (dw_or1 (d_tcmp (op_neA c.hr.room.units) lop_ne (d_fn c G_placed (by decide) rfl (da_cons (d_var 3) da_nil)) (d_var 6) (nomark _)))))) (dss_one (ds_ret d_bl)) dss_nil)
      (dss_cons (ds_set 9 sc__law_right.nd (d_lst (da_cons (d_var 7) (da_cons (d_var 8) (da_cons (d_op op_sub lop_sub (d_op op_sub lop_sub (d_op op_sub lop_sub (d_var 3) d_int) (d_var 7)) (d_var 8)) da_nil)))))
      (dss_cons (ds_if (d_tcmp op_lt (lop_cmp _) (d_callB ((cr_min c.calm).or (call_min2 c.calm)) lc_min rfl T.b_min (by decide +kernel) (da_cons (d_var 9) da_nil)) d_int (nomark _)) (dss_one (ds_ret d_bl)) dss_nil)
      (dss_cons (ds_par (i := 3) (j := 4) c.calm sc__law_right.nd (da_cons (d_fn c G__law_next (by decide) rfl (da_cons (d_var 0) (da_cons (d_var 9) (da_cons (d_var 2) da_nil)))) (da_cons (d_op op_addAll lop_add (d_var 4) d_int) da_nil)))
      (dss_one (ds_if (DW.dt (dw_and (d_tcmp (op_eqA c.hr.room.units) lop_eq (d_var 2) d_int (nomark _)) (dw_and1 (d_tcmp op_ge (lop_cmp _) (d_var 4) (d_var 5) (nomark _))))) (dss_one (ds_ret d_bl)) dss_nil))))))))))
      (dss_one (ds_ret (d_cmp op_gt (lop_cmp _) (d_var 2) d_int (nomark _))))))

theorem ok_law (T : Tx K mg) : FnB cl P w K mg base 5 "law" ["_law_script"] sp_law := by
  have G__law_right : FnB cl P w K mg base 4 "_law_right" ["_law_rng_here", "_law_free", "_law_way"] sp__law_right := ok__law_right T
  have G__law_draw : FnB cl P w K mg base 1 "_law_draw" ["_law_rng_here", "_law_limit"] sp__law_draw := ok__law_draw T
  have G__law_pick : FnB cl P w K mg base 2 "_law_pick" ["_law_rng_here", "_law_items"] sp__law_pick := ok__law_pick T
  have G__law_rng : FnB cl P w K mg base 1 "_law_rng" ["_law_cell"] sp__law_rng := ok__law_rng T
  refine fnB_of (k := 4) (t := t_law) T.f_law T.g_law sc_law (fun _ _ _ _ _ _ us hl => match us, hl with | [_], _ => rfl) (fun cdv A outer s H E c => ?_) pure_law
  exact (dss_cons (ds_for c.po c.calm (di_list (d_slice (d_op op_addAll lop_add (d_var 0) (d_lst (da_cons d_int da_nil))) do_none (do_some d_int))) (dg_name 1 sc_law.nd) (dss_cons (ds_set 2 sc_law.nd (d_fn c G__law_rng (by decide) rfl (da_cons (d_var 1) da_nil)))
      (dss_one (ds_for c.po c.calm (di_range1 rfl T.b_range d_int) (dg_name 3 sc_law.nd) (dss_cons (ds_set 4 sc_law.nd (d_fn c G__law_pick (by decide) rfl (da_cons (d_var 2) (da_cons (d_lst (da_cons (d_fn c G__law_draw (by decide) rfl (da_cons (d_var 2) (da_cons d_int da_nil))) (da_cons (d_fn c G__law_draw (by decide) rfl (da_cons (d_var 2) (da_cons d_int da_nil))) (da_cons (d_op op_pow lop_pow d_int d_int) (da_cons (d_op op_pow lop_pow d_int d_int) (da_cons (d_op op_sub lop_sub (d_op op_pow lop_pow d_int d_int) d_int) da_nil)))))) da_nil))))
      (dss_one (ds_if (d_tnot (d_val (d_fn c G__law_right (by decide) rfl (da_cons (d_var 2) (da_cons (d_var 4) (da_cons (d_fn c G__law_draw (by decide) rfl (da_cons (d_var 2) (da_cons d_int da_nil))) da_nil)))))) (dss_one (ds_ret d_bl)) dss_nil)))))))
      (dss_one (ds_ret d_bl)))

end

def d_is_integer : He.DefD := ⟨("is_integer", none), "is_integer", "is_integer", defArgs s_is_integer, defBody s_is_integer, defScope s_is_integer, [], []⟩
def d_check_free : He.DefD := ⟨("check_free", none), "check_free", "check_free", defArgs s_check_free, defBody s_check_free, defScope s_check_free, [], []⟩
def d_lasting : He.DefD := ⟨("lasting", none), "lasting", "lasting", defArgs s_lasting, defBody s_lasting, defScope s_lasting, [], []⟩
def d_placed : He.DefD := ⟨("placed", none), "placed", "placed", defArgs s_placed, defBody s_placed, defScope s_placed, [], []⟩
def d__law_rng : He.DefD := ⟨("_law_rng", none), "_law_rng", "_law_rng", defArgs s__law_rng, defBody s__law_rng, defScope s__law_rng, [], []⟩
def d__law_draw : He.DefD := ⟨("_law_draw", none), "_law_draw", "_law_draw", defArgs s__law_draw, defBody s__law_draw, defScope s__law_draw, [], []⟩
def d__law_pick : He.DefD := ⟨("_law_pick", none), "_law_pick", "_law_pick", defArgs s__law_pick, defBody s__law_pick, defScope s__law_pick, [], []⟩
def d__law_next : He.DefD := ⟨("_law_next", none), "_law_next", "_law_next", defArgs s__law_next, defBody s__law_next, defScope s__law_next, [], []⟩
def d__law_right : He.DefD := ⟨("_law_right", none), "_law_right", "_law_right", defArgs s__law_right, defBody s__law_right, defScope s__law_right, [], []⟩
def d_law : He.DefD := ⟨("law", none), "law", "law", defArgs s_law, defBody s_law, defScope s_law, [], []⟩
def fn : List He.DefD := [d_is_integer, d_check_free, d_lasting, d_placed, d__law_rng, d__law_draw, d__law_pick, d__law_next, d__law_right, d_law]
def fa : List He.Fa := [.glo "is_integer", .glo "check_free", .glo "lasting", .glo "placed", .glo "_law_rng", .glo "_law_draw", .glo "_law_pick", .glo "_law_next", .glo "_law_right", .glo "law", .free "isinstance", .free "int", .free "bool", .free "abs", .free "len", .free "min", .free "repr", .free "tuple", .free "range", .int "MOST_VALUE" 1000000000000000000000000000000]
abbrev R : PySem.W.OpenRow := PySem.W.OpenLaw.row PySem.Challenge.rw_forestrows_k45_leaves_put_against_an_opp
abbrev hk : PySem.W.Hook := He.hookD 5 fa fn
def ob (s : PySem.W.SharedT) : He.AlD := He.obsDG 5 fa fn (HandSHeadRun.getT s)
theorem ob_eq (s : PySem.W.SharedT) : ob s = hk.obs s.abs := He.obsDG_eq (HandSHeadRun.getT_eq s)
def loose : List PySem.Str := (["__name__", "ForestError", "NoCount", "MOST_VALUE", "is_integer", "check_free", "lasting", "placed", "_law_rng", "_law_draw", "_law_pick", "_law_next", "_law_right"] : List PySem.Str)
theorem run (w : World) : HandSHeadRun.RunEq R (PySem.W.view R.prog [16]) hk ob 20000 loose w := by
  intro os
  kernel_rfl
theorem tx_of {K : PySem.W.Frag} {h : Heap} {mg : Str → Option Value} (X : K.In h) (G : h.Ns mainGlobals mg) (c : He.SaysD fa fn K) : Tx K mg :=
  { f_is_integer := c.def_ 0 (d := d_is_integer) rfl, g_is_integer := He.glo_ok X G (c.fact 0 (f := .glo "is_integer") rfl), f_check_free := c.def_ 1 (d := d_check_free) rfl, g_check_free := He.glo_ok X G (c.fact 1 (f := .glo "check_free") rfl), f_lasting := c.def_ 2 (d := d_lasting) rfl, g_lasting := He.glo_ok X G (c.fact 2 (f := .glo "lasting") rfl), f_placed := c.def_ 3 (d := d_placed) rfl, g_placed := He.glo_ok X G (c.fact 3 (f := .glo "placed") rfl), f__law_rng := c.def_ 4 (d := d__law_rng) rfl, g__law_rng := He.glo_ok X G (c.fact 4 (f := .glo "_law_rng") rfl), f__law_draw := c.def_ 5 (d := d__law_draw) rfl, g__law_draw := He.glo_ok X G (c.fact 5 (f := .glo "_law_draw") rfl), f__law_pick := c.def_ 6 (d := d__law_pick) rfl, g__law_pick := He.glo_ok X G (c.fact 6 (f := .glo "_law_pick") rfl), f__law_next := c.def_ 7 (d := d__law_next) rfl, g__law_next := He.glo_ok X G (c.fact 7 (f := .glo "_law_next") rfl), f__law_right := c.def_ 8 (d := d__law_right) rfl, g__law_right := He.glo_ok X G (c.fact 8 (f := .glo "_law_right") rfl), f_law := c.def_ 9 (d := d_law) rfl, g_law := He.glo_ok X G (c.fact 9 (f := .glo "law") rfl), b_isinstance := He.free_ok X G (c.fact 10 (f := .free "isinstance") rfl), b_int := He.free_ok X G (c.fact 11 (f := .free "int") rfl), b_bool := He.free_ok X G (c.fact 12 (f := .free "bool") rfl), b_abs := He.free_ok X G (c.fact 13 (f := .free "abs") rfl), b_len := He.free_ok X G (c.fact 14 (f := .free "len") rfl), b_min := He.free_ok X G (c.fact 15 (f := .free "min") rfl), b_repr := He.free_ok X G (c.fact 16 (f := .free "repr") rfl), b_tuple := He.free_ok X G (c.fact 17 (f := .free "tuple") rfl), b_range := He.free_ok X G (c.fact 18 (f := .free "range") rfl), c_MOST_VALUE := He.int_ok X G (c.fact 19 (f := .int "MOST_VALUE" 1000000000000000000000000000000) rfl) }
end LawProof
open PySem PySem.W PySem.Calls PyProof.Rows
set_option maxRecDepth 100000 in
set_option maxHeartbeats 0 in
theorem PySem.Challenge.cw_forestrows_k45_leaves_put_against_an_opp_holds : PySem.Challenge.rw_forestrows_k45_leaves_put_against_an_opp.Holds := by
  w_on; o_law
  refine HandSHeadRun.head_any (r := OpenLaw.row PySem.Challenge.rw_forestrows_k45_leaves_put_against_an_opp) (q := view (OpenLaw.row PySem.Challenge.rw_forestrows_k45_leaves_put_against_an_opp).prog [16]) (H := LawProof.hk) (ob := LawProof.ob) (M := 20000) (loose := LawProof.loose) (d := HandSHeadRun.topDef (OpenLaw.row PySem.Challenge.rw_forestrows_k45_leaves_put_against_an_opp).prog 16) (kwd := []) LawProof.ob_eq
    (by kernel_rfl) (fun s => by kernel_rfl) LawProof.run (by kernel_rfl) (by kernel_rfl) (by kernel_rfl) (by rfl) (by first | assumption | decide +kernel) (by decide +kernel) ⟨rfl, rfl, rfl, rfl, rfl, by decide +kernel⟩ ?hw ?hc
  case hw => w_witness2
  case hc =>
    refine DL.walk_D (l := PySem.Challenge.rw_forestrows_k45_leaves_put_against_an_opp) (n := 63) (k := 5) (x := "_law_script") rfl (by decide) (by kernel_rfl) ⟨⟨rfl, by decide, by decide⟩, rfl⟩ ?F
    intro w mg fa h Y G hmg0
    obtain ⟨K, KX, c⟩ := Y
    have T := LawProof.tx_of KX G c
    have hmg : mg ("law" : PySem.Str) = some (.ref fa) := by
      have e : (HandSHeadRun.topDef (OpenLaw.row PySem.Challenge.rw_forestrows_k45_leaves_put_against_an_opp).prog 16).name = ("law" : PySem.Str) := by kernel_rfl
      rw [← e]
      exact hmg0
    have e := hmg.symm.trans T.g_law
    cases e
    refine ⟨LawProof.cl K, K, LawProof.sp_law, KX, LawProof.law_sp, fun base _ _ => ?_⟩
    obtain ⟨f, fd2, h1, h2, h3, h4⟩ := LawProof.ok_law (P := PySem.Challenge.rw_forestrows_k45_leaves_put_against_an_opp.prog) (w := w) (base := base) (cl := LawProof.cl K) T
    have e1 := h1.symm.trans T.g_law
    cases e1
    exact ⟨fd2, h3, h4⟩
