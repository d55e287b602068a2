import PyProof.Rows.All
import Wide.All
import OpenK.AllK
import Wide.FinOn
import HandS.ForMost
import HandS.ForExc
import HandS.IsInst
import HandS.Flow
import HandS.Wide
import HandS.Lambda
import HandS.ExcInit
import HandS.TupAny
import HandS.Style
import HandS.Defaults
import HandS.RaiseMore
import HandS.Head0
import HandS.Head1
import HandS.Head2
import HandS.HeadEnd
import HandS.HeadHook1
import HandS.HeadHook2
import KE.DataEq
import HandS.HeadHook3
import HandS.HeadHook4
import HandS.Text
import HandS.Zip
import HandS.ClsMeth
import HandS.Dict
import HandS.DictComp
import HandS.Bytes
import HandS.OwnEq
import PyProof.InstNe
import HandS.ExcField
import HandS.TryMany
import KE.GoesEnum
import HandS.ExcIs
import HandS.Conv
import HandS.ListEq
import HandS.DictEq
import HandS.BytesMake
import HandS.More
import HandS.SortKw
import KE.SortKeyHeap
import KE.SortData
import KE.KSortKey
import HandS.FStr
import HandS.Codes
import HandS.Star
import HandS.EndTab
import HandS.NestedK
import PyProof.FactsBase
import PyProof.TableTree
import PyProof.FactsTree
import PyProof.PlainAttrs
import KE.GoesMore
import Wide.BytesRules
import PyProof.EqAt
import PyProof.EqKinds
import PyProof.NeKinds
import PyProof.FactsAll.subtypes_3
import PyProof.FactsAll.subtypes_6
import KE.GoesEnumKw
import KE.GoesZip
import HandS.ExcValue
import KE.KSortAsk
import HandS.Iter
import KE.LtData
import KE.KDflt
import HandS.Flt
import KE.KStateDown
import Lean
import PySem.Challenge.RW_forestrows_k44_how_long_a_gap_lasts
set_option Elab.async false
set_option linter.all false
set_option maxRecDepth 100000
set_option maxHeartbeats 2000000
namespace DL
open PySem L2

/-! ### data -/
/-- a value with all that it holds, by value; ref: an object by its place (a mutable one, a def, a class) -/
inductive D where
  | non | bl (b : Bool) | int (i : Int) | str (x : Str) | byt (b : Array UInt8) | ty (n : String) | ref (a : Addr)
  | lst (xs : List D) | tup (xs : List D)
  | dK (ks : List Key) (ds : List D) | dT (ks : List (List Key)) (ds : List D)
  | obj (c : Nat) (ns : List Str) (ds : List D)
  | cls (c : Nat)
  | exc (a dd : Addr) (c : Nat) (ns : List Str) (ds : List D)
  | xob (c : Nat) (ns : List Str) (ds : List D)
  | thk (f c : Addr) (q : Str) (vs : List V) (ds : List D)

/-- the addresses of the classes by their tags; the program and the world -/
structure ClW where
  f : Nat → Addr
  p : Program
  w : World
instance : CoeFun ClW (fun _ => Nat → Addr) := ⟨ClW.f⟩
instance : Coe ClW (Nat → Addr) := ⟨ClW.f⟩
abbrev Mem := Addr → Option D
abbrev Env := List (Option D)
def updM (M : Mem) (a : Addr) (d : D) : Mem := fun b => if b = a then some d else M b
def delM (M : Mem) (a : Addr) : Mem := fun b => if b = a then none else M b
theorem updM_same {M : Mem} {a : Addr} {d : D} : updM M a d a = some d := if_pos rfl
theorem updM_ne {M : Mem} {a b : Addr} {d : D} (h : b ≠ a) : updM M a d b = M b := if_neg h
theorem delM_same {M : Mem} {a : Addr} : delM M a a = none := if_pos rfl
theorem delM_ne {M : Mem} {a b : Addr} (h : b ≠ a) : delM M a b = M b := if_neg h
theorem updM_updM {M : Mem} {a : Addr} {d e : D} : updM (updM M a d) a e = updM M a e := by
  funext b; unfold updM; split <;> rfl
theorem delM_updM {M : Mem} {a : Addr} {d : D} (h : M a = none) : delM (updM M a d) a = M := by
  funext b
  by_cases e : b = a
  · subst e; rw [delM_same, h]
  · rw [delM_ne e, updM_ne e]

/-- a tuple that is tracked or written -/
def SqT1 (K : PySem.W.Frag) (F : Hp) (a : Addr) (vs : List V) : Prop := F a = some (.tup vs) ∨
  ∃ (o : Obj) (its : Array Value) (n : Nat), K.lookup a = some o ∧ o.cls = .type "tuple" ∧ o.data = .seq its n ∧ its.size ≤ sizeLine ∧ Vals vs its.toList
theorem SqT1.of {K : PySem.W.Frag} {F : Hp} {a : Addr} {vs : List V} (h : F a = some (.tup vs)) : SqT1 K F a vs := .inl h
theorem SqT1.sq {K : PySem.W.Frag} {F : Hp} {a : Addr} {vs : List V} (h : SqT1 K F a vs) : SqT K F a vs := h.elim (fun h => .inl (.inl h)) .inr
theorem SqT1.mono {K : PySem.W.Frag} {F F' : Hp} {a : Addr} {vs : List V} (s : Same F F') (h : SqT1 K F a vs) : SqT1 K F' a vs := h.imp (s _ _) id
section
variable (K : PySem.W.Frag) (cl : ClW)
/-- at a: an exception of the class at C that was not raised, its fields -/
def XoAt (F : Hp) (a C : Addr) (fs : List (Str × V)) : Prop := (∃ dd, F a = some (exo a C (some dd)) ∧ F dd = some (exd dd fs)) ∨ (fs = [] ∧ F a = some (exo a C none))
theorem XoAt.mono {F F' : Hp} {a C : Addr} {fs : List (Str × V)} (s : Same F F') (h : XoAt F a C fs) : XoAt F' a C fs := by
  rcases h with ⟨dd, h1, h2⟩ | ⟨h1, h2⟩
  · exact .inl ⟨dd, s _ _ h1, s _ _ h2⟩
  · exact .inr ⟨h1, s _ _ h2⟩
mutual
/-- the value v stands for the data d, its objects in F -/
inductive Rep (K : PySem.W.Frag) (cl : ClW) (F : Hp) : V → D → Prop where
  | non : Rep K cl F .non .non
  | bl (b : Bool) : Rep K cl F (.bl b) (.bl b)
  | int (i : Int) : Rep K cl F (.int i) (.int i)
  | str (x : Str) : Rep K cl F (.str x) (.str x)
  | byt (b : Array UInt8) : Rep K cl F (.byt b) (.byt b)
  | ty (n : String) : Rep K cl F (.ty n) (.ty n)
  | ref (a : Addr) : Rep K cl F (.ref a) (.ref a)
  | cls (c : Nat) : Rep K cl F (.ref (cl c)) (.cls c)
  | lst {a : Addr} {vs : List V} {ds : List D} : SqL K F a vs → Reps K cl F vs ds → Rep K cl F (.ref a) (.lst ds)
  | tup {a : Addr} {vs : List V} {ds : List D} : SqT1 K F a vs → Reps K cl F vs ds → Rep K cl F (.ref a) (.tup ds)
  | dK {a : Addr} {ks : List Key} {vs : List V} {ds : List D} : F a = some (.dK (ks.zip vs)) → ks.length = vs.length → Reps K cl F vs ds → Rep K cl F (.ref a) (.dK ks ds)
  | dT {a : Addr} {ks : List (List Key)} {vs : List V} {ds : List D} : F a = some (.dT (ks.zip vs)) → ks.length = vs.length → Reps K cl F vs ds → Rep K cl F (.ref a) (.dT ks ds)
  | obj {a dx : Addr} {c : Nat} {ns : List Str} {vs : List V} {ds : List D} : F a = some (.ins (cl c) dx (ns.zip vs)) → ns.length = vs.length → Reps K cl F vs ds → Rep K cl F (.ref a) (.obj c ns ds)
  | exc {a dd : Addr} {c : Nat} {ns : List Str} {vs : List V} {ds : List D} : F dd = some (.xd (ns.zip vs)) → ns.length = vs.length → Reps K cl F vs ds → Rep K cl F (.ref a) (.exc a dd c ns ds)
  | xob {a : Addr} {c : Nat} {ns : List Str} {vs : List V} {ds : List D} : XoAt F a (cl c) (ns.zip vs) → ns.length = vs.length → Reps K cl F vs ds → Rep K cl F (.ref a) (.xob c ns ds)
  | thk {f c : Addr} {q : Str} {vs : List V} {ds : List D} : F c = some (LamX.CodeO c q) → Reps K cl F vs ds → Rep K cl F (.ref f) (.thk f c q vs ds)
inductive Reps (K : PySem.W.Frag) (cl : ClW) (F : Hp) : List V → List D → Prop where
  | nil : Reps K cl F [] []
  | cons {v : V} {d : D} {vs : List V} {ds : List D} : Rep K cl F v d → Reps K cl F vs ds → Reps K cl F (v :: vs) (d :: ds)
end
end
section
variable {K : PySem.W.Frag} {cl : ClW} {F F' : Hp}
theorem same_l {H H' : Hp} {a : Addr} {xs : List V} (e : Same H H') (h : SqL K H a xs) : SqL K H' a xs := e.seq h
theorem same_t {H H' : Hp} {a : Addr} {xs : List V} (e : Same H H') (h : SqT K H a xs) : SqT K H' a xs := by
  rcases h with (h | ⟨o, h⟩) | h
  · exact .inl (.inl (e _ _ h))
  · exact .inl (.inr ⟨o, e _ _ h⟩)
  · exact .inr h
mutual
theorem Rep.mono (s : Same F F') : ∀ {v : V} {d : D}, Rep K cl F v d → Rep K cl F' v d
  | _, _, .non => .non
  | _, _, .bl b => .bl b
  | _, _, .int i => .int i
  | _, _, .str x => .str x
  | _, _, .byt b => .byt b
  | _, _, .ty n => .ty n
  | _, _, .ref a => .ref a
  | _, _, .cls c => .cls c
  | _, _, .lst h r => .lst (same_l s h) (Reps.mono s r)
  | _, _, .tup h r => .tup (h.mono s) (Reps.mono s r)
  | _, _, .dK h l r => .dK (s _ _ h) l (Reps.mono s r)
  | _, _, .dT h l r => .dT (s _ _ h) l (Reps.mono s r)
  | _, _, .obj h l r => .obj (s _ _ h) l (Reps.mono s r)
  | _, _, .exc h l r => .exc (s _ _ h) l (Reps.mono s r)
  | _, _, .xob h l r => .xob (h.mono s) l (Reps.mono s r)
  | _, _, .thk h r => .thk (s _ _ h) (Reps.mono s r)
theorem Reps.mono (s : Same F F') : ∀ {vs : List V} {ds : List D}, Reps K cl F vs ds → Reps K cl F' vs ds
  | _, _, .nil => .nil
  | _, _, .cons h r => .cons (Rep.mono s h) (Reps.mono s r)
end
theorem Reps.length : ∀ {vs : List V} {ds : List D}, Reps K cl F vs ds → vs.length = ds.length
  | _, _, .nil => rfl
  | _, _, .cons _ r => by simp [Reps.length r]
theorem Reps.get : ∀ {vs : List V} {ds : List D} {i : Nat} {d : D}, Reps K cl F vs ds → ds[i]? = some d → ∃ v, vs[i]? = some v ∧ Rep K cl F v d
  | _, _, _, _, .nil, e => by simp at e
  | _, _, 0, _, .cons r _, e => by simp at e; subst e; exact ⟨_, rfl, r⟩
  | _, _, i + 1, d, .cons _ t, e => by
    obtain ⟨u, h1, h2⟩ := Reps.get (i := i) (d := d) t (by simpa using e)
    exact ⟨u, by simpa using h1, h2⟩
theorem Reps.getV : ∀ {vs : List V} {ds : List D} {i : Nat} {v : V}, Reps K cl F vs ds → vs[i]? = some v → ∃ d, ds[i]? = some d ∧ Rep K cl F v d
  | _, _, _, _, .nil, e => by simp at e
  | _, _, 0, _, .cons r _, e => by simp at e; subst e; exact ⟨_, rfl, r⟩
  | _, _, i + 1, v, .cons _ t, e => by
    obtain ⟨u, h1, h2⟩ := Reps.getV (i := i) (v := v) t (by simpa using e)
    exact ⟨u, by simpa using h1, h2⟩
theorem Reps.append : ∀ {vs ws : List V} {ds es : List D}, Reps K cl F vs ds → Reps K cl F ws es → Reps K cl F (vs ++ ws) (ds ++ es)
  | _, _, _, _, .nil, s => s
  | _, _, _, _, .cons r t, s => .cons r (Reps.append t s)
theorem Reps.one {v : V} {d : D} (h : Rep K cl F v d) : Reps K cl F [v] [d] := .cons h .nil
theorem Reps.set {v : V} {d : D} (r : Rep K cl F v d) : ∀ {vs : List V} {ds : List D} (i : Nat), Reps K cl F vs ds → Reps K cl F (vs.set i v) (ds.set i d)
  | _, _, _, .nil => .nil
  | _, _, 0, .cons _ t => .cons r t
  | _, _, i + 1, .cons q t => .cons q (Reps.set r i t)
theorem Reps.take : ∀ {vs : List V} {ds : List D} (n : Nat), Reps K cl F vs ds → Reps K cl F (vs.take n) (ds.take n)
  | _, _, 0, _ => .nil
  | _, _, _ + 1, .nil => .nil
  | _, _, n + 1, .cons r t => .cons r (Reps.take n t)
theorem Reps.drop : ∀ {vs : List V} {ds : List D} (n : Nat), Reps K cl F vs ds → Reps K cl F (vs.drop n) (ds.drop n)
  | _, _, 0, r => r
  | _, _, _ + 1, .nil => .nil
  | _, _, n + 1, .cons _ t => Reps.drop n t
theorem Reps.reverse : ∀ {vs : List V} {ds : List D}, Reps K cl F vs ds → Reps K cl F vs.reverse ds.reverse
  | _, _, .nil => .nil
  | _, _, .cons r t => by
    rw [List.reverse_cons, List.reverse_cons]
    exact (Reps.reverse t).append (.one r)
theorem Reps.inv {vs : List V} {d : D} {ds : List D} (h : Reps K cl F vs (d :: ds)) : ∃ v ws, vs = v :: ws ∧ Rep K cl F v d ∧ Reps K cl F ws ds := by
  cases h with
  | cons a b => exact ⟨_, _, rfl, a, b⟩
theorem Reps.inv0 {vs : List V} (h : Reps K cl F vs []) : vs = [] := by
  cases h with
  | nil => rfl
theorem Rep.toInt {v : V} {i : Int} (h : Rep K cl F v (.int i)) : v = .int i := by cases h; rfl
theorem Rep.toBl {v : V} {i : Bool} (h : Rep K cl F v (.bl i)) : v = .bl i := by cases h; rfl
theorem Rep.toStr {v : V} {i : Str} (h : Rep K cl F v (.str i)) : v = .str i := by cases h; rfl
theorem Rep.toByt {v : V} {i : Array UInt8} (h : Rep K cl F v (.byt i)) : v = .byt i := by cases h; rfl
theorem Rep.toNon {v : V} (h : Rep K cl F v .non) : v = .non := by cases h; rfl
theorem Rep.toRef {v : V} {a : Addr} (h : Rep K cl F v (.ref a)) : v = .ref a := by cases h; rfl
theorem Rep.toCls {v : V} {c : Nat} (h : Rep K cl F v (.cls c)) : v = .ref (cl c) := by cases h; rfl
theorem Rep.toTy {v : V} {n : String} (h : Rep K cl F v (.ty n)) : v = .ty n := by cases h; rfl
theorem Rep.toLst {v : V} {ds : List D} (h : Rep K cl F v (.lst ds)) : ∃ a vs, v = .ref a ∧ SqL K F a vs ∧ Reps K cl F vs ds := by
  cases h with | lst a b => exact ⟨_, _, rfl, a, b⟩
theorem Rep.toTup {v : V} {ds : List D} (h : Rep K cl F v (.tup ds)) : ∃ a vs, v = .ref a ∧ SqT K F a vs ∧ Reps K cl F vs ds := by
  cases h with | tup a b => exact ⟨_, _, rfl, a.sq, b⟩
theorem Rep.toTup1 {v : V} {ds : List D} (h : Rep K cl F v (.tup ds)) : ∃ a vs, v = .ref a ∧ SqT1 K F a vs ∧ Reps K cl F vs ds := by
  cases h with | tup a b => exact ⟨_, _, rfl, a, b⟩
theorem Rep.toObj {v : V} {c : Nat} {ns : List Str} {ds : List D} (h : Rep K cl F v (.obj c ns ds)) : ∃ a dx vs, v = .ref a ∧ F a = some (.ins (cl c) dx (ns.zip vs)) ∧ ns.length = vs.length ∧ Reps K cl F vs ds := by
  cases h with | obj a b c => exact ⟨_, _, _, rfl, a, b, c⟩
/-- whole lists of one kind -/
theorem Reps.ints : ∀ {vs : List V} {ns : List Int}, Reps K cl F vs (ns.map D.int) → vs = ns.map V.int
  | _, [], h => h.inv0
  | _, n :: ns, h => by
    obtain ⟨v, ws, rfl, a, b⟩ := h.inv
    rw [a.toInt, Reps.ints b]; rfl
theorem Reps.strs : ∀ {vs : List V} {ns : List Str}, Reps K cl F vs (ns.map D.str) → vs = ns.map V.str
  | _, [], h => h.inv0
  | _, n :: ns, h => by
    obtain ⟨v, ws, rfl, a, b⟩ := h.inv
    rw [a.toStr, Reps.strs b]; rfl
theorem Reps.of_ints (ns : List Int) : Reps K cl F (ns.map V.int) (ns.map D.int) := by
  induction ns with
  | nil => exact .nil
  | cons n ns ih => exact .cons (.int n) ih
end

/-! ### the heap in two parts: F for good, M what may be changed -/
section
variable (K : PySem.W.Frag) (cl : ClW)
/-- the object at a is d at its top, what it holds is in F -/
def RepTop (F H : Hp) (a : Addr) : D → Prop
  | .lst ds => ∃ vs, H a = some (.lst vs) ∧ Reps K cl F vs ds
  | .dK ks ds => ∃ vs, H a = some (.dK (ks.zip vs)) ∧ ks.length = vs.length ∧ Reps K cl F vs ds
  | .dT ks ds => ∃ vs, H a = some (.dT (ks.zip vs)) ∧ ks.length = vs.length ∧ Reps K cl F vs ds
  | .obj c ns ds => ∃ dx vs, H a = some (.ins (cl c) dx (ns.zip vs)) ∧ ns.length = vs.length ∧ Reps K cl F vs ds
  | _ => False
/-- the names that lambdas bear: of which def -/
def tabNames : List Str := ["walk_spans.<locals>.<lambda>", "SpanTable.__init__.<locals>.<lambda>", "PairTable.put_rows.<locals>.<lambda>", "KeyTable.put_rows.<locals>.<lambda>", "law.<locals>.<lambda>", "_law_right.<locals>.<lambda>", "_law_asks.<locals>.<lambda>",
  "_law_wrong.<locals>.<lambda>", "_law_refused.<locals>.<lambda>", "_law_odd.<locals>.<lambda>", "KeyTable.__init__.<locals>.<lambda>", "PairTable.__init__.<locals>.<lambda>"]
/-- the tables of the defs that make lambdas: the place of the i-th is told under the tag 1000 + i, 0 where there is none -/
def tabsOf (cl : Nat → Addr) : List (Addr × Str) := tabNames.zipIdx.filterMap fun p => if cl (1000 + p.2) = 0 then none else some (cl (1000 + p.2), p.1)
structure Good (F H : Hp) (M : Mem) : Prop where
  sub : Same F H
  cell : ∀ a d, M a = some d → F a = none ∧ RepTop K cl F H a d
  tab : LamX.Tabs (tabsOf cl) H
  noT : ∀ b ps, F b ≠ some (.tbl ps)
structure Slots (F : Hp) (σ : St) (ρ : Env) : Prop where
  len : σ.length = ρ.length
  get : ∀ (i : Nat) d, ρ[i]? = some (some d) → ∃ v, σ[i]? = some (some v) ∧ Rep K cl F v d
/-- an exception's own dict -/
def ExcAt (F : Hp) (dd : Option Addr) (ns : List Str) (ds : List D) : Prop :=
  (dd = none ∧ ns = [] ∧ ds = []) ∨ ∃ d vs, dd = some d ∧ F d = some (.xd (ns.zip vs)) ∧ ns.length = vs.length ∧ Reps K cl F vs ds
end
section
variable {K : PySem.W.Frag} {cl : ClW} {F F' H H' : Hp} {M : Mem}
theorem same_new {H : Hp} {p : Addr} {o : HO} (h : H p = none) : Same H (upd H p o) := fun a u e => by
  rw [upd_ne (ne_of_none e h)]; exact e
theorem RepTop.mono {a : Addr} {d : D} (s : Same F F') (h : RepTop K cl F H a d) (hH : ∀ o, H a = some o → H' a = some o) : RepTop K cl F' H' a d := by
  cases d with
  | lst ds => obtain ⟨vs, h1, h2⟩ := h; exact ⟨vs, hH _ h1, h2.mono s⟩
  | dK ks ds => obtain ⟨vs, h1, h2, h3⟩ := h; exact ⟨vs, hH _ h1, h2, h3.mono s⟩
  | dT ks ds => obtain ⟨vs, h1, h2, h3⟩ := h; exact ⟨vs, hH _ h1, h2, h3.mono s⟩
  | obj c ns ds => obtain ⟨dx, vs, h1, h2, h3⟩ := h; exact ⟨dx, vs, hH _ h1, h2, h3.mono s⟩
  | _ => exact h.elim
theorem RepTop.there {a : Addr} {d : D} (h : RepTop K cl F H a d) : ∃ o, H a = some o := by
  cases d with
  | lst ds => obtain ⟨vs, h1, _⟩ := h; exact ⟨_, h1⟩
  | dK ks ds => obtain ⟨vs, h1, _⟩ := h; exact ⟨_, h1⟩
  | dT ks ds => obtain ⟨vs, h1, _⟩ := h; exact ⟨_, h1⟩
  | obj c ns ds => obtain ⟨dx, vs, h1, _⟩ := h; exact ⟨_, h1⟩
  | _ => exact h.elim
/-- what may change is neither a table nor a code object -/
theorem RepTop.plain {a : Addr} {d : D} (h : RepTop K cl F H a d) : ∃ o, H a = some o ∧ (∀ ps, o ≠ .tbl ps) ∧ ∀ c q, o ≠ LamX.CodeO c q := by
  cases d with
  | lst ds => obtain ⟨vs, h1, _⟩ := h; exact ⟨_, h1, (fun _ e => by cases e), fun _ _ e => by unfold LamX.CodeO at e; cases e⟩
  | dK ks ds => obtain ⟨vs, h1, _⟩ := h; exact ⟨_, h1, (fun _ e => by cases e), fun _ _ e => by unfold LamX.CodeO at e; cases e⟩
  | dT ks ds => obtain ⟨vs, h1, _⟩ := h; exact ⟨_, h1, (fun _ e => by cases e), fun _ _ e => by unfold LamX.CodeO at e; cases e⟩
  | obj c ns ds => obtain ⟨dx, vs, h1, _⟩ := h; exact ⟨_, h1, (fun _ e => by cases e), fun _ _ e => by unfold LamX.CodeO at e; cases e⟩
  | _ => exact h.elim
theorem tabs_put {T : List (Addr × Str)} {p : Addr} {o' : HO} (t : LamX.Tabs T H) {o : HO} (hp : H p = some o) (h1 : ∀ ps, o ≠ .tbl ps) (h2 : ∀ c q, o ≠ LamX.CodeO c q) : LamX.Tabs T (upd H p o') := fun q hq => by
  obtain ⟨ps, a1, a2, a3⟩ := t q hq
  have n1 : q.1 ≠ p := fun z => by rw [z, hp] at a1; exact h1 ps (Option.some.inj a1)
  refine ⟨ps, by rw [upd_ne n1]; exact a1, a2, fun pos cv hcv => ?_⟩
  obtain ⟨c, e1, e2⟩ := a3 pos cv hcv
  have n2 : c ≠ p := fun z => by rw [z, hp] at e2; exact h2 _ _ (Option.some.inj e2)
  exact ⟨c, e1, by rw [upd_ne n2]; exact e2⟩
theorem Good.freshF (g : Good K cl F H M) {p : Addr} (h : H p = none) : F p = none := g.sub.free h
theorem Good.freshM (g : Good K cl F H M) {p : Addr} (h : H p = none) : M p = none := by
  cases e : M p with
  | none => rfl
  | some d => obtain ⟨o, q⟩ := (g.cell p d e).2.there; rw [h] at q; cases q
/-- a new object for good -/
theorem Good.new (g : Good K cl F H M) {p : Addr} {o : HO} (h : H p = none) (ho : ∀ ps, o ≠ .tbl ps := by intro _ z; cases z) : Good K cl (upd F p o) (upd H p o) M where
  tab := g.tab.ext (same_new h)
  noT := fun b ps e => by
    by_cases q : b = p
    · subst q; rw [upd_same] at e; exact ho ps (Option.some.inj e)
    · rw [upd_ne q] at e; exact g.noT b ps e
  sub := fun a u e => by
    by_cases q : a = p
    · subst q; rw [upd_same] at e ⊢; exact e
    · rw [upd_ne q] at e ⊢; exact g.sub a u e
  cell := fun a d e => by
    obtain ⟨h1, h2⟩ := g.cell a d e
    have ne : a ≠ p := fun z => by rw [z, g.freshM h] at e; cases e
    refine ⟨by rw [upd_ne ne]; exact h1, h2.mono (same_new (g.freshF h)) fun u q => by rw [upd_ne ne]; exact q⟩
/-- a new object of no matter -/
theorem Good.junk (g : Good K cl F H M) {p : Addr} {o : HO} (h : H p = none) : Good K cl F (upd H p o) M where
  tab := g.tab.ext (same_new h)
  noT := g.noT
  sub := fun a u e => (same_new h) a u (g.sub a u e)
  cell := fun a d e => by
    obtain ⟨h1, h2⟩ := g.cell a d e
    exact ⟨h1, h2.mono (Same.refl F) (same_new h a)⟩
/-- a new object that may be changed -/
theorem Good.newM (g : Good K cl F H M) {p : Addr} {o : HO} {d : D} (h : H p = none) (r : RepTop K cl F (upd H p o) p d) : Good K cl F (upd H p o) (updM M p d) where
  tab := g.tab.ext (same_new h)
  noT := g.noT
  sub := fun a u e => (same_new h) a u (g.sub a u e)
  cell := fun a e q => by
    by_cases z : a = p
    · subst z; rw [updM_same] at q; cases q; exact ⟨g.freshF h, r⟩
    · rw [updM_ne z] at q
      obtain ⟨h1, h2⟩ := g.cell a e q
      exact ⟨h1, h2.mono (Same.refl F) (same_new h a)⟩
/-- one is changed -/
theorem Good.put (g : Good K cl F H M) {p : Addr} {o : HO} {d e : D} (h : M p = some e) (r : RepTop K cl F (upd H p o) p d) : Good K cl F (upd H p o) (updM M p d) where
  tab := by
    obtain ⟨o', h1, h2, h3⟩ := (g.cell p e h).2.plain
    exact tabs_put g.tab h1 h2 h3
  noT := g.noT
  sub := fun a u q => by
    have ne : a ≠ p := fun z => by rw [z, (g.cell p e h).1] at q; cases q
    rw [upd_ne ne]; exact g.sub a u q
  cell := fun a b q => by
    by_cases z : a = p
    · subst z; rw [updM_same] at q; cases q; exact ⟨(g.cell _ _ h).1, r⟩
    · rw [updM_ne z] at q
      obtain ⟨h1, h2⟩ := g.cell a b q
      exact ⟨h1, h2.mono (Same.refl F) fun u w => by rw [upd_ne z]; exact w⟩
/-- one is not changed any more -/
theorem Good.freeze (g : Good K cl F H M) {p : Addr} {d : D} (h : M p = some d) : ∃ F', Same F F' ∧ Good K cl F' H (delM M p) ∧ Rep K cl F' (.ref p) d := by
  obtain ⟨h1, h2⟩ := g.cell p d h
  obtain ⟨o, ho⟩ := h2.there
  have sm : Same F (upd F p o) := same_new h1
  have gd : Good K cl (upd F p o) H (delM M p) := {
    tab := g.tab
    noT := fun b ps e => by
      by_cases q : b = p
      · subst q
        rw [upd_same] at e
        obtain ⟨o', k1, k2, _⟩ := h2.plain
        rw [ho] at k1
        exact k2 ps (by rw [← Option.some.inj k1]; exact Option.some.inj e)
      · rw [upd_ne q] at e; exact g.noT b ps e
    sub := fun a u e => by
      by_cases q : a = p
      · subst q; rw [upd_same] at e; rw [← e]; exact ho
      · rw [upd_ne q] at e; exact g.sub a u e
    cell := fun a b q => by
      by_cases z : a = p
      · subst z; rw [delM_same] at q; cases q
      · rw [delM_ne z] at q
        obtain ⟨k1, k2⟩ := g.cell a b q
        exact ⟨by rw [upd_ne z]; exact k1, k2.mono sm fun u w => w⟩ }
  refine ⟨upd F p o, sm, gd, ?_⟩
  cases d with
  | lst ds => obtain ⟨vs, h1, h2⟩ := h2; rw [h1] at ho; cases ho; exact .lst (SqL.of upd_same) (h2.mono sm)
  | dK ks ds => obtain ⟨vs, h1, h2, h3⟩ := h2; rw [h1] at ho; cases ho; exact .dK upd_same h2 (h3.mono sm)
  | dT ks ds => obtain ⟨vs, h1, h2, h3⟩ := h2; rw [h1] at ho; cases ho; exact .dT upd_same h2 (h3.mono sm)
  | obj c ns ds => obtain ⟨dx, vs, h1, h2, h3⟩ := h2; rw [h1] at ho; cases ho; exact .obj upd_same h2 (h3.mono sm)
  | _ => exact h2.elim
theorem Slots.mono {σ : St} {ρ : Env} (s : Same F F') (h : Slots K cl F σ ρ) : Slots K cl F' σ ρ := ⟨h.len, fun i d e => by
  obtain ⟨v, h1, h2⟩ := h.get i d e
  exact ⟨v, h1, h2.mono s⟩⟩
theorem Slots.set {σ : St} {ρ : Env} {v : V} {d : D} (h : Slots K cl F σ ρ) (i : Nat) (r : Rep K cl F v d) : Slots K cl F (σ.set i (some v)) (ρ.set i (some d)) := ⟨by rw [List.length_set, List.length_set]; exact h.len, fun j e q => by
  by_cases z : i = j
  · subst z
    rw [List.getElem?_set_self'] at q ⊢
    cases w : ρ[i]? with
    | none => rw [w] at q; cases q
    | some x =>
      rw [w] at q
      have hi : i < σ.length := by rw [h.len]; exact (List.getElem?_eq_some_iff.mp w).1
      have e1 : some d = some e := Option.some.inj q
      cases e1
      rw [List.getElem?_eq_getElem hi]
      exact ⟨v, rfl, r⟩
  · rw [List.getElem?_set_ne z] at q ⊢
    exact h.get j e q⟩
theorem Slots.setN {σ : St} {ρ : Env} {v : Option V} (h : Slots K cl F σ ρ) (i : Nat) : Slots K cl F (σ.set i v) (ρ.set i none) := ⟨by rw [List.length_set, List.length_set]; exact h.len, fun j e q => by
  by_cases z : i = j
  · subst z
    rw [List.getElem?_set_self'] at q
    cases w : ρ[i]? with
    | none => rw [w] at q; cases q
    | some x => rw [w] at q; cases q
  · rw [List.getElem?_set_ne z] at q ⊢
    exact h.get j e q⟩
theorem ExcAt.mono {dd : Option Addr} {ns : List Str} {ds : List D} (s : Same F F') (h : ExcAt K cl F dd ns ds) : ExcAt K cl F' dd ns ds := by
  rcases h with h | ⟨d, vs, h1, h2, h3, h4⟩
  · exact .inl h
  · exact .inr ⟨d, vs, h1, s _ _ h2, h3, h4.mono s⟩
end

/-! ### readings over data -/
abbrev DV := D → Mem → Prop
abbrev DX := Nat → List Str → List D → Env → Mem → Prop
abbrev DTE := Env → Mem → DV → DX → Prop
abbrev DTT := Env → Mem → (Bool → Mem → Prop) → DX → Prop
abbrev DTA := Env → Mem → (List D → Mem → Prop) → DX → Prop
structure DEnds where
  nx : Env → Mem → Prop
  rt : DV
  bk : Env → Mem → Prop
  ct : Env → Mem → Prop
  ex : DX
abbrev DTS := DEnds → Env → Mem → Prop
abbrev DEK := Nat → List Str → List D → Mem → Prop
abbrev SpD := List D → Mem → DV → DEK → Prop

section
variable (K : PySem.W.Frag) (cl : ClW)
def Post (F : Hp) (Q : VK) (Qd : DV) : Prop := ∀ v H' F' d M', Same F F' → Good K cl F' H' M' → Rep K cl F' v d → Qd d M' → Q v H'
def PostT (F : Hp) (Q : Bool → Hp → Prop) (Qd : Bool → Mem → Prop) : Prop := ∀ b H' F' M', Same F F' → Good K cl F' H' M' → Qd b M' → Q b H'
def PostA (F : Hp) (Q : List V → Hp → Prop) (Qd : List D → Mem → Prop) : Prop := ∀ vs H' F' ds M', Same F F' → Good K cl F' H' M' → Reps K cl F' vs ds → Qd ds M' → Q vs H'
def PostS (F : Hp) (Q : St → Hp → Prop) (Qd : Env → Mem → Prop) : Prop := ∀ σ H' F' ρ M', Same F F' → Good K cl F' H' M' → Slots K cl F' σ ρ → Qd ρ M' → Q σ H'
def WOk (W : WX) (F : Hp) (Xd : DX) : Prop := ∀ c ns ds σ H' F' ρ M' dd, Same F F' → Good K cl F' H' M' → Slots K cl F' σ ρ → ExcAt K cl F' dd ns ds → Xd c ns ds ρ M' → W (.ref (cl c)) dd σ H'
def EOk (F : Hp) (E : XK) (Ed : DEK) : Prop := ∀ c ns ds H' F' M' dd, Same F F' → Good K cl F' H' M' → ExcAt K cl F' dd ns ds → Ed c ns ds M' → E (.ref (cl c)) dd H'
structure EndsOk (W : WX) (F : Hp) (D : Ends) (Dd : DEnds) : Prop where
  nx : PostS K cl F D.nx Dd.nx
  rt : Post K cl F D.rt Dd.rt
  bk : PostS K cl F D.bk Dd.bk
  ct : PostS K cl F D.ct Dd.ct
  ex : WOk K cl W F Dd.ex
def lowE (W : WX) (τ : DTE) : TE := fun σ H Q => ∃ F ρ M Qd Xd, Good K cl F H M ∧ Slots K cl F σ ρ ∧ τ ρ M Qd Xd ∧ Post K cl F Q Qd ∧ WOk K cl W F Xd
def lowT (W : WX) (τ : DTT) : TT := fun σ H Q => ∃ F ρ M Qd Xd, Good K cl F H M ∧ Slots K cl F σ ρ ∧ τ ρ M Qd Xd ∧ PostT K cl F Q Qd ∧ WOk K cl W F Xd
def lowA (W : WX) (τ : DTA) : TA := fun σ H Q => ∃ F ρ M Qd Xd, Good K cl F H M ∧ Slots K cl F σ ρ ∧ τ ρ M Qd Xd ∧ PostA K cl F Q Qd ∧ WOk K cl W F Xd
def lowS (W : WX) (τ : DTS) : TS := fun D σ H => ∃ F ρ M Dd, Good K cl F H M ∧ Slots K cl F σ ρ ∧ τ Dd ρ M ∧ EndsOk K cl W F D Dd
/-- a promise over data -/
def lower (spd : SpD) : Sp := fun vs H Q E => ∃ F M ds Qd Ed, Good K cl F H M ∧ Reps K cl F vs ds ∧ spd ds M Qd Ed ∧ Post K cl F Q Qd ∧ EOk K cl F E Ed
end
section
variable {K : PySem.W.Frag} {cl : ClW} {F F' : Hp}
theorem Post.mono {Q : VK} {Qd : DV} (s : Same F F') (h : Post K cl F Q Qd) : Post K cl F' Q Qd := fun v H' G d M' s' => h v H' G d M' (s.trans s')
theorem PostT.mono {Q : Bool → Hp → Prop} {Qd : Bool → Mem → Prop} (s : Same F F') (h : PostT K cl F Q Qd) : PostT K cl F' Q Qd := fun v H' G M' s' => h v H' G M' (s.trans s')
theorem PostA.mono {Q : List V → Hp → Prop} {Qd : List D → Mem → Prop} (s : Same F F') (h : PostA K cl F Q Qd) : PostA K cl F' Q Qd := fun v H' G d M' s' => h v H' G d M' (s.trans s')
theorem PostS.mono {Q : St → Hp → Prop} {Qd : Env → Mem → Prop} (s : Same F F') (h : PostS K cl F Q Qd) : PostS K cl F' Q Qd := fun v H' G d M' s' => h v H' G d M' (s.trans s')
theorem WOk.mono {W : WX} {Xd : DX} (s : Same F F') (h : WOk K cl W F Xd) : WOk K cl W F' Xd := fun c ns ds σ H' G ρ M' dd s' => h c ns ds σ H' G ρ M' dd (s.trans s')
theorem EOk.mono {E : XK} {Ed : DEK} (s : Same F F') (h : EOk K cl F E Ed) : EOk K cl F' E Ed := fun c ns ds H' G M' dd s' => h c ns ds H' G M' dd (s.trans s')
theorem EndsOk.mono {W : WX} {D : Ends} {Dd : DEnds} (s : Same F F') (h : EndsOk K cl W F D Dd) : EndsOk K cl W F' D Dd := ⟨h.nx.mono s, h.rt.mono s, h.bk.mono s, h.ct.mono s, h.ex.mono s⟩
end

/-! ### judgements -/
structure DE (cl : ClW) (X : Cx) (W : WX) (e : Expr) (τ : DTE) : Prop where
  pe : PE X e (lowE X.K cl W τ)
structure DT (cl : ClW) (X : Cx) (W : WX) (e : Expr) (τ : DTT) : Prop where
  pt : PT X e (lowT X.K cl W τ)
structure DW (cl : ClW) (X : Cx) (W : WX) (e : Expr) (τ : DTT) : Prop where
  pw : PW X e (lowT X.K cl W τ)
structure DA (cl : ClW) (X : Cx) (W : WX) (es : List Expr) (τ : DTA) : Prop where
  pa : PA X es (lowA X.K cl W τ)
structure DS (cl : ClW) (X : Cx) (W : WX) (st : Stmt) (τ : DTS) : Prop where
  ps : PS X st (lowS X.K cl W τ)
structure DSs (cl : ClW) (X : Cx) (W : WX) (st : List Stmt) (τ : DTS) : Prop where
  pss : PSs X st (lowS X.K cl W τ)
section
variable {cl : ClW} {X : Cx} {W : WX}
theorem pe_imp {e : Expr} {t t' : TE} (h : PE X e t) (i : ∀ σ H Q, t' σ H Q → t σ H Q) : PE X e t' := ⟨fun pins s σ H Q I q => h.run pins s σ H Q I (i σ H Q q)⟩
theorem pt_imp {e : Expr} {t t' : TT} (h : PT X e t) (i : ∀ σ H Q, t' σ H Q → t σ H Q) : PT X e t' := ⟨fun pins s σ H Q I q => h.run pins s σ H Q I (i σ H Q q)⟩
theorem pw_imp {e : Expr} {t t' : TT} (h : PW X e t) (i : ∀ σ H Q, t' σ H Q → t σ H Q) : PW X e t' := ⟨fun wh pins s σ H Q I q => h.run wh pins s σ H Q I (i σ H Q q)⟩
theorem pa_imp {es : List Expr} {t t' : TA} (h : PA X es t) (i : ∀ σ H Q, t' σ H Q → t σ H Q) : PA X es t' := ⟨fun pos pins s σ H Q I q => h.run pos pins s σ H Q I (i σ H Q q)⟩
theorem ps_imp {st : Stmt} {t t' : TS} (h : PS X st t) (i : ∀ D σ H, t' D σ H → t D σ H) : PS X st t' := ⟨fun pins s σ H D I q => h.run pins s σ H D I (i D σ H q)⟩
theorem pss_imp {st : List Stmt} {t t' : TS} (h : PSs X st t) (i : ∀ D σ H, t' D σ H → t D σ H) : PSs X st t' := ⟨fun pins s σ H D I q => h.run pins s σ H D I (i D σ H q)⟩
end
end DL

set_option Elab.async false
set_option linter.all false
set_option maxRecDepth 100000
set_option maxHeartbeats 2000000
namespace DL
open PySem L2

/-! ### views: a value's data, read at its top -/
def vw (M : Mem) : D → D
  | .ref a => (M a).getD (.ref a)
  | d => d
def Vw (K : PySem.W.Frag) (cl : ClW) (F H : Hp) (v : V) (d : D) : Prop := Rep K cl F v d ∨ ∃ a, v = .ref a ∧ RepTop K cl F H a d
section
variable {K : PySem.W.Frag} {cl : ClW} {F F' H H' : Hp} {M : Mem} {v : V} {d : D}
theorem vw_ok (g : Good K cl F H M) (r : Rep K cl F v d) : Vw K cl F H v (vw M d) := by
  cases d with
  | ref a =>
    obtain rfl := r.toRef
    show Vw K cl F H (.ref a) ((M a).getD (.ref a))
    cases e : M a with
    | none => exact .inl (.ref a)
    | some c => exact .inr ⟨a, rfl, (g.cell a c e).2⟩
  | _ => exact .inl r
theorem Vw.int {i : Int} (h : Vw K cl F H v (.int i)) : v = .int i := by
  rcases h with h | ⟨a, _, h⟩
  · exact h.toInt
  · exact h.elim
theorem Vw.bl {i : Bool} (h : Vw K cl F H v (.bl i)) : v = .bl i := by
  rcases h with h | ⟨a, _, h⟩
  · exact h.toBl
  · exact h.elim
theorem Vw.str {i : Str} (h : Vw K cl F H v (.str i)) : v = .str i := by
  rcases h with h | ⟨a, _, h⟩
  · exact h.toStr
  · exact h.elim
theorem Vw.byt {i : Array UInt8} (h : Vw K cl F H v (.byt i)) : v = .byt i := by
  rcases h with h | ⟨a, _, h⟩
  · exact h.toByt
  · exact h.elim
theorem Vw.non (h : Vw K cl F H v .non) : v = .non := by
  rcases h with h | ⟨a, _, h⟩
  · exact h.toNon
  · exact h.elim
theorem Vw.lst {ds : List D} (g : Same F H) (h : Vw K cl F H v (.lst ds)) : ∃ a vs, v = .ref a ∧ SqL K H a vs ∧ Reps K cl F vs ds := by
  rcases h with h | ⟨a, rfl, vs, h1, h2⟩
  · obtain ⟨a, vs, rfl, h1, h2⟩ := h.toLst
    exact ⟨a, vs, rfl, same_l g h1, h2⟩
  · exact ⟨a, vs, rfl, SqL.of h1, h2⟩
theorem Vw.tup {ds : List D} (g : Same F H) (h : Vw K cl F H v (.tup ds)) : ∃ a vs, v = .ref a ∧ SqT K H a vs ∧ Reps K cl F vs ds := by
  rcases h with h | ⟨a, rfl, h1⟩
  · obtain ⟨a, vs, rfl, h1, h2⟩ := h.toTup
    exact ⟨a, vs, rfl, same_t g h1, h2⟩
  · exact h1.elim
theorem Vw.obj {c : Nat} {ns : List Str} {ds : List D} (g : Same F H) (h : Vw K cl F H v (.obj c ns ds)) : ∃ a dx vs, v = .ref a ∧ H a = some (.ins (cl c) dx (ns.zip vs)) ∧ ns.length = vs.length ∧ Reps K cl F vs ds := by
  rcases h with h | ⟨a, rfl, dx, vs, h1, h2, h3⟩
  · obtain ⟨a, dx, vs, rfl, h1, h2, h3⟩ := h.toObj
    exact ⟨a, dx, vs, rfl, g _ _ h1, h2, h3⟩
  · exact ⟨a, dx, vs, rfl, h1, h2, h3⟩
/-! ### what comes out -/
theorem Post.val {Q : VK} {Qd : DV} (p : Post K cl F Q Qd) (g : Good K cl F H M) (r : Rep K cl F v d) (q : Qd d M) : Q v H := p v H F d M (Same.refl F) g r q
theorem Post.newL {Q : VK} {Qd : DV} {vs : List V} {ds : List D} (p : Post K cl F Q Qd) (g : Good K cl F H M) (r : Reps K cl F vs ds) (q : Qd (.lst ds) M) {a : Addr} (h : H a = none) : Q (.ref a) (upd H a (.lst vs)) :=
  p _ _ (upd F a (.lst vs)) (.lst ds) M (same_new (g.freshF h)) (g.new h) (.lst (SqL.of upd_same) (r.mono (same_new (g.freshF h)))) q
theorem Post.newT {Q : VK} {Qd : DV} {vs : List V} {ds : List D} (p : Post K cl F Q Qd) (g : Good K cl F H M) (r : Reps K cl F vs ds) (q : Qd (.tup ds) M) {a : Addr} (h : H a = none) : Q (.ref a) (upd H a (.tup vs)) :=
  p _ _ (upd F a (.tup vs)) (.tup ds) M (same_new (g.freshF h)) (g.new h) (.tup (SqT1.of upd_same) (r.mono (same_new (g.freshF h)))) q
end

/-! ### operations over data -/
def LOp (K : PySem.W.Frag) (cl : ClW) (r : R2) (f : D → D → Option D) : Prop :=
  ∀ F H M x y d e z Q Qd, Good K cl F H M → Vw K cl F H x d → Vw K cl F H y e → f d e = some z → Post K cl F Q Qd → Qd z M → r x y H Q
def LUn (K : PySem.W.Frag) (cl : ClW) (r : V → Hp → VK → Prop) (f : D → Option D) : Prop :=
  ∀ F H M x d z Q Qd, Good K cl F H M → Vw K cl F H x d → f d = some z → Post K cl F Q Qd → Qd z M → r x H Q
/-- a call of a built-in: the arguments' data, then the views -/
def LCall (K : PySem.W.Frag) (cl : ClW) (r : List V → Hp → VK → Prop) (f : List D → Option D) : Prop :=
  ∀ F H M xs ds z Q Qd, Good K cl F H M → Reps K cl F xs ds → f (ds.map (vw M)) = some z → Post K cl F Q Qd → Qd z M → r xs H Q

@[simp] def dVar (i : Nat) : DTE := fun ρ M Q _ => ∃ d, ρ[i]? = some (some d) ∧ Q d M
@[simp] def dC (d : D) : DTE := fun _ M Q _ => Q d M
@[simp] def dOp (f : D → D → Option D) (τa τb : DTE) : DTE := fun ρ M Q X => τa ρ M (fun d M1 => τb ρ M1 (fun e M2 => ∃ z, f (vw M2 d) (vw M2 e) = some z ∧ Q z M2) X) X
@[simp] def dUn (f : D → Option D) (τa : DTE) : DTE := fun ρ M Q X => τa ρ M (fun d M1 => ∃ z, f (vw M1 d) = some z ∧ Q z M1) X
@[simp] def dTest (τ : DTE) : DTT := fun ρ M Q X => τ ρ M (fun d M1 => ∃ b, d = .bl b ∧ Q b M1) X
@[simp] def dAnd (τ υ : DTT) : DTT := fun ρ M Q X => τ ρ M (fun c M1 => if c = true then υ ρ M1 Q X else Q false M1) X
@[simp] def dOr (τ υ : DTT) : DTT := fun ρ M Q X => τ ρ M (fun c M1 => if c = true then Q true M1 else υ ρ M1 Q X) X
@[simp] def dNot (τ : DTT) : DTT := fun ρ M Q X => τ ρ M (fun c M1 => Q (!c) M1) X
@[simp] def dIfE (τ : DTT) (τa τb : DTE) : DTE := fun ρ M Q X => τ ρ M (fun c M1 => if c = true then τa ρ M1 Q X else τb ρ M1 Q X) X
@[simp] def dNil : DTA := fun _ M Q _ => Q [] M
@[simp] def dCons (τ : DTE) (τr : DTA) : DTA := fun ρ M Q X => τ ρ M (fun d M1 => τr ρ M1 (fun ds M2 => Q (d :: ds) M2) X) X
@[simp] def dTup (τ : DTA) : DTE := fun ρ M Q X => τ ρ M (fun ds M1 => ds.length ≤ sizeLine ∧ Q (.tup ds) M1) X
@[simp] def dLst (τ : DTA) : DTE := fun ρ M Q X => τ ρ M (fun ds M1 => ds.length ≤ sizeLine ∧ Q (.lst ds) M1) X
/-- a list that will be changed -/
def dLstM (τ : DTA) : DTE := fun ρ M Q X => τ ρ M (fun ds M1 => ds.length ≤ sizeLine ∧ ∀ a, M1 a = none → Q (.ref a) (updM M1 a (.lst ds))) X
/-- what was changed is now for good -/
@[simp] def frz (d : D) (M : Mem) (Q : DV) : Prop := match d with
  | .ref a => (match M a with
    | some c => Q c (delM M a)
    | none => Q d M)
  | d => Q d M
@[simp] def dFrz (τ : DTE) : DTE := fun ρ M Q X => τ ρ M (fun d M1 => frz d M1 Q) X
/-- a call of a built-in -/
@[simp] def dCB (f : List D → Option D) (τ : DTA) : DTE := fun ρ M Q X => τ ρ M (fun ds M1 => ∃ z, f (ds.map (vw M1)) = some z ∧ Q z M1) X
@[simp] def dSl (f : D → Option Int → Option Int → Option D) (τ : DTE) (lo hi : Env → Mem → (Option Int → Mem → Prop) → DX → Prop) : DTE := fun ρ M Q X => τ ρ M (fun d M1 => lo ρ M1 (fun l M2 => hi ρ M2 (fun h M3 => ∃ z, f (vw M3 d) l h = some z ∧ Q z M3) X) X) X
abbrev DTO := Env → Mem → (Option Int → Mem → Prop) → DX → Prop
@[simp] def dNoPart : DTO := fun _ M Q _ => Q none M
@[simp] def dPart (τ : DTE) : DTO := fun ρ M Q X => τ ρ M (fun d M1 => ∃ i, d = .int i ∧ Q (some i) M1) X

section
variable {cl : ClW} {X : Cx} {W : WX} {a b e c : Expr} {es rest : List Expr} {pos : Pos} {τ τa τb τc : DTE} {υ υ' : DTT} {α : DTA}
theorem d_var {x : Str} (i : Nat) (hN : X.N[i]? = some x := by rfl) (hv : Vis X.env.scope x := by first | exact Or.inl rfl | exact Or.inr (Or.inl rfl) | exact Or.inr (Or.inr rfl)) (hd : (x == ("__debug__" : Str)) = false := by decide)
    (hcd : (x == ("__classdict__" : Str)) = false := by decide) : DE cl X W (.Name x pos) (dVar i) :=
  ⟨pe_imp (pe_var hN hv hd hcd) fun σ H Q ⟨F, ρ, M, Qd, Xd, g, s, ⟨d, h1, h2⟩, p, w⟩ => by
    obtain ⟨v, e1, r⟩ := s.get i d h1
    exact ⟨v, e1, p.val g r h2⟩⟩
theorem d_c {v : V} {d : D} (h : PE X e (tC v)) (r : ∀ F, Rep X.K cl F v d) : DE cl X W e (dC d) :=
  ⟨pe_imp h fun σ H Q ⟨F, ρ, M, Qd, Xd, g, s, h2, p, w⟩ => p.val g (r F) h2⟩
theorem d_int {i j} : DE cl X W (.Constant (.int i) j pos) (dC (.int i)) := d_c pe_int fun _ => .int i
theorem d_bl {i j} : DE cl X W (.Constant (.bool i) j pos) (dC (.bl i)) := d_c pe_bl fun _ => .bl i
theorem d_str {i j} : DE cl X W (.Constant (.str i) j pos) (dC (.str i)) := d_c pe_str fun _ => .str i
theorem d_non {j} : DE cl X W (.Constant .none j pos) (dC .non) := d_c pe_non fun _ => .non
theorem d_byt {x j} : DE cl X W (.Constant (.bytes x) j pos) (dC (.byt x.toArray)) := d_c (v := .byt x.toArray) pe_byt fun _ => .byt _
theorem d_op {op : Operator} {r : R2} {f : D → D → Option D} (ho : OpR X (binaryOp op) r) (hf : LOp X.K cl r f) (ha : DE cl X W a τa) (hb : DE cl X W b τb) : DE cl X W (.BinOp a op b pos) (dOp f τa τb) :=
  ⟨pe_imp (pe_op ho ha.pe hb.pe) fun σ H Q ⟨F, ρ, M, Qd, Xd, g, s, t, p, w⟩ =>
    ⟨F, ρ, M, _, Xd, g, s, t, fun v H' F' d M' sm g' r' q => ⟨F', ρ, M', _, Xd, g', s.mono sm, q, fun u H2 F2 e M2 sm2 g2 r2 q2 => by
      obtain ⟨z, e1, e2⟩ := q2
      exact hf F2 H2 M2 v u _ _ z Q Qd g2 (vw_ok g2 (r'.mono sm2)) (vw_ok g2 r2) e1 (p.mono (sm.trans sm2)) e2, w.mono sm⟩, w⟩⟩
theorem d_cmp {op : CmpOp} {r : R2} {f : D → D → Option D} (ho : OpR X (compareOp op) r) (hf : LOp X.K cl r f) (ha : DE cl X W a τa) (hb : DE cl X W b τb) (hm : behindInMarks op b = false) : DE cl X W (.Compare a [op] [b] pos) (dOp f τa τb) :=
  ⟨pe_imp (pe_cmpR ho ha.pe hb.pe hm) fun σ H Q ⟨F, ρ, M, Qd, Xd, g, s, t, p, w⟩ =>
    ⟨F, ρ, M, _, Xd, g, s, t, fun v H' F' d M' sm g' r' q => ⟨F', ρ, M', _, Xd, g', s.mono sm, q, fun u H2 F2 e M2 sm2 g2 r2 q2 => by
      obtain ⟨z, e1, e2⟩ := q2
      exact hf F2 H2 M2 v u _ _ z Q Qd g2 (vw_ok g2 (r'.mono sm2)) (vw_ok g2 r2) e1 (p.mono (sm.trans sm2)) e2, w.mono sm⟩, w⟩⟩
theorem PostT.test {K : PySem.W.Frag} {F : Hp} {Q : Bool → Hp → Prop} {Qd : Bool → Mem → Prop} (p : PostT K cl F Q Qd) : Post K cl F (fun x H' => ∃ k, x = .bl k ∧ Q k H') (fun d M1 => ∃ b, d = .bl b ∧ Qd b M1) := fun v H' F' d M' sm g r ⟨b, e1, q⟩ => by
  subst e1
  exact ⟨b, r.toBl, p b H' F' M' sm g q⟩
theorem d_tcmp {op : CmpOp} {r : R2} {f : D → D → Option D} (ho : OpR X (compareOp op) r) (hf : LOp X.K cl r f) (ha : DE cl X W a τa) (hb : DE cl X W b τb) (hm : behindInMarks op b = false) : DT cl X W (.Compare a [op] [b] pos) (dTest (dOp f τa τb)) :=
  ⟨pt_imp (pt_cmpR ho ha.pe hb.pe hm) fun σ H Q ⟨F, ρ, M, Qd, Xd, g, s, t, p, w⟩ =>
    ⟨F, ρ, M, _, Xd, g, s, t, fun v H' F' d M' sm g' r' q => ⟨F', ρ, M', _, Xd, g', s.mono sm, q, fun u H2 F2 e M2 sm2 g2 r2 q2 => by
      obtain ⟨z, e1, e2⟩ := q2
      exact hf F2 H2 M2 v u _ _ z _ _ g2 (vw_ok g2 (r'.mono sm2)) (vw_ok g2 r2) e1 (PostT.test (p.mono (sm.trans sm2))) e2, w.mono sm⟩, w⟩⟩
/-- a chain of two comparisons -/
@[simp] def dChain (f f' : D → D → Option D) (τa τb τc : DTE) : DTE := fun ρ M Q X => τa ρ M (fun d M1 => τb ρ M1 (fun e M2 => ∃ k, f (vw M2 d) (vw M2 e) = some (.bl k) ∧ if k = true then τc ρ M2 (fun h M3 => ∃ z, f' (vw M3 e) (vw M3 h) = some z ∧ Q z M3) X else Q (.bl false) M2) X) X
theorem d_chain {op op' : CmpOp} {r r' : R2} {f f' : D → D → Option D} (ho : OpR X (compareOp op) r) (ho' : OpR X (compareOp op') r') (hf : LOp X.K cl r f) (hf' : LOp X.K cl r' f') (ha : DE cl X W a τa) (hb : DE cl X W b τb) (hc : DE cl X W c τc)
    (hm : lastMarks [op, op'] [b, c] = false := by with_unfolding_all rfl) : DE cl X W (.Compare a [op, op'] [b, c] pos) (dChain f f' τa τb τc) :=
  ⟨pe_imp (pe_chain ho ho' ha.pe hb.pe hc.pe hm) fun σ H Q ⟨F, ρ, M, Qd, Xd, g, s, t, p, w⟩ =>
    ⟨F, ρ, M, _, Xd, g, s, t, fun v H' F' d M' sm g' r' q => ⟨F', ρ, M', _, Xd, g', s.mono sm, q, fun u H2 F2 e M2 sm2 g2 r2 q2 => by
      obtain ⟨k, e1, e2⟩ := q2
      refine hf F2 H2 M2 v u _ _ (.bl k) _ (fun z M3 => z = .bl k ∧ M3 = M2) g2 (vw_ok g2 (r'.mono sm2)) (vw_ok g2 r2) e1 ?_ ⟨rfl, rfl⟩
      intro z H3 F3 dz M3 sm3 g3 r3 ⟨h3, h4⟩
      subst h3 h4
      refine ⟨k, r3.toBl, ?_⟩
      cases k with
      | true =>
        rw [if_pos rfl] at e2 ⊢
        refine ⟨F3, ρ, M3, _, Xd, g3, s.mono ((sm.trans sm2).trans sm3), e2, fun y H4 F4 h M4 sm4 g4 r4 ⟨z4, h5, h6⟩ => ?_, w.mono ((sm.trans sm2).trans sm3)⟩
        exact hf' F4 H4 M4 u y _ _ z4 Q Qd g4 (vw_ok g4 (r2.mono (sm3.trans sm4))) (vw_ok g4 r4) h5 (p.mono (((sm.trans sm2).trans sm3).trans sm4)) h6
      | false =>
        rw [if_neg Bool.false_ne_true] at e2 ⊢
        exact p _ _ _ _ _ ((sm.trans sm2).trans sm3) g3 (.bl false) e2, w.mono sm⟩, w⟩⟩
theorem d_tchain {op op' : CmpOp} {r r' : R2} {f f' : D → D → Option D} (ho : OpR X (compareOp op) r) (ho' : OpR X (compareOp op') r') (hf : LOp X.K cl r f) (hf' : LOp X.K cl r' f') (ha : DE cl X W a τa) (hb : DE cl X W b τb) (hc : DE cl X W c τc)
    (hm : lastMarks [op, op'] [b, c] = false := by with_unfolding_all rfl) : DT cl X W (.Compare a [op, op'] [b, c] pos) (dTest (dChain f f' τa τb τc)) :=
  ⟨pt_imp (pt_chain ho ho' ha.pe hb.pe hc.pe hm) fun σ H Q ⟨F, ρ, M, Qd, Xd, g, s, t, p, w⟩ =>
    ⟨F, ρ, M, _, Xd, g, s, t, fun v H' F' d M' sm g' r' q => ⟨F', ρ, M', _, Xd, g', s.mono sm, q, fun u H2 F2 e M2 sm2 g2 r2 q2 => by
      obtain ⟨k, e1, e2⟩ := q2
      refine hf F2 H2 M2 v u _ _ (.bl k) _ (fun z M3 => z = .bl k ∧ M3 = M2) g2 (vw_ok g2 (r'.mono sm2)) (vw_ok g2 r2) e1 ?_ ⟨rfl, rfl⟩
      intro z H3 F3 dz M3 sm3 g3 r3 ⟨h3, h4⟩
      subst h3 h4
      refine ⟨k, r3.toBl, ?_⟩
      cases k with
      | true =>
        rw [if_pos rfl] at e2 ⊢
        refine ⟨F3, ρ, M3, _, Xd, g3, s.mono ((sm.trans sm2).trans sm3), e2, fun y H4 F4 h M4 sm4 g4 r4 ⟨z4, h5, h6⟩ => ?_, w.mono ((sm.trans sm2).trans sm3)⟩
        exact hf' F4 H4 M4 u y _ _ z4 _ _ g4 (vw_ok g4 (r2.mono (sm3.trans sm4))) (vw_ok g4 r4) h5 (PostT.test (p.mono (((sm.trans sm2).trans sm3).trans sm4))) h6
      | false =>
        rw [if_neg Bool.false_ne_true] at e2 ⊢
        exact PostT.test p _ _ _ _ _ ((sm.trans sm2).trans sm3) g3 (.bl false) e2, w.mono sm⟩, w⟩⟩
theorem d_un {op : UnaryOp} {r : V → Hp → VK → Prop} {f : D → Option D} (ho : UnR X (unaryOp op) r) (hf : LUn X.K cl r f) (ha : DE cl X W a τa) : DE cl X W (.UnaryOp op a pos) (dUn f τa) :=
  ⟨pe_imp (pe_un ho ha.pe) fun σ H Q ⟨F, ρ, M, Qd, Xd, g, s, t, p, w⟩ =>
    ⟨F, ρ, M, _, Xd, g, s, t, fun v H' F' d M' sm g' r' ⟨z, e1, e2⟩ => hf F' H' M' v _ z Q Qd g' (vw_ok g' r') e1 (p.mono sm) e2, w⟩⟩
theorem d_val (h : DE cl X W e τ) (he : ∀ whole, isTrue e X.env whole = (do let v ← whole; standAt e.pos; holding [v] (truthy v)) := by intro _; rfl) : DT cl X W e (dTest τ) :=
  ⟨pt_imp (pt_val h.pe he) fun σ H Q ⟨F, ρ, M, Qd, Xd, g, s, t, p, w⟩ => ⟨F, ρ, M, _, Xd, g, s, t, p.test, w⟩⟩
theorem dw_and1 (h : DT cl X W a υ) : DW cl X W (.BoolOp .And [a] pos) υ := ⟨pw_and1 h.pt⟩
theorem dw_or1 (h : DT cl X W a υ) : DW cl X W (.BoolOp .Or [a] pos) υ := ⟨pw_or1 h.pt⟩
theorem dw_and (h : DT cl X W a υ) (h' : DW cl X W (.BoolOp .And (b :: rest) pos) υ') : DW cl X W (.BoolOp .And (a :: b :: rest) pos) (dAnd υ υ') :=
  ⟨pw_imp (pw_and h.pt h'.pw) fun σ H Q ⟨F, ρ, M, Qd, Xd, g, s, t, p, w⟩ => ⟨F, ρ, M, _, Xd, g, s, t, fun k H' F' M' sm g' q => by
    cases k with
    | true => rw [if_pos rfl] at q ⊢; exact ⟨F', ρ, M', Qd, Xd, g', s.mono sm, q, p.mono sm, w.mono sm⟩
    | false => rw [if_neg Bool.false_ne_true] at q ⊢; exact p _ _ _ _ sm g' q, w⟩⟩
theorem dw_or (h : DT cl X W a υ) (h' : DW cl X W (.BoolOp .Or (b :: rest) pos) υ') : DW cl X W (.BoolOp .Or (a :: b :: rest) pos) (dOr υ υ') :=
  ⟨pw_imp (pw_or h.pt h'.pw) fun σ H Q ⟨F, ρ, M, Qd, Xd, g, s, t, p, w⟩ => ⟨F, ρ, M, _, Xd, g, s, t, fun k H' F' M' sm g' q => by
    cases k with
    | true => rw [if_pos rfl] at q ⊢; exact p _ _ _ _ sm g' q
    | false => rw [if_neg Bool.false_ne_true] at q ⊢; exact ⟨F', ρ, M', Qd, Xd, g', s.mono sm, q, p.mono sm, w.mono sm⟩, w⟩⟩
theorem DW.dt (h : DW cl X W e υ) : DT cl X W e υ := ⟨h.pw.pt⟩
theorem d_tnot (h : DT cl X W a υ) : DT cl X W (.UnaryOp .Not a pos) (dNot υ) :=
  ⟨pt_imp (pt_not h.pt) fun σ H Q ⟨F, ρ, M, Qd, Xd, g, s, t, p, w⟩ => ⟨F, ρ, M, _, Xd, g, s, t, fun k H' F' M' sm g' q => p _ _ _ _ sm g' q, w⟩⟩
theorem d_ifE (h : DT cl X W c υ) (ha : DE cl X W a τa) (hb : DE cl X W b τb) : DE cl X W (.IfExp c a b pos) (dIfE υ τa τb) :=
  ⟨pe_imp (pe_ifExp h.pt ha.pe hb.pe) fun σ H Q ⟨F, ρ, M, Qd, Xd, g, s, t, p, w⟩ => ⟨F, ρ, M, _, Xd, g, s, t, fun k H' F' M' sm g' q => by
    cases k with
    | true => rw [if_pos rfl] at q ⊢; exact ⟨F', ρ, M', Qd, Xd, g', s.mono sm, q, p.mono sm, w.mono sm⟩
    | false => rw [if_neg Bool.false_ne_true] at q ⊢; exact ⟨F', ρ, M', Qd, Xd, g', s.mono sm, q, p.mono sm, w.mono sm⟩, w⟩⟩
/-- and, or, not as values of truth -/
@[simp] def dAndV (τa τb : DTE) : DTE := fun ρ M Q X => τa ρ M (fun d M1 => ∃ c, d = .bl c ∧ if c = true then τb ρ M1 Q X else Q (.bl false) M1) X
@[simp] def dOrV (τa τb : DTE) : DTE := fun ρ M Q X => τa ρ M (fun d M1 => ∃ c, d = .bl c ∧ if c = true then Q (.bl true) M1 else τb ρ M1 Q X) X
@[simp] def dNotV (τa : DTE) : DTE := fun ρ M Q X => τa ρ M (fun d M1 => ∃ c, d = .bl c ∧ Q (.bl (!c)) M1) X
theorem d_one {op} (h : DE cl X W a τ) : DE cl X W (.BoolOp op [a] pos) τ := ⟨pe_one h.pe⟩
theorem d_andV (ha : DE cl X W a τa) (hb : DE cl X W (.BoolOp .And (b :: rest) pos) τb) : DE cl X W (.BoolOp .And (a :: b :: rest) pos) (dAndV τa τb) :=
  ⟨pe_imp (pe_and ha.pe hb.pe) fun σ H Q ⟨F, ρ, M, Qd, Xd, g, s, t, p, w⟩ => ⟨F, ρ, M, _, Xd, g, s, t, fun v H' F' d M' sm g' r ⟨k, e1, q⟩ => by
    subst e1
    refine ⟨k, r.toBl, ?_⟩
    cases k with
    | true => rw [if_pos rfl] at q ⊢; exact ⟨F', ρ, M', Qd, Xd, g', s.mono sm, q, p.mono sm, w.mono sm⟩
    | false => rw [if_neg Bool.false_ne_true] at q ⊢; exact p _ _ _ _ _ sm g' (.bl false) q, w⟩⟩
theorem d_orV (ha : DE cl X W a τa) (hb : DE cl X W (.BoolOp .Or (b :: rest) pos) τb) : DE cl X W (.BoolOp .Or (a :: b :: rest) pos) (dOrV τa τb) :=
  ⟨pe_imp (pe_or ha.pe hb.pe) fun σ H Q ⟨F, ρ, M, Qd, Xd, g, s, t, p, w⟩ => ⟨F, ρ, M, _, Xd, g, s, t, fun v H' F' d M' sm g' r ⟨k, e1, q⟩ => by
    subst e1
    refine ⟨k, r.toBl, ?_⟩
    cases k with
    | true => rw [if_pos rfl] at q ⊢; exact p _ _ _ _ _ sm g' (.bl true) q
    | false => rw [if_neg Bool.false_ne_true] at q ⊢; exact ⟨F', ρ, M', Qd, Xd, g', s.mono sm, q, p.mono sm, w.mono sm⟩, w⟩⟩
theorem d_notV (ha : DE cl X W a τa) : DE cl X W (.UnaryOp .Not a pos) (dNotV τa) :=
  ⟨pe_imp (pe_not ha.pe) fun σ H Q ⟨F, ρ, M, Qd, Xd, g, s, t, p, w⟩ => ⟨F, ρ, M, _, Xd, g, s, t, fun v H' F' d M' sm g' r ⟨k, e1, q⟩ => by
    subst e1
    exact ⟨k, r.toBl, p _ _ _ _ _ sm g' (.bl _) q⟩, w⟩⟩
/-! arguments, displays -/
theorem da_nil : DA cl X W [] dNil := ⟨pa_imp pa_nil fun σ H Q ⟨F, ρ, M, Qd, Xd, g, s, t, p, w⟩ => p [] H F [] M (Same.refl F) g .nil t⟩
theorem da_cons (ha : DE cl X W e τ) (hr : DA cl X W es α) (hs : starEach (e :: es) X.env = (false, eval e X.env) :: starEach es X.env := by rfl) : DA cl X W (e :: es) (dCons τ α) :=
  ⟨pa_imp (pa_cons ha.pe hr.pa hs) fun σ H Q ⟨F, ρ, M, Qd, Xd, g, s, t, p, w⟩ => ⟨F, ρ, M, _, Xd, g, s, t, fun v H' F' d M' sm g' r q => ⟨F', ρ, M', _, Xd, g', s.mono sm, q, fun vs H2 F2 ds M2 sm2 g2 r2 q2 => p _ _ _ _ _ (sm.trans sm2) g2 (.cons (r.mono sm2) r2) q2, w.mono sm⟩, w⟩⟩
theorem d_tup {x1} (h : DA cl X W es α) : DE cl X W (.Tuple es x1 pos) (dTup α) :=
  ⟨pe_imp (pe_tup h.pa) fun σ H Q ⟨F, ρ, M, Qd, Xd, g, s, t, p, w⟩ => ⟨F, ρ, M, _, Xd, g, s, t, fun vs H' F' ds M' sm g' r ⟨hl, q⟩ => ⟨by rw [r.length]; exact hl, fun a ha => (p.mono sm).newT g' r q ha⟩, w⟩⟩
theorem d_lst (h : DA cl X W es α) : DE cl X W (.List es pos) (dLst α) :=
  ⟨pe_imp (pe_lst h.pa) fun σ H Q ⟨F, ρ, M, Qd, Xd, g, s, t, p, w⟩ => ⟨F, ρ, M, _, Xd, g, s, t, fun vs H' F' ds M' sm g' r ⟨hl, q⟩ => ⟨by rw [r.length]; exact hl, fun a ha => (p.mono sm).newL g' r q ha⟩, w⟩⟩
theorem d_lstM (h : DA cl X W es α) : DE cl X W (.List es pos) (dLstM α) :=
  ⟨pe_imp (pe_lst h.pa) fun σ H Q ⟨F, ρ, M, Qd, Xd, g, s, t, p, w⟩ => ⟨F, ρ, M, _, Xd, g, s, t, fun vs H' F' ds M' sm g' r ⟨hl, q⟩ => ⟨by rw [r.length]; exact hl, fun a ha =>
    p _ _ F' _ _ sm (g'.newM (d := .lst ds) ha ⟨vs, upd_same, r⟩) (.ref a) (q a (g'.freshM ha))⟩, w⟩⟩
theorem d_frz (h : DE cl X W e τ) : DE cl X W e (dFrz τ) :=
  ⟨pe_imp h.pe fun σ H Q ⟨F, ρ, M, Qd, Xd, g, s, t, p, w⟩ => ⟨F, ρ, M, _, Xd, g, s, t, fun v H' F' d M' sm g' r q => by
    cases d with
    | ref a =>
      obtain rfl := r.toRef
      cases e : M' a with
      | none =>
        have q' : Qd (.ref a) M' := by
          simp only [frz] at q
          rw [e] at q
          exact q
        exact p _ _ _ _ _ sm g' r q'
      | some c =>
        have q' : Qd c (delM M' a) := by
          simp only [frz] at q
          rw [e] at q
          exact q
        obtain ⟨F2, s2, g2, r2⟩ := g'.freeze e
        exact p _ _ _ _ _ (sm.trans s2) g2 r2 q'
    | _ => exact p _ _ _ _ _ sm g' r q, w⟩⟩
/-! built-ins called by name -/
theorem d_callB {x : Str} {id : String} {p : Pos} {r : List V → Hp → VK → Prop} {f : List D → Option D} (hc : CallR X (.builtin id) r) (hf : LCall X.K cl r f) (hg : Gl X x) (hm : X.mg x = none) (hv : bootBuiltins x = some (.builtin id)) (ha : DA cl X W (e :: es) α) (hn : x ≠ "__name__" := by decide) (hdb : (x == ("__debug__" : Str)) = false := by decide)
    (he : starEach (e :: es) X.env = (false, eval e X.env) :: starEach es X.env := by rfl) (hpl : (backTo pos (starEach es X.env)).any (·.1) = false := by rfl) : DE cl X W (.Call (.Name x p) (e :: es) [] pos) (dCB f α) :=
  ⟨pe_imp (pe_callB hc hg hm hv ha.pa hn hdb he hpl) fun σ H Q ⟨F, ρ, M, Qd, Xd, g, s, t, p, w⟩ => ⟨F, ρ, M, _, Xd, g, s, t, fun vs H' F' ds M' sm g' r ⟨z, e1, e2⟩ => hf F' H' M' vs ds z Q Qd g' r e1 (p.mono sm) e2, w⟩⟩
theorem d_callTy {x : Str} {T : String} {p : Pos} {r : List V → Hp → VK → Prop} {f : List D → Option D} (hc : CallR X (.type T) r) (hf : LCall X.K cl r f) (hg : Gl X x) (hm : X.mg x = none) (hv : bootBuiltins x = some (.type T)) (ha : DA cl X W (e :: es) α) (hn : x ≠ "__name__" := by decide) (hdb : (x == ("__debug__" : Str)) = false := by decide)
    (he : starEach (e :: es) X.env = (false, eval e X.env) :: starEach es X.env := by rfl) (hpl : (backTo pos (starEach es X.env)).any (·.1) = false := by rfl) : DE cl X W (.Call (.Name x p) (e :: es) [] pos) (dCB f α) :=
  ⟨pe_imp (pe_callTy hc hg hm hv ha.pa hn hdb he hpl) fun σ H Q ⟨F, ρ, M, Qd, Xd, g, s, t, p, w⟩ => ⟨F, ρ, M, _, Xd, g, s, t, fun vs H' F' ds M' sm g' r ⟨z, e1, e2⟩ => hf F' H' M' vs ds z Q Qd g' r e1 (p.mono sm) e2, w⟩⟩
end
end DL

set_option Elab.async false
set_option linter.all false
set_option maxRecDepth 100000
set_option maxHeartbeats 2000000
namespace DL
open PySem L2

/-! ### operators -/
def addD : D → D → Option D
  | .int i, .int j => some (.int (i + j))
  | .str x, .str y => if x.length + y.length ≤ sizeLine then some (.str (x ++ y)) else none
  | .lst xs, .lst ys => if xs.length + ys.length ≤ sizeLine then some (.lst (xs ++ ys)) else none
  | .tup xs, .tup ys => if xs.length + ys.length ≤ sizeLine then some (.tup (xs ++ ys)) else none
  | .byt x, .byt y => if x.size + y.size ≤ 16777216 then some (.byt (x ++ y)) else none
  | _, _ => none
@[simp] def subD : D → D → Option D
  | .int i, .int j => some (.int (i - j))
  | _, _ => none
def mulD : D → D → Option D
  | .int i, .int j => if (-(2 ^ 64) < i ∧ i < 2 ^ 64) ∨ (-(2 ^ 64) < j ∧ j < 2 ^ 64) then some (.int (i * j)) else none
  | _, _ => none
def fdivD : D → D → Option D
  | .int i, .int j => if 0 < j ∧ j < 2 ^ 200 then some (.int (i / j)) else none
  | _, _ => none
def modD : D → D → Option D
  | .int i, .int j => if 0 < j then some (.int (i % j)) else none
  | _, _ => none
def powD : D → D → Option D
  | .int i, .int j => if 0 ≤ j ∧ j ≤ 1000000 ∧ i.natAbs < 2 ^ 64 then some (.int (i ^ j.toNat)) else none
  | _, _ => none
@[simp] def cmpD (p : Int → Int → Bool) : D → D → Option D
  | .int i, .int j => some (.bl (p i j))
  | _, _ => none
@[simp] def negD : D → Option D
  | .int i => some (.int (-i))
  | _ => none
@[simp] def isNonD : D → D → Option D
  | .non, .non => some (.bl true)
  | _, .non => some (.bl false)
  | _, _ => none
@[simp] def notNonD : D → D → Option D
  | .non, .non => some (.bl false)
  | _, .non => some (.bl true)
  | _, _ => none
section
variable {K : PySem.W.Frag} {cl : ClW} {X : Cx}
/-- list + list, each read as it stands -/
def rCatS (K : PySem.W.Frag) : R2 := fun x y H Q => ∃ l b xs zs, x = .ref l ∧ y = .ref b ∧ SqL K H l xs ∧ SqL K H b zs ∧ xs.length + zs.length ≤ sizeLine ∧ ∀ p, H p = none → Q (.ref p) (upd H p (.lst (xs ++ zs)))
theorem op_catS : OpR X (binaryOp .Add) (rCatS X.K) := by
  intro pins s σ H x y v u Q I rx ry h
  obtain ⟨l, b, xs, zs, rfl, rfl, hH, hB, hz, q⟩ := h
  cases rx
  cases ry
  obtain ⟨its, r, ⟨o, n, ho, hc, hd, hs⟩, z⟩ := I.list hH
  obtain ⟨its2, r2, ⟨o2, n2, ho2, hc2, hd2, hs2⟩, z2⟩ := I.list hB
  obtain ⟨c1, d1, t1, sl1⟩ := o
  obtain ⟨c2, d2, t2, sl2⟩ := o2
  simp only at hc hd hs hc2 hd2 hs2
  subst hc hd hs hc2 hd2 hs2
  have l1 := r.length
  have l2 := r2.length
  have ea : its.toArray ++ its2.toArray = (its ++ its2).toArray := by simp
  refine concat_meets ⟨_, ho, rfl⟩ ⟨_, ho2, rfl⟩ noFill_list_add seq_list_add PySem.F.slot_list_add PySem.F.entry_list_add (PySem.F.args_list_add_2 _ _) (PyProof.Rows.list_addW l b its.toArray its2.toArray n n2 none none sl1 sl2 (by simp; omega)) ⟨ho, ho2, ?_⟩
  rw [ea]
  exact ⟨.ref _, _, I.lnew (t' := s.toks) (r.append r2) (by rw [List.length_append]; omega), rfl, q _ I.fresh⟩
def rAddAll (K : PySem.W.Frag) : R2 := fun x y H Q => rI0 (fun i j => .int (i + j)) x y H Q ∨ (fun x y H Q => ∃ i j, x = .str i ∧ y = .str j ∧ i.length + j.length ≤ sizeLine ∧ Q (.str (i ++ j)) H) x y H Q ∨ rCatS K x y H Q ∨ rCatA K x y H Q ∨ (fun x y H Q => ∃ i j, x = .byt i ∧ y = .byt j ∧ i.size + j.size ≤ 16777216 ∧ Q (.byt (i ++ j)) H) x y H Q
theorem op_addAll : OpR X (binaryOp .Add) (rAddAll X.K) := op_add.or (op_add_str.or (op_catS.or (op_catA.or op_add_byt)))
theorem lop_add : LOp K cl (rAddAll K) addD := by
  intro F H M x y d e z Q Qd g hx hy h p q
  cases d with
  | int i =>
    cases e with
    | int j =>
      cases h
      obtain rfl := hx.int; obtain rfl := hy.int
      exact .inl ⟨i, j, rfl, rfl, p.val g (.int _) q⟩
    | _ => cases h
  | str i =>
    cases e with
    | str j =>
      simp only [addD] at h
      split at h
      · cases h
        obtain rfl := hx.str; obtain rfl := hy.str
        exact .inr (.inl ⟨i, j, rfl, rfl, by assumption, p.val g (.str _) q⟩)
      · cases h
    | _ => cases h
  | lst ds =>
    cases e with
    | lst es =>
      simp only [addD] at h
      split at h
      · cases h
        obtain ⟨a, vs, rfl, h1, h2⟩ := hx.lst g.sub
        obtain ⟨b, us, rfl, h3, h4⟩ := hy.lst g.sub
        exact .inr (.inr (.inl ⟨a, b, vs, us, rfl, rfl, h1, h3, by rw [h2.length, h4.length]; assumption, fun c hc => p.newL g (h2.append h4) q hc⟩))
      · cases h
    | _ => cases h
  | tup ds =>
    cases e with
    | tup es =>
      simp only [addD] at h
      split at h
      · cases h
        rcases hx with hx | ⟨_, _, hx⟩
        · rcases hy with hy | ⟨_, _, hy⟩
          · obtain ⟨a, vs, rfl, h1, h2⟩ := hx.toTup
            obtain ⟨b, us, rfl, h3, h4⟩ := hy.toTup
            refine .inr (.inr (.inr (.inl ⟨a, b, vs, us, rfl, rfl, same_t g.sub h1, same_t g.sub h3, by rw [h2.length, h4.length]; assumption, fun e => ?_, fun _ e => ?_, fun _ _ c hc => p.newT g (h2.append h4) q hc⟩)))
            · subst e
              cases h2
              exact p.val g hy q
            · subst e
              cases h4
              rw [List.append_nil] at q
              exact p.val g hx q
          · exact hy.elim
        · exact hx.elim
      · cases h
    | _ => cases h
  | byt i =>
    cases e with
    | byt j =>
      simp only [addD] at h
      split at h
      · cases h
        obtain rfl := hx.byt; obtain rfl := hy.byt
        exact .inr (.inr (.inr (.inr ⟨i, j, rfl, rfl, by assumption, p.val g (.byt _) q⟩)))
      · cases h
    | _ => cases h
  | _ => cases h
theorem lop_sub : LOp K cl (rI0 fun i j => .int (i - j)) subD := by
  intro F H M x y d e z Q Qd g hx hy h p q
  cases d <;> cases e <;> first | (cases h; obtain rfl := hx.int; obtain rfl := hy.int; exact ⟨_, _, rfl, rfl, p.val g (.int _) q⟩) | cases h
theorem lop_mul : LOp K cl (rI CMul fun i j => .int (i * j)) mulD := by
  intro F H M x y d e z Q Qd g hx hy h p q
  cases d <;> cases e <;> first | (simp only [mulD] at h; split at h <;> first | (cases h; obtain rfl := hx.int; obtain rfl := hy.int; exact ⟨_, _, rfl, rfl, (by assumption), p.val g (.int _) q⟩) | cases h) | cases h
theorem cdivW_of {i j : Int} (h : 0 < j ∧ j < 2 ^ 200) : CDivW i j := by
  refine wide_div (b := 200) h.1 ?_ (by decide) (by decide)
  have h2 : ((j.natAbs : Nat) : Int) < ((2 ^ 200 : Nat) : Int) := by
    rw [Int.natAbs_of_nonneg (Int.le_of_lt h.1)]
    exact_mod_cast h.2
  exact Int.ofNat_lt.mp h2
theorem lop_fdiv : LOp K cl (rI CDivW fun i j => .int (i / j)) fdivD := by
  intro F H M x y d e z Q Qd g hx hy h p q
  cases d with
  | int i =>
    cases e with
    | int j =>
      simp only [fdivD] at h
      split at h
      · cases h
        obtain rfl := hx.int; obtain rfl := hy.int
        exact ⟨i, j, rfl, rfl, cdivW_of (by assumption), p.val g (.int _) q⟩
      · cases h
    | _ => cases h
  | _ => cases h
theorem lop_mod : LOp K cl (rI (fun _ j => 0 < j) fun i j => .int (i % j)) modD := by
  intro F H M x y d e z Q Qd g hx hy h p q
  cases d with
  | int i =>
    cases e with
    | int j =>
      simp only [modD] at h
      split at h
      · cases h
        obtain rfl := hx.int; obtain rfl := hy.int
        exact ⟨i, j, rfl, rfl, by assumption, p.val g (.int _) q⟩
      · cases h
    | _ => cases h
  | _ => cases h
theorem lop_pow : LOp K cl (rI CPow fun i j => .int (i ^ j.toNat)) powD := by
  intro F H M x y d e z Q Qd g hx hy h p q
  cases d with
  | int i =>
    cases e with
    | int j =>
      simp only [powD] at h
      split at h
      · cases h
        obtain rfl := hx.int; obtain rfl := hy.int
        exact ⟨i, j, rfl, rfl, by assumption, p.val g (.int _) q⟩
      · cases h
    | _ => cases h
  | _ => cases h
theorem lop_cmp (k : Int → Int → Bool) : LOp K cl (rI0 fun i j => .bl (k i j)) (cmpD k) := by
  intro F H M x y d e z Q Qd g hx hy h p q
  cases d with
  | int i =>
    cases e with
    | int j =>
      cases h
      obtain rfl := hx.int; obtain rfl := hy.int
      exact ⟨i, j, rfl, rfl, p.val g (.bl _) q⟩
    | _ => cases h
  | _ => cases h
abbrev ltD := cmpD fun i j => decide (i < j)
abbrev leD := cmpD fun i j => decide (i ≤ j)
abbrev gtD := cmpD fun i j => decide (j < i)
abbrev geD := cmpD fun i j => decide (j ≤ i)
theorem lun_neg : LUn K cl (rU fun i => .int (-i)) negD := by
  intro F H M x d z Q Qd g hx h p q
  cases d with
  | int i =>
    cases h
    obtain rfl := hx.int
    exact ⟨i, rfl, p.val g (.int _) q⟩
  | _ => cases h
theorem Vw.ne_non {F H : Hp} {v : V} {d : D} (h : Vw K cl F H v d) (hd : d ≠ .non) : v ≠ .non := by
  intro e
  subst e
  rcases h with h | ⟨a, e, _⟩
  · cases h; exact hd rfl
  · cases e
theorem lop_isN : LOp K cl (fun x y H Q => y = .non ∧ Q (.bl (decide (x = .non))) H) isNonD := by
  intro F H M x y d e z Q Qd g hx hy h p q
  cases e with
  | non =>
    refine ⟨hy.non, ?_⟩
    by_cases hd : d = .non
    · subst hd
      cases h
      obtain rfl := hx.non
      rw [decide_eq_true rfl]
      exact p.val g (.bl _) q
    · have hz : z = .bl false := by cases d <;> first | exact absurd rfl hd | (cases h; rfl)
      subst hz
      rw [decide_eq_false (hx.ne_non hd)]
      exact p.val g (.bl _) q
  | _ => cases d <;> cases h
theorem lop_notN : LOp K cl (fun x y H Q => y = .non ∧ Q (.bl (!decide (x = .non))) H) notNonD := by
  intro F H M x y d e z Q Qd g hx hy h p q
  cases e with
  | non =>
    refine ⟨hy.non, ?_⟩
    by_cases hd : d = .non
    · subst hd
      cases h
      obtain rfl := hx.non
      rw [decide_eq_true rfl]
      exact p.val g (.bl _) q
    · have hz : z = .bl true := by cases d <;> first | exact absurd rfl hd | (cases h; rfl)
      subst hz
      rw [decide_eq_false (hx.ne_non hd)]
      exact p.val g (.bl _) q
  | _ => cases d <;> cases h
/-! ### items and slices -/
def ixD : D → D → Option D
  | .lst xs, .int i => atI xs i
  | .tup xs, .int i => atI xs i
  | .str z, .int i => if z.length ≤ sizeLine then (atI z.cps.toList i).map fun c => .str ⟨#[c]⟩ else none
  | _, _ => none
theorem reps_atI {F : Hp} {vs : List V} {ds : List D} {i : Int} {d : D} (r : Reps K cl F vs ds) (h : atI ds i = some d) : ∃ v, atI vs i = some v ∧ Rep K cl F v d := by
  unfold atI at h ⊢
  rw [r.length]
  cases e : ixN ds.length i with
  | none => rw [e] at h; cases h
  | some j =>
    rw [e] at h
    exact r.get h
theorem lix : LOp K cl (rIx K) ixD := by
  intro F H M x y d e z Q Qd g hx hy h p q
  cases d with
  | lst ds =>
    cases e with
    | int i =>
      obtain rfl := hy.int
      obtain ⟨a, vs, rfl, h1, h2⟩ := hx.lst g.sub
      obtain ⟨v, h3, h4⟩ := reps_atI h2 h
      exact .inl ⟨a, vs, i, v, rfl, rfl, h1, h3, p.val g h4 q⟩
    | _ => cases h
  | tup ds =>
    cases e with
    | int i =>
      obtain rfl := hy.int
      obtain ⟨a, vs, rfl, h1, h2⟩ := hx.tup g.sub
      obtain ⟨v, h3, h4⟩ := reps_atI h2 h
      exact .inr (.inl ⟨a, vs, i, v, rfl, rfl, h1, h3, p.val g h4 q⟩)
    | _ => cases h
  | str w =>
    cases e with
    | int i =>
      obtain rfl := hy.int
      obtain rfl := hx.str
      simp only [ixD] at h
      split at h
      · rename_i hl
        cases e1 : atI w.cps.toList i with
        | none => rw [e1] at h; cases h
        | some c =>
          rw [e1] at h
          cases h
          exact .inr (.inr ⟨w, i, c, rfl, rfl, hl, e1, p.val g (.str _) q⟩)
      · cases h
    | _ => cases h
  | _ => cases h
variable {W : WX} {a b e : Expr} {pos : Pos} {τ τa τb : DTE}
theorem d_ix (ha : DE cl X W a τa) (hb : DE cl X W b τb) (hs : PlainIx b := by exact fun _ _ => rfl) : DE cl X W (.Subscript a b pos) (dOp ixD τa τb) :=
  ⟨pe_imp (pe_ix ix_seq ha.pe hb.pe hs) fun σ H Q ⟨F, ρ, M, Qd, Xd, g, s, t, p, w⟩ =>
    ⟨F, ρ, M, _, Xd, g, s, t, fun v H' F' d M' sm g' r' q => ⟨F', ρ, M', _, Xd, g', s.mono sm, q, fun u H2 F2 e M2 sm2 g2 r2 q2 => by
      obtain ⟨z, e1, e2⟩ := q2
      exact lix F2 H2 M2 v u _ _ z Q Qd g2 (vw_ok g2 (r'.mono sm2)) (vw_ok g2 r2) e1 (p.mono (sm.trans sm2)) e2, w.mono sm⟩, w⟩⟩
structure DO (cl : ClW) (X : Cx) (W : WX) (e : Option Expr) (τ : DTO) : Prop where
  po : PO X e (fun σ H Q => ∃ F ρ M Qd Xd, Good X.K cl F H M ∧ Slots X.K cl F σ ρ ∧ τ ρ M Qd Xd ∧ (∀ o H' F' M', Same F F' → Good X.K cl F' H' M' → Qd o M' → Q o H') ∧ WOk X.K cl W F Xd)
theorem do_none : DO cl X W none dNoPart := ⟨⟨fun pins s σ H Q I ⟨F, ρ, M, Qd, Xd, g, sl, t, p, w⟩ => po_none.run pins s σ H Q I (p none H F M (Same.refl F) g t)⟩⟩
theorem do_some (h : DE cl X W e τ) : DO cl X W (some e) (dPart τ) := ⟨⟨fun pins s σ H Q I ⟨F, ρ, M, Qd, Xd, g, sl, t, p, w⟩ => (po_some h.pe).run pins s σ H Q I
  ⟨F, ρ, M, _, Xd, g, sl, t, fun v H' F' d M' sm g' r ⟨i, e1, q⟩ => by subst e1; exact ⟨i, r.toInt, p _ _ _ _ sm g' q⟩, w⟩⟩⟩
def cutD (xs : List D) (lo hi : Option Int) : List D := (xs.drop (HT.sIx xs.length 0 lo)).take (HT.sIx xs.length xs.length hi - HT.sIx xs.length 0 lo)
def slD : D → Option Int → Option Int → Option D
  | .lst xs, lo, hi => some (.lst (cutD xs lo hi))
  | .tup xs, lo, hi => some (.tup (cutD xs lo hi))
  | .str z, lo, hi => if z.length ≤ sizeLine then some (.str (cutS z lo hi)) else none
  | _, _, _ => none
theorem reps_cut {F : Hp} {vs : List V} {ds : List D} (r : Reps K cl F vs ds) (lo hi : Option Int) : Reps K cl F (cutV vs lo hi) (cutD ds lo hi) := by
  unfold cutV cutD
  rw [r.length]
  exact (r.drop _).take _
theorem cutD_whole {xs : List D} {lo hi : Option Int} (h : HT.sIx xs.length 0 lo = 0 ∧ HT.sIx xs.length xs.length hi = xs.length) : cutD xs lo hi = xs := by
  unfold cutD
  rw [h.1, h.2]
  simp
theorem d_slice {lo hi : Option Expr} {τl τh : DTO} {p2 : Pos} (he : DE cl X W e τ) (hl : DO cl X W lo τl) (hu : DO cl X W hi τh) : DE cl X W (.Subscript e (.Slice lo hi none p2) pos) (dSl slD τ τl τh) :=
  ⟨pe_imp (pe_slice (sl_list.or (sl_tupA.or sl_str)) he.pe hl.po hu.po) fun σ H Q ⟨F, ρ, M, Qd, Xd, g, s, t, p, w⟩ =>
    ⟨F, ρ, M, _, Xd, g, s, t, fun v H1 F1 d M1 sm1 g1 r1 q1 => ⟨F1, ρ, M1, _, Xd, g1, s.mono sm1, q1, fun l H2 F2 M2 sm2 g2 q2 => ⟨F2, ρ, M2, _, Xd, g2, s.mono (sm1.trans sm2), q2, fun h H3 F3 M3 sm3 g3 q3 => (by
      obtain ⟨z, e1, e2⟩ := q3
      have hv := vw_ok g3 (r1.mono (sm2.trans sm3))
      have p' := p.mono ((sm1.trans sm2).trans sm3)
      cases hd : vw M3 d with
      | lst ds =>
        rw [hd] at hv e1
        cases e1
        obtain ⟨a, vs, rfl, h1, h2⟩ := hv.lst g3.sub
        exact .inl ⟨a, vs, rfl, h1, fun c hc => p'.newL g3 (reps_cut h2 l h) e2 hc⟩
      | tup ds =>
        rw [hd] at hv e1
        cases e1
        rcases hv with hv | ⟨_, _, hv⟩
        · obtain ⟨a, vs, rfl, h1, h2⟩ := hv.toTup
          refine .inr (.inl ⟨a, vs, rfl, same_t g3.sub h1, fun hw => ?_, fun _ c hc => p'.newT g3 (reps_cut h2 l h) e2 hc⟩)
          rw [h2.length] at hw
          rw [cutD_whole hw] at e2
          exact p'.val g3 hv e2
        · exact hv.elim
      | str w =>
        rw [hd] at hv e1
        simp only [slD] at e1
        split at e1
        · cases e1
          exact .inr (.inr ⟨w, hv.str, by assumption, p'.val g3 (.str _) e2⟩)
        · cases e1
      | _ =>
        rw [hd] at e1
        cases e1), w.mono (sm1.trans sm2)⟩, w.mono sm1⟩, w⟩⟩
end
end DL

set_option Elab.async false
set_option linter.all false
set_option maxRecDepth 100000
set_option maxHeartbeats 2000000
namespace DL
open PySem L2

/-! ### statements -/
@[simp] def dNext : DTS := fun E ρ M => E.nx ρ M
@[simp] def dSeq (t u : DTS) : DTS := fun E ρ M => t { E with nx := u E } ρ M
@[simp] def dIf (υ : DTT) (t u : DTS) : DTS := fun E ρ M => υ ρ M (fun b M1 => if b = true then t E ρ M1 else u E ρ M1) E.ex
@[simp] def dRet (τ : DTE) : DTS := fun E ρ M => τ ρ M E.rt E.ex
@[simp] def dRetN : DTS := fun E _ M => E.rt .non M
@[simp] def dDrop (τ : DTE) : DTS := fun E ρ M => τ ρ M (fun _ M1 => E.nx ρ M1) E.ex
@[simp] def dBrk : DTS := fun E ρ M => E.bk ρ M
@[simp] def dCnt : DTS := fun E ρ M => E.ct ρ M
@[simp] def dNever : DTS := fun _ _ _ => False
abbrev DTG := D → Env → Mem → (Env → Mem → Prop) → DX → Prop
abbrev DTGs := List D → Env → Mem → (Env → Mem → Prop) → DX → Prop
@[simp] def gN (i : Nat) : DTG := fun d ρ M Q _ => Q (ρ.set i (some d)) M
@[simp] def gsNil : DTGs := fun ds ρ M Q _ => ds = [] ∧ Q ρ M
@[simp] def gsCons (γ : DTG) (γs : DTGs) : DTGs := fun ds ρ M Q X => ∃ d r, ds = d :: r ∧ γ d ρ M (fun ρ1 M1 => γs r ρ1 M1 Q X) X
/-- a tuple or a list taken apart -/
@[simp] def gT (n : Nat) (γs : DTGs) : DTG := fun d ρ M Q X => ∃ ds, (vw M d = .tup ds ∨ vw M d = .lst ds) ∧ ds.length = n ∧ γs ds ρ M Q X
/-- a list's item stored -/
@[simp] def gSubL (τo τi : DTE) : DTG := fun d ρ M Q X => τo ρ M (fun o M1 => τi ρ M1 (fun i M2 => ∃ a xs k j, o = .ref a ∧ M2 a = some (.lst xs) ∧ i = .int k ∧ ixN xs.length k = some j ∧ Q ρ (updM M2 a (.lst (xs.set j d)))) X) X
@[simp] def dAsg (τ : DTE) (γ : DTG) : DTS := fun E ρ M => τ ρ M (fun d M1 => γ d ρ M1 E.nx E.ex) E.ex
@[simp] def dPar (i j : Nat) (α : DTA) : DTS := fun E ρ M => α ρ M (fun ds M1 => ∃ d e, ds = [d, e] ∧ E.nx ((ρ.set i (some d)).set j (some e)) M1) E.ex
@[simp] def dPar3 (i j l : Nat) (α : DTA) : DTS := fun E ρ M => α ρ M (fun ds M1 => ∃ d e f, ds = [d, e, f] ∧ E.nx (((ρ.set i (some d)).set j (some e)).set l (some f)) M1) E.ex
@[simp] def dAug (i : Nat) (f : D → D → Option D) (τ : DTE) : DTS := fun E ρ M => ∃ d, ρ[i]? = some (some d) ∧ τ ρ M (fun e M1 => ∃ z, f d (vw M1 e) = some z ∧ E.nx (ρ.set i (some z)) M1) E.ex
/-- x += e of whole numbers -/
@[simp] def augI : D → D → Option D
  | .int i, .int j => some (.int (i + j))
  | _, _ => none
def dWhile (υ : DTT) (t : DTS) : DTS := fun E ρ M => ∃ Wd : Nat → Env → Mem → Prop, (∃ m, Wd m ρ M) ∧ ∀ m ρ M, Wd m ρ M →
  υ ρ M (fun b M1 => if b = true then ∃ N : Env → Mem → Prop, (∀ ρ' M', N ρ' M' → ∃ m', m' < m ∧ Wd m' ρ' M') ∧ t { E with nx := N, ct := N, bk := E.nx } ρ M1 else E.nx ρ M1) E.ex
def forD (γ : DTG) (t : DTS) : List D → DTS
  | [] => fun E ρ M => E.nx ρ M
  | x :: xs => fun E ρ M => γ x ρ M (fun ρ2 M2 => t { E with nx := forD γ t xs E, ct := forD γ t xs E, bk := E.nx } ρ2 M2) E.ex
abbrev DTI := Env → Mem → (List D → Mem → Prop) → DX → Prop
def dFor (ι : DTI) (γ : DTG) (t : DTS) : DTS := fun E ρ M => ι ρ M (fun xs M1 => forD γ t xs E ρ M1) E.ex
def noX : DX := fun _ _ _ _ _ => False
@[simp] def wipeD (ρ : Env) : List Nat → Env
  | [] => ρ
  | v :: vs => (wipeD ρ vs).set v none
def lcD (γ : DTG) (υ : DTT) (τ : DTE) (vs : List Nat) (a : Addr) : List D → Env → Mem → DV → Prop
  | [] => fun _ M Q => ∃ ds, M a = some (.lst ds) ∧ Q (.lst ds) (delM M a)
  | x :: xs => fun ρ M Q => γ x (wipeD ρ vs) M (fun ρ2 M2 => υ ρ2 M2 (fun b M3 => if b = true then τ ρ2 M3 (fun d M4 => ∃ acc, M4 a = some (.lst acc) ∧ acc.length < sizeLine ∧ lcD γ υ τ vs a xs ρ (updM M4 a (.lst (acc ++ [d]))) Q) noX else lcD γ υ τ vs a xs ρ M3 Q) noX) noX
def dLc (ι : DTI) (γ : DTG) (υ : DTT) (τ : DTE) (vs : List Nat) : DTE := fun ρ M Q X => ι ρ M (fun xs M1 => ∀ a, M1 a = none → lcD γ υ τ vs a xs ρ (updM M1 a (.lst [])) Q) X
@[simp] def dYes : DTT := fun _ M Q _ => Q true M

section
variable {cl : ClW} {X : Cx} {W : WX} {a b e c : Expr} {es : List Expr} {st : Stmt} {sts sts' : List Stmt} {pos : Pos} {τ τa τb τc : DTE} {υ : DTT} {α : DTA} {t u : DTS}
theorem dss_nil : DSs cl X W [] dNext := ⟨pss_imp pss_nil fun D σ H ⟨F, ρ, M, E, g, s, q, ok⟩ => ok.nx σ H F ρ M (Same.refl F) g s q⟩
theorem dss_cons (h1 : DS cl X W st t) (h2 : DSs cl X W sts u) : DSs cl X W (st :: sts) (dSeq t u) := ⟨pss_imp (pss_cons h1.ps h2.pss) fun D σ H ⟨F, ρ, M, E, g, s, q, ok⟩ =>
  ⟨F, ρ, M, { E with nx := u E }, g, s, q, ⟨fun σ' H' F' ρ' M' sm g' s' q' => ⟨F', ρ', M', E, g', s', q', ok.mono sm⟩, ok.rt, ok.bk, ok.ct, ok.ex⟩⟩⟩
theorem dss_one (h1 : DS cl X W st t) : DSs cl X W [st] t := ⟨pss_one h1.ps⟩
theorem ds_pass : DS cl X W (.Pass pos) dNext := ⟨ps_imp ps_pass fun D σ H ⟨F, ρ, M, E, g, s, q, ok⟩ => ok.nx σ H F ρ M (Same.refl F) g s q⟩
theorem ds_break : DS cl X W (.Break pos) dBrk := ⟨ps_imp ps_break fun D σ H ⟨F, ρ, M, E, g, s, q, ok⟩ => ok.bk σ H F ρ M (Same.refl F) g s q⟩
theorem ds_continue : DS cl X W (.Continue pos) dCnt := ⟨ps_imp ps_continue fun D σ H ⟨F, ρ, M, E, g, s, q, ok⟩ => ok.ct σ H F ρ M (Same.refl F) g s q⟩
theorem ds_never : DS cl X W st dNever := ⟨ps_imp ps_never fun D σ H ⟨_, _, _, _, _, _, q, _⟩ => q⟩
theorem dss_never : DSs cl X W sts dNever := ⟨pss_imp pss_never fun D σ H ⟨_, _, _, _, _, _, q, _⟩ => q⟩
theorem ds_if (h : DT cl X W c υ) (h1 : DSs cl X W sts t) (h2 : DSs cl X W sts' u) : DS cl X W (.If c sts sts' pos) (dIf υ t u) := ⟨ps_imp (ps_if h.pt h1.pss h2.pss) fun D σ H ⟨F, ρ, M, E, g, s, q, ok⟩ =>
  ⟨F, ρ, M, _, E.ex, g, s, q, fun k H' F' M' sm g' q' => by
    cases k with
    | true => rw [if_pos rfl] at q' ⊢; exact ⟨F', ρ, M', E, g', s.mono sm, q', ok.mono sm⟩
    | false => rw [if_neg Bool.false_ne_true] at q' ⊢; exact ⟨F', ρ, M', E, g', s.mono sm, q', ok.mono sm⟩, ok.ex⟩⟩
theorem ds_ret (h : DE cl X W e τ) : DS cl X W (.Return (some e) pos) (dRet τ) := ⟨ps_imp (ps_ret h.pe) fun D σ H ⟨F, ρ, M, E, g, s, q, ok⟩ => ⟨F, ρ, M, _, E.ex, g, s, q, ok.rt, ok.ex⟩⟩
theorem ds_retN : DS cl X W (.Return none pos) dRetN := ⟨ps_imp ps_retN fun D σ H ⟨F, ρ, M, E, g, s, q, ok⟩ => ok.rt.val g .non q⟩
theorem ds_expr (h : DE cl X W e τ) (hs : swapsWith e none pos.line X.env = pure false := by rfl) : DS cl X W (.Expr e pos) (dDrop τ) := ⟨ps_imp (ps_expr h.pe hs) fun D σ H ⟨F, ρ, M, E, g, s, q, ok⟩ =>
  ⟨F, ρ, M, _, E.ex, g, s, q, fun v H' F' d M' sm g' r q' => ok.nx _ _ _ _ _ sm g' (s.mono sm) q', ok.ex⟩⟩
/-! targets -/
structure DG (cl : ClW) (X : Cx) (W : WX) (tg : Expr) (is : List Nat) (γ : DTG) : Prop where
  pg : PG X tg (fun v σ H Q => ∃ F ρ M d Qd Xd, Good X.K cl F H M ∧ Slots X.K cl F σ ρ ∧ Rep X.K cl F v d ∧ γ d ρ M Qd Xd ∧ (∀ σ' H' F' ρ' M', Same F F' → Good X.K cl F' H' M' → Slots X.K cl F' σ' ρ' → (∀ vs : List Nat, (∀ i ∈ is, i ∈ vs) → wipe σ' vs = wipe σ vs) → Qd ρ' M' → Q σ' H') ∧ WOk X.K cl W F Xd)
structure DGs (cl : ClW) (X : Cx) (W : WX) (tgs : List Expr) (is : List Nat) (γs : DTGs) : Prop where
  pgs : PGs X tgs (fun vs σ H Q => ∃ F ρ M ds Qd Xd, Good X.K cl F H M ∧ Slots X.K cl F σ ρ ∧ Reps X.K cl F vs ds ∧ γs ds ρ M Qd Xd ∧ (∀ σ' H' F' ρ' M', Same F F' → Good X.K cl F' H' M' → Slots X.K cl F' σ' ρ' → (∀ vs : List Nat, (∀ i ∈ is, i ∈ vs) → wipe σ' vs = wipe σ vs) → Qd ρ' M' → Q σ' H') ∧ WOk X.K cl W F Xd)
theorem pg_imp {tg : Expr} {t t' : TG} (h : PG X tg t) (i : ∀ v σ H Q, t' v σ H Q → t v σ H Q) : PG X tg t' := ⟨fun pins s σ H v u Q I r q => h.run pins s σ H v u Q I r (i v σ H Q q)⟩
theorem pgs_imp {tg : List Expr} {t t' : TGs} (h : PGs X tg t) (i : ∀ v σ H Q, t' v σ H Q → t v σ H Q) : PGs X tg t' := ⟨fun pins s σ H v u Q I r q => h.run pins s σ H v u Q I r (i v σ H Q q)⟩
theorem wipe_set {σ : St} {i : Nat} {x : Option V} : ∀ {vs : List Nat}, i ∈ vs → wipe (σ.set i x) vs = wipe σ vs
  | v :: vs, h => by
    unfold wipe
    by_cases e : i ∈ vs
    · rw [wipe_set e]
    · have e2 : i = v := by
        rcases List.mem_cons.mp h with h | h
        · exact h
        · exact absurd h e
      subst e2
      have : ∀ (vs : List Nat), i ∉ vs → wipe (σ.set i x) vs = (wipe σ vs).set i x := by
        intro vs
        induction vs with
        | nil => intro _; rfl
        | cons w ws ih =>
          intro hn
          have h1 : i ≠ w := fun z => hn (z ▸ List.mem_cons_self)
          have h2 : i ∉ ws := fun z => hn (List.mem_cons_of_mem _ z)
          show (wipe (σ.set i x) ws).set w none = ((wipe σ ws).set w none).set i x
          rw [ih h2, List.set_comm _ _ h1]
      rw [this vs e, List.set_set]
theorem dg_name {x : Str} (i : Nat) (hN : X.N.Nodup) (hi : X.N[i]? = some x := by rfl) (hx : Loc X.env.scope x := by first | exact Or.inl rfl | exact Or.inr rfl) (hf : X.fn x = true ∨ X.env.scope.names.lookup x = some .local := by first | exact .inl rfl | exact .inr rfl) : DG cl X W (.Name x pos) [i] (gN i) :=
  ⟨pg_imp (pg_name hN hi hx hf) fun v σ H Q ⟨F, ρ, M, d, Qd, Xd, g, s, r, q, p, w⟩ => p _ _ F _ M (Same.refl F) g (s.set i r) (fun vs h => wipe_set (h i (List.mem_singleton.mpr rfl))) q⟩
theorem dgs_nil : DGs cl X W [] [] gsNil := ⟨pgs_imp pgs_nil fun v σ H Q ⟨F, ρ, M, d, Qd, Xd, g, s, r, ⟨e1, q⟩, p, w⟩ => by
  subst e1
  exact ⟨r.inv0, p _ _ F _ M (Same.refl F) g s (fun _ _ => rfl) q⟩⟩
theorem dgs_cons {tgs : List Expr} {is js : List Nat} {γ : DTG} {γs : DTGs} (h1 : DG cl X W e is γ) (h2 : DGs cl X W tgs js γs) (hs : (assignEach (e :: tgs) X.env).map (·.2) = assign e X.env :: (assignEach tgs X.env).map (·.2) := by rfl) : DGs cl X W (e :: tgs) (is ++ js) (gsCons γ γs) :=
  ⟨pgs_imp (pgs_cons h1.pg h2.pgs hs) fun vs σ H Q ⟨F, ρ, M, ds, Qd, Xd, g, s, r, ⟨d, rest, e1, q⟩, p, w⟩ => by
    subst e1
    obtain ⟨v, ws, rfl, r1, r2⟩ := r.inv
    refine ⟨v, ws, rfl, F, ρ, M, d, _, Xd, g, s, r1, q, fun σ1 H1 F1 ρ1 M1 sm1 g1 s1 w1 q1 => ?_, w⟩
    refine ⟨F1, ρ1, M1, rest, Qd, Xd, g1, s1, r2.mono sm1, q1, fun σ2 H2 F2 ρ2 M2 sm2 g2 s2 w2 q2 => ?_, w.mono sm1⟩
    exact p _ _ _ _ _ (sm1.trans sm2) g2 s2 (fun vs hv => (w2 vs fun i hi => hv i (List.mem_append_right _ hi)).trans (w1 vs fun i hi => hv i (List.mem_append_left _ hi))) q2⟩
def gTL (K : PySem.W.Frag) (n : Nat) (t : TGs) : TG := fun v σ H Q => gTup K n t v σ H Q ∨ gLst K n t v σ H Q
theorem pg_tl {k : Nat} {t : TGs} {n : Nat} (hc : X.calm = true) (h : PGs X es t) (hn : (assignEach es X.env).length = n := by rfl) (hst : (assignEach es X.env).findIdx? (·.1) = none := by rfl) : PG X (.Tuple es k pos) (gTL X.K n t) :=
  ⟨fun pins s σ H v u Q I r q => q.elim (fun q => (pg_tup hc h hn hst).run pins s σ H v u Q I r q) fun q => (pg_lst hc h hn hst).run pins s σ H v u Q I r q⟩
theorem dg_tup {k n : Nat} {is : List Nat} {γs : DTGs} (hc : X.calm = true) (h : DGs cl X W es is γs) (hn : (assignEach es X.env).length = n := by rfl) (hst : (assignEach es X.env).findIdx? (·.1) = none := by rfl) : DG cl X W (.Tuple es k pos) is (gT n γs) :=
  ⟨pg_imp (pg_tl hc h.pgs hn hst) fun v σ H Q ⟨F, ρ, M, d, Qd, Xd, g, s, r, ⟨ds, e1, e2, q⟩, p, w⟩ => by
    have hv := vw_ok g r
    rcases e1 with e1 | e1
    · rw [e1] at hv
      obtain ⟨a, vs, rfl, h1, h2⟩ := hv.tup g.sub
      exact .inl ⟨a, vs, rfl, h1, by rw [h2.length]; exact e2, F, ρ, M, ds, Qd, Xd, g, s, h2, q, p, w⟩
    · rw [e1] at hv
      obtain ⟨a, vs, rfl, h1, h2⟩ := hv.lst g.sub
      exact .inr ⟨a, vs, rfl, h1, by rw [h2.length]; exact e2, F, ρ, M, ds, Qd, Xd, g, s, h2, q, p, w⟩⟩
theorem dg_subL {o i : Expr} {τo τi : DTE} (ho : DE cl X W o τo) (hi : DE cl X W i τi) (ha : ∀ v, assign (.Subscript o i pos) X.env v = (do
      let ov ← holding [v] (eval o X.env)
      let iv ← holding [v, ov] (eval i X.env)
      standAt pos
      holding [v, ov, iv] (setItem ov iv v)
      release [v, ov, iv] []) := by intro _; rfl) : DG cl X W (.Subscript o i pos) [] (gSubL τo τi) :=
  ⟨pg_imp (pg_sub ho.pe hi.pe set_list ha) fun v σ H Q ⟨F, ρ, M, d, Qd, Xd, g, s, r, q, p, w⟩ =>
    ⟨F, ρ, M, _, Xd, g, s, q, fun x H1 F1 od M1 sm1 g1 r1 q1 => ⟨F1, ρ, M1, _, Xd, g1, s.mono sm1, q1, fun y H2 F2 jd M2 sm2 g2 r2 q2 => (by
      obtain ⟨a, xs, k, j, e1, e2, e3, e4, e5⟩ := q2
      subst e1 e3
      obtain rfl := r1.toRef
      obtain rfl := r2.toInt
      obtain ⟨hF, vs, h1, h2⟩ := g2.cell a _ e2
      refine ⟨a, vs, k, j, rfl, rfl, h1, by rw [h2.length]; exact e4, ?_⟩
      exact p _ _ F2 ρ _ (sm1.trans sm2) (g2.put (d := .lst (xs.set j d)) e2 ⟨vs.set j v, upd_same, h2.set (r.mono (sm1.trans sm2)) j⟩) (s.mono (sm1.trans sm2)) (fun _ _ => rfl) e5), w.mono sm1⟩, w⟩⟩
theorem ds_asg {tg : Expr} {is : List Nat} {γ : DTG} (he : DE cl X W e τ) (hg : DG cl X W tg is γ) (hs : swapsWithSole [tg] e pos.line X.env = pure false := by rfl) (hw : swappedStores [tg] e X.env = pure none := by rfl)
    (h1 : (assignEach [tg] X.env).map (·.2) = [assign tg X.env] := by rfl) : DS cl X W (.Assign [tg] e pos) (dAsg τ γ) := ⟨ps_imp (ps_asg he.pe hg.pg hs hw h1) fun D σ H ⟨F, ρ, M, E, g, s, q, ok⟩ =>
  ⟨F, ρ, M, _, E.ex, g, s, q, fun v H' F' d M' sm g' r q' => ⟨F', ρ, M', d, E.nx, E.ex, g', s.mono sm, r, q', fun σ2 H2 F2 ρ2 M2 sm2 g2 s2 _ q2 => ok.nx _ _ _ _ _ (sm.trans sm2) g2 s2 q2, ok.ex.mono sm⟩, ok.ex⟩⟩
theorem ds_set {x : Str} {pos' : Pos} (i : Nat) (hN : X.N.Nodup) (he : DE cl X W e τ) (hi : X.N[i]? = some x := by rfl) (hx : Loc X.env.scope x := by first | exact Or.inl rfl | exact Or.inr rfl) (hs : swapsWith e (some (.Name x pos')) pos.line X.env = pure false := by rfl) (hf : X.fn x = true ∨ X.env.scope.names.lookup x = some .local := by first | exact .inl rfl | exact .inr rfl) :
    DS cl X W (.Assign [.Name x pos'] e pos) (dAsg τ (gN i)) := ⟨ps_imp (ps_set hN hi hx he.pe hs hf) fun D σ H ⟨F, ρ, M, E, g, s, q, ok⟩ =>
  ⟨F, ρ, M, _, E.ex, g, s, q, fun v H' F' d M' sm g' r q' => ok.nx _ _ _ _ _ sm g' ((s.mono sm).set i r) q', ok.ex⟩⟩
theorem ds_par {i j : Nat} {x y : Str} {px py pt : Pos} {kt k2 pt2} (hc : X.calm = true) (hN : X.N.Nodup) (ha : DA cl X W [a, b] α) (hi : X.N[i]? = some x := by rfl) (hj : X.N[j]? = some y := by rfl) (hij : i ≠ j := by decide)
    (hx : X.env.scope.names.lookup x = some .local := by rfl) (hy : X.env.scope.names.lookup y = some .local := by rfl)
    (hw : swappedStores [.Tuple [.Name x px, .Name y py] kt pt] (.Tuple [a, b] k2 pt2) X.env = pure (some [x, y]) := by rfl)
    (hs : swapsWithSole [.Tuple [.Name x px, .Name y py] kt pt] (.Tuple [a, b] k2 pt2) pos.line X.env = pure false := by rfl) :
    DS cl X W (.Assign [.Tuple [.Name x px, .Name y py] kt pt] (.Tuple [a, b] k2 pt2) pos) (dPar i j α) := ⟨ps_imp (ps_par hc hN hi hj hij hx hy ha.pa hw hs) fun D σ H ⟨F, ρ, M, E, g, s, q, ok⟩ =>
  ⟨F, ρ, M, _, E.ex, g, s, q, fun vs H' F' ds M' sm g' r q' => by
    obtain ⟨d, e, e1, q'⟩ := q'
    subst e1
    obtain ⟨v, ws, rfl, r1, r2⟩ := r.inv
    obtain ⟨v2, ws, rfl, r3, r4⟩ := r2.inv
    obtain rfl := r4.inv0
    exact ⟨v, v2, rfl, ok.nx _ _ _ _ _ sm g' (((s.mono sm).set i r1).set j r3) q'⟩, ok.ex⟩⟩
theorem ds_par3 {i j l : Nat} {x y z : Str} {px py pz pt : Pos} {kt k2 pt2} (hc : X.calm = true) (hN : X.N.Nodup) (ha : DA cl X W [a, b, c] α) (hi : X.N[i]? = some x := by rfl) (hj : X.N[j]? = some y := by rfl) (hl : X.N[l]? = some z := by rfl) (hij : i ≠ j := by decide) (hil : i ≠ l := by decide) (hjl : j ≠ l := by decide)
    (hx : X.env.scope.names.lookup x = some .local := by rfl) (hy : X.env.scope.names.lookup y = some .local := by rfl) (hz : X.env.scope.names.lookup z = some .local := by rfl)
    (hw : swappedStores [.Tuple [.Name x px, .Name y py, .Name z pz] kt pt] (.Tuple [a, b, c] k2 pt2) X.env = pure (some [x, y, z]) := by rfl)
    (hs : swapsWithSole [.Tuple [.Name x px, .Name y py, .Name z pz] kt pt] (.Tuple [a, b, c] k2 pt2) pos.line X.env = pure false := by rfl) :
    DS cl X W (.Assign [.Tuple [.Name x px, .Name y py, .Name z pz] kt pt] (.Tuple [a, b, c] k2 pt2) pos) (dPar3 i j l α) := ⟨ps_imp (ps_par3 hc hN hi hj hl hij hil hjl hx hy hz ha.pa hw hs) fun D σ H ⟨F, ρ, M, E, g, s, q, ok⟩ =>
  ⟨F, ρ, M, _, E.ex, g, s, q, fun vs H' F' ds M' sm g' r q' => by
    obtain ⟨d, e, f, e1, q'⟩ := q'
    subst e1
    obtain ⟨v, ws, rfl, r1, r2⟩ := r.inv
    obtain ⟨v2, ws, rfl, r3, r4⟩ := r2.inv
    obtain ⟨v3, ws, rfl, r5, r6⟩ := r4.inv
    obtain rfl := r6.inv0
    exact ⟨v, v2, v3, rfl, ok.nx _ _ _ _ _ sm g' ((((s.mono sm).set i r1).set j r3).set l r5) q'⟩, ok.ex⟩⟩
theorem ds_augAdd {x : Str} {pos' : Pos} (i : Nat) (hN : X.N.Nodup) (he : DE cl X W e τ) (hi : X.N[i]? = some x := by rfl) (hx : Loc X.env.scope x := by first | exact Or.inl rfl | exact Or.inr rfl) (hf : X.fn x = true ∨ X.env.scope.names.lookup x = some .local := by first | exact .inl rfl | exact .inr rfl) :
    DS cl X W (.AugAssign (.Name x pos') .Add e pos) (dAug i augI τ) := ⟨ps_imp (ps_aug hN hi hx he.pe ip_add hf) fun D σ H ⟨F, ρ, M, E, g, s, ⟨d, e1, q⟩, ok⟩ => by
  obtain ⟨v, h1, h2⟩ := s.get i d e1
  refine ⟨v, h1, F, ρ, M, _, E.ex, g, s, q, fun v2 H' F' d2 M' sm g' r q' => ?_, ok.ex⟩
  obtain ⟨z, e2, q2⟩ := q'
  have hv := vw_ok g' r
  cases d with
  | int k =>
    obtain rfl := h2.toInt
    cases e3 : vw M' d2 with
    | int m =>
      rw [e3] at hv e2
      obtain rfl := hv.int
      cases e2
      exact ⟨k, m, rfl, rfl, ok.nx _ _ _ _ _ sm g' ((s.mono sm).set i (.int _)) q2⟩
    | _ => rw [e3] at e2; cases e2
  | _ => cases e2⟩
theorem ds_while (hp : PassesOwn (model X.prog X.w) X.A X.env X.xe) (hc : DT cl X W c υ) (hb : DSs cl X W sts t) : DS cl X W (.While c sts [] pos) (dWhile υ t) := ⟨ps_imp (ps_while hp hc.pt hb.pss) fun D σ H ⟨F, ρ, M, E, g, s, ⟨Wd, ⟨m0, w0⟩, turn⟩, ok⟩ => by
  refine ⟨fun m σ H => ∃ F' ρ M, Same F F' ∧ Good X.K cl F' H M ∧ Slots X.K cl F' σ ρ ∧ Wd m ρ M, ⟨m0, F, ρ, M, Same.refl F, g, s, w0⟩, ?_⟩
  rintro m σ1 H1 ⟨F1, ρ1, M1, sm1, g1, s1, w1⟩
  refine ⟨F1, ρ1, M1, _, E.ex, g1, s1, turn m ρ1 M1 w1, fun k H2 F2 M2 sm2 g2 q2 => ?_, ok.ex.mono sm1⟩
  cases k with
  | true =>
    rw [if_pos rfl] at q2 ⊢
    obtain ⟨N, hN, q2⟩ := q2
    refine ⟨fun σ' H' => ∃ F' ρ' M', Same F F' ∧ Good X.K cl F' H' M' ∧ Slots X.K cl F' σ' ρ' ∧ N ρ' M', fun σ' H' ⟨F', ρ', M', sm', g', s', n'⟩ => ?_, ?_⟩
    · obtain ⟨m', hm, w'⟩ := hN ρ' M' n'
      exact ⟨m', hm, F', ρ', M', sm', g', s', w'⟩
    · refine ⟨F2, ρ1, M2, _, g2, s1.mono sm2, q2, ⟨fun σ' H' F' ρ' M' sm' g' s' q' => ⟨F', ρ', M', (sm1.trans sm2).trans sm', g', s', q'⟩, ok.rt.mono (sm1.trans sm2), ok.nx.mono (sm1.trans sm2), fun σ' H' F' ρ' M' sm' g' s' q' => ⟨F', ρ', M', (sm1.trans sm2).trans sm', g', s', q'⟩, ok.ex.mono (sm1.trans sm2)⟩⟩
  | false =>
    rw [if_neg Bool.false_ne_true] at q2 ⊢
    exact ok.nx _ _ _ _ _ (sm1.trans sm2) g2 (s1.mono sm2) q2⟩
/-! what is walked -/
def Walks (K : PySem.W.Frag) (cl : ClW) (J : It) (F : Hp) (xs : List D) : Prop := ∀ i F' H' M', Same F F' → Good K cl F' H' M' →
  (∀ d, xs[i]? = some d → J.go i H' ∧ ∀ x H3, J.yld i H' x H3 → ∃ F3, Same F' F3 ∧ Good K cl F3 H3 M' ∧ Rep K cl F3 x d) ∧ (xs.length ≤ i → J.stop i H')
structure DI (cl : ClW) (X : Cx) (W : WX) (tg iter : Expr) (ι : DTI) : Prop where
  pi : PI X tg iter (fun σ H R => ∃ F ρ M Rd Xd, Good X.K cl F H M ∧ Slots X.K cl F σ ρ ∧ ι ρ M Rd Xd ∧ (∀ J H' F' xs M', Same F F' → Good X.K cl F' H' M' → Walks X.K cl J F' xs → Rd xs M' → R J H') ∧ WOk X.K cl W F Xd)
theorem pi_imp {tg it : Expr} {t t' : TI} (h : PI X tg it t) (i : ∀ σ H R, t' σ H R → t σ H R) : PI X tg it t' := ⟨fun pins s σ H R I q => h.run pins s σ H R I (i σ H R q)⟩
@[simp] def iL (τ : DTE) : DTI := fun ρ M R X => τ ρ M (fun d M1 => ∃ xs, d = .lst xs ∧ R xs M1) X
@[simp] def iT (τ : DTE) : DTI := fun ρ M R X => τ ρ M (fun d M1 => ∃ xs, d = .tup xs ∧ R xs M1) X
@[simp] def iR1 (τ : DTE) : DTI := fun ρ M R X => τ ρ M (fun d M1 => ∃ n, d = .int n ∧ -(2 ^ 62) ≤ n ∧ n < 2 ^ 62 ∧ R ((List.range n.toNat).map fun (i : Nat) => D.int (i : Int)) M1) X
@[simp] def iR2 (τ τ' : DTE) : DTI := fun ρ M R X => τ ρ M (fun d M1 => τ' ρ M1 (fun e M2 => ∃ l n, d = .int l ∧ e = .int n ∧ (-(2 ^ 62) ≤ l ∧ l < 2 ^ 62 ∧ -(2 ^ 62) ≤ n ∧ n < 2 ^ 62) ∧ R ((List.range (n - l).toNat).map fun (i : Nat) => D.int (l + (i : Int))) M2) X) X
theorem sqL_fun {K : PySem.W.Frag} {P : Program} {w : World} {H : Hp} {a : Addr} {xs : List V} (h : SqL K H a xs) : True := trivial
theorem di_list {tg : Expr} (h : DE cl X W e τ) : DI cl X W tg e (iL τ) := ⟨pi_imp (pi_list h.pe) fun σ H R ⟨F, ρ, M, Rd, Xd, g, s, q, p, w⟩ =>
  ⟨F, ρ, M, _, Xd, g, s, q, fun v H' F' d M' sm g' r ⟨xs, e1, q'⟩ => by
    subst e1
    obtain ⟨a, vs, rfl, h1, h2⟩ := r.toLst
    refine ⟨a, rfl, ⟨vs, same_l g'.sub h1⟩, p _ _ F' xs M' sm g' (fun i F2 H2 M2 sm2 g2 => ⟨fun d hd => ?_, fun hl => ⟨vs, same_l (sm2.trans g2.sub) h1, by rw [h2.length]; exact hl⟩⟩) q'⟩
    obtain ⟨v, hv, rv⟩ := h2.get hd
    refine ⟨⟨vs, v, same_l (sm2.trans g2.sub) h1, hv⟩, fun x H3 ⟨e1, e2⟩ => ?_⟩
    subst e1
    have := e2 vs (same_l (sm2.trans g2.sub) h1)
    rw [hv] at this
    cases this
    exact ⟨F2, Same.refl F2, g2, rv.mono sm2⟩, w⟩⟩
theorem di_tup {tg : Expr} (h : DE cl X W e τ) : DI cl X W tg e (iT τ) := ⟨pi_imp (pi_tup h.pe) fun σ H R ⟨F, ρ, M, Rd, Xd, g, s, q, p, w⟩ =>
  ⟨F, ρ, M, _, Xd, g, s, q, fun v H' F' d M' sm g' r ⟨xs, e1, q'⟩ => by
    subst e1
    obtain ⟨a, vs, rfl, h1, h2⟩ := r.toTup
    refine ⟨a, rfl, ⟨vs, same_t g'.sub h1⟩, p _ _ F' xs M' sm g' (fun i F2 H2 M2 sm2 g2 => ⟨fun d hd => ?_, fun hl => ⟨vs, same_t (sm2.trans g2.sub) h1, by rw [h2.length]; exact hl⟩⟩) q'⟩
    obtain ⟨v, hv, rv⟩ := h2.get hd
    refine ⟨⟨vs, v, same_t (sm2.trans g2.sub) h1, hv⟩, fun x H3 ⟨e1, e2⟩ => ?_⟩
    subst e1
    have := e2 vs (same_t (sm2.trans g2.sub) h1)
    rw [hv] at this
    cases this
    exact ⟨F2, Same.refl F2, g2, rv.mono sm2⟩, w⟩⟩
theorem walks_range {K : PySem.W.Frag} {F : Hp} (l : Int) (n : Nat) : Walks K cl (Itr l n) F ((List.range n).map fun (i : Nat) => D.int (l + (i : Int))) := fun i F2 H2 M2 sm2 g2 => by
  refine ⟨fun d hd => ?_, fun hl => (show n ≤ i by simpa using hl)⟩
  rw [List.getElem?_map] at hd
  cases e : (List.range n)[i]? with
  | none => rw [e] at hd; cases hd
  | some j =>
    obtain ⟨hj, ej⟩ := List.getElem?_eq_some_iff.mp e
    rw [List.getElem_range] at ej
    subst ej
    rw [e] at hd
    cases hd
    refine ⟨(show i < n by simpa using hj), fun x H3 ⟨e1, e2⟩ => ?_⟩
    subst e1 e2
    exact ⟨F2, Same.refl F2, g2, .int _⟩
theorem di_range1 {tg : Expr} {p : Pos} (hg : Gl X "range") (hm : X.mg "range" = none) (ha : DE cl X W a τa) (hs : starEach [a] X.env = [(false, eval a X.env)] := by rfl) : DI cl X W tg (.Call (.Name "range" p) [a] [] pos) (iR1 τa) :=
  ⟨pi_imp (pi_range1 hg hm (da_cons (W := W) (cl := cl) ha da_nil hs).pa hs) fun σ H R ⟨F, ρ, M, Rd, Xd, g, s, q, p, w⟩ =>
    ⟨F, ρ, M, fun ds M1 => ∃ n : Int, ds = [.int n] ∧ -(2 ^ 62) ≤ n ∧ n < 2 ^ 62 ∧ Rd ((List.range n.toNat).map fun (i : Nat) => D.int (i : Int)) M1, Xd, g, s, (by
      unfold iR1 at q
      unfold dCons dNil
      have mono : (fun d M1 => ∃ n, d = D.int n ∧ -(2 ^ 62) ≤ n ∧ n < 2 ^ 62 ∧ Rd ((List.range n.toNat).map fun (i : Nat) => D.int (i : Int)) M1) = (fun d M1 => ∃ n : Int, [d] = [.int n] ∧ -(2 ^ 62) ≤ n ∧ n < 2 ^ 62 ∧ Rd ((List.range n.toNat).map fun (i : Nat) => D.int (i : Int)) M1) := by
        funext d M1
        simp
      rw [mono] at q
      exact q), fun vs H' F' ds M' sm g' r ⟨n, e1, b1, b2, q'⟩ => by
      subst e1
      obtain ⟨v, ws, rfl, r1, r2⟩ := r.inv
      obtain rfl := r2.inv0
      obtain rfl := r1.toInt
      refine ⟨n, rfl, b1, b2, p _ _ F' _ M' sm g' (walks_range 0 n.toNat) ?_⟩
      simpa using q', w⟩⟩
theorem di_range2 {tg : Expr} {p : Pos} (hg : Gl X "range") (hm : X.mg "range" = none) (ha : DE cl X W a τa) (hb : DE cl X W b τb) (hs : starEach [a, b] X.env = [(false, eval a X.env), (false, eval b X.env)] := by rfl) (hs2 : starEach [b] X.env = [(false, eval b X.env)] := by rfl) : DI cl X W tg (.Call (.Name "range" p) [a, b] [] pos) (iR2 τa τb) :=
  ⟨pi_imp (pi_range2 hg hm (da_cons (W := W) (cl := cl) ha (da_cons hb da_nil hs2) (by rw [hs, hs2])).pa hs hs2) fun σ H R ⟨F, ρ, M, Rd, Xd, g, s, q, p, w⟩ =>
    ⟨F, ρ, M, fun ds M1 => ∃ l n : Int, ds = [.int l, .int n] ∧ (-(2 ^ 62) ≤ l ∧ l < 2 ^ 62 ∧ -(2 ^ 62) ≤ n ∧ n < 2 ^ 62) ∧ Rd ((List.range (n - l).toNat).map fun (i : Nat) => D.int (l + (i : Int))) M1, Xd, g, s, (by
      unfold iR2 at q
      unfold dCons dNil
      have mono : (fun d M1 => τb ρ M1 (fun e M2 => ∃ l n, d = D.int l ∧ e = D.int n ∧ (-(2 ^ 62) ≤ l ∧ l < 2 ^ 62 ∧ -(2 ^ 62) ≤ n ∧ n < 2 ^ 62) ∧ Rd ((List.range (n - l).toNat).map fun (i : Nat) => D.int (l + (i : Int))) M2) Xd) = (fun d M1 => τb ρ M1 (fun e M2 => ∃ l n : Int, [d, e] = [.int l, .int n] ∧ (-(2 ^ 62) ≤ l ∧ l < 2 ^ 62 ∧ -(2 ^ 62) ≤ n ∧ n < 2 ^ 62) ∧ Rd ((List.range (n - l).toNat).map fun (i : Nat) => D.int (l + (i : Int))) M2) Xd) := by
        funext d M1
        congr 1
        funext e M2
        simp [and_assoc]
      rw [mono] at q
      exact q), fun vs H' F' ds M' sm g' r ⟨l, n, e1, b1, q'⟩ => by
      subst e1
      obtain ⟨v, ws, rfl, r1, r2⟩ := r.inv
      obtain ⟨v2, ws, rfl, r3, r4⟩ := r2.inv
      obtain rfl := r4.inv0
      obtain rfl := r1.toInt
      obtain rfl := r3.toInt
      exact ⟨l, n, rfl, b1, p _ _ F' _ M' sm g' (walks_range l (n - l).toNat) q'⟩, w⟩⟩
theorem ds_for {tg iter : Expr} {is : List Nat} {ι : DTI} {γ : DTG} (hp : PassesOwn (model X.prog X.w) X.A X.env X.xe) (hc : X.calm = true) (hi : DI cl X W tg iter ι) (hg : DG cl X W tg is γ) (hb : DSs cl X W sts t) (hs : ∀ x, foldedSetIterable iter X.env x = pure x := by intro _; rfl) :
    DS cl X W (.For tg iter sts [] pos) (dFor ι γ t) := ⟨ps_imp (ps_for hp hc hi.pi hg.pg hb.pss hs) fun D σ H ⟨F, ρ, M, E, g, s, q, ok⟩ => by
  refine ⟨F, ρ, M, _, E.ex, g, s, q, fun J H1 F1 xs M1 sm1 g1 wk q1 => ?_, ok.ex⟩
  refine ⟨fun i m σ H => m = xs.length - i ∧ i ≤ xs.length ∧ ∃ F' ρ M, Same F1 F' ∧ Good X.K cl F' H M ∧ Slots X.K cl F' σ ρ ∧ forD γ t (xs.drop i) E ρ M, ⟨xs.length, by simp, Nat.zero_le _, F1, ρ, M1, Same.refl F1, g1, s.mono sm1, by simpa using q1⟩, ?_⟩
  rintro i m σ2 H2 ⟨rfl, hi, F2, ρ2, M2, sm2, g2, s2, q2⟩
  have ok2 := ok.mono (sm1.trans sm2)
  by_cases hlt : i < xs.length
  · obtain ⟨go, yl⟩ := (wk i F2 H2 M2 sm2 g2).1 xs[i] (by simp [hlt])
    rw [List.drop_eq_getElem_cons hlt] at q2
    refine .inr ⟨go, fun σ' H' => ∃ F' ρ' M', Same F1 F' ∧ Good X.K cl F' H' M' ∧ Slots X.K cl F' σ' ρ' ∧ forD γ t (xs.drop (i + 1)) E ρ' M', fun σ' H' n => ⟨xs.length - (i + 1), by omega, rfl, hlt, n⟩, fun x H3 y => ?_⟩
    obtain ⟨F3, sm3, g3, r3⟩ := yl x H3 y
    refine ⟨F3, ρ2, M2, xs[i], _, E.ex, g3, s2.mono sm3, r3, q2, fun σ4 H4 F4 ρ4 M4 sm4 g4 s4 _ q4 => ?_, ok2.ex.mono sm3⟩
    have ok4 := ok2.mono (sm3.trans sm4)
    exact ⟨F4, ρ4, M4, _, g4, s4, q4, ⟨fun σ' H' F' ρ' M' sm' g' s' q' => ⟨F', ρ', M', ((sm2.trans sm3).trans sm4).trans sm', g', s', q'⟩, ok4.rt, ok4.nx, fun σ' H' F' ρ' M' sm' g' s' q' => ⟨F', ρ', M', ((sm2.trans sm3).trans sm4).trans sm', g', s', q'⟩, ok4.ex⟩⟩
  · have e : i = xs.length := by omega
    subst e
    rw [List.drop_length] at q2
    exact .inl ⟨(wk _ F2 H2 M2 sm2 g2).2 (Nat.le_refl _), ok2.nx _ _ F2 ρ2 M2 (Same.refl F2) g2 s2 q2⟩⟩
end
end DL

set_option Elab.async false
set_option linter.all false
set_option maxRecDepth 100000
set_option maxHeartbeats 2000000
namespace DL
open PySem L2

abbrev W0 : WX := fun _ _ _ _ => False
theorem wok0 {K : PySem.W.Frag} {cl : ClW} {F : Hp} : WOk K cl W0 F noX := fun _ _ _ _ _ _ _ _ _ _ _ _ _ h => h
/-! ### comprehensions -/
theorem wipe_idem (σ : St) : ∀ vs : List Nat, ∀ ws : List Nat, (∀ v ∈ vs, v ∈ ws) → wipe (wipe σ vs) ws = wipe σ ws
  | [], ws, _ => rfl
  | v :: vs, ws, h => by
    show wipe ((wipe σ vs).set v none) ws = wipe σ ws
    rw [wipe_set (h v List.mem_cons_self), wipe_idem σ vs ws fun x hx => h x (List.mem_cons_of_mem _ hx)]
theorem Slots.wipe {K : PySem.W.Frag} {cl : ClW} {F : Hp} {σ : St} {ρ : Env} (h : Slots K cl F σ ρ) : ∀ vs : List Nat, Slots K cl F (wipe σ vs) (wipeD ρ vs)
  | [] => h
  | v :: vs => (Slots.wipe h vs).setN v
structure DTs (cl : ClW) (X : Cx) (W : WX) (ifs : List Expr) (υ : DTT) : Prop where
  pts : PTs X ifs (lowT X.K cl W υ)
section
variable {cl : ClW} {X : Cx} {W : WX} {c : Expr} {υ : DTT}
theorem dts_nil : DTs cl X W [] dYes := ⟨⟨fun pins s σ H Q I ⟨F, ρ, M, Qd, Xd, g, sl, t, p, w⟩ => pts_nil.run pins s σ H Q I (p true H F M (Same.refl F) g t)⟩⟩
theorem dts_one (h : DT cl X W c υ) : DTs cl X W [c] υ := ⟨pts_one h.pt⟩
end
section
variable {cl : ClW} {X : Cx} {W : WX} {elt tg iter : Expr} {ifs : List Expr} {scope : Scope} {own : List (Str × Nat)} {pos : Pos} {ι : DTI} {is : List Nat} {γ : DTG} {υ : DTT} {τ : DTE}
theorem lc_lift {K : PySem.W.Frag} (his : ∀ i ∈ is, i ∈ own.map (·.2)) {σ : St} {H : Hp} {Q : VK} {F : Hp} {ρ : Env} {M : Mem} {Qd : DV} {Xd : DX} (g : Good K cl F H M) (s : Slots K cl F σ ρ) (q : dLc ι γ υ τ (own.map (·.2)) ρ M Qd Xd) (p : Post K cl F Q Qd) (w : WOk K cl W F Xd) :
    tLc (fun σ H R => ∃ F ρ M Rd Xd, Good K cl F H M ∧ Slots K cl F σ ρ ∧ ι ρ M Rd Xd ∧ (∀ J H' F' xs M', Same F F' → Good K cl F' H' M' → Walks K cl J F' xs → Rd xs M' → R J H') ∧ WOk K cl W F Xd)
      (fun v σ H Q => ∃ F ρ M d Qd Xd, Good K cl F H M ∧ Slots K cl F σ ρ ∧ Rep K cl F v d ∧ γ d ρ M Qd Xd ∧ (∀ σ' H' F' ρ' M', Same F F' → Good K cl F' H' M' → Slots K cl F' σ' ρ' → (∀ vs : List Nat, (∀ i ∈ is, i ∈ vs) → wipe σ' vs = wipe σ vs) → Qd ρ' M' → Q σ' H') ∧ WOk K cl W0 F Xd)
      (lowT K cl W0 υ) (lowE K cl W0 τ) (own.map (·.2)) σ H Q := by
  refine ⟨F, ρ, M, _, Xd, g, s, q, fun J H1 F1 xs M1 sm1 g1 wk q1 a hD => ?_, w⟩
  refine ⟨fun i m H => m = xs.length - i ∧ i ≤ xs.length ∧ ∃ F' M, Same F1 F' ∧ Good K cl F' H M ∧ lcD γ υ τ (own.map (·.2)) a (xs.drop i) ρ M Qd,
    ⟨xs.length, by simp, Nat.zero_le _, F1, updM M1 a (.lst []), Same.refl F1, g1.newM (d := .lst []) hD ⟨[], upd_same, .nil⟩, by simpa using q1 a (g1.freshM hD)⟩, ?_⟩
  rintro i m H2 ⟨rfl, hi, F2, M2, sm2, g2, q2⟩
  by_cases hlt : i < xs.length
  · obtain ⟨go, yl⟩ := (wk i F2 H2 M2 sm2 g2).1 xs[i] (by simp [hlt])
    rw [List.drop_eq_getElem_cons hlt] at q2
    unfold lcD at q2
    refine .inr ⟨go, fun H' => ∃ F' M', Same F1 F' ∧ Good K cl F' H' M' ∧ lcD γ υ τ (own.map (·.2)) a (xs.drop (i + 1)) ρ M' Qd, fun H' n => ⟨xs.length - (i + 1), by omega, rfl, hlt, n⟩, fun x H3 y => ?_⟩
    obtain ⟨F3, sm3, g3, r3⟩ := yl x H3 y
    refine ⟨F3, wipeD ρ (own.map (·.2)), M2, xs[i], _, noX, g3, (s.mono ((sm1.trans sm2).trans sm3)).wipe _, r3, q2, fun σ4 H4 F4 ρ4 M4 sm4 g4 s4 w4 q4 => ⟨?_, ?_⟩, wok0⟩
    · rw [w4 _ his]
      exact wipe_idem _ _ _ fun _ h => h
    · refine ⟨F4, ρ4, M4, _, noX, g4, s4, q4, fun k H5 F5 M5 sm5 g5 q5 => ?_, wok0⟩
      cases k with
      | true =>
        rw [if_pos rfl] at q5 ⊢
        refine ⟨F5, ρ4, M5, _, noX, g5, s4.mono sm5, q5, fun y2 H6 F6 d M6 sm6 g6 r6 q6 => ?_, wok0⟩
        obtain ⟨acc, e1, e2, q6⟩ := q6
        obtain ⟨hF, vs, h1, h2⟩ := g6.cell a _ e1
        refine ⟨vs, h1, by rw [h2.length]; exact e2, F6, _, (((sm2.trans sm3).trans sm4).trans sm5).trans sm6, g6.put (d := .lst (acc ++ [d])) e1 ⟨vs ++ [y2], upd_same, h2.append (.one r6)⟩, q6⟩
      | false =>
        rw [if_neg Bool.false_ne_true] at q5 ⊢
        exact ⟨F5, M5, ((sm2.trans sm3).trans sm4).trans sm5, g5, q5⟩
  · have e : i = xs.length := by omega
    subst e
    rw [List.drop_length] at q2
    obtain ⟨ds, e1, q2⟩ := q2
    obtain ⟨F3, sm3, g3, r3⟩ := g2.freeze e1
    exact .inl ⟨(wk _ F2 H2 M2 sm2 g2).2 (Nat.le_refl _), p _ _ _ _ _ ((sm1.trans sm2).trans sm3) g3 r3 q2⟩
theorem d_lc (hc : X.calm = true) (hN : X.N.Nodup) (hi : DI cl X W tg iter ι) (ok : BlkOk X.N X.env.scope scope own)
    (hg : ∀ (s : Shared) (H : Hp) (C : Addr) (cs : List (Str × Addr)) (fp : List Addr), DG cl (X.blk s H scope (compEnvC scope cs C X.env) fp) W0 tg is γ) (ht : ∀ (s : Shared) (H : Hp) (C : Addr) (cs : List (Str × Addr)) (fp : List Addr), DTs cl (X.blk s H scope (compEnvC scope cs C X.env) fp) W0 ifs υ)
    (he : ∀ (s : Shared) (H : Hp) (C : Addr) (cs : List (Str × Addr)) (fp : List Addr), DE cl (X.blk s H scope (compEnvC scope cs C X.env) fp) W0 elt τ) (his : ∀ i ∈ is, i ∈ own.map (·.2) := by decide) (hs : ∀ x, foldedSetIterable iter X.env x = pure x := by intro _; rfl) :
    DE cl X W (.ListComp elt [⟨tg, iter, ifs, 0⟩] scope pos) (dLc ι γ υ τ (own.map (·.2))) :=
  ⟨pe_imp (pe_lc hc hN hi.pi ok (fun s H C cs fp => (hg s H C cs fp).pg) (fun s H C cs fp => (ht s H C cs fp).pts) (fun s H C cs fp => (he s H C cs fp).pe) hs) fun σ H Q ⟨F, ρ, M, Qd, Xd, g, s, q, p, w⟩ => lc_lift his g s q p w⟩
theorem ds_setLc {y : Str} {py spos : Pos} (i : Nat) (hc : X.calm = true) (hN : X.N.Nodup) (hi : DI cl X W tg iter ι) (ok : BlkOk X.N X.env.scope scope own)
    (hg : ∀ (s : Shared) (H : Hp) (C : Addr) (cs : List (Str × Addr)) (fp : List Addr), DG cl (X.blk s H scope (compEnvC scope cs C X.env) fp) W0 tg is γ) (ht : ∀ (s : Shared) (H : Hp) (C : Addr) (cs : List (Str × Addr)) (fp : List Addr), DTs cl (X.blk s H scope (compEnvC scope cs C X.env) fp) W0 ifs υ)
    (he : ∀ (s : Shared) (H : Hp) (C : Addr) (cs : List (Str × Addr)) (fp : List Addr), DE cl (X.blk s H scope (compEnvC scope cs C X.env) fp) W0 elt τ) (hy : X.N[i]? = some y := by rfl) (hyl : X.env.scope.names.lookup y = some .local := by rfl)
    (hsw : swapsWith (.ListComp elt [⟨tg, iter, ifs, 0⟩] scope pos) (some (.Name y py)) spos.line X.env = pure true := by exact sw_true rfl rfl rfl (by decide +kernel)) (his : ∀ i ∈ is, i ∈ own.map (·.2) := by decide) (hs : ∀ x, foldedSetIterable iter X.env x = pure x := by intro _; rfl) :
    DS cl X W (.Assign [.Name y py] (.ListComp elt [⟨tg, iter, ifs, 0⟩] scope pos) spos) (dAsg (dLc ι γ υ τ (own.map (·.2))) (gN i)) :=
  ⟨ps_imp (ps_setLc hc hN hy hyl hsw hi.pi ok (fun s H C cs fp => (hg s H C cs fp).pg) (fun s H C cs fp => (ht s H C cs fp).pts) (fun s H C cs fp => (he s H C cs fp).pe) hs) fun D σ H ⟨F, ρ, M, E, g, s, q, ok⟩ =>
    lc_lift his g s q (fun v H' F' d M' sm g' r q' => ok.nx _ _ _ _ _ sm g' ((s.mono sm).set i r) q') ok.ex⟩
end

/-! ### defs -/
structure RoomG (k : Nat) (A : Around) : Prop where
  room : Room k A
  gd : A.guards = some []
theorem RoomG.mono {j k : Nat} {A : Around} (r : RoomG k A) (h : j ≤ k) : RoomG j A := ⟨r.room.mono h, r.gd⟩
theorem RoomG.deeper {k : Nat} {A : Around} (r : RoomG (k + 1) A) (env : PySem.Env) : RoomG k (A.deeper env) := ⟨r.room.deeper env, r.gd⟩
theorem RoomG.in1 {k : Nat} {A : Around} (r : RoomG (k + 1) A) : RoomG k A.in1 := ⟨r.room.in1, r.gd⟩
theorem make_guards {A : Around} {C : Addr} {us : List Value} {kw : List (Str × Value)} : (A.under (.builtin "type.__call__" ⟨.ref C :: us, kw⟩)).guards = A.guards := by
  cases A with
  | mk a b c d e => cases d <;> first | rfl | simp [Around.under, pushGuards, Code.guards, Code.isGuard, guardIds]
theorem RoomG.make {k : Nat} {A : Around} (r : RoomG (k + 1) A) (C : Addr) (us : List Value) (kw : List (Str × Value)) : RoomG k (A.under (.builtin "type.__call__" ⟨.ref C :: us, kw⟩)) := ⟨r.room.make C us kw, make_guards.trans r.gd⟩
/-- the def at f keeps the promise spd over data -/
structure FnG (cl : ClW) (P : Program) (w : World) (K : PySem.W.Frag) (mg : Str → Option Value) (base : Heap) (k : Nat) (f : Addr) (fd : FuncData) (ps : List Str) (spd : SpD) : Prop where
  len : ∀ ds M Q E, spd ds M Q E → ds.length = ps.length
  run : ∀ (A : Around) (outer : List PySem.Env) (s : Shared) (H : Hp) (args : Args) (us : List Value) (vs : List V) (Q : VK) (E : XK), RoomG k A → Env0 P w K mg base A outer s H → BindsTo s fd args (ps.zip us) → Vals vs us → lower K cl spd vs H Q E →
    codeAny (model P w) A (.call (.ref f) args) (CR (L2.CX P w) outer P w H s Q E) s
theorem FnG.mono {cl : ClW} {P : Program} {w : World} {K : PySem.W.Frag} {mg : Str → Option Value} {base : Heap} {j k : Nat} {f : Addr} {fd : FuncData} {ps : List Str} {spd : SpD} (F : FnG cl P w K mg base j f fd ps spd) (h : j ≤ k) : FnG cl P w K mg base k f fd ps spd :=
  ⟨F.len, fun A outer s H args us vs Q E hr => F.run A outer s H args us vs Q E (hr.mono h)⟩
theorem FnG.lenV {cl : ClW} {P : Program} {w : World} {K : PySem.W.Frag} {mg : Str → Option Value} {base : Heap} {k : Nat} {f : Addr} {fd : FuncData} {ps : List Str} {spd : SpD} (F : FnG cl P w K mg base k f fd ps spd) {vs : List V} {H : Hp} {Q : VK} {E : XK} (h : lower K cl spd vs H Q E) : vs.length = ps.length := by
  obtain ⟨_, M, ds, Qd, Ed, _, r, q, _⟩ := h
  rw [r.length]
  exact F.len ds M Qd Ed q
/-- what a body's rules lean on -/
structure Cap (X : Cx) (W : WX) (k : Nat) : Prop where
  tk : Takes X W
  hr : RoomG k X.A
  po : PassesOwn (model X.prog X.w) X.A X.env X.xe
  calm : X.calm = true
theorem Cap.blk {X : Cx} {W : WX} {k : Nat} (c : Cap X W k) {s : Shared} {H : Hp} {scope : Scope} {cenv : PySem.Env} {fp : List Addr} : Cap (X.blk s H scope cenv fp) W0 k := ⟨takes0, c.hr, PassesOwn.never, c.calm⟩
@[simp] def startD (N : List Str) (ds : List D) : Env := ds.map some ++ List.replicate (N.length - ds.length) none
theorem slots_start {K : PySem.W.Frag} {cl : ClW} {F : Hp} {vs : List V} {ds : List D} (N : List Str) (r : Reps K cl F vs ds) : Slots K cl F (L2.start N vs) (startD N ds) := by
  have hl := r.length
  refine ⟨by simp [L2.start, startD, hl], fun i d h => ?_⟩
  unfold startD at h
  unfold L2.start
  by_cases hi : i < ds.length
  · rw [List.getElem?_append_left (by simpa using hi)] at h
    rw [List.getElem?_append_left (by simp [hl]; exact hi)]
    rw [List.getElem?_map] at h
    cases e : ds[i]? with
    | none => rw [e] at h; cases h
    | some x =>
      rw [e] at h
      cases h
      obtain ⟨v, hv, rv⟩ := r.get e
      exact ⟨v, by rw [List.getElem?_map, hv]; rfl, rv⟩
  · rw [List.getElem?_append_right (by simpa using Nat.le_of_not_lt hi)] at h
    rw [List.getElem?_replicate] at h
    split at h <;> cases h
@[simp] def dEnds (Q : DV) (E : DEK) : DEnds := { nx := fun _ M => Q .non M, rt := Q, bk := fun _ _ => False, ct := fun _ _ => False, ex := fun c ns ds _ M => E c ns ds M }
theorem fn_d {cl : ClW} {P : Program} {w : World} {K : PySem.W.Frag} {mg : Str → Option Value} {base : Heap} {k : Nat} {f : Addr} {x qual : Str} {params : Arguments} {body : List Stmt} {scope : Scope} {dvs : List V} {kws : List (Str × V)} {fd : FuncData} {N ps : List Str} {spd : SpD}
    (F : FunD K x qual params body scope dvs kws f fd) (S : FnScope N ps scope) (t : DTS)
    (hbody : ∀ (cdv : Value) (A : Around) (outer : List PySem.Env) (s : Shared) (H : Hp) (E : XK), Cap (cxOf (L2.CX P w) P w K mg base N qual scope f cdv A outer s H E) (fun cls d _ H => E cls d H) k →
      DSs cl (cxOf (L2.CX P w) P w K mg base N qual scope f cdv A outer s H E) (fun cls d _ H => E cls d H) body t)
    (hsp : ∀ ds M Q E, spd ds M Q E → ds.length = ps.length ∧ t (dEnds Q E) (startD N ds) M) : FnG cl P w K mg base (k + 1) f fd ps spd := by
  refine ⟨fun ds M Q E h => (hsp ds M Q E h).1, fun A outer s H args us vs Q E hr e0 hb r hl => ?_⟩
  obtain ⟨oc, od, dV, kV, doc, pm, an, cdv, ct, osl, rfl, lk, hcd, _, _⟩ := F.ex
  have lenV : ∀ vs H Q E, lower K cl spd vs H Q E → vs.length = ps.length := fun vs H Q E ⟨_, M, ds, Qd, Ed, _, r, q, _⟩ => by
    rw [r.length]
    exact (hsp ds M Qd Ed q).1
  have hr' := hr.deeper (PyProof.Rows.envOfC qual scope s.heap.objs.size f cdv)
  have KX : K.In s.heap := e0.mod.kin.keeps fun b o e => (e0.bs b o e).1
  have lim : s.heap.NoLimit := e0.mod.nolimit.keeps fun b o e => (e0.bs b o e).1
  have hkind : ∀ y ∈ ps.zip us, scope.names.lookup y.1 = some .local ∨ (scope.names.lookup y.1 = some .cell ∧ ((cellsFrom (s.heap.objs.size + 1) scope.names []).lookup y.1).isSome = true) := fun ⟨n, v⟩ hy => by
    rcases S.par n (List.of_mem_zip hy).1 with q | q
    · exact .inl q
    · exact .inr ⟨q, PySem.W.cellsFrom_some _ _ _ (.inl q)⟩
  refine codeAny_call_function hr.room.depth (KX _ _ lk) rfl S.co S.gen rfl (PySem.W.codeRec_of KX hcd) (hb _ _ _ _ ?_)
  refine wpAny_newFunctionEnv_cells S.kind hkind fun env he s1 x => ?_
  subst he
  refine ⟨lim.keeps x.toInCall.keep, codeAny_func ?_⟩
  have ht := hbody cdv A outer s H E ⟨takes_of rfl rfl rfl rfl, hr', passes_of rfl, rfl⟩
  have I : Inv (cxOf (L2.CX P w) P w K mg base N qual scope f cdv A outer s H E) [] (L2.start N vs) H s1 := inv_start S hr.room.hd e0 (lenV _ _ _ _ hl) r x
  obtain ⟨F0, M0, ds0, Qd, Ed, g0, r0, q0, p0, ep0⟩ := hl
  have hq : lowS K cl (fun cls d _ H => E cls d H) t { nx := fun _ H' => Q .non H', rt := Q } (L2.start N vs) H :=
    ⟨F0, startD N ds0, M0, dEnds Qd Ed, g0, slots_start N r0, (hsp ds0 M0 Qd Ed q0).2,
      ⟨fun σ' H' F' ρ' M' sm g' s' q' => p0 _ _ _ _ _ sm g' .non q', p0, fun _ _ _ _ _ _ _ _ q' => q', fun _ _ _ _ _ _ _ _ q' => q', fun c ns ds σ' H' F' ρ' M' dd sm g' s' ea q' => ep0 _ _ _ _ _ _ _ sm g' ea q'⟩⟩
  refine wpAny_mono (ht.pss.run [] s1 (L2.start N vs) H _ I hq) (fun fl s' hs => ?_) fun e s' hs => hs
  have fin : ∀ {σ' : St} {H' : Hp} {v : V} {u : Value}, Inv (cxOf (L2.CX P w) P w K mg base N qual scope f cdv A outer s H E) [] σ' H' s' → RelV v u → Q v H' → CE outer P w H s Q u s' :=
    fun {σ' H' v u} J rv q => ⟨v, H', J.os, J.bare, J.base, J.hok, rv, q⟩
  cases fl with
  | ret u =>
    obtain ⟨v, σ', H', J, rv, q⟩ := hs
    exact fin J rv q
  | next =>
    obtain ⟨σ', H', J, q⟩ := hs
    exact fin (v := V.non) (u := Value.none) J rfl q
  | brk =>
    obtain ⟨_, _, _, q⟩ := hs
    exact False.elim q
  | cont =>
    obtain ⟨_, _, _, q⟩ := hs
    exact False.elim q

/-! ### calls -/
@[simp] def dCall (spd : SpD) (dds : List D) (α : DTA) : DTE := fun ρ M Q X => α ρ M (fun ds M1 => spd (ds ++ dds) M1 Q (fun c ns es M2 => X c ns es ρ M2)) X
section
variable {cl : ClW} {X : Cx} {W : WX} {k : Nat} {f C : Addr} {fd : FuncData} {ps : List Str} {spd : SpD} {dvs : List V} {ds : List Value} {dds : List D} {x m : Str} {p pos apos : Pos} {e o : Expr} {es : List Expr} {τ : DTE} {α : DTA}
theorem run_g {pins : List (Addr × Obj)} {σ : St} {H : Hp} {s : Shared} {Q : VK} {us : List Value} {vs : List V} (c : Cap X W k) (F : FnG cl X.prog X.w X.K X.mg X.base k f fd ps spd) (hb : Binds X.K fd ps ds) (hd : Vals dvs ds)
    (I : Inv X pins σ H s) (r : Vals vs us) (h : lower X.K cl spd (vs ++ dvs) H Q (WE W σ)) : wpAny (model X.prog X.w) X.A (call (.ref f) us) (EP X pins σ Q) X.xe s := by
  have r2 : Vals (vs ++ dvs) (us ++ ds) := r.append hd
  have hl : (us ++ ds).length = ps.length := by rw [← r2.length]; exact F.lenV h
  refine wpAny_call (codeAny_mono (F.run X.A X.stack s H ⟨us, []⟩ (us ++ ds) (vs ++ dvs) Q _ c.hr I.env0 (hb s us I.kIn hl) r2 h) fun r s' hq => ?_)
  cases r with
  | error e => exact passAt c.tk σ pins H s e s' I hq
  | ok fl =>
    cases fl with
    | ret u => exact I.after hq
    | next => exact False.elim hq
    | brk => exact False.elim hq
    | cont => exact False.elim hq
theorem low_call {σ : St} {F : Hp} {ρ : Env} {M : Mem} {Qd : DV} {Xd : DX} {vs : List V} {es : List D} {H : Hp} {Q : VK} {K : PySem.W.Frag} (g : Good K cl F H M) (s : Slots K cl F σ ρ) (r : Reps K cl F vs es) (q : spd es M Qd (fun c ns es M2 => Xd c ns es ρ M2)) (p : Post K cl F Q Qd) (w : WOk K cl W F Xd) : lower K cl spd vs H Q (WE W σ) :=
  ⟨F, M, es, Qd, _, g, r, q, p, fun c ns ds H' F' M' dd sm g' ea q' => w c ns ds σ H' F' ρ M' dd sm g' (s.mono sm) ea q'⟩
theorem d_call (c : Cap X W k) (G : FnG cl X.prog X.w X.K X.mg X.base k f fd ps spd) (hg : Gl X x) (hm : X.mg x = some (.ref f)) (hk : PySem.W.keepIn X.K (.ref f) = true) (hb : Binds X.K fd ps ds) (hd : Vals dvs ds) (hdd : ∀ F, Reps X.K cl F dvs dds)
    (ha : DA cl X W (e :: es) α) (hdb : (x == ("__debug__" : Str)) = false := by decide) (he : starEach (e :: es) X.env = (false, eval e X.env) :: starEach es X.env := by rfl) (hpl : (backTo pos (starEach es X.env)).any (·.1) = false := by rfl) :
    DE cl X W (.Call (.Name x p) (e :: es) [] pos) (dCall spd dds α) := ⟨⟨fun pins s σ H Q I h => by
  obtain ⟨F, ρ, M, Qd, Xd, g, sl, q, p, w⟩ := h
  refine wpAny_Call_Name_kw (ld_glob I hg hm ?_ hdb)
  refine PySem.W.callWith_K (h₀ := X.base) I.ok.mod.kin hk (thn (ha.pa.run pos pins s σ H (fun vs H1 => lower X.K cl spd (vs ++ dvs) H1 Q (WE W σ)) I ⟨F, ρ, M, _, Xd, g, sl, q, fun vs H' F' ds M' sm g' r q' => ?_, w⟩) fun us s1 ⟨vs, H1, I1, r, q⟩ => ⟨I1.kIn, ?_⟩) he hpl
  · exact low_call g' (sl.mono sm) (r.append (hdd F')) q' (p.mono sm) (w.mono sm)
  · exact run_g c G hb hd I1 r q⟩⟩
theorem d_call0 (c : Cap X W k) (G : FnG cl X.prog X.w X.K X.mg X.base k f fd ps spd) (hg : Gl X x) (hm : X.mg x = some (.ref f)) (hk : PySem.W.keepIn X.K (.ref f) = true) (hb : Binds X.K fd ps ds) (hd : Vals dvs ds) (hdd : ∀ F, Reps X.K cl F dvs dds)
    (hdb : (x == ("__debug__" : Str)) = false := by decide) : DE cl X W (.Call (.Name x p) [] [] pos) (dCall spd dds dNil) := ⟨⟨fun pins s σ H Q I h => by
  obtain ⟨F, ρ, M, Qd, Xd, g, sl, q, p, w⟩ := h
  refine wpAny_Call_Name_kw (ld_glob I hg hm ?_ hdb)
  exact PySem.W.callWith_K0 I.kIn hk (run_g (us := []) (vs := []) c G hb hd I .nil (low_call g sl (hdd F) q p w))⟩⟩
end
end DL

set_option Elab.async false
set_option linter.all false
set_option maxRecDepth 100000
set_option maxHeartbeats 2000000
namespace DL
open PySem L2

/-! ### data as the library's plain data -/
mutual
def toPy : D → Option PyData
  | .non => some .none
  | .bl b => some (.bool b)
  | .int i => some (.int i)
  | .str x => some (.str x)
  | .lst xs => (toPys xs).map .list
  | .tup xs => (toPys xs).map .tuple
  | _ => none
def toPys : List D → Option (List PyData)
  | [] => some []
  | x :: xs => match toPy x, toPys xs with
    | some p, some ps => some (p :: ps)
    | _, _ => none
end
section
variable {K : PySem.W.Frag} {cl : ClW} {F H : Hp}
mutual
theorem dp_of (s : Same F H) : ∀ (d : D) (v : V) (p : PyData), Rep K cl F v d → toPy d = some p → Dp K H v p
  | .non, v, p, r, e => by simp only [toPy] at e; cases e; rw [r.toNon]; exact .non
  | .bl b, v, p, r, e => by simp only [toPy] at e; cases e; rw [r.toBl]; exact .bl b
  | .int i, v, p, r, e => by simp only [toPy] at e; cases e; rw [r.toInt]; exact .int i
  | .str x, v, p, r, e => by simp only [toPy] at e; cases e; rw [r.toStr]; exact .str x
  | .lst xs, v, p, r, e => by
    simp only [toPy] at e
    obtain ⟨a, vs, rfl, h1, h2⟩ := r.toLst
    cases q : toPys xs with
    | none => rw [q] at e; cases e
    | some ps => rw [q] at e; cases e; exact .lst (same_l s h1) (dps_of s xs vs ps h2 q)
  | .tup xs, v, p, r, e => by
    simp only [toPy] at e
    obtain ⟨a, vs, rfl, h1, h2⟩ := r.toTup
    cases q : toPys xs with
    | none => rw [q] at e; cases e
    | some ps => rw [q] at e; cases e; exact .tup (same_t s h1) (dps_of s xs vs ps h2 q)
  | .byt _, v, p, r, e => by simp only [toPy] at e; cases e
  | .ty _, v, p, r, e => by simp only [toPy] at e; cases e
  | .ref _, v, p, r, e => by simp only [toPy] at e; cases e
  | .dK _ _, v, p, r, e => by simp only [toPy] at e; cases e
  | .dT _ _, v, p, r, e => by simp only [toPy] at e; cases e
  | .obj _ _ _, v, p, r, e => by simp only [toPy] at e; cases e
  | .cls _, v, p, r, e => by simp only [toPy] at e; cases e
theorem dps_of (s : Same F H) : ∀ (ds : List D) (vs : List V) (ps : List PyData), Reps K cl F vs ds → toPys ds = some ps → DpAll K H vs ps
  | [], vs, ps, r, e => by simp only [toPys] at e; cases e; rw [r.inv0]; exact .nil
  | d :: ds, vs, ps, r, e => by
    obtain ⟨v, ws, rfl, r1, r2⟩ := r.inv
    simp only [toPys] at e
    cases q1 : toPy d with
    | none => rw [q1] at e; cases e
    | some p =>
      cases q2 : toPys ds with
      | none => rw [q1, q2] at e; cases e
      | some qs => rw [q1, q2] at e; cases e; exact .cons (dp_of s d v p r1 q1) (dps_of s ds ws qs r2 q2)
end
theorem dp_vw (s : Same F H) {v : V} {d : D} {p : PyData} (h : Vw K cl F H v d) (e : toPy d = some p) : Dp K H v p := by
  rcases h with h | ⟨a, rfl, h⟩
  · exact dp_of s d v p h e
  · cases d with
    | lst ds =>
      obtain ⟨vs, h1, h2⟩ := h
      simp only [toPy] at e
      cases q : toPys ds with
      | none => rw [q] at e; cases e
      | some ps => rw [q] at e; cases e; exact .lst (SqL.of h1) (dps_of s ds vs ps h2 q)
    | dK _ _ => simp only [toPy] at e; cases e
    | dT _ _ => simp only [toPy] at e; cases e
    | obj _ _ _ => simp only [toPy] at e; cases e
    | _ => exact h.elim
end
/-- equal by what is told of both as plain data -/
def eqP (d e : D) : Option Bool := match toPy d, toPy e with
  | some p, some q => if SeqAt.shaped p && SeqAt.shaped q then some (PyData.eqv p q) else none
  | _, _ => none
def eqB : D → D → Option Bool
  | .int i, .int j => some (i == j)
  | .str x, .str y => some (x == y)
  | .bl x, .bl y => some (x == y)
  | .byt x, .byt y => some (x == y)
  | .non, .non => some true
  | .non, .int _ => some false
  | .non, .str _ => some false
  | .int _, .non => some false
  | .str _, .non => some false
  | .int _, .str _ => some false
  | .str _, .int _ => some false
  | d, e => eqP d e
def eqD (d e : D) : Option D := (eqB d e).map D.bl
def neD (d e : D) : Option D := (eqB d e).map fun b => D.bl !b
section
variable {K : PySem.W.Frag} {cl : ClW} {X : Cx}
theorem eqP_inv {d e : D} {b : Bool} (h : eqP d e = some b) : ∃ p q, toPy d = some p ∧ toPy e = some q ∧ SeqAt.shaped p = true ∧ SeqAt.shaped q = true ∧ b = PyData.eqv p q := by
  unfold eqP at h
  cases e1 : toPy d with
  | none => rw [e1] at h; cases h
  | some p =>
    cases e2 : toPy e with
    | none => rw [e1, e2] at h; cases h
    | some q =>
      rw [e1, e2] at h
      simp only at h
      split at h
      · rename_i hs
        cases h
        obtain ⟨h1, h2⟩ := Bool.and_eq_true_iff.mp hs
        exact ⟨p, q, rfl, rfl, h1, h2, rfl⟩
      · cases h
def rEqA (K : PySem.W.Frag) : R2 := fun x y H Q => rEq x y H Q ∨ rEqD K x y H Q
def rNeA (K : PySem.W.Frag) : R2 := fun x y H Q => rNe x y H Q ∨ rNeD K x y H Q
theorem op_eqA (hu : X.A.units + 64 < cLine) : OpR X (compareOp .Eq) (rEqA X.K) := op_eq.or (op_eqD hu)
theorem op_neA (hu : X.A.units + 64 < cLine) : OpR X (compareOp .NotEq) (rNeA X.K) := op_ne.or (op_neD hu)
theorem eqB_at {F H : Hp} (s : Same F H) {x y : V} {d e : D} {b : Bool} (hx : Vw K cl F H x d) (hy : Vw K cl F H y e) (h : eqB d e = some b) :
    (scal x y = true ∧ decide (x = y) = b) ∨ ∃ p q, Dp K H x p ∧ Dp K H y q ∧ SeqAt.shaped p = true ∧ SeqAt.shaped q = true ∧ b = PyData.eqv p q := by
  unfold eqB at h
  split at h
  · cases h; rw [hx.int, hy.int]; exact .inl ⟨rfl, dec_int⟩
  · cases h; rw [hx.str, hy.str]; exact .inl ⟨rfl, dec_str⟩
  · cases h; rw [hx.bl, hy.bl]; exact .inl ⟨rfl, dec_bl⟩
  · cases h
    rw [hx.byt, hy.byt]
    refine .inl ⟨rfl, ?_⟩
    rename_i x1 y1
    by_cases e : x1 = y1
    · subst e; simp
    · rw [decide_eq_false (fun z => e (V.byt.inj z))]
      exact (beq_eq_false_iff_ne.mpr e).symm
  · cases h; rw [hx.non, hy.non]; exact .inl ⟨rfl, rfl⟩
  · cases h; rw [hx.non, hy.int]; exact .inl ⟨rfl, rfl⟩
  · cases h; rw [hx.non, hy.str]; exact .inl ⟨rfl, rfl⟩
  · cases h; rw [hx.int, hy.non]; exact .inl ⟨rfl, rfl⟩
  · cases h; rw [hx.str, hy.non]; exact .inl ⟨rfl, rfl⟩
  · cases h; rw [hx.int, hy.str]; exact .inl ⟨rfl, rfl⟩
  · cases h; rw [hx.str, hy.int]; exact .inl ⟨rfl, rfl⟩
  · obtain ⟨p, q, h1, h2, h3, h4, h5⟩ := eqP_inv h
    exact .inr ⟨p, q, dp_vw s hx h1, dp_vw s hy h2, h3, h4, h5⟩
theorem lop_eq : LOp K cl (rEqA K) eqD := by
  intro F H M x y d e z Q Qd g hx hy h p q
  unfold eqD at h
  cases e1 : eqB d e with
  | none => rw [e1] at h; cases h
  | some b =>
    rw [e1] at h
    cases h
    rcases eqB_at g.sub hx hy e1 with ⟨h1, h2⟩ | ⟨pd, pe, h1, h2, h3, h4, rfl⟩
    · exact .inl ⟨h1, by rw [h2]; exact p.val g (.bl _) q⟩
    · exact .inr ⟨pd, pe, h1, h2, h3, h4, p.val g (.bl _) q⟩
theorem lop_ne : LOp K cl (rNeA K) neD := by
  intro F H M x y d e z Q Qd g hx hy h p q
  unfold neD at h
  cases e1 : eqB d e with
  | none => rw [e1] at h; cases h
  | some b =>
    rw [e1] at h
    cases h
    rcases eqB_at g.sub hx hy e1 with ⟨h1, h2⟩ | ⟨pd, pe, h1, h2, h3, h4, rfl⟩
    · exact .inl ⟨h1, by rw [h2]; exact p.val g (.bl _) q⟩
    · exact .inr ⟨pd, pe, h1, h2, h3, h4, p.val g (.bl _) q⟩
/-! ### built-ins -/
def absF : List D → Option D
  | [.int i] => some (.int (if i < 0 then -i else i))
  | _ => none
def intF : List D → Option D
  | [.int i] => some (.int i)
  | [.bl b] => some (.int (if b then 1 else 0))
  | _ => none
def lenF : List D → Option D
  | [.lst xs] => some (.int xs.length)
  | [.tup xs] => some (.int xs.length)
  | [.str x] => if x.length ≤ sizeLine then some (.int x.length) else none
  | [.byt x] => if x.size ≤ sizeLine then some (.int x.size) else none
  | _ => none
def intsOf : List D → Option (List Int)
  | [] => some []
  | .int i :: r => (intsOf r).map (i :: ·)
  | _ :: _ => none
theorem intsOf_eq : ∀ {ds : List D} {ns : List Int}, intsOf ds = some ns → ds = ns.map D.int
  | [], ns, h => by simp only [intsOf] at h; cases h; rfl
  | d :: ds, ns, h => by
    cases d with
    | int i =>
      simp only [intsOf] at h
      cases e : intsOf ds with
      | none => rw [e] at h; cases h
      | some ms => rw [e] at h; cases h; rw [intsOf_eq e]; rfl
    | _ => simp only [intsOf] at h; cases h
theorem intsOf_map (ns : List Int) : intsOf (ns.map D.int) = some ns := by
  induction ns with
  | nil => rfl
  | cons n ns ih => simp only [List.map_cons, intsOf, ih]; rfl
def minF : List D → Option D
  | [.lst xs] => (intsOf xs).bind fun ns => ns.min?.map D.int
  | [.int i, .int j] => some (.int (if j < i then j else i))
  | _ => none
def maxF : List D → Option D
  | [.lst xs] => (intsOf xs).bind fun ns => ns.max?.map D.int
  | [.int i, .int j] => some (.int (if j > i then j else i))
  | _ => none
def sumF : List D → Option D
  | [.lst xs] => (intsOf xs).map fun ns => D.int ns.sum
  | _ => none
def reprF : List D → Option D
  | [d] => match toPy d with
    | some p => if p.showable && SeqAt.shaped p && decide (p.shown.length ≤ sizeLine) then some (.str p.shown) else none
    | none => none
  | _ => none
theorem reps1 {F : Hp} {M : Mem} {H : Hp} (g : Good K cl F H M) {xs : List V} {ds : List D} {d : D} (r : Reps K cl F xs ds) (e : ds.map (vw M) = [d]) : ∃ x, xs = [x] ∧ Vw K cl F H x d := by
  cases ds with
  | nil => cases e
  | cons a t =>
    cases t with
    | nil =>
      obtain ⟨x, ws, rfl, r1, r2⟩ := r.inv
      obtain rfl := r2.inv0
      simp only [List.map_cons, List.map_nil, List.cons.injEq, and_true] at e
      exact ⟨x, rfl, e ▸ vw_ok g r1⟩
    | cons b t => simp at e
theorem reps2 {F : Hp} {M : Mem} {H : Hp} (g : Good K cl F H M) {xs : List V} {ds : List D} {d e' : D} (r : Reps K cl F xs ds) (e : ds.map (vw M) = [d, e']) : ∃ x y, xs = [x, y] ∧ Vw K cl F H x d ∧ Vw K cl F H y e' := by
  cases ds with
  | nil => cases e
  | cons a t =>
    cases t with
    | nil => simp at e
    | cons b t =>
      cases t with
      | nil =>
        obtain ⟨x, ws, rfl, r1, r2⟩ := r.inv
        obtain ⟨y, ws, rfl, r3, r4⟩ := r2.inv
        obtain rfl := r4.inv0
        simp only [List.map_cons, List.map_nil, List.cons.injEq, and_true] at e
        exact ⟨x, y, rfl, e.1 ▸ vw_ok g r1, e.2 ▸ vw_ok g r3⟩
      | cons c t => simp at e
theorem lc_abs : LCall K cl (fun xs H Q => ∃ i, xs = [.int i] ∧ Q (.int (if i < 0 then -i else i)) H) absF := by
  intro F H M xs ds z Q Qd g r h p q
  generalize e : ds.map (vw M) = es at h
  unfold absF at h
  split at h
  · cases h
    obtain ⟨x, rfl, hv⟩ := reps1 g r e
    obtain rfl := hv.int
    exact ⟨_, rfl, p.val g (.int _) q⟩
  · cases h
theorem lc_int : LCall K cl (fun xs H Q => (∃ i, xs = [.int i] ∧ Q (.int i) H) ∨ ∃ k, xs = [.bl k] ∧ Q (.int (if k then 1 else 0)) H) intF := by
  intro F H M xs ds z Q Qd g r h p q
  generalize e : ds.map (vw M) = es at h
  unfold intF at h
  split at h
  · cases h
    obtain ⟨x, rfl, hv⟩ := reps1 g r e
    obtain rfl := hv.int
    exact .inl ⟨_, rfl, p.val g (.int _) q⟩
  · cases h
    obtain ⟨x, rfl, hv⟩ := reps1 g r e
    obtain rfl := hv.bl
    exact .inr ⟨_, rfl, p.val g (.int _) q⟩
  · cases h
theorem lc_len : LCall K cl (fun xs H Q => ∃ x n, xs = [x] ∧ LenV K x H n ∧ Q (.int n) H) lenF := by
  intro F H M xs ds z Q Qd g r h p q
  generalize e : ds.map (vw M) = es at h
  unfold lenF at h
  split at h
  · cases h
    obtain ⟨x, rfl, hv⟩ := reps1 g r e
    obtain ⟨a, vs, rfl, h1, h2⟩ := hv.lst g.sub
    exact ⟨_, _, rfl, .inl ⟨vs, h1, rfl⟩, by rw [h2.length]; exact p.val g (.int _) q⟩
  · cases h
    obtain ⟨x, rfl, hv⟩ := reps1 g r e
    obtain ⟨a, vs, rfl, h1, h2⟩ := hv.tup g.sub
    exact ⟨_, _, rfl, .inr ⟨vs, h1, rfl⟩, by rw [h2.length]; exact p.val g (.int _) q⟩
  · split at h
    · cases h
      obtain ⟨x, rfl, hv⟩ := reps1 g r e
      obtain rfl := hv.str
      exact ⟨_, _, rfl, ⟨by assumption, rfl⟩, p.val g (.int _) q⟩
    · cases h
  · split at h
    · cases h
      obtain ⟨x, rfl, hv⟩ := reps1 g r e
      obtain rfl := hv.byt
      exact ⟨_, _, rfl, ⟨by assumption, rfl⟩, p.val g (.int _) q⟩
    · cases h
  · cases h
theorem lc_min : LCall K cl (fun xs H Q => rMin K xs H Q ∨ ∃ i j, xs = [.int i, .int j] ∧ Q (.int (if j < i then j else i)) H) minF := by
  intro F H M xs ds z Q Qd g r h p q
  generalize e : ds.map (vw M) = es at h
  unfold minF at h
  split at h
  · obtain ⟨x, rfl, hv⟩ := reps1 g r e
    obtain ⟨a, vs, rfl, h1, h2⟩ := hv.lst g.sub
    rename_i ys
    cases e2 : intsOf ys with
    | none => rw [e2] at h; cases h
    | some ns =>
      rw [e2] at h
      simp only [Option.bind_some] at h
      cases e3 : ns.min? with
      | none => rw [e3] at h; cases h
      | some m =>
        rw [e3] at h
        cases h
        rw [intsOf_eq e2] at h2
        have hm := List.min?_eq_some_iff.mp e3
        refine .inl ⟨a, ns, rfl, by rw [← h2.ints]; exact h1, List.length_pos_of_mem hm.1, fun m' h3 h4 => ?_⟩
        have : m' = m := Int.le_antisymm (h4 m hm.1) (hm.2 m' h3)
        rw [this]
        exact p.val g (.int _) q
  · cases h
    obtain ⟨x, y, rfl, hv, hw⟩ := reps2 g r e
    obtain rfl := hv.int
    obtain rfl := hw.int
    exact .inr ⟨_, _, rfl, p.val g (.int _) q⟩
  · cases h
theorem lc_max : LCall K cl (fun xs H Q => rMax K xs H Q ∨ ∃ i j, xs = [.int i, .int j] ∧ Q (.int (if j > i then j else i)) H) maxF := by
  intro F H M xs ds z Q Qd g r h p q
  generalize e : ds.map (vw M) = es at h
  unfold maxF at h
  split at h
  · obtain ⟨x, rfl, hv⟩ := reps1 g r e
    obtain ⟨a, vs, rfl, h1, h2⟩ := hv.lst g.sub
    rename_i ys
    cases e2 : intsOf ys with
    | none => rw [e2] at h; cases h
    | some ns =>
      rw [e2] at h
      simp only [Option.bind_some] at h
      cases e3 : ns.max? with
      | none => rw [e3] at h; cases h
      | some m =>
        rw [e3] at h
        cases h
        rw [intsOf_eq e2] at h2
        have hm := List.max?_eq_some_iff.mp e3
        refine .inl ⟨a, ns, rfl, by rw [← h2.ints]; exact h1, List.length_pos_of_mem hm.1, fun m' h3 h4 => ?_⟩
        have : m' = m := Int.le_antisymm (hm.2 m' h3) (h4 m hm.1)
        rw [this]
        exact p.val g (.int _) q
  · cases h
    obtain ⟨x, y, rfl, hv, hw⟩ := reps2 g r e
    obtain rfl := hv.int
    obtain rfl := hw.int
    exact .inr ⟨_, _, rfl, p.val g (.int _) q⟩
  · cases h
theorem lc_sum : LCall K cl (rSum K) sumF := by
  intro F H M xs ds z Q Qd g r h p q
  generalize e : ds.map (vw M) = es at h
  unfold sumF at h
  split at h
  · obtain ⟨x, rfl, hv⟩ := reps1 g r e
    obtain ⟨a, vs, rfl, h1, h2⟩ := hv.lst g.sub
    rename_i ys
    cases e2 : intsOf ys with
    | none => rw [e2] at h; cases h
    | some ns =>
      rw [e2] at h
      cases h
      rw [intsOf_eq e2] at h2
      exact ⟨a, ns, rfl, by rw [← h2.ints]; exact h1, p.val g (.int _) q⟩
  · cases h
/-! repr -/
def rRepr (K : PySem.W.Frag) : List V → Hp → VK → Prop := fun xs H Q => ∃ x p, xs = [x] ∧ Dp K H x p ∧ p.showable = true ∧ SeqAt.shaped p = true ∧ p.shown.length ≤ sizeLine ∧ Q (.str p.shown) H
theorem call_repr {k : Nat} (hr : RoomG k X.A) : CallR X (.builtin "repr") (rRepr X.K) := by
  intro pins s σ H xs us Q I r h
  obtain ⟨x, p, rfl, hd, hs, hp, hz, q⟩ := h
  obtain ⟨u, rfl, ru⟩ := vals1 r
  obtain ⟨as, rd⟩ := Dp.reads I p x u hd ru
  have un := hr.room.un
  have dp := SeqAt.depth_of_shaped hp
  cases hd with
  | non => cases ru; exact PySem.P.repr_of_none ⟨.str _, H, I.tok _, ⟨_, rfl⟩, q⟩
  | bl b =>
    cases ru
    refine PySem.P.repr_of_bool ⟨.str _, H, I.tok _, ⟨_, rfl⟩, ?_⟩
    simpa [PyData.shown] using q
  | int i =>
    obtain ⟨t, rfl⟩ := ru
    refine PySem.P.repr_of_int (by simpa [PyData.showable] using hs) ⟨.str _, H, I.tok _, ⟨_, rfl⟩, ?_⟩
    simpa [PyData.shown] using q
  | str z =>
    obtain ⟨t, rfl⟩ := ru
    refine PySem.P.repr_of_str ⟨.str _, H, I.tok _, ⟨_, rfl⟩, ?_⟩ (by simpa [PyData.shown] using hz)
    simpa [PyData.shown] using q
  | lst h1 h2 =>
    cases ru
    exact PySem.repr_of_reads' rd hs (PyData.noDict_hsm (PyData.hasDict_of_canLay _ (SeqAt.canLay_of_shaped hp))) hr.gd (by omega) (fun _ _ e => e) (fun h' t tk kp => ⟨.str _, H, I.kept (t' := tk) kp, ⟨_, rfl⟩, q⟩) hz
  | tup h1 h2 =>
    cases ru
    exact PySem.repr_of_reads' rd hs (PyData.noDict_hsm (PyData.hasDict_of_canLay _ (SeqAt.canLay_of_shaped hp))) hr.gd (by omega) (fun _ _ e => e) (fun h' t tk kp => ⟨.str _, H, I.kept (t' := tk) kp, ⟨_, rfl⟩, q⟩) hz
theorem lc_repr : LCall K cl (rRepr K) reprF := by
  intro F H M xs ds z Q Qd g r h p q
  generalize e : ds.map (vw M) = es at h
  unfold reprF at h
  split at h
  · rename_i d
    obtain ⟨x, rfl, hv⟩ := reps1 g r e
    cases e2 : toPy d with
    | none => rw [e2] at h; cases h
    | some pd =>
      rw [e2] at h
      simp only at h
      split at h
      · rename_i hs
        cases h
        obtain ⟨h12, h3⟩ := Bool.and_eq_true_iff.mp hs
        obtain ⟨h1, h2⟩ := Bool.and_eq_true_iff.mp h12
        exact ⟨x, pd, rfl, dp_vw g.sub hv e2, h1, h2, of_decide_eq_true h3, p.val g (.str _) q⟩
      · cases h
  · cases h
/-! isinstance against built-in classes -/
def tyName : D → Option String
  | .non => some "NoneType"
  | .bl _ => some "bool"
  | .int _ => some "int"
  | .str _ => some "str"
  | .byt _ => some "bytes"
  | .lst _ => some "list"
  | .tup _ => some "tuple"
  | .dK _ _ => some "dict"
  | .dT _ _ => some "dict"
  | _ => none
def tyNames : List String := ["NoneType", "bool", "int", "str", "bytes", "list", "tuple", "dict"]
def isTy (a b : String) : Bool := a == b || (a == "bool" && b == "int")
theorem isTy_kit : ∀ a ∈ tyNames, ∀ b ∈ tyNames, kitB a b = some (isTy a b) := by decide +kernel
theorem tyName_mem {d : D} {n : String} (h : tyName d = some n) : n ∈ tyNames := by
  cases d <;> simp only [tyName] at h <;> first | (cases h; decide) | cases h
theorem tyX_of {F H : Hp} (s : Same F H) {v : V} {d : D} {n : String} (h : Vw K cl F H v d) (e : tyName d = some n) : TyX K H v (.type n) := by
  cases d with
  | non => cases e; rw [h.non]; exact .base .non
  | bl b => cases e; rw [h.bl]; exact .base (.bl b)
  | int i => cases e; rw [h.int]; exact .base (.int i)
  | str x => cases e; rw [h.str]; exact .base (.str x)
  | byt b => cases e; rw [h.byt]; exact .byt b
  | lst ds =>
    cases e
    obtain ⟨a, vs, rfl, h1, h2⟩ := h.lst s
    rcases h1 with (h1 | ⟨o, h1⟩) | ⟨o, its, n, h1, h3, _⟩
    · exact .base (.lst h1)
    · exact .base (.frz h1)
    · exact .kList h1 h3
  | tup ds =>
    cases e
    obtain ⟨a, vs, rfl, h1, h2⟩ := h.tup s
    rcases h1 with (h1 | ⟨o, h1⟩) | ⟨o, its, n, h1, h3, _⟩
    · exact .base (.tup h1)
    · exact .fTuple h1
    · exact .kTuple h1 h3
  | dK ks ds =>
    cases e
    rcases h with h | ⟨a, rfl, vs, h1, _⟩
    · cases h with | dK h1 _ _ => exact .base (.dK (s _ _ h1))
    · exact .base (.dK h1)
  | dT ks ds =>
    cases e
    rcases h with h | ⟨a, rfl, vs, h1, _⟩
    · cases h with | dT h1 _ _ => exact .base (.dT (s _ _ h1))
    · exact .base (.dT h1)
  | _ => cases e
def isiF : List D → Option D
  | [d, .ty n] => match tyName d with
    | some a => if n ∈ tyNames then some (.bl (isTy a n)) else none
    | none => none
  | [d, .tup ts] => match tyName d with
    | some a => if ts.all (fun t => match t with | .ty n => decide (n ∈ tyNames) | _ => false) then some (.bl (ts.any fun t => match t with | .ty n => isTy a n | _ => false)) else none
    | none => none
  | _ => none
theorem kitAny_of {a : String} (ha : a ∈ tyNames) : ∀ {F : Hp} {vs : List V} {ts : List D}, Reps K cl F vs ts → ts.all (fun t => match t with | .ty n => decide (n ∈ tyNames) | _ => false) = true →
    ∃ us, Paired ClsV vs us ∧ PySem.W.kitAny K (.type a) us = some (ts.any fun t => match t with | .ty n => isTy a n | _ => false)
  | F, vs, [], r, _ => by
    obtain rfl := r.inv0
    exact ⟨[], .nil, kitAny_nil⟩
  | F, vs, t :: ts, r, h => by
    obtain ⟨v, ws, rfl, r1, r2⟩ := r.inv
    rw [List.all_cons] at h
    obtain ⟨h1, h2⟩ := Bool.and_eq_true_iff.mp h
    obtain ⟨us, hp, hk⟩ := kitAny_of ha r2 h2
    cases t with
    | ty n =>
      have hn : n ∈ tyNames := of_decide_eq_true h1
      rw [r1.toTy]
      refine ⟨.type n :: us, .cons (.ty n) hp, ?_⟩
      have k1 : PySem.W.kitOne K (.type a) (.type n) = some (isTy a n) := kit_ty (isTy_kit a ha n hn)
      rw [List.any_cons]
      refine kitAny_cons k1 (fun e => ?_) fun e => ?_
      · simp only [e, Bool.false_or]; exact hk
      · simp only [e, Bool.true_or]
    | _ => cases h1
theorem lc_isi : LCall K cl (fun xs H Q => rIsi K xs H Q ∨ rIsiT K xs H Q ∨ rIsiK K xs H Q) isiF := by
  intro F H M xs ds z Q Qd g r h p q
  generalize e : ds.map (vw M) = es at h
  unfold isiF at h
  split at h
  · rename_i d n
    obtain ⟨x, y, rfl, hv, hw⟩ := reps2 g r e
    cases e2 : tyName d with
    | none => rw [e2] at h; cases h
    | some a =>
      rw [e2] at h
      simp only at h
      split at h
      · rename_i hn
        cases h
        have hy : y = .ty n := by
          rcases hw with hw | ⟨_, _, hw⟩
          · exact hw.toTy
          · exact hw.elim
        subst hy
        exact .inl ⟨x, .ty n, .type a, .type n, _, rfl, .ty n, tyX_of g.sub hv e2, kit_ty (isTy_kit a (tyName_mem e2) n hn), p.val g (.bl _) q⟩
      · cases h
  · rename_i d ts
    obtain ⟨x, y, rfl, hv, hw⟩ := reps2 g r e
    cases e2 : tyName d with
    | none => rw [e2] at h; cases h
    | some a =>
      rw [e2] at h
      simp only at h
      split at h
      · rename_i hn
        cases h
        rcases hw with hw | ⟨_, _, hw⟩
        · obtain ⟨b, vs, rfl, h1, h2⟩ := hw.toTup1
          obtain ⟨us, hp, hk⟩ := kitAny_of (tyName_mem e2) h2 hn
          rcases h1 with h1 | ⟨⟨oc, od, dt, sl⟩, its, n, h1, h3, h4, h5, h6⟩
          · exact .inr (.inl ⟨x, b, vs, .type a, us, _, rfl, g.sub _ _ h1, hp, tyX_of g.sub hv e2, hk, p.val g (.bl _) q⟩)
          · simp only at h3 h4
            subst h3 h4
            have e3 := ClsV.all hp h6
            refine .inr (.inr ⟨x, b, od, us, n, sl, .type a, _, rfl, ?_, tyX_of g.sub hv e2, hk, p.val g (.bl _) q⟩)
            rw [← e3]
            simpa using h1
        · exact hw.elim
      · cases h
  · cases h
end
end DL

set_option Elab.async false
set_option linter.all false
set_option autoImplicit false
set_option maxRecDepth 100000
set_option maxHeartbeats 2000000
namespace DL
open PySem L2 PySem.W PySem.Spec

/-! ### a def by its name -/
/-- the module's name x is a def that keeps the promise spd when all its parameters are given -/
def FnB (cl : ClW) (P : Program) (w : World) (K : Frag) (mg : Str → Option Value) (base : Heap) (k : Nat) (x : Str) (ps : List Str) (spd : SpD) : Prop :=
  ∃ f fd, mg x = some (.ref f) ∧ keepIn K (.ref f) = true ∧ Binds K fd ps [] ∧ FnG cl P w K mg base k f fd ps spd
section
variable {cl : ClW} {X : Cx} {W : WX} {j k : Nat} {ps : List Str} {spd : SpD} {x : Str} {p pos : Pos} {e : Expr} {es : List Expr} {α : DTA}
theorem d_fn (c : Cap X W k) (G : FnB cl X.prog X.w X.K X.mg X.base j x ps spd) (hj : j ≤ k) (hg : Gl X x) (ha : DA cl X W (e :: es) α)
    (hdb : (x == ("__debug__" : Str)) = false := by decide) (he : starEach (e :: es) X.env = (false, eval e X.env) :: starEach es X.env := by rfl) (hpl : (backTo pos (starEach es X.env)).any (·.1) = false := by rfl) :
    DE cl X W (.Call (.Name x p) (e :: es) [] pos) (dCall spd [] α) := by
  obtain ⟨f, fd, h1, h2, h3, h4⟩ := G
  exact d_call c (h4.mono hj) hg h1 h2 h3 .nil (fun _ => .nil) ha hdb he hpl
theorem d_fn0 (c : Cap X W k) (G : FnB cl X.prog X.w X.K X.mg X.base j x ps spd) (hj : j ≤ k) (hg : Gl X x) (hdb : (x == ("__debug__" : Str)) = false := by decide) :
    DE cl X W (.Call (.Name x p) [] [] pos) (dCall spd [] dNil) := by
  obtain ⟨f, fd, h1, h2, h3, h4⟩ := G
  exact d_call0 c (h4.mono hj) hg h1 h2 h3 .nil (fun _ => .nil) hdb
theorem d_bltn {v : V} {u : Value} {d : D} (hg : Gl X x) (hm : X.mg x = none) (hv : bootBuiltins x = some u) (r : RelV v u) (rd : ∀ F, Rep X.K cl F v d) (hn : x ≠ "__name__" := by decide) (hd : (x == ("__debug__" : Str)) = false := by decide) : DE cl X W (.Name x pos) (dC d) :=
  d_c (pe_bltn hg hm hv r hn hd) rd
theorem d_ty {n : String} (hg : Gl X x) (hm : X.mg x = none) (hv : bootBuiltins x = some (.type n)) (hn : x ≠ "__name__" := by decide) (hd : (x == ("__debug__" : Str)) = false := by decide) : DE cl X W (.Name x pos) (dC (.ty n)) :=
  d_bltn (v := .ty n) hg hm hv rfl (fun _ => .ty n) hn hd
theorem d_globI {i : Int} (hg : Gl X x) (hm : ∃ t, X.mg x = some (.int i t)) (hd : (x == ("__debug__" : Str)) = false := by decide) : DE cl X W (.Name x pos) (dC (.int i)) := by
  obtain ⟨t, h⟩ := hm
  exact d_c (v := .int i) (pe_glob hg h ⟨t, rfl⟩ hd) fun _ => .int i
theorem d_globS {z : Str} (hg : Gl X x) (hm : ∃ t, X.mg x = some (.str z t)) (hd : (x == ("__debug__" : Str)) = false := by decide) : DE cl X W (.Name x pos) (dC (.str z)) := by
  obtain ⟨t, h⟩ := hm
  exact d_c (v := .str z) (pe_glob hg h ⟨t, rfl⟩ hd) fun _ => .str z
end
/-- a def's promise from its place in the text, its body's rules and its pure part -/
theorem fnB_of {cl : ClW} {P : Program} {w : World} {K : Frag} {mg : Str → Option Value} {base : Heap} {k : Nat} {x qual : Str} {params : Arguments} {body : List Stmt} {scope : Scope} {N ps : List Str} {spd : SpD} {f : Addr} {t : DTS}
    (F : ∃ fd, FunD K x qual params body scope [] [] f fd) (hm : mg x = some (.ref f)) (S : FnScope N ps scope)
    (hb : ∀ (kV doc pm : Value) (an : Option Addr) (cdv ct : Value) (us : List Value), us.length = ps.length → bindArgs (fnOf x qual params body scope .none kV doc pm an cdv ct) ⟨us, []⟩ = pure (ps.zip us))
    (hbody : ∀ (cdv : Value) (A : Around) (outer : List PySem.Env) (s : Shared) (H : Hp) (E : XK), Cap (cxOf (L2.CX P w) P w K mg base N qual scope f cdv A outer s H E) (fun cls d _ H => E cls d H) k →
      DSs cl (cxOf (L2.CX P w) P w K mg base N qual scope f cdv A outer s H E) (fun cls d _ H => E cls d H) body t)
    (hsp : ∀ ds M Q E, spd ds M Q E → ds.length = ps.length ∧ t (dEnds Q E) (startD N ds) M) : FnB cl P w K mg base (k + 1) x ps spd := by
  obtain ⟨fd, F⟩ := F
  exact ⟨f, fd, hm, F.kp, F.bindsN hb, fn_d F S t hbody hsp⟩

/-! ### the law's end -/
theorem good_script {K : Frag} {cl : ClW} {H : Hp} (hT : LamX.Tabs (tabsOf cl) H) (hn : ∀ b ps, H b ≠ some (.tbl ps)) : Good K cl H H (fun _ => none) := ⟨fun _ _ e => e, (fun _ _ e => by cases e), hT, hn⟩
/-- nothing but the law's argument is tracked: what the call leaves -/
theorem law_end {cl : ClW} {P : Program} {w : World} {K : Frag} {mg mb : Str → Option Value} {k : Nat} {fa a : Addr} {x : Str} {spd : SpD} {s0 : Shared} {vs : List Value} {ns : List Int} {H : Hp}
    (KX : K.In s0.heap) (hns : s0.heap.Ns mainGlobals mg) (hb : s0.heap.Ns builtinsNs mb) (hbb : ∀ x : Str, x ≠ "__name__" → mb x = bootBuiltins x) (hlim : s0.heap.NoLimit) (hg : s0.gens = #[])
    (ha : s0.heap.get? a = some { cls := .type "list", data := .seq vs.toArray }) (hr : RoomG k callerA) (F : ∀ base : Heap, K.In base → base.Ns mainGlobals mg → ∃ fd, Binds K fd [x] [] ∧ FnG cl P w K mg base k fa fd [x] spd)
    (hO : Only H) (hS : SqL K H a (ns.map V.int)) (hok : HOk P w H s0.heap) (hA : ∀ b, H b ≠ none → b = a) (hK : H a ≠ none → K.lookup a = none) (hT : tabsOf cl = []) (hn : ∀ b ps, H b ≠ some (.tbl ps))
    (hsp : ∀ (M : Mem) (Qd : DV) (Ed : DEK), (∀ M', Qd (.bl true) M') → spd [.lst (ns.map D.int)] M Qd Ed) :
    codeAny (model P w) callerA (.call (.ref fa) ⟨[.ref a], []⟩) (fun r s' => r = .ok (.ret (.bool true)) ∧ OldK s0.heap s'.heap ∧ s'.os = s0.os ∧ PyProof.Rows.AllBare s'.gens) s0 := by
  have only : ∀ {b u}, H b = some u → b = a := fun {b u} e => hA b (by rw [e]; exact nofun)
  have free : ∀ {b o es ep}, s0.heap.get? b = some o → o.data = Data.dict es ep → H b = none := by
    intro b o es ep e1 e2
    cases q : H b with
    | none => rfl
    | some u =>
      rw [only q, ha] at e1
      cases e1
      cases e2
  have ns2 : ∀ {b m}, s0.heap.Ns b m → (hidT s0.heap H).Ns b m := by
    rintro b m ⟨o, es, ep, e1, e2, r⟩
    exact ⟨o, es, ep, hidT_get e1 (free e1 e2), e2, r⟩
  have kin : K.In (hidT s0.heap H) := by
    intro b o e
    refine hidT_get (KX b o e) ?_
    cases q : H b with
    | none => rfl
    | some u =>
      have z := only q
      subst z
      rw [hK (by rw [q]; exact nofun)] at e
      cases e
  obtain ⟨mc, l1, l2⟩ := hlim
  have md : Mod K mg (hidT s0.heap H) := ⟨kin, ns2 hns, ⟨mb, ns2 hb, hbb⟩, mc, ns2 l1, l2⟩
  have env : Env0 P w K mg (hidT s0.heap H) callerA [] s0 H := ⟨rfl, md, fun _ _ e => of_hidT e, Nat.le_of_eq (hidT_size _ _), trivial, fun b z => (by cases z), hok, .of_eq hg⟩
  have low : lower K cl spd [.ref a] H (fun v _ => v = .bl true) (fun _ _ _ => False) :=
    ⟨H, fun _ => none, [.lst (ns.map D.int)], fun d _ => d = .bl true, fun _ _ _ _ => False, good_script (by rw [hT]; exact fun _ z => by cases z) hn, .one (.lst hS (.of_ints ns)), hsp _ _ _ fun _ => rfl, fun v _ _ d _ _ _ r e => by subst e; exact r.toBl, fun _ _ _ _ _ _ _ _ _ _ z => z⟩
  obtain ⟨fd, hbd, G⟩ := F _ kin (ns2 hns)
  refine codeAny_mono (G.run callerA [] s0 H _ [.ref a] [.ref a] _ _ hr env (hbd s0 [.ref a] KX rfl) (.cons rfl .nil) low) fun r s' h => ?_
  cases r with
  | error e =>
    obtain ⟨_, _, _, _, _, _, _, _, _, _, _, _, z⟩ := (show L2.CX P w [] H s0 (fun _ _ _ => False) e s' from h)
    exact z.elim
  | ok fl =>
    cases fl with
    | ret u =>
      obtain ⟨v, H', os, bare, un, hok', rv, q⟩ := (show CE [] P w H s0 (fun v _ => v = .bl true) u s' from h)
      subst q
      cases rv
      refine ⟨rfl, OldK.of_keep fun b o e => ?_, os, bare⟩
      rcases hO b with z | ⟨ob, xs, z⟩
      · exact un.keep b o e z (fun y => by cases y) (fun y => by cases y)
      · have h1 := (hok b _ z).1
        have h2 := (hok' b _ (un.frzs b ob _ z)).1
        rw [e] at h1
        cases h1
        exact h2
    | next => exact False.elim h
    | brk => exact False.elim h
    | cont => exact False.elim h
set_option autoImplicit false in
theorem law_callD {cl : ClW} {P : Program} {w : World} {K : Frag} {mg mb : Str → Option Value} {k : Nat} {fa a : Addr} {x : Str} {spd : SpD} {s0 : Shared} {vs : List Value} {ns : List Int}
    (KX : K.In s0.heap) (hns : s0.heap.Ns mainGlobals mg) (hb : s0.heap.Ns builtinsNs mb) (hbb : ∀ x : Str, x ≠ "__name__" → mb x = bootBuiltins x) (hlim : s0.heap.NoLimit) (hg : s0.gens = #[])
    (ha : s0.heap.get? a = some { cls := .type "list", data := .seq vs.toArray }) (hi : PyProof.Rows.IntsAre vs ns) (hl : ns.length ≤ sizeLine) (hr : RoomG k callerA) (F : ∀ base : Heap, K.In base → base.Ns mainGlobals mg → ∃ fd, Binds K fd [x] [] ∧ FnG cl P w K mg base k fa fd [x] spd)
    (hsp : ∀ (M : Mem) (Qd : DV) (Ed : DEK), (∀ M', Qd (.bl true) M') → spd [.lst (ns.map D.int)] M Qd Ed) (hT : tabsOf cl = []) :
    codeAny (model P w) callerA (.call (.ref fa) ⟨[.ref a], []⟩) (fun r s' => r = .ok (.ret (.bool true)) ∧ OldK s0.heap s'.heap ∧ s'.os = s0.os ∧ PyProof.Rows.AllBare s'.gens) s0 := by
  have hv := vals_ints hi
  have hle : vs.length ≤ sizeLine := by rw [hi.length]; exact hl
  cases hk : K.lookup a with
  | some o =>
    have e := KX a o hk
    rw [ha] at e
    cases e
    exact law_end (H := fun _ => none) KX hns hb hbb hlim hg ha hr F (fun _ => .inl rfl) (.inr ⟨_, vs.toArray, _, hk, rfl, rfl, rfl, by simpa using hle, by simpa using hv⟩) (fun _ _ z => by cases z) (fun _ z => (z rfl).elim) (fun z => (z rfl).elim) hT (fun _ _ z => by cases z) hsp
  | none =>
    let o : Obj := { cls := .type "list", data := .seq vs.toArray }
    have at_ : upd (fun _ => none) a (.frz o (.lst (ns.map V.int))) a = some (.frz o (.lst (ns.map V.int))) := upd_same
    have off : ∀ {b}, b ≠ a → upd (fun _ => none) a (.frz o (.lst (ns.map V.int))) b = none := fun h => upd_ne h
    refine law_end (H := upd (fun _ => none) a (.frz o (.lst (ns.map V.int)))) KX hns hb hbb hlim hg ha hr F (fun b => ?_) (.inl (.inr ⟨o, at_⟩)) (fun b u z => ?_) (fun b z => ?_) (fun _ => hk) hT (fun b ps z => ?_) hsp
    · by_cases h : b = a
      · subst h; exact .inr ⟨_, _, at_⟩
      · exact .inl (off h)
    · by_cases h : b = a
      · subst h
        rw [at_] at z
        cases z
        exact ⟨ha, by rw [List.length_map]; exact hl, vs, _, hv, ha⟩
      · rw [off h] at z
        cases z
    · by_cases h : b = a
      · exact h
      · exact (z (off h)).elim
    · by_cases h : b = a
      · subst h
        rw [at_] at z
        cases z
      · rw [off h] at z
        cases z
theorem walk_D {l : OpenLaw} {n k : Nat} {q : Program} {loose : List Str} {XP : (Str → Option Value) → Heap → Prop} {YP : World → Heap → Prop} {d : DefRec} {x : Str}
    (hn : l.most = some n) (hn2 : n ≤ sizeLine) (hdf : d.params.defaults = []) (hr : RoomG k callerA)
    (F : ∀ (w : World) (mg : Str → Option Value) (fa : Addr) (h : Heap), YP w h → h.Ns mainGlobals mg → mg d.name = some (.ref fa) →
      ∃ (cl : ClW) (K : Frag) (spd : SpD), tabsOf cl = [] ∧ K.In h ∧
        (∀ (ns : List Int) (M : Mem) (Qd : DV) (Ed : DEK), ns.length ≤ n → (∀ M', Qd (.bl true) M') → spd [.lst (ns.map D.int)] M Qd Ed) ∧
        ∀ base : Heap, K.In base → base.Ns mainGlobals mg → ∃ fd, Binds K fd [x] [] ∧ FnG cl l.prog w K mg base k fa fd [x] spd) :
    WalkO q loose XP YP l.row.toRowW d [] (fun f vs => PySem.call f vs) := by
  refine Att.attach_call hn hdf fun w s₀ s₁ mg mb fa o pm cd doc a vs ns G Y ho hd hcd hmg hobj hints hlen hg => ?_
  obtain ⟨cl, K, spd, hT, KX, hsp, hF⟩ := F w mg fa _ Y G.T.g hmg
  exact law_callD KX G.T.g G.T.b G.T.builtins G.T.nolimit hg hobj hints (Nat.le_trans hlen hn2) hr hF (fun M Qd Ed h => hsp ns M Qd Ed hlen h) hT
end DL

set_option Elab.async false
set_option linter.all false
set_option autoImplicit false
namespace DL
open PySem L2
/-! ### simp's rows -/
@[simp] theorem size_line : sizeLine = 16777216 := sizeLine_eq
@[simp] theorem and_flat (a b c : Prop) : ((a ∧ b) ∧ c) = (a ∧ b ∧ c) := propext and_assoc
section
variable {M : Mem} {i j : Int} {b : Bool} {x y : Str} {xs ys : List D} {d e : D} {a : Addr}
@[simp] theorem vw_non : vw M .non = .non := rfl
@[simp] theorem vw_bl : vw M (.bl b) = .bl b := rfl
@[simp] theorem vw_int : vw M (.int i) = .int i := rfl
@[simp] theorem vw_str : vw M (.str x) = .str x := rfl
@[simp] theorem vw_byt {z : Array UInt8} : vw M (.byt z) = .byt z := rfl
@[simp] theorem vw_ty {n : String} : vw M (.ty n) = .ty n := rfl
@[simp] theorem vw_lst : vw M (.lst xs) = .lst xs := rfl
@[simp] theorem vw_tup : vw M (.tup xs) = .tup xs := rfl
@[simp] theorem vw_dK {ks : List Key} : vw M (.dK ks xs) = .dK ks xs := rfl
@[simp] theorem vw_dT {ks : List (List Key)} : vw M (.dT ks xs) = .dT ks xs := rfl
@[simp] theorem vw_obj {c : Nat} {ns : List Str} : vw M (.obj c ns xs) = .obj c ns xs := rfl
@[simp] theorem vw_cls {c : Nat} : vw M (.cls c) = .cls c := rfl
theorem vw_ref (h : M a = some d) : vw M (.ref a) = d := by show (M a).getD _ = d; rw [h]; rfl
@[simp] theorem addD_int : addD (.int i) (.int j) = some (.int (i + j)) := rfl
@[simp] theorem addD_lst (h : xs.length + ys.length ≤ 16777216) : addD (.lst xs) (.lst ys) = some (.lst (xs ++ ys)) := if_pos (by rw [sizeLine_eq]; exact h)
@[simp] theorem addD_tup (h : xs.length + ys.length ≤ 16777216) : addD (.tup xs) (.tup ys) = some (.tup (xs ++ ys)) := if_pos (by rw [sizeLine_eq]; exact h)
@[simp] theorem addD_str (h : x.length + y.length ≤ 16777216) : addD (.str x) (.str y) = some (.str (x ++ y)) := if_pos (by rw [sizeLine_eq]; exact h)
@[simp] theorem mulD_int (h : (-18446744073709551616 < i ∧ i < 18446744073709551616) ∨ (-18446744073709551616 < j ∧ j < 18446744073709551616)) : mulD (.int i) (.int j) = some (.int (i * j)) := if_pos h
@[simp] theorem fdivD_int (h : 0 < j) (h2 : j < 1000000000000000000000000000000000000) : fdivD (.int i) (.int j) = some (.int (i / j)) := if_pos ⟨h, Int.lt_trans h2 (by decide)⟩
@[simp] theorem modD_int (h : 0 < j) : modD (.int i) (.int j) = some (.int (i % j)) := if_pos h
@[simp] theorem absF_int : absF [.int i] = some (.int (if i < 0 then -i else i)) := rfl
@[simp] theorem intF_int : intF [.int i] = some (.int i) := rfl
@[simp] theorem intF_bl : intF [.bl b] = some (.int (if b then 1 else 0)) := rfl
@[simp] theorem vw_upd : vw (updM M a d) (.ref a) = d := by show (updM M a d a).getD _ = d; rw [updM_same]; rfl
@[simp] theorem upd_at : updM M a d a = some d := updM_same
@[simp] theorem powD_int : powD (.int i) (.int j) = if 0 ≤ j ∧ j ≤ 1000000 ∧ i.natAbs < 2 ^ 64 then some (.int (i ^ j.toNat)) else none := rfl
@[simp] theorem ixD_lst : ixD (.lst xs) (.int i) = atI xs i := rfl
@[simp] theorem ixD_tup : ixD (.tup xs) (.int i) = atI xs i := rfl
@[simp] theorem slD_lst {lo hi : Option Int} : slD (.lst xs) lo hi = some (.lst (cutD xs lo hi)) := rfl
@[simp] theorem slD_tup {lo hi : Option Int} : slD (.tup xs) lo hi = some (.tup (cutD xs lo hi)) := rfl
@[simp] theorem lenF_lst : lenF [.lst xs] = some (.int xs.length) := rfl
@[simp] theorem lenF_tup : lenF [.tup xs] = some (.int xs.length) := rfl
@[simp] theorem minF_2 : minF [.int i, .int j] = some (.int (if j < i then j else i)) := rfl
@[simp] theorem maxF_2 : maxF [.int i, .int j] = some (.int (if j > i then j else i)) := rfl
@[simp] theorem minF_l : minF [.lst xs] = (intsOf xs).bind fun ns => ns.min?.map D.int := rfl
@[simp] theorem maxF_l : maxF [.lst xs] = (intsOf xs).bind fun ns => ns.max?.map D.int := rfl
@[simp] theorem intsOf_nil : intsOf [] = some [] := rfl
@[simp] theorem intsOf_cons : intsOf (.int i :: xs) = (intsOf xs).map (i :: ·) := rfl
@[simp] theorem intsOf_ints (ns : List Int) : intsOf (ns.map D.int) = some ns := intsOf_map ns
/-- items by place -/
theorem atI_at {α : Type} {l : List α} {k : Int} (h0 : 0 ≤ k) (h1 : k < l.length) : atI l k = l[k.toNat]? := by
  obtain ⟨n, rfl⟩ := Int.eq_ofNat_of_zero_le h0
  have hn : n < l.length := by omega
  rw [Int.toNat_natCast, List.getElem?_eq_getElem hn]
  exact atI_nat (List.getElem?_eq_getElem hn)
@[simp] theorem atI_0 {α : Type} {u : α} {l : List α} : atI (u :: l) 0 = some u := atI_nat (j := 0) rfl
@[simp] theorem atI_1 {α : Type} {u v : α} {l : List α} : atI (u :: v :: l) 1 = some v := atI_nat (j := 1) rfl
@[simp] theorem atI_2 {α : Type} {u v w : α} {l : List α} : atI (u :: v :: w :: l) 2 = some w := atI_nat (j := 2) rfl
@[simp] theorem atI_3 {α : Type} {u v w z : α} {l : List α} : atI (u :: v :: w :: z :: l) 3 = some z := atI_nat (j := 3) rfl
@[simp] theorem atI_4 {α : Type} {u v w z y : α} {l : List α} : atI (u :: v :: w :: z :: y :: l) 4 = some y := atI_nat (j := 4) rfl
/-! equal data -/
theorem eqP_self {p : PyData} (h : toPy d = some p) (hs : SeqAt.shaped p = true) : eqP d d = some true := by
  unfold eqP
  rw [h]
  simp only [hs, Bool.and_self, if_true]
  rw [SeqAt.eqv_refl_plain p (PyData.plain_of_canLay0 p (SeqAt.canLay_of_shaped hs))]
@[simp] theorem eqD_tup : eqD (.tup xs) (.tup ys) = (eqP (.tup xs) (.tup ys)).map D.bl := rfl
@[simp] theorem neD_tup : neD (.tup xs) (.tup ys) = (eqP (.tup xs) (.tup ys)).map fun b => D.bl !b := rfl
@[simp] theorem eqD_lst : eqD (.lst xs) (.lst ys) = (eqP (.lst xs) (.lst ys)).map D.bl := rfl
@[simp] theorem neD_lst : neD (.lst xs) (.lst ys) = (eqP (.lst xs) (.lst ys)).map fun b => D.bl !b := rfl
@[simp] theorem eqD_int : eqD (.int i) (.int j) = some (.bl (i == j)) := rfl
@[simp] theorem neD_int : neD (.int i) (.int j) = some (.bl (!(i == j))) := rfl
@[simp] theorem eqD_str : eqD (.str x) (.str y) = some (.bl (x == y)) := rfl
@[simp] theorem neD_str : neD (.str x) (.str y) = some (.bl (!(x == y))) := rfl
@[simp] theorem eqD_bl {c : Bool} : eqD (.bl b) (.bl c) = some (.bl (b == c)) := rfl
@[simp] theorem neD_bl {c : Bool} : neD (.bl b) (.bl c) = some (.bl (!(b == c))) := rfl
end
end DL

set_option Elab.async false
set_option linter.all false
set_option maxRecDepth 100000
set_option maxHeartbeats 2000000
set_option autoImplicit false
namespace DL
open PySem L2

/-! ### fields -/
def setN (f : Str) : List Str → List Str
  | [] => [f]
  | g :: r => if g = f then g :: r else g :: setN f r
def setV {α : Type} (f : Str) (d : α) : List Str → List α → List α
  | g :: r, e :: es => if g = f then d :: es else e :: setV f d r es
  | _, _ => [d]
def lookN {α : Type} (f : Str) : List Str → List α → Option α
  | g :: r, e :: es => if g = f then some e else lookN f r es
  | _, _ => none
theorem putF_zip (f : Str) (y : V) : ∀ (ns : List Str) (vs : List V), ns.length = vs.length → putF f y (ns.zip vs) = (setN f ns).zip (setV f y ns vs) ∧ (setN f ns).length = (setV f y ns vs).length
  | [], [], _ => ⟨rfl, rfl⟩
  | n :: ns, v :: vs, h => by
    obtain ⟨h1, h2⟩ := putF_zip f y ns vs (by simpa using h)
    show (if n = f then (n, y) :: ns.zip vs else (n, v) :: putF f y (ns.zip vs)) = (if n = f then n :: ns else n :: setN f ns).zip (if n = f then y :: vs else v :: setV f y ns vs) ∧ (if n = f then n :: ns else n :: setN f ns).length = (if n = f then y :: vs else v :: setV f y ns vs).length
    by_cases e : n = f
    · simp only [if_pos e]
      exact ⟨rfl, by simpa using h⟩
    · simp only [if_neg e]
      exact ⟨by rw [h1]; rfl, by simp [h2]⟩
theorem lookN_zip {α : Type} (f : Str) : ∀ (ns : List Str) (vs : List α), (ns.zip vs).lookup f = lookN f ns vs
  | [], _ => by simp [lookN]
  | _ :: _, [] => by simp [lookN]
  | n :: ns, v :: vs => by
    show (match f == n with | true => some v | false => (ns.zip vs).lookup f) = if n = f then some v else lookN f ns vs
    rw [lookN_zip f ns vs]
    by_cases e : n = f
    · subst e; simp
    · rw [if_neg e, beq_eq_false_iff_ne.mpr (Ne.symm e)]
theorem lookN_none {α : Type} (f : Str) : ∀ (ns : List Str) (vs : List α), f ∉ ns → lookN f ns vs = none
  | [], _, _ => by simp [lookN]
  | _ :: _, [], _ => by simp [lookN]
  | n :: ns, v :: vs, h => by
    show (if n = f then some v else lookN f ns vs) = none
    have ne : n ≠ f := fun e => h (by rw [e]; exact List.mem_cons_self)
    rw [if_neg ne]
    exact lookN_none f ns vs fun z => h (List.mem_cons_of_mem _ z)
section
variable {K : PySem.W.Frag} {cl : ClW} {F : Hp}
theorem reps_setV {f : Str} {y : V} {d : D} (r : Rep K cl F y d) : ∀ {ns : List Str} {vs : List V} {ds : List D}, Reps K cl F vs ds → Reps K cl F (setV f y ns vs) (setV f d ns ds)
  | [], [], [], _ => .one r
  | [], _, _, h => by
    cases h <;> exact .one r
  | n :: ns, _, _, .nil => .one r
  | n :: ns, _, _, .cons h t => by
    show Reps K cl F (if n = f then y :: _ else _ :: setV f y ns _) (if n = f then d :: _ else _ :: setV f d ns _)
    by_cases e : n = f
    · simp only [if_pos e]; exact .cons r t
    · simp only [if_neg e]; exact .cons h (reps_setV r t)
theorem reps_lookN {f : Str} : ∀ {ns : List Str} {vs : List V} {ds : List D} {d : D}, Reps K cl F vs ds → lookN f ns ds = some d → ∃ v, lookN f ns vs = some v ∧ Rep K cl F v d
  | [], vs, ds, d, r, h => by cases ds <;> simp [lookN] at h
  | n :: ns, _, _, d, .nil, h => by simp [lookN] at h
  | n :: ns, _, _, d, .cons (v := v) (d := e) r t, h => by
    have h : (if n = f then some e else lookN f ns _) = some d := h
    show ∃ w, (if n = f then some v else lookN f ns _) = some w ∧ Rep K cl F w d
    by_cases q : n = f
    · simp only [if_pos q] at h ⊢
      cases h
      exact ⟨v, rfl, r⟩
    · simp only [if_neg q] at h ⊢
      exact reps_lookN t h
end
/-- what a class must have so that a field f of its instances may be read and stored -/
def FldOk (K : PySem.W.Frag) (cl : Nat → Addr) (cs : List Nat) (f : Str) : Prop := ∀ c ∈ cs, Cls K (cl c) ∧ NoAttr K (cl c) f
def fldD (cs : List Nat) (f : Str) : D → Option D
  | .obj c ns ds => if c ∈ cs then lookN f ns ds else none
  | _ => none
def dFldSet (cs : List Nat) (f : Str) (τo τv : DTE) : DTS := fun E ρ M => τv ρ M (fun d M1 => τo ρ M1 (fun o M2 => ∃ a c ns ds, o = .ref a ∧ M2 a = some (.obj c ns ds) ∧ c ∈ cs ∧ ns.length < 1000 ∧ E.nx ρ (updM M2 a (.obj c (setN f ns) (setV f d ns ds)))) E.ex) E.ex
section
variable {cl : ClW} {X : Cx} {W : WX} {o e : Expr} {es : List Expr} {pos : Pos} {τ τo τv : DTE} {α : DTA} {f : Str} {cs : List Nat}
theorem d_fld (hf : FldOk X.K cl cs f) (ho : DE cl X W o τ) (hb : attributeBase o f X.env (eval o X.env) = eval o X.env := by rfl) : DE cl X W (.Attribute o f pos) (dUn (fldD cs f) τ) :=
  ⟨pe_imp (pe_fld ho.pe hb) fun σ H Q ⟨F, ρ, M, Qd, Xd, g, s, t, p, w⟩ => ⟨F, ρ, M, _, Xd, g, s, t, fun v H' F' d M' sm g' r ⟨z, e1, q⟩ => (by
    have hv := vw_ok g' r
    cases e2 : vw M' d with
    | obj c ns ds =>
      rw [e2] at hv e1
      simp only [fldD] at e1
      split at e1
      · rename_i hc
        obtain ⟨a, dx, vs, rfl, h1, h2, h3⟩ := hv.obj g'.sub
        obtain ⟨u, h4, h5⟩ := reps_lookN h3 e1
        obtain ⟨k1, k2⟩ := hf c hc
        exact ⟨a, cl c, dx, ns.zip vs, u, rfl, h1, k1, k2, by rw [lookN_zip]; exact h4, (p.mono sm).val g' h5 q⟩
      · cases e1
    | _ =>
      rw [e2] at e1
      cases e1), w⟩⟩
theorem ds_fld {pos' : Pos} (hf : FldOk X.K cl cs f) (ho : DE cl X W o τo) (hv : DE cl X W e τv) (hs : swapsWith e (some (.Attribute o f pos')) pos.line X.env = pure false := by rfl) : DS cl X W (.Assign [.Attribute o f pos'] e pos) (dFldSet cs f τo τv) :=
  ⟨ps_imp (ps_fld ho.pe hv.pe hs) fun D σ H ⟨F, ρ, M, E, g, s, q, ok⟩ => ⟨F, ρ, M, _, E.ex, g, s, q, fun y H1 F1 d M1 sm1 g1 r1 q1 => ⟨F1, ρ, M1, _, E.ex, g1, s.mono sm1, q1, fun x H2 F2 od M2 sm2 g2 r2 q2 => (by
    obtain ⟨a, c, ns, ds, e1, e2, e3, e4, q2⟩ := q2
    subst e1
    obtain rfl := r2.toRef
    obtain ⟨hF, dx, vs, h1, h2, h3⟩ := g2.cell a _ e2
    obtain ⟨k1, k2⟩ := hf c e3
    obtain ⟨z1, z2⟩ := putF_zip f y ns vs h2
    refine ⟨a, cl c, dx, ns.zip vs, rfl, h1, k1, k2, by rw [List.length_zip, ← h2, Nat.min_self]; exact e4, ?_⟩
    rw [z1]
    exact ok.nx _ _ F2 ρ _ (sm1.trans sm2) (g2.put (d := .obj c (setN f ns) (setV f d ns ds)) e2 ⟨dx, setV f y ns vs, upd_same, z2, reps_setV (r1.mono sm2) h3⟩) (s.mono (sm1.trans sm2)) q2), ok.ex.mono sm1⟩, ok.ex⟩⟩
end

/-! ### a new instance -/
/-- the module's name x is the class with the tag c, its __init__ keeps the promise spd -/
def MkB (cl : ClW) (P : Program) (w : World) (K : PySem.W.Frag) (mg : Str → Option Value) (base : Heap) (k : Nat) (x : Str) (c : Nat) (ps : List Str) (spd : SpD) : Prop :=
  mg x = some (.ref (cl c)) ∧ ∃ f fd, Mk K (cl c) f ∧ Binds K fd ps [] ∧ FnG cl P w K mg base k f fd ps spd
/-- a new one, for good behind its making; dMakeM: it may be changed -/
def dMake (c : Nat) (spd : SpD) (α : DTA) : DTE := fun ρ M Q X => α ρ M (fun ds M1 => ∀ x, M1 x = none → spd (.ref x :: ds) (updM M1 x (.obj c [] [])) (fun d M2 => d = .non ∧ frz (.ref x) M2 Q) (fun c' ns es M2 => X c' ns es ρ M2)) X
def dMakeM (c : Nat) (spd : SpD) (α : DTA) : DTE := fun ρ M Q X => α ρ M (fun ds M1 => ∀ x, M1 x = none → spd (.ref x :: ds) (updM M1 x (.obj c [] [])) (fun d M2 => d = .non ∧ Q (.ref x) M2) (fun c' ns es M2 => X c' ns es ρ M2)) X
section
variable {cl : ClW} {X : Cx} {W : WX} {j k c : Nat} {ps : List Str} {spd : SpD} {x : Str} {p pos : Pos} {e : Expr} {es : List Expr} {α : DTA}
theorem run_mk {pins : List (Addr × Obj)} {σ : St} {H : Hp} {s : Shared} {Q : VK} {us : List Value} {kw : List (Str × Value)} {ws : List Value} {zs : List V} {f : Addr} {fd : FuncData} (cp : Cap X W (k + 1)) (M : Mk X.K (cl c) f) (F : FnG cl X.prog X.w X.K X.mg X.base k f fd ps spd)
    (I : Inv X pins σ H s) (r : Vals zs ws) (hb : ∀ (s : Shared) (x : Value), X.K.In s.heap → ws.length + 1 = ps.length → BindsTo s fd ⟨x :: us, kw⟩ (ps.zip (x :: ws)))
    (h : ∀ x dx, H x = none → H dx = none → dx ≠ x → lower X.K cl spd (.ref x :: zs) (upd (upd H dx (.own x)) x (.ins (cl c) dx [])) (fun v H2 => v = .non ∧ Q (.ref x) H2) (WE W σ)) :
    wpAny (model X.prog X.w) X.A (call (.ref (cl c)) us kw) (EP X pins σ Q) X.xe s := by
  have hq := h (s.heap.objs.size + 1) s.heap.objs.size (I.hok.fresh (Nat.le_succ _)) (I.hok.fresh (Nat.le_refl _)) (Nat.ne_of_lt (Nat.lt_succ_self _))
  have I2 := Inv.made (C := cl c) I
  have r2 : Vals (V.ref (s.heap.objs.size + 1) :: zs) (Value.ref (s.heap.objs.size + 1) :: ws) := .cons rfl r
  have hl : ws.length + 1 = ps.length := by
    have e1 := F.lenV hq
    have e2 := r.length
    simp only [List.length_cons] at e1
    omega
  refine wpAny_call (make_map (f := f) I.kIn M.makes M.init (beq_iff_eq.mp M.fn) (codeAny_mono (F.run _ X.stack _ _ _ (Value.ref (s.heap.objs.size + 1) :: ws) _ _ _ (cp.hr.make (cl c) us kw) (I2.env0.make (cl c) us kw) (hb _ _ I2.kIn hl) r2 hq) fun r s' hq' => ?_))
  cases r with
  | error e => exact passAt cp.tk σ pins _ _ e s' I2 hq'
  | ok fl =>
    cases fl with
    | ret u =>
      obtain ⟨v, H', I3, rv, ev, q3⟩ := I2.after hq'
      subst ev
      exact ⟨rv, V.ref (s.heap.objs.size + 1), H', I3, rfl, q3⟩
    | next => exact False.elim hq'
    | brk => exact False.elim hq'
    | cont => exact False.elim hq'
theorem low_mk {K : PySem.W.Frag} {σ : St} {F : Hp} {ρ : Env} {M : Mem} {Qd : DV} {Xd : DX} {vs : List V} {ds : List D} {H : Hp} {Q : VK} {x dx : Addr} (g : Good K cl F H M) (s : Slots K cl F σ ρ) (r : Reps K cl F vs ds) (hx : H x = none) (hdx : H dx = none) (ne : dx ≠ x)
    (q : spd (.ref x :: ds) (updM M x (.obj c [] [])) (fun d M2 => d = .non ∧ Qd (.ref x) M2) (fun c' ns es M2 => Xd c' ns es ρ M2)) (p : Post K cl F Q Qd) (w : WOk K cl W F Xd) :
    lower K cl spd (.ref x :: vs) (upd (upd H dx (.own x)) x (.ins (cl c) dx [])) (fun v H2 => v = .non ∧ Q (.ref x) H2) (WE W σ) := by
  have g1 : Good K cl F (upd H dx (.own x)) M := g.junk hdx
  have hx1 : upd H dx (.own x) x = none := by rw [upd_ne (Ne.symm ne)]; exact hx
  have g2 : Good K cl F (upd (upd H dx (.own x)) x (.ins (cl c) dx [])) (updM M x (.obj c [] [])) := g1.newM (d := .obj c [] []) hx1 ⟨dx, [], upd_same, rfl, .nil⟩
  exact ⟨F, _, .ref x :: ds, _, _, g2, .cons (.ref x) r, q, fun v H' F' d M' sm g' rv ⟨e1, q'⟩ => by subst e1; exact ⟨rv.toNon, p _ _ _ _ _ sm g' (.ref x) q'⟩,
    fun c' ns es H' F' M' dd sm g' ea q' => w c' ns es σ H' F' ρ M' dd sm g' (s.mono sm) ea q'⟩
theorem post_frz {K : PySem.W.Frag} {F : Hp} {Q : VK} {Qd : DV} (p : Post K cl F Q Qd) : Post K cl F Q (fun d M => frz d M Qd) := fun v H' F' d M' sm g' r q => by
  cases d with
  | ref a =>
    obtain rfl := r.toRef
    cases e : M' a with
    | none =>
      simp only [frz, e] at q
      exact p _ _ _ _ _ sm g' r q
    | some c =>
      simp only [frz, e] at q
      obtain ⟨F2, s2, g2, r2⟩ := g'.freeze e
      exact p _ _ _ _ _ (sm.trans s2) g2 r2 q
  | _ => exact p _ _ _ _ _ sm g' r q
theorem d_makeM (cp : Cap X W k) (G : MkB cl X.prog X.w X.K X.mg X.base j x c ps spd) (hj : j + 1 ≤ k) (hg : Gl X x) (ha : DA cl X W (e :: es) α)
    (hdb : (x == ("__debug__" : Str)) = false := by decide) (he : starEach (e :: es) X.env = (false, eval e X.env) :: starEach es X.env := by rfl) (hpl : (backTo pos (starEach es X.env)).any (·.1) = false := by rfl) :
    DE cl X W (.Call (.Name x p) (e :: es) [] pos) (dMakeM c spd α) := ⟨⟨fun pins s σ H Q I h => by
  obtain ⟨hm, f, fd, M, hb, G⟩ := G
  obtain ⟨k', rfl⟩ : ∃ k', k = k' + 1 := ⟨k - 1, by omega⟩
  obtain ⟨F, ρ, M0, Qd, Xd, g, sl, q, pp, w⟩ := h
  refine wpAny_Call_Name_kw (ld_glob I hg hm ?_ hdb)
  refine PySem.W.callWith_K (h₀ := X.base) I.ok.mod.kin M.kp (thn (ha.pa.run pos pins s σ H (fun vs H1 => ∀ x dx, H1 x = none → H1 dx = none → dx ≠ x → lower X.K cl spd (.ref x :: vs) (upd (upd H1 dx (.own x)) x (.ins (cl c) dx [])) (fun v H2 => v = .non ∧ Q (.ref x) H2) (WE W σ)) I
    ⟨F, ρ, M0, _, Xd, g, sl, q, fun vs H' F' ds M' sm g' r q' x dx hx hdx ne => ?_, w⟩) fun us s1 ⟨vs, H1, I1, r, q⟩ => ⟨I1.kIn, ?_⟩) he hpl
  · exact low_mk g' (sl.mono sm) r hx hdx ne (q' x (g'.freshM hx)) (pp.mono sm) (w.mono sm)
  · refine run_mk (kw := []) cp M (G.mono (by omega)) I1 r (fun s u hk hl => ?_) q
    have := hb s (u :: us) hk (by have := r.length; simp; omega)
    simpa using this⟩⟩
theorem d_make (cp : Cap X W k) (G : MkB cl X.prog X.w X.K X.mg X.base j x c ps spd) (hj : j + 1 ≤ k) (hg : Gl X x) (ha : DA cl X W (e :: es) α)
    (hdb : (x == ("__debug__" : Str)) = false := by decide) (he : starEach (e :: es) X.env = (false, eval e X.env) :: starEach es X.env := by rfl) (hpl : (backTo pos (starEach es X.env)).any (·.1) = false := by rfl) :
    DE cl X W (.Call (.Name x p) (e :: es) [] pos) (dMake c spd α) :=
  ⟨pe_imp (d_makeM cp G hj hg ha hdb he hpl).pe fun σ H Q ⟨F, ρ, M, Qd, Xd, g, s, q, p, w⟩ => ⟨F, ρ, M, fun d M => frz d M Qd, Xd, g, s, q, post_frz p, w⟩⟩
end

/-! ### methods -/
/-- the method m of the class with the tag c keeps the promise spd -/
def MethB (cl : ClW) (P : Program) (w : World) (K : PySem.W.Frag) (mg : Str → Option Value) (base : Heap) (k : Nat) (c : Nat) (m : Str) (spd : SpD) : Prop :=
  Cls K (cl c) ∧ ∃ f fd ps, Meth K (cl c) m f ∧ Binds K fd ps [] ∧ FnG cl P w K mg base k f fd ps spd
/-- o.m(..): which promise, by the class of o -/
def dMeth (tb : List (Nat × SpD)) (m : Str) (τ : DTE) (α : DTA) : DTE := fun ρ M Q X => τ ρ M (fun o M1 => ∃ c ns ds spd, vw M1 o = .obj c ns ds ∧ tb.lookup c = some spd ∧ m ∉ ns ∧ α ρ M1 (fun as M2 => spd (o :: as) M2 Q (fun c' ns es M3 => X c' ns es ρ M3)) X) X
section
variable {cl : ClW} {X : Cx} {W : WX} {k : Nat} {m : Str} {p pos apos : Pos} {o e : Expr} {es : List Expr} {τ : DTE} {α : DTA} {tb : List (Nat × SpD)} {pl : Sem Bool}
theorem meth_at {K : PySem.W.Frag} {F H : Hp} {M : Mem} {v : V} {d : D} {c : Nat} {ns : List Str} {ds : List D} (g : Good K cl F H M) (r : Rep K cl F v d) (e : vw M d = .obj c ns ds) (hm : m ∉ ns) : ∃ a dx fs, v = .ref a ∧ H a = some (.ins (cl c) dx fs) ∧ fs.lookup m = none := by
  have hv := vw_ok g r
  rw [e] at hv
  obtain ⟨a, dx, vs, rfl, h1, h2, h3⟩ := hv.obj g.sub
  exact ⟨a, dx, _, rfl, h1, by rw [lookN_zip]; exact lookN_none m ns vs hm⟩
theorem d_meth (cp : Cap X W k) (hm : ∀ c spd, tb.lookup c = some spd → MethB cl X.prog X.w X.K X.mg X.base k c m spd) (ho : DE cl X W o τ) (ha : DA cl X W (e :: es) α)
    (hst : starEach (e :: es) X.env = (false, eval e X.env) :: starEach es X.env := by rfl) (hpl : (backTo pos (starEach es X.env)).any (·.1) = false := by rfl)
    (ht : eval (.Call (.Attribute o m apos) (e :: es) [] pos) X.env = (do
      let ov ← eval o X.env
      standAt apos.atName
      let (f, first) ← holding [ov] (getMethod ov m pl)
      callWith pos f first (backTo pos (starEach (e :: es) X.env)) (backToKw pos (keywordEach [] X.env))) := by rfl) :
    DE cl X W (.Call (.Attribute o m apos) (e :: es) [] pos) (dMeth tb m τ α) := ⟨⟨fun pins s σ H Q I h => by
  obtain ⟨F, ρ, M, Qd, Xd, g, sl, q, p, w⟩ := h
  refine PySem.W.methodCall_KW (pl := pl) (thn (ho.pe.run pins s σ H (fun v H1 => ∃ F' ρ' M' o, Same F F' ∧ Good X.K cl F' H1 M' ∧ Rep X.K cl F' v o ∧ ρ' = ρ ∧ ∃ c ns ds spd, vw M' o = .obj c ns ds ∧ tb.lookup c = some spd ∧ m ∉ ns ∧ α ρ M' (fun as M2 => spd (o :: as) M2 Qd (fun c' ns es M3 => Xd c' ns es ρ M3)) Xd) I
    ⟨F, ρ, M, _, Xd, g, sl, q, fun v H' F' d M' sm g' r q' => ⟨F', ρ, M', d, sm, g', r, rfl, q'⟩, w⟩) fun u s1 ⟨v, H1, I1, rv, F1, ρ1, M1, od, sm1, g1, r1, _, c, ns, ds, spd, e1, e2, e3, q1⟩ => ?_) ht
  obtain ⟨hc, f, fd, ps, mt, hb, G⟩ := hm c spd e2
  obtain ⟨a, dx, fs, rfl, ha1, ha2⟩ := meth_at g1 r1 e1 e3
  obtain rfl : u = Value.ref a := rv
  refine getmeth_ok I1 ha1 hc mt ha2 ?_
  refine PySem.W.callWith_K (first := [.ref a]) (h₀ := X.base) I.ok.mod.kin mt.kp (thn (ha.pa.run pos pins s1 σ H1 (fun vs H2 => lower X.K cl spd ((.ref a :: vs) ++ []) H2 Q (WE W σ)) I1 ⟨F1, ρ, M1, _, Xd, g1, sl.mono sm1, q1, fun vs H' F' as M' sm g' r q' => ?_, w.mono sm1⟩) fun us s2 ⟨vs, H2, I2, r, q2⟩ => ⟨I2.kIn, ?_⟩) hst hpl
  · show lower X.K cl spd ((.ref a :: vs) ++ []) H' Q (WE W σ)
    rw [List.append_nil]
    exact low_call g' (sl.mono (sm1.trans sm)) (.cons (r1.mono sm) r) q' (p.mono (sm1.trans sm)) (w.mono (sm1.trans sm))
  · exact run_g (us := .ref a :: us) (vs := .ref a :: vs) cp G hb .nil I2 (.cons rfl r) q2⟩⟩
theorem d_meth0 (cp : Cap X W k) (hm : ∀ c spd, tb.lookup c = some spd → MethB cl X.prog X.w X.K X.mg X.base k c m spd) (ho : DE cl X W o τ)
    (ht : eval (.Call (.Attribute o m apos) [] [] pos) X.env = (do
      let ov ← eval o X.env
      standAt apos.atName
      let (f, first) ← holding [ov] (getMethod ov m pl)
      callWith pos f first (backTo pos (starEach [] X.env)) (backToKw pos (keywordEach [] X.env))) := by rfl) :
    DE cl X W (.Call (.Attribute o m apos) [] [] pos) (dMeth tb m τ dNil) := ⟨⟨fun pins s σ H Q I h => by
  obtain ⟨F, ρ, M, Qd, Xd, g, sl, q, p, w⟩ := h
  refine PySem.W.methodCall_KW (pl := pl) (thn (ho.pe.run pins s σ H (fun v H1 => ∃ F' M' o, Same F F' ∧ Good X.K cl F' H1 M' ∧ Rep X.K cl F' v o ∧ ∃ c ns ds spd, vw M' o = .obj c ns ds ∧ tb.lookup c = some spd ∧ m ∉ ns ∧ spd [o] M' Qd (fun c' ns es M3 => Xd c' ns es ρ M3)) I
    ⟨F, ρ, M, _, Xd, g, sl, q, fun v H' F' d M' sm g' r q' => ⟨F', M', d, sm, g', r, q'⟩, w⟩) fun u s1 ⟨v, H1, I1, rv, F1, M1, od, sm1, g1, r1, c, ns, ds, spd, e1, e2, e3, q1⟩ => ?_) ht
  obtain ⟨hc, f, fd, ps, mt, hb, G⟩ := hm c spd e2
  obtain ⟨a, dx, fs, rfl, ha1, ha2⟩ := meth_at g1 r1 e1 e3
  obtain rfl : u = Value.ref a := rv
  refine getmeth_ok I1 ha1 hc mt ha2 ?_
  exact PySem.W.callWith_K0 (first := [.ref a]) I1.kIn mt.kp (run_g (us := [.ref a]) (vs := [.ref a]) cp G hb .nil I1 (.cons rfl .nil) (low_call g1 (sl.mono sm1) (.one r1) q1 (p.mono sm1) (w.mono sm1)))⟩⟩
end
end DL

set_option Elab.async false
set_option linter.all false
set_option maxRecDepth 100000
set_option maxHeartbeats 2000000
set_option autoImplicit false
namespace DL
open PySem L2

/-! ### all, any, str, tuple, list -/
def blsOf : List D → Option (List Bool)
  | [] => some []
  | .bl i :: r => (blsOf r).map (i :: ·)
  | _ :: _ => none
theorem blsOf_eq : ∀ {ds : List D} {ns : List Bool}, blsOf ds = some ns → ds = ns.map D.bl
  | [], ns, h => by simp only [blsOf] at h; cases h; rfl
  | d :: ds, ns, h => by
    cases d with
    | bl i =>
      simp only [blsOf] at h
      cases e : blsOf ds with
      | none => rw [e] at h; cases h
      | some ms => rw [e] at h; cases h; rw [blsOf_eq e]; rfl
    | _ => simp only [blsOf] at h; cases h
@[simp] theorem blsOf_map (ns : List Bool) : blsOf (ns.map D.bl) = some ns := by
  induction ns with
  | nil => rfl
  | cons n ns ih => simp only [List.map_cons, blsOf, ih]; rfl
def allF : List D → Option D
  | [.lst xs] => (blsOf xs).map fun bs => .bl (bs.all id)
  | _ => none
def anyF : List D → Option D
  | [.lst xs] => (blsOf xs).map fun bs => .bl (bs.any id)
  | _ => none
def strF : List D → Option D
  | [.int i] => if i.natAbs.log2 < 1920 then some (.str (toString i)) else none
  | _ => none
def tupF : List D → Option D
  | [.lst xs] => some (.tup xs)
  | [.tup xs] => some (.tup xs)
  | _ => none
def lstF : List D → Option D
  | [.lst xs] => some (.lst xs)
  | [.tup xs] => some (.lst xs)
  | _ => none
section
variable {K : PySem.W.Frag} {cl : ClW} {F : Hp}
theorem Reps.bls : ∀ {vs : List V} {ns : List Bool}, Reps K cl F vs (ns.map D.bl) → vs = ns.map V.bl
  | _, [], h => h.inv0
  | _, n :: ns, h => by
    obtain ⟨v, ws, rfl, a, b⟩ := h.inv
    rw [a.toBl, Reps.bls b]; rfl
theorem lc_all : LCall K cl (rAll K) allF := by
  intro F H M xs ds z Q Qd g r h p q
  generalize e : ds.map (vw M) = es at h
  unfold allF at h
  split at h
  · obtain ⟨x, rfl, hv⟩ := reps1 g r e
    obtain ⟨a, vs, rfl, h1, h2⟩ := hv.lst g.sub
    rename_i ys
    cases e2 : blsOf ys with
    | none => rw [e2] at h; cases h
    | some ns =>
      rw [e2] at h
      cases h
      rw [blsOf_eq e2] at h2
      exact ⟨a, ns, rfl, by rw [← h2.bls]; exact h1, p.val g (.bl _) q⟩
  · cases h
theorem lc_any : LCall K cl (rAny K) anyF := by
  intro F H M xs ds z Q Qd g r h p q
  generalize e : ds.map (vw M) = es at h
  unfold anyF at h
  split at h
  · obtain ⟨x, rfl, hv⟩ := reps1 g r e
    obtain ⟨a, vs, rfl, h1, h2⟩ := hv.lst g.sub
    rename_i ys
    cases e2 : blsOf ys with
    | none => rw [e2] at h; cases h
    | some ns =>
      rw [e2] at h
      cases h
      rw [blsOf_eq e2] at h2
      exact ⟨a, ns, rfl, by rw [← h2.bls]; exact h1, p.val g (.bl _) q⟩
  · cases h
theorem lc_str : LCall K cl (fun xs H Q => ∃ i, xs = [.int i] ∧ i.natAbs.log2 < 1920 ∧ Q (.str (toString i)) H) strF := by
  intro F H M xs ds z Q Qd g r h p q
  generalize e : ds.map (vw M) = es at h
  unfold strF at h
  split at h
  · obtain ⟨x, rfl, hv⟩ := reps1 g r e
    obtain rfl := hv.int
    split at h
    · cases h
      exact ⟨_, rfl, by assumption, p.val g (.str _) q⟩
    · cases h
  · cases h
theorem lc_tup : LCall K cl (fun xs H Q => ∃ p ys, xs = [.ref p] ∧ ((SqL K H p ys ∧ ∀ l, H l = none → Q (.ref l) (upd H l (.tup ys))) ∨ (SqT K H p ys ∧ Q (.ref p) H))) tupF := by
  intro F H M xs ds z Q Qd g r h p q
  generalize e : ds.map (vw M) = es at h
  unfold tupF at h
  split at h
  · obtain ⟨x, rfl, hv⟩ := reps1 g r e
    obtain ⟨a, vs, rfl, h1, h2⟩ := hv.lst g.sub
    cases h
    exact ⟨a, vs, rfl, .inl ⟨h1, fun l hl => p.newT g h2 q hl⟩⟩
  · obtain ⟨x, rfl, hv⟩ := reps1 g r e
    rcases hv with hv | ⟨_, _, hv⟩
    · obtain ⟨a, vs, rfl, h1, h2⟩ := hv.toTup
      cases h
      exact ⟨a, vs, rfl, .inr ⟨same_t g.sub h1, p.val g hv q⟩⟩
    · exact hv.elim
  · cases h
theorem lc_lst : LCall K cl (fun xs H Q => ∃ p ys, xs = [.ref p] ∧ (SqL K H p ys ∨ SqT K H p ys) ∧ ∀ l, H l = none → Q (.ref l) (upd H l (.lst ys))) lstF := by
  intro F H M xs ds z Q Qd g r h p q
  generalize e : ds.map (vw M) = es at h
  unfold lstF at h
  split at h
  · obtain ⟨x, rfl, hv⟩ := reps1 g r e
    obtain ⟨a, vs, rfl, h1, h2⟩ := hv.lst g.sub
    cases h
    exact ⟨a, vs, rfl, .inl h1, fun l hl => p.newL g h2 q hl⟩
  · obtain ⟨x, rfl, hv⟩ := reps1 g r e
    obtain ⟨a, vs, rfl, h1, h2⟩ := hv.tup g.sub
    cases h
    exact ⟨a, vs, rfl, .inr h1, fun l hl => p.newL g h2 q hl⟩
  · cases h
end
/-- list(x), changed later -/
def dLstOfM (α : DTA) : DTE := fun ρ M Q X => α ρ M (fun ds M1 => ∃ xs, lstF (ds.map (vw M1)) = some (.lst xs) ∧ ∀ a, M1 a = none → Q (.ref a) (updM M1 a (.lst xs))) X
section
variable {cl : ClW} {X : Cx} {W : WX} {e : Expr} {es : List Expr} {pos p : Pos} {α : DTA}
theorem d_listM (hg : Gl X "list") (hm : X.mg "list" = none) (hv : bootBuiltins "list" = some (.type "list")) (ha : DA cl X W [e] α)
    (he : starEach [e] X.env = (false, eval e X.env) :: starEach [] X.env := by rfl) (hpl : (backTo pos (starEach [] X.env)).any (·.1) = false := by rfl) : DE cl X W (.Call (.Name "list" p) [e] [] pos) (dLstOfM α) :=
  ⟨pe_imp (pe_callTy call_list_of hg hm hv ha.pa (by decide) (by decide) he hpl) fun σ H Q ⟨F, ρ, M, Qd, Xd, g, s, t, p, w⟩ => ⟨F, ρ, M, _, Xd, g, s, t, fun vs H' F' ds M' sm g' r ⟨xs, e1, q⟩ => (by
    generalize e : ds.map (vw M') = es at e1
    unfold lstF at e1
    split at e1
    · obtain ⟨x, rfl, hv⟩ := reps1 g' r e
      obtain ⟨a, us, rfl, h1, h2⟩ := hv.lst g'.sub
      cases e1
      exact ⟨a, us, rfl, .inl h1, fun l hl => p _ _ F' _ _ sm (g'.newM (d := .lst xs) hl ⟨us, upd_same, h2⟩) (.ref l) (q l (g'.freshM hl))⟩
    · obtain ⟨x, rfl, hv⟩ := reps1 g' r e
      obtain ⟨a, us, rfl, h1, h2⟩ := hv.tup g'.sub
      cases e1
      exact ⟨a, us, rfl, .inr h1, fun l hl => p _ _ F' _ _ sm (g'.newM (d := .lst xs) hl ⟨us, upd_same, h2⟩) (.ref l) (q l (g'.freshM hl))⟩
    · cases e1), w⟩⟩
end

/-! ### in -/
@[simp] def flatD : D → Bool
  | .non => true
  | .bl _ => true
  | .int _ => true
  | .str _ => true
  | _ => false
@[simp] def eqFD : D → D → Bool
  | .non, .non => true
  | .bl a, .bl b => a == b
  | .bl a, .int b => (if a then 1 else 0) == b
  | .int a, .bl b => a == (if b then 1 else 0)
  | .int a, .int b => a == b
  | .str a, .str b => a == b
  | _, _ => false
def keyD : D → Option Key
  | .int i => some (.inl i)
  | .str x => some (.inr x)
  | _ => none
def inStr (x z : Str) : Bool := match x with
  | ⟨⟨[c]⟩⟩ => decide (c ∈ z.cps.toList)
  | x => !(Builtin.Str.occurrences z x 0 z.length 1).isEmpty
def inB (x : D) : D → Option Bool
  | .lst xs => if flatD x && xs.all flatD then some (xs.any fun y => eqFD y x) else none
  | .tup xs => if flatD x && xs.all flatD then some (xs.any fun y => eqFD y x) else none
  | .str z => match x with
    | .str i => some (inStr i z)
    | _ => none
  | .dK ks _ => (keyD x).map fun k => ks.any fun j => decide (j = k)
  | _ => none
def inD (x y : D) : Option D := (inB x y).map D.bl
def ninD (x y : D) : Option D := (inB x y).map fun b => D.bl !b
section
variable {K : PySem.W.Frag} {cl : ClW} {F H : Hp} {X : Cx}
theorem flat_of {v : V} {d : D} (h : Vw K cl F H v d) (f : flatD d = true) : flatV v = true ∧ Rep K cl F v d := by
  cases d with
  | non => obtain rfl := h.non; exact ⟨rfl, .non⟩
  | bl b => obtain rfl := h.bl; exact ⟨rfl, .bl b⟩
  | int b => obtain rfl := h.int; exact ⟨rfl, .int b⟩
  | str b => obtain rfl := h.str; exact ⟨rfl, .str b⟩
  | _ => cases f
theorem eq_of {v u : V} {d e : D} (h : Rep K cl F v d) (k : Rep K cl F u e) (f : flatD d = true) (f' : flatD e = true) : eqV v u = eqFD d e := by
  cases d with
  | non => obtain rfl := h.toNon; cases e with
    | non => obtain rfl := k.toNon; rfl
    | bl b => obtain rfl := k.toBl; rfl
    | int b => obtain rfl := k.toInt; rfl
    | str b => obtain rfl := k.toStr; rfl
    | _ => cases f'
  | bl b => obtain rfl := h.toBl; cases e with
    | non => obtain rfl := k.toNon; rfl
    | bl b => obtain rfl := k.toBl; rfl
    | int b => obtain rfl := k.toInt; rfl
    | str b => obtain rfl := k.toStr; rfl
    | _ => cases f'
  | int b => obtain rfl := h.toInt; cases e with
    | non => obtain rfl := k.toNon; rfl
    | bl b => obtain rfl := k.toBl; rfl
    | int b => obtain rfl := k.toInt; rfl
    | str b => obtain rfl := k.toStr; rfl
    | _ => cases f'
  | str b => obtain rfl := h.toStr; cases e with
    | non => obtain rfl := k.toNon; rfl
    | bl b => obtain rfl := k.toBl; rfl
    | int b => obtain rfl := k.toInt; rfl
    | str b => obtain rfl := k.toStr; rfl
    | _ => cases f'
  | _ => cases f
theorem flats_of {x : V} {d : D} (hx : Rep K cl F x d) (fd : flatD d = true) : ∀ {vs : List V} {ds : List D}, Reps K cl F vs ds → ds.all flatD = true → vs.all flatV = true ∧ inV x vs = ds.any fun y => eqFD y d
  | _, _, .nil, _ => ⟨rfl, rfl⟩
  | _, _, .cons (v := v) (d := e) r t, f => by
    rw [List.all_cons, Bool.and_eq_true] at f
    obtain ⟨h1, h2⟩ := flats_of hx fd t f.2
    refine ⟨by rw [List.all_cons, (flat_of (H := F) (.inl r) f.1).1, h1]; rfl, ?_⟩
    unfold inV at h2 ⊢
    rw [List.any_cons, List.any_cons, h2, eq_of r hx f.1 fd]
theorem key_rep {v : V} {d : D} {k : Key} (h : Vw K cl F H v d) (e : keyD d = some k) : v = kV k := by
  cases d with
  | int i => cases e; exact h.int
  | str i => cases e; exact h.str
  | _ => cases e
theorem Vw.dK {v : V} {ks : List Key} {ds : List D} (g : Same F H) (h : Vw K cl F H v (.dK ks ds)) : ∃ a vs, v = .ref a ∧ H a = some (.dK (ks.zip vs)) ∧ ks.length = vs.length ∧ Reps K cl F vs ds := by
  rcases h with h | ⟨a, rfl, vs, h1, h2, h3⟩
  · cases h with
    | dK h1 h2 h3 => exact ⟨_, _, rfl, g _ _ h1, h2, h3⟩
  · exact ⟨a, vs, rfl, h1, h2, h3⟩
/-- the value at a key -/
def atK {α β : Type} [DecidableEq β] (k : β) : List β → List α → Option α
  | j :: ks, d :: ds => if j = k then some d else atK k ks ds
  | _, _ => none
theorem valV_zip {β : Type} [DecidableEq β] (k : β) : ∀ (ks : List β) (vs : List V), valV (ks.zip vs) k = atK k ks vs
  | [], _ => by simp [atK, valV]
  | _ :: _, [] => by simp [atK, valV]
  | j :: ks, v :: vs => by
    rw [List.zip_cons_cons]
    unfold atK
    by_cases e : j = k
    · rw [valV_pos e, if_pos e]
    · rw [valV_neg e, if_neg e, valV_zip k ks vs]
theorem atK_some {α β : Type} [DecidableEq β] (k : β) : ∀ (ks : List β) (vs : List α), ks.length = vs.length → (atK k ks vs).isSome = ks.any fun j => decide (j = k)
  | [], _, _ => by simp [atK]
  | _ :: _, [], h => by simp at h
  | j :: ks, v :: vs, h => by
    unfold atK
    by_cases e : j = k
    · rw [if_pos e]; simp [e]
    · rw [if_neg e, atK_some k ks vs (by simpa using h)]
      simp [e]
theorem reps_atK {β : Type} [DecidableEq β] {k : β} : ∀ {ks : List β} {vs : List V} {ds : List D} {d : D}, Reps K cl F vs ds → atK k ks ds = some d → ∃ v, atK k ks vs = some v ∧ Rep K cl F v d
  | [], vs, ds, d, r, h => by cases ds <;> simp [atK] at h
  | _ :: _, _, _, d, .nil, h => by simp [atK] at h
  | j :: ks, _, _, d, .cons (v := v) (d := e) r t, h => by
    unfold atK at h ⊢
    by_cases q : j = k
    · simp only [if_pos q] at h ⊢
      cases h
      exact ⟨v, rfl, r⟩
    · simp only [if_neg q] at h ⊢
      exact reps_atK t h
def rDIn (b : Bool) : R2 := fun y x H Q => ∃ a o, x = .ref a ∧ DGet H a y o ∧ Q (.bl (if b then o.isSome else !o.isSome)) H
theorem op_dIn (hu : X.A.units + 1 < cLine) : OpR X (compareOp .In) (rDIn true) := by
  intro pins s σ H x y v u Q I rx ry h
  obtain ⟨a, o, rfl, g, q⟩ := h
  cases ry
  exact d_in hu I g rx fun s' I' => ⟨.bl _, H, I', rfl, q⟩
theorem op_dNotIn (hu : X.A.units + 1 < cLine) : OpR X (compareOp .NotIn) (rDIn false) := by
  intro pins s σ H x y v u Q I rx ry h
  obtain ⟨a, o, rfl, g, q⟩ := h
  cases ry
  exact d_notIn hu I g rx fun s' I' => ⟨.bl _, H, I', rfl, q⟩
def rSgn (n : Bool) : R2 := fun x y H Q => ∃ (c : Nat) (z : Str), x = .str ⟨#[c]⟩ ∧ y = .str z ∧ Q (.bl (if n then !decide (c ∈ z.cps.toList) else decide (c ∈ z.cps.toList))) H
def rStrIn (n : Bool) : R2 := fun x y H Q => ∃ i j, x = .str i ∧ y = .str j ∧ Q (.bl (if n then !(!(Builtin.Str.occurrences j i 0 j.length 1).isEmpty) else (!(Builtin.Str.occurrences j i 0 j.length 1).isEmpty))) H
def rInAll (K : PySem.W.Frag) (n : Bool) : R2 := fun x y H Q => rIn K n x y H Q ∨ rSgn n x y H Q ∨ rStrIn n x y H Q ∨ rDIn (!n) x y H Q
theorem op_inA (hu : X.A.units + 1 < cLine) : OpR X (compareOp .In) (rInAll X.K false) := op_in_seq.or (op_in_sign.or (op_in_str.or (op_dIn hu)))
theorem op_ninA (hu : X.A.units + 1 < cLine) : OpR X (compareOp .NotIn) (rInAll X.K true) := op_notIn_seq.or (op_notIn_sign.or (op_notIn_str.or (op_dNotIn hu)))
theorem in_at (s : Same F H) {n : Bool} {x y : V} {d e : D} {b : Bool} {Q : VK} (hx : Vw K cl F H x d) (hy : Vw K cl F H y e) (h : inB d e = some b) (q : Q (.bl (if n then !b else b)) H) : rInAll K n x y H Q := by
  cases e with
  | lst ds =>
    simp only [inB] at h
    split at h
    · rename_i hf
      cases h
      rw [Bool.and_eq_true] at hf
      obtain ⟨a, vs, rfl, h1, h2⟩ := hy.lst s
      obtain ⟨f1, r1⟩ := flat_of hx hf.1
      obtain ⟨f2, e2⟩ := flats_of r1 hf.1 h2 hf.2
      exact .inl ⟨a, vs, rfl, .inl h1, f1, f2, by rw [e2]; exact q⟩
    · cases h
  | tup ds =>
    simp only [inB] at h
    split at h
    · rename_i hf
      cases h
      rw [Bool.and_eq_true] at hf
      obtain ⟨a, vs, rfl, h1, h2⟩ := hy.tup s
      obtain ⟨f1, r1⟩ := flat_of hx hf.1
      obtain ⟨f2, e2⟩ := flats_of r1 hf.1 h2 hf.2
      exact .inl ⟨a, vs, rfl, .inr h1, f1, f2, by rw [e2]; exact q⟩
    · cases h
  | str z =>
    cases d with
    | str i =>
      simp only [inB] at h
      cases h
      obtain rfl := hx.str
      obtain rfl := hy.str
      by_cases hc : ∃ c, i = ⟨⟨[c]⟩⟩
      · obtain ⟨c, rfl⟩ := hc
        exact .inr (.inl ⟨c, z, rfl, rfl, q⟩)
      · have e1 : inStr i z = !(Builtin.Str.occurrences z i 0 z.length 1).isEmpty := by
          unfold inStr
          split
          · exact absurd ⟨_, rfl⟩ hc
          · rfl
        rw [e1] at q
        exact .inr (.inr (.inl ⟨_, z, rfl, rfl, q⟩))
    | _ => cases h
  | dK ks ds =>
    simp only [inB] at h
    cases e1 : keyD d with
    | none => rw [e1] at h; cases h
    | some k =>
      rw [e1] at h
      cases h
      obtain ⟨a, vs, rfl, h1, h2, h3⟩ := hy.dK s
      refine .inr (.inr (.inr ⟨a, _, rfl, by rw [key_rep hx e1]; exact DGet.k h1, ?_⟩))
      rw [valV_zip, atK_some k ks vs h2]
      cases n <;> exact q
  | _ => cases h
theorem lop_in : LOp K cl (rInAll K false) inD := by
  intro F H M x y d e z Q Qd g hx hy h p q
  unfold inD at h
  cases e1 : inB d e with
  | none => rw [e1] at h; cases h
  | some b => rw [e1] at h; cases h; exact in_at g.sub hx hy e1 (p.val g (.bl _) q)
theorem lop_nin : LOp K cl (rInAll K true) ninD := by
  intro F H M x y d e z Q Qd g hx hy h p q
  unfold ninD at h
  cases e1 : inB d e with
  | none => rw [e1] at h; cases h
  | some b => rw [e1] at h; cases h; exact in_at g.sub hx hy e1 (p.val g (.bl _) q)

/-! ### items of dicts too -/
def ixA : D → D → Option D
  | .dK ks ds, k => (keyD k).bind fun k => atK k ks ds
  | d, e => ixD d e
def rDIx : R2 := fun x y H Q => ∃ a v, x = .ref a ∧ DGet H a y (some v) ∧ Q v H
theorem ix_dict (hu : X.A.units + 1 < cLine) : IxR X rDIx := by
  intro value slice pins s σ H x y v u Q I rx ry h hs
  obtain ⟨a, z, rfl, g, q⟩ := h
  cases rx
  exact PyProof.Rows.tail_any (dict_typeIs I g) PySem.F.slot_dict_getitem.lookup (d_getItem hu I g ry fun w' s3 I3 rw' => ⟨z, H, I3, rw', q⟩) hs
theorem lixA : LOp K cl (fun x y H Q => rIx K x y H Q ∨ rDIx x y H Q) ixA := by
  intro F H M x y d e z Q Qd g hx hy h p q
  unfold ixA at h
  split at h
  · rename_i ks ds
    cases e1 : keyD e with
    | none => rw [e1] at h; cases h
    | some k =>
      rw [e1] at h
      obtain ⟨a, vs, rfl, h1, h2, h3⟩ := hx.dK g.sub
      obtain ⟨v, h4, h5⟩ := reps_atK h3 h
      exact .inr ⟨a, v, rfl, by rw [key_rep hy e1, ← h4, ← valV_zip]; exact DGet.k h1, p.val g h5 q⟩
  · exact .inl (lix F H M x y d e z Q Qd g hx hy h p q)
variable {W : WX} {a b : Expr} {pos : Pos} {τa τb : DTE}
theorem d_ixA (hu : X.A.units + 1 < cLine) (ha : DE cl X W a τa) (hb : DE cl X W b τb) (hs : PlainIx b := by exact fun _ _ => rfl) : DE cl X W (.Subscript a b pos) (dOp ixA τa τb) :=
  ⟨pe_imp (pe_ix (ix_seq.or (ix_dict hu)) ha.pe hb.pe hs) fun σ H Q ⟨F, ρ, M, Qd, Xd, g, s, t, p, w⟩ =>
    ⟨F, ρ, M, _, Xd, g, s, t, fun v H' F' d M' sm g' r' q => ⟨F', ρ, M', _, Xd, g', s.mono sm, q, fun u H2 F2 e M2 sm2 g2 r2 q2 => by
      obtain ⟨z, e1, e2⟩ := q2
      exact lixA F2 H2 M2 v u _ _ z Q Qd g2 (vw_ok g2 (r'.mono sm2)) (vw_ok g2 r2) e1 (p.mono (sm.trans sm2)) e2, w.mono sm⟩, w⟩⟩
end
end DL

set_option Elab.async false
set_option linter.all false
set_option maxRecDepth 100000
set_option maxHeartbeats 4000000
set_option autoImplicit false
namespace DL
open PySem L2

/-! ### t[::-1] of a tuple -/
section
open PySem.Spec PyProof.Rows HT
variable {prog : Program} {w : World} {A : Around} {E : Value → Shared → Prop} {s : Shared}
theorem rev_places (n : Nat) : Builtin.Slice.slicePlaces ((n : Int) - 1) (-1) (-1) = n := by
  unfold Builtin.Slice.slicePlaces
  have h1 : ¬ ((-1 : Int) > 0) := by omega
  simp only [h1, if_false]
  by_cases h : (n : Int) - 1 > -1
  · simp only [h, if_true]
    rw [show (- -1 : Int) = 1 by decide, Int.ediv_one]
    omega
  · simp only [h, if_false]
    omega
theorem rev_applied {sl : Addr} {vk : Value} {n : Nat} {Q : Int × Int × Nat → Shared → Prop} (hs : s.heap.IsSliceOf sl .none .none vk) (pk : IsPart vk (some (-1)))
    (h : Q ((n : Int) - 1, -1, n) s) : wpAny (model prog w) A (Builtin.Slice.sliceApplied (.ref sl) (pure (n : Int))) Q E s := by
  obtain ⟨os, hos, hcs, hds⟩ := id hs
  unfold Builtin.Slice.sliceApplied Builtin.Slice.sliceFields
  refine wpAny_bind (wpAny_bind (wpAny_field hos hds (x := .none) rfl (wpAny_bind (wpAny_field hos hds (x := .none) rfl (wpAny_bind (wpAny_field hos hds (x := vk) rfl (wpAny_pure ?_)))))))
  refine wpAny_bind (HT.slicePart_ pk ?_)
  show wpAny _ _ (if ((-1 : Int) == 0) = true then _ else _) _ _ s
  rw [if_neg (by decide)]
  refine wpAny_bind (HT.slicePart_ .none (wpAny_bind (HT.slicePart_ .none (wpAny_bind (wpAny_pure ?_)))))
  show wpAny _ _ (pure ((n : Int) - 1, (-1 : Int), Builtin.Slice.slicePlaces ((n : Int) - 1) (-1) (-1))) _ _ s
  rw [rev_places]
  exact wpAny_pure h
theorem rev_pick (xs : Array Value) : ((List.range xs.size).filterMap fun (m : Nat) => xs[((xs.size : Int) - 1 + (m : Int) * (-1)).toNat]?).toArray = xs.toList.reverse.toArray := by
  have e : ((List.range xs.size).filterMap fun (m : Nat) => xs[((xs.size : Int) - 1 + (m : Int) * (-1)).toNat]?) = (((List.range xs.size).map fun k => xs.size - 1 - k).filterMap (xs[·]?)) := by
    have go : ∀ l : List Nat, (∀ m ∈ l, m < xs.size) → (l.filterMap fun (m : Nat) => xs[((xs.size : Int) - 1 + (m : Int) * (-1)).toNat]?) = ((l.map fun k => xs.size - 1 - k).filterMap (xs[·]?)) := by
      intro l
      induction l with
      | nil => intro _; rfl
      | cons m l ih =>
        intro hm
        have h1 := hm m List.mem_cons_self
        have e2 : ((xs.size : Int) - 1 + (m : Int) * (-1)).toNat = xs.size - 1 - m := by omega
        rw [List.map_cons, List.filterMap_cons, List.filterMap_cons, e2, ih fun k hk => hm k (List.mem_cons_of_mem _ hk)]
    exact go _ fun m hm => List.mem_range.mp hm
  rw [e, PySem.W.krv_range, List.filterMap_reverse, PySem.W.krv_all]
theorem getItem_tuple_rev {t sl : Addr} {items : Array Value} {vk : Value} {Q : Value → Shared → Prop} (ht : IsTup s.heap t items) (hs : s.heap.IsSliceOf sl .none .none vk) (pk : IsPart vk (some (-1)))
    (h : Q (.ref s.heap.objs.size) { s with heap := s.heap.push { cls := .type "tuple", data := .seq items.toList.reverse.toArray } })
    (hsz : items.size ≤ sizeLine) : wpAny (model prog w) A (getItem (.ref t) (.ref sl)) Q E s := by
  have htake : sizeOk (.seq items.toList.reverse.toArray) := by
    show items.toList.reverse.toArray.size ≤ sizeLine
    rw [List.size_toArray, List.length_reverse, Array.length_toList]
    omega
  obtain ⟨os, hos, hcs, hds⟩ := id hs
  have hTs : s.TypeIs (.ref sl) "slice" := ⟨os, hos, hcs⟩
  unfold getItem
  try with_reducible refine wpAny_holding ?_
  first | refine wpAny_bind (wpAny_pure ?_) | skip
  refine wpAny_bind (wpAny_sequenceKey ht.typeIs (by decide) ?_)
  refine wpAny_bind (wpAny_callSpecial?_slot (name := Str.ofString "__getitem__") ht.typeIs PyProof.Rows.slot_tuple_getitem
    (wpAny_call_entry PyProof.Rows.slot_tuple_getitem ht.typeIs PyProof.Rows.entry_tuple_getitem ?_ (PyProof.Rows.args_tuple_getitem _ _)))
  show wpAny _ _ (Builtin.Tuple.tupleItemsOf (.ref t) >>= _) _ _ s
  refine wpAny_bind (tupleItemsOf_ ht ?_)
  refine wpAny_bind (wpAny_typeOf hTs ?_)
  rw [if_pos (by decide)]
  refine wpAny_bind (rev_applied hs pk ?_)
  have hno : ¬ ((((items.size : Int) - 1) == 0 && (-1 : Int) == 1 && items.size == items.size) = true) := by
    simp
  show wpAny _ _ (if (((items.size : Int) - 1) == 0 && (-1 : Int) == 1 && items.size == items.size) = true then _ else _) _ _ s
  rw [if_neg hno, rev_pick]
  first
    | exact wpAny_bind (m := Builtin.Tuple.tupleExact _) (wpAny_newObj_type (wpAny_pure ⟨_, rfl, wpAny_pure h⟩) htake)
    | exact wpAny_bind (m := Builtin.Tuple.tupleExact _) (wpAny_newObj_type (wpAny_bind (wpAny_pure (wpAny_pure ⟨_, rfl, wpAny_pure h⟩))) htake)
    | exact wpAny_bind (wpAny_bind (m := Builtin.Tuple.tupleExact _) (wpAny_newObj_type (wpAny_pure (wpAny_pure ⟨_, rfl, wpAny_pure h⟩)) htake))
    | exact wpAny_bind (wpAny_bind (m := Builtin.Tuple.tupleExact _) (wpAny_newObj_type (wpAny_pure ⟨_, rfl, wpAny_pure h⟩) htake))
end
/-- xs[::-1] of a list or a tuple -/
def tRevA (K : PySem.W.Frag) (te : TE) : TE := fun σ H Q => te σ H fun x H1 => ∃ a xs, x = .ref a ∧ ((SqL K H1 a xs ∧ ∀ p, H1 p = none → Q (.ref p) (upd H1 p (.lst xs.reverse))) ∨ (SqT K H1 a xs ∧ ∀ p, H1 p = none → Q (.ref p) (upd H1 p (.tup xs.reverse))))
section
open PySem.Spec PyProof.Rows HT
variable {X : Cx}
theorem pe_revA {e : Expr} {te : TE} {k : Nat} {p1 p2 p3 pos : Pos} (he : PE X e te) : PE X (.Subscript e (.Slice none none (some (.UnaryOp .USub (.Constant (.int 1) k p1) p2)) p3) pos) (tRevA X.K te) := by
  refine ⟨fun pins s σ H Q I h => ?_⟩
  refine PyProof.Rows.Subscript_ (thn (he.run pins s σ H _ I h) fun v s1 ⟨x, H1, I1, r1, q1⟩ => ?_)
  obtain ⟨a, xs, ex, q⟩ := q1
  subst ex
  cases r1
  have hst : PO X (some (.UnaryOp .USub (.Constant (.int 1) k p1) p2)) (tPart (tUn (rU fun i => .int (-i)) (tC (.int 1)))) := po_some (pe_un un_neg pe_int)
  refine wpAny_Slice (thn (po_none.run pins s1 σ H1 (fun o H2 => o = none ∧ H2 = H1) I1 ⟨rfl, rfl⟩) fun vl s2 ⟨l, H2, I2, pl, el, e2⟩ => ?_)
  subst el e2
  refine thn (po_none.run pins s2 σ H2 (fun o H3 => o = none ∧ H3 = H2) I2 ⟨rfl, rfl⟩) fun vu s3 ⟨u, H3, I3, pu, eu, e3⟩ => ?_
  subst eu e3
  refine thn (hst.run pins s3 σ H3 (fun o H4 => o = some (-1) ∧ H4 = H3) I3 ⟨1, rfl, -1, rfl, rfl, rfl⟩) fun vs s4 ⟨o, H4, I4, ps, eo, e4⟩ => ?_
  subst eo e4
  have I5 : Inv X pins σ H4 { s4 with heap := s4.heap.push { cls := .type "slice", data := .fields #[vl, vu, vs] } } := I4.kept (t' := s4.toks) fun b ob q => Heap.get?_push_of_some _ q
  show wpAny (model X.prog X.w) X.A (subscriptTail e (.Slice none none (some (.UnaryOp .USub (.Constant (.int 1) k p1) p2)) p3) (.ref a) (.ref s4.heap.objs.size)) (EP X pins σ Q) X.xe { s4 with heap := s4.heap.push { cls := .type "slice", data := .fields #[vl, vu, vs] } }
  rcases q with ⟨hx, q⟩ | ⟨hx, q⟩
  · obtain ⟨its, r, ht, hz⟩ := I5.list hx
    have hlen := r.length
    refine PyProof.Rows.tail_any (ops := [.ref a, .ref s4.heap.objs.size]) ht.isList.typeIs (PySem.slot_list_getitem.lookup) ?_ (by with_unfolding_all rfl)
    refine wpAny_getItem_list_slice ht.isList (Heap.IsSliceOf.new _ vl vu vs) pl pu ps (by decide) ?_ (by rw [List.size_toArray]; omega)
    rw [PySem.W.krv_pick]
    refine ⟨.ref _, _, I5.laid (t' := s4.toks) (o := .lst xs.reverse) (fun b ob q => Heap.get?_push_of_some _ q) (Nat.le_refl _) ?_, rfl, q _ (I5.hok.fresh (Nat.le_refl _))⟩
    exact ⟨by rw [List.length_reverse]; exact hz, _, 0, r.reverse, Heap.get?_push_size _ rfl⟩
  · obtain ⟨its, r, ht, hz⟩ := I5.tuple hx
    have hlen := r.length
    cases pl
    cases pu
    refine PyProof.Rows.tail_any (ops := [.ref a, .ref s4.heap.objs.size]) ht.typeIs (PyProof.Rows.slot_tuple_getitem.lookup) ?_ (by with_unfolding_all rfl)
    refine getItem_tuple_rev ht (Heap.IsSliceOf.new _ _ _ vs) ps ?_ (by rw [List.size_toArray]; omega)
    refine ⟨.ref _, _, I5.laid (t' := s4.toks) (o := .tup xs.reverse) (fun b ob q => Heap.get?_push_of_some _ q) (Nat.le_refl _) (show ObjOk X.prog X.w _ _ _ (.tup xs.reverse) from ⟨by rw [List.length_reverse]; exact hz, its.reverse, r.reverse, IsTup.new _ _⟩), rfl, q _ (I5.hok.fresh (Nat.le_refl _))⟩
end
@[simp] def revD : D → Option D
  | .lst xs => some (.lst xs.reverse)
  | .tup xs => some (.tup xs.reverse)
  | _ => none
section
variable {cl : ClW} {X : Cx} {W : WX} {e : Expr} {τ : DTE} {pos : Pos}
theorem d_rev {k : Nat} {p1 p2 p3 : Pos} (he : DE cl X W e τ) : DE cl X W (.Subscript e (.Slice none none (some (.UnaryOp .USub (.Constant (.int 1) k p1) p2)) p3) pos) (dUn revD τ) :=
  ⟨pe_imp (pe_revA he.pe) fun σ H Q ⟨F, ρ, M, Qd, Xd, g, s, t, p, w⟩ => ⟨F, ρ, M, _, Xd, g, s, t, fun v H' F' d M' sm g' r ⟨z, e1, q⟩ => (by
    have hv := vw_ok g' r
    cases e2 : vw M' d with
    | lst ds =>
      rw [e2] at hv e1
      cases e1
      obtain ⟨a, vs, rfl, h1, h2⟩ := hv.lst g'.sub
      exact ⟨a, vs, rfl, .inl ⟨h1, fun c hc => (p.mono sm).newL g' h2.reverse q hc⟩⟩
    | tup ds =>
      rw [e2] at hv e1
      cases e1
      obtain ⟨a, vs, rfl, h1, h2⟩ := hv.tup g'.sub
      exact ⟨a, vs, rfl, .inr ⟨h1, fun c hc => (p.mono sm).newT g' h2.reverse q hc⟩⟩
    | _ =>
      rw [e2] at e1
      cases e1), w⟩⟩
end

/-! ### methods of built-ins -/
def tyD (T : String) : D → Bool
  | .lst _ => T == "list"
  | .str _ => T == "str"
  | .dK _ _ => T == "dict"
  | .dT _ _ => T == "dict"
  | _ => false
def LMt (K : PySem.W.Frag) (cl : ClW) (r : V → List V → Hp → VK → Prop) (φ : D → List D → Mem → DV → Prop) : Prop :=
  ∀ F H M x xs d ds Q Qd, Good K cl F H M → Rep K cl F x d → Reps K cl F xs ds → φ d ds M Qd → Post K cl F Q Qd → r x xs H Q
def dBM (T : String) (φ : D → List D → Mem → DV → Prop) (τ : DTE) (α : DTA) : DTE := fun ρ M Q X => τ ρ M (fun o M1 => tyD T (vw M1 o) = true ∧ α ρ M1 (fun ds M2 => φ o ds M2 Q) X) X
section
variable {K : PySem.W.Frag} {cl : ClW} {F H : Hp} {X : Cx} {W : WX}
theorem tyV_of {T : String} {v : V} {d : D} (s : Same F H) (h : Vw K cl F H v d) (e : tyD T d = true) : tyV K T v H := by
  cases d with
  | lst ds =>
    obtain ⟨a, vs, rfl, h1, h2⟩ := h.lst s
    exact .inl ⟨eq_of_beq e, vs, h1⟩
  | str z =>
    obtain rfl := h.str
    exact eq_of_beq e
  | dK ks ds =>
    obtain ⟨a, vs, rfl, h1, h2, h3⟩ := h.dK s
    exact .inr (.inr (.inl ⟨eq_of_beq e, .inl ⟨_, h1⟩⟩))
  | dT ks ds =>
    rcases h with h | ⟨a, rfl, vs, h1, h2, h3⟩
    · cases h with
      | dT h1 h2 h3 => exact .inr (.inr (.inl ⟨eq_of_beq e, .inr ⟨_, s _ _ h1⟩⟩))
    · exact .inr (.inr (.inl ⟨eq_of_beq e, .inr ⟨_, h1⟩⟩))
  | _ => cases e
variable {o e : Expr} {es : List Expr} {τ : DTE} {α : DTA} {name : Str} {apos cpos : Pos} {T id : String} {r : V → List V → Hp → VK → Prop} {φ : D → List D → Mem → DV → Prop}
theorem d_bm (pa : PlainAttrs T) (slot : Slot T name id) (hty : typeOf (.builtin id) = pure (.type "method_descriptor")) (hm : MtR X id r) (hl : LMt X.K cl r φ) (ho : DE cl X W o τ) (ha : DA cl X W (e :: es) α)
    (hbase : attributeBase o name X.env (eval o X.env) = eval o X.env := by rfl)
    (hfew : ((backTo cpos (starEach (e :: es) X.env)).all (fun x => !x.1) && (backToKw cpos (keywordEach [] X.env)).all (fun x => x.1.isSome)
      && decide ((e :: es).length + ([] : List Keyword).length + (if ([] : List Keyword).isEmpty then 0 else 1) < 30)) = true := by rfl)
    (hline : (apos.endLine == cpos.line) = true := by rfl) (hs : starEach (e :: es) X.env = (false, eval e X.env) :: starEach es X.env := by rfl) (hplain : (backTo cpos (starEach es X.env)).any (·.1) = false := by rfl) :
    DE cl X W (.Call (.Attribute o name apos) (e :: es) [] cpos) (dBM T φ τ α) :=
  ⟨pe_imp (pe_bm pa slot hty hm ho.pe ha.pa hbase hfew hline hs hplain) fun σ H Q ⟨F, ρ, M, Qd, Xd, g, s, t, p, w⟩ => ⟨F, ρ, M, _, Xd, g, s, t, fun v H' F' d M' sm g' r' ⟨e1, q⟩ =>
    ⟨tyV_of g'.sub (vw_ok g' r') e1, F', ρ, M', _, Xd, g', s.mono sm, q, fun vs H2 F2 ds M2 sm2 g2 r2 q2 => hl F2 H2 M2 v vs d ds Q Qd g2 (r'.mono sm2) r2 q2 (p.mono (sm.trans sm2)), w.mono sm⟩, w⟩⟩
theorem d_bm0 (pa : PlainAttrs T) (slot : Slot T name id) (hty : typeOf (.builtin id) = pure (.type "method_descriptor")) (hm : MtR X id r) (hl : LMt X.K cl r φ) (ho : DE cl X W o τ)
    (hbase : attributeBase o name X.env (eval o X.env) = eval o X.env := by rfl) (hline : (apos.endLine == cpos.line) = true := by rfl) :
    DE cl X W (.Call (.Attribute o name apos) [] [] cpos) (dBM T φ τ dNil) :=
  ⟨pe_imp (pe_bm0 pa slot hty hm ho.pe hbase hline) fun σ H Q ⟨F, ρ, M, Qd, Xd, g, s, t, p, w⟩ => ⟨F, ρ, M, _, Xd, g, s, t, fun v H' F' d M' sm g' r' ⟨e1, q⟩ =>
    ⟨tyV_of g'.sub (vw_ok g' r') e1, hl F' H' M' v [] d [] Q Qd g' r' .nil q (p.mono sm)⟩, w⟩⟩
/-- l.append(y) -/
def φApp : D → List D → Mem → DV → Prop := fun o ds M Q => ∃ a xs d, o = .ref a ∧ ds = [d] ∧ M a = some (.lst xs) ∧ xs.length < sizeLine ∧ Q .non (updM M a (.lst (xs ++ [d])))
theorem lm_app : LMt K cl rAppend φApp := by
  intro F H M x xs d ds Q Qd g rx rs h p
  obtain ⟨a, ys, y, rfl, rfl, h1, h2, q⟩ := h
  obtain rfl := rx.toRef
  obtain ⟨hF, vs, h3, h4⟩ := g.cell a _ h1
  obtain ⟨v, ws, rfl, r1, r2⟩ := rs.inv
  obtain rfl := r2.inv0
  exact ⟨a, vs, v, rfl, rfl, h3, by rw [h4.length]; exact h2, p _ _ F _ _ (Same.refl F) (g.put (d := .lst (ys ++ [y])) h1 ⟨vs ++ [v], upd_same, h4.append (.one r1)⟩) .non q⟩
/-- l.extend(ys) -/
def rExtS (K : PySem.W.Frag) : V → List V → Hp → VK → Prop := fun x vs H Q => ∃ l b xs zs, x = .ref l ∧ vs = [.ref b] ∧ H l = some (.lst xs) ∧ SqL K H b zs ∧ xs.length + zs.length ≤ sizeLine ∧ Q .non (upd H l (.lst (xs ++ zs)))
/-- l.pop(), l.pop(i) -/
def φPop : D → List D → Mem → DV → Prop := fun o ds M Q => ∃ a xs d, o = .ref a ∧ ds = [] ∧ M a = some (.lst xs) ∧ xs[xs.length - 1]? = some d ∧ Q d (updM M a (.lst xs.dropLast))
theorem Reps.dropLast : ∀ {vs : List V} {ds : List D}, Reps K cl F vs ds → Reps K cl F vs.dropLast ds.dropLast
  | _, _, .nil => .nil
  | _, _, .cons _ .nil => .nil
  | _, _, .cons r (.cons r2 t) => .cons r (Reps.dropLast (.cons r2 t))
theorem Reps.erase : ∀ {vs : List V} {ds : List D} (i : Nat), Reps K cl F vs ds → Reps K cl F (vs.eraseIdx i) (ds.eraseIdx i)
  | _, _, _, .nil => .nil
  | _, _, 0, .cons _ t => t
  | _, _, i + 1, .cons r t => .cons r (Reps.erase i t)
theorem lm_pop : LMt K cl rPop φPop := by
  intro F H M x xs d ds Q Qd g rx rs h p
  obtain ⟨a, ys, y, rfl, rfl, h1, h2, q⟩ := h
  obtain rfl := rx.toRef
  obtain rfl := rs.inv0
  obtain ⟨hF, vs, h3, h4⟩ := g.cell a _ h1
  obtain ⟨v, h5, h6⟩ := h4.get h2
  exact ⟨a, vs, v, rfl, rfl, h3, by rw [h4.length]; exact h5, p _ _ F _ _ (Same.refl F) (g.put (d := .lst ys.dropLast) h1 ⟨vs.dropLast, upd_same, h4.dropLast⟩) h6 q⟩
def φPopAt : D → List D → Mem → DV → Prop := fun o ds M Q => ∃ a xs i k d, o = .ref a ∧ ds = [.int i] ∧ M a = some (.lst xs) ∧ -(2 ^ 63) ≤ i ∧ i < 2 ^ 63 ∧ seqIndex? i xs.length = some k ∧ xs[k]? = some d ∧ Q d (updM M a (.lst (xs.eraseIdx k)))
theorem lm_popAt : LMt K cl rPopAt φPopAt := by
  intro F H M x xs d ds Q Qd g rx rs h p
  obtain ⟨a, ys, i, k, y, rfl, rfl, h1, b1, b2, h2, h2', q⟩ := h
  obtain rfl := rx.toRef
  obtain ⟨u, ws, rfl, r1, r2⟩ := rs.inv
  obtain rfl := r2.inv0
  obtain rfl := r1.toInt
  obtain ⟨hF, vs, h3, h4⟩ := g.cell a _ h1
  obtain ⟨v, h5, h6⟩ := h4.get h2'
  exact ⟨a, vs, i, k, v, rfl, rfl, h3, b1, b2, by rw [h4.length]; exact h2, h5, p _ _ F _ _ (Same.refl F) (g.put (d := .lst (ys.eraseIdx k)) h1 ⟨vs.eraseIdx k, upd_same, h4.erase k⟩) h6 q⟩
end
end DL

set_option Elab.async false
set_option linter.all false
set_option maxRecDepth 100000
set_option maxHeartbeats 4000000
set_option autoImplicit false
namespace DL
open PySem L2
theorem RoomG.u1 {k : Nat} {A : Around} (r : RoomG k A) : A.units + 1 < cLine := Nat.lt_of_le_of_lt (by omega) r.room.units

/-! ### l.extend -/
theorem list_extendW (l b : Addr) (items items2 : Array Value) (n n2 : Nat) (sl2 : Array (Option Value)) (hc0 : ¬(!items.isEmpty && Builtin.List.listTooLong (items.size + items2.size)) = true) (hc1 : items.size ≤ sizeLine) (hs2 : items.size + items2.size ≤ sizeLine + 1) :
    Meets (Builtin.«list.extend» ⟨[.ref l, .ref b], []⟩) (fun _ R s => s.heap.get? l = some { cls := .type "list", dict := none, data := .seq items n, slots := #[] } ∧ s.heap.get? b = some { cls := .type "list", dict := none, data := .seq items2 n2, slots := sl2 } ∧ R (.ok (.ret Value.none)) { s with heap := s.heap.update l (Obj.mapSeq fun x => x ++ items2), toks := s.toks }) :=
  .of_wp fun prog w A R s h => by
    obtain ⟨hp, g, d, tk, os⟩ := s; obtain ⟨hl, hb, h⟩ := h; have f1 := AutoSeq1.idx_int; have f2 := AutoSeq1.sub_tuple_tuple; have f3 := AutoSeq1.sub_list_list; have f4 := AutoSeq1.sub_tuple_list; have f5 := AutoSeq1.sub_list_tuple
    have hz' : (items ++ items2).size ≤ sizeLine + 1 := by rw [Array.size_append]; exact hs2
    wp_walk using (wpAny_updateSeq hl rfl (hz := hc1) (_hz' := hz')), AutoSeq1.wpAny_loadPart' hl, AutoSeq1.wpAny_loadPart' hb; exact ⟨_, rfl, h⟩
section
open PySem.Spec PyProof.Rows
variable {X : Cx}
theorem mt_extS : MtR X "list.extend" (rExtS X.K) := by
  intro pins s σ H x vs v us Q I rx rv h
  obtain ⟨l, b, xs, zs, rfl, rfl, hH, hB, hz, q⟩ := h
  cases rx
  obtain ⟨u, rfl, ru⟩ := rv.one
  cases ru
  obtain ⟨z, its, n, r, hl, e⟩ := I.lstM hH
  obtain ⟨its2, r2, ⟨o2, n2, ho2, hc2, hd2, hs2⟩, z2⟩ := I.list hB
  obtain ⟨c2, d2, t2, sl2⟩ := o2
  simp only at hc2 hd2 hs2
  subst hc2 hd2 hs2
  have hl2 := r2.length
  have hsz : its.toArray.size + its2.toArray.size ≤ sizeLine := by rw [List.size_toArray, List.size_toArray]; omega
  have hlong : ¬ (!its.toArray.isEmpty && Builtin.List.listTooLong (its.toArray.size + its2.toArray.size)) = true := by
    rw [notLongL hsz, Bool.and_false]
    exact Bool.false_ne_true
  refine call_meets PySem.F.slot_list_extend ⟨_, e, rfl⟩ PySem.F.entry_list_extend (PySem.F.args_list_extend_2 _ _)
    (list_extendW l b its.toArray its2.toArray n n2 sl2 hlong (by rw [List.size_toArray]; omega) (by omega)) ⟨e, ho2, ?_⟩
  refine ⟨.non, _, I.lset (its' := its ++ its2) hH e (by simp) (r.append r2) ?_, rfl, q⟩
  rw [List.length_append]
  omega
end
/-- l.extend(ys) -/
def φExt : D → List D → Mem → DV → Prop := fun o ds M Q => ∃ a xs d ys, o = .ref a ∧ ds = [d] ∧ vw M d = .lst ys ∧ M a = some (.lst xs) ∧ xs.length + ys.length ≤ sizeLine ∧ Q .non (updM M a (.lst (xs ++ ys)))
section
variable {K : PySem.W.Frag} {cl : ClW}
theorem lm_ext : LMt K cl (rExtS K) φExt := by
  intro F H M x xs d ds Q Qd g rx rs h p
  obtain ⟨a, ys, y, zs, rfl, rfl, hv, h1, h2, q⟩ := h
  obtain rfl := rx.toRef
  obtain ⟨hF, vs, h3, h4⟩ := g.cell a _ h1
  obtain ⟨v, ws, rfl, r1, r2⟩ := rs.inv
  obtain rfl := r2.inv0
  have k := vw_ok g r1
  rw [hv] at k
  obtain ⟨b, us, rfl, k1, k2⟩ := k.lst g.sub
  exact ⟨a, b, vs, us, rfl, rfl, h3, k1, by rw [h4.length, k2.length]; exact h2, p _ _ F _ _ (Same.refl F) (g.put (d := .lst (ys ++ zs)) h1 ⟨vs ++ us, upd_same, h4.append k2⟩) .non q⟩
end

/-! ### enumerate, zip -/
@[simp] def iEn (τ : DTE) : DTI := fun ρ M R X => τ ρ M (fun d M1 => ∃ xs, d = .lst xs ∧ R (xs.zipIdx.map fun p => D.tup [.int (p.2 : Nat), p.1]) M1) X
@[simp] def iZp (τ τ' : DTE) : DTI := fun ρ M R X => τ ρ M (fun d M1 => τ' ρ M1 (fun e M2 => ∃ xs ys, d = .lst xs ∧ e = .lst ys ∧ R ((xs.zip ys).map fun p => D.tup [p.1, p.2]) M2) X) X
section
variable {cl : ClW} {X : Cx} {W : WX} {a b : Expr} {pos : Pos} {τa τb : DTE}
theorem di_enum {elts : List Expr} {kk : Nat} {tpos p : Pos} (hg : Gl X "enumerate") (hm : X.mg "enumerate" = none) (ha : DE cl X W a τa) (hs : starEach [a] X.env = [(false, eval a X.env)] := by rfl) :
    DI cl X W (.Tuple elts kk tpos) (.Call (.Name "enumerate" p) [a] [] pos) (iEn τa) :=
  ⟨pi_imp (pi_enum hg hm (da_cons (W := W) (cl := cl) ha da_nil hs).pa hs) fun σ H R ⟨F, ρ, M, Rd, Xd, g, s, q, p, w⟩ =>
    ⟨F, ρ, M, fun ds M1 => ∃ xs, ds = [.lst xs] ∧ Rd (xs.zipIdx.map fun p => D.tup [.int (p.2 : Nat), p.1]) M1, Xd, g, s, (by
      unfold iEn at q
      unfold dCons dNil
      have mono : (fun d M1 => ∃ xs, d = D.lst xs ∧ Rd (xs.zipIdx.map fun p => D.tup [.int (p.2 : Nat), p.1]) M1) = (fun d M1 => ∃ xs, [d] = [D.lst xs] ∧ Rd (xs.zipIdx.map fun p => D.tup [.int (p.2 : Nat), p.1]) M1) := by
        funext d M1
        simp
      rw [mono] at q
      exact q), fun vs H' F' ds M' sm g' r ⟨xs, e1, q'⟩ => (by
      subst e1
      obtain ⟨v, ws, rfl, r1, r2⟩ := r.inv
      obtain rfl := r2.inv0
      obtain ⟨a, us, rfl, h1, h2⟩ := r1.toLst
      refine ⟨a, us, rfl, same_l g'.sub h1, p _ _ F' _ M' sm g' (fun i F2 H2 M2 sm2 g2 => ⟨fun d hd => ?_, fun hl => ⟨us, same_l (sm2.trans g2.sub) h1, by rw [h2.length]; simpa using hl⟩⟩) q'⟩
      rw [List.getElem?_map, List.getElem?_zipIdx] at hd
      cases e2 : xs[i]? with
      | none => rw [e2] at hd; cases hd
      | some d0 =>
        rw [e2] at hd
        cases hd
        obtain ⟨v0, h3, h4⟩ := h2.get e2
        refine ⟨⟨us, v0, same_l (sm2.trans g2.sub) h1, h3⟩, fun x H3 y => ?_⟩
        obtain ⟨T, x0, rfl, hT, rfl, hy⟩ := y
        have h5 := hy us (same_l (sm2.trans g2.sub) h1)
        rw [h3] at h5
        cases h5
        have sm3 : Same F2 (upd F2 T (.tup [.int (i : Nat), v0])) := same_new (g2.freshF hT)
        refine ⟨_, sm3, g2.new hT, .tup (SqT1.of upd_same) (.cons ?_ (.one (h4.mono (sm2.trans sm3))))⟩
        simpa using Rep.int (i : Int)), w⟩⟩
theorem di_zip {elts : List Expr} {kk : Nat} {tpos p : Pos} (hg : Gl X "zip") (hm : X.mg "zip" = none) (ha : DE cl X W a τa) (hb : DE cl X W b τb)
    (hs : starEach [a, b] X.env = (false, eval a X.env) :: starEach [b] X.env := by rfl) (hs2 : starEach [b] X.env = [(false, eval b X.env)] := by rfl) (hpl : (backTo pos (starEach [b] X.env)).any (·.1) = false := by rfl) :
    DI cl X W (.Tuple elts kk tpos) (.Call (.Name "zip" p) [a, b] [] pos) (iZp τa τb) :=
  ⟨pi_imp (pi_zip hg hm (da_cons (W := W) (cl := cl) ha (da_cons hb da_nil hs2) hs).pa hs hpl) fun σ H R ⟨F, ρ, M, Rd, Xd, g, s, q, p, w⟩ =>
    ⟨F, ρ, M, fun ds M1 => ∃ xs ys, ds = [.lst xs, .lst ys] ∧ Rd ((xs.zip ys).map fun p => D.tup [p.1, p.2]) M1, Xd, g, s, (by
      unfold iZp at q
      unfold dCons dNil
      have mono : (fun d M1 => τb ρ M1 (fun e M2 => ∃ xs ys, d = D.lst xs ∧ e = D.lst ys ∧ Rd ((xs.zip ys).map fun p => D.tup [p.1, p.2]) M2) Xd) = (fun d M1 => τb ρ M1 (fun e M2 => ∃ xs ys, [d, e] = [D.lst xs, D.lst ys] ∧ Rd ((xs.zip ys).map fun p => D.tup [p.1, p.2]) M2) Xd) := by
        funext d M1
        congr 1
        funext e M2
        simp [and_assoc]
      rw [mono] at q
      exact q), fun vs H' F' ds M' sm g' r ⟨xs, ys, e1, q'⟩ => (by
      subst e1
      obtain ⟨v, ws, rfl, r1, r2⟩ := r.inv
      obtain ⟨v2, ws, rfl, r3, r4⟩ := r2.inv
      obtain rfl := r4.inv0
      obtain ⟨a, us, rfl, h1, h2⟩ := r1.toLst
      obtain ⟨b, zs, rfl, k1, k2⟩ := r3.toLst
      refine ⟨a, b, us, zs, rfl, same_l g'.sub h1, same_l g'.sub k1, p _ _ F' _ M' sm g' (fun i F2 H2 M2 sm2 g2 => ⟨fun d hd => ?_, fun hl => ⟨us, zs, same_l (sm2.trans g2.sub) h1, same_l (sm2.trans g2.sub) k1, ?_⟩⟩) q'⟩
      · rw [List.getElem?_map] at hd
        obtain ⟨⟨d0, d1⟩, hz, rfl⟩ := Option.map_eq_some_iff.mp hd
        obtain ⟨z1, z2⟩ := List.getElem?_zip_eq_some.mp hz
        obtain ⟨v0, h3, h4⟩ := h2.get z1
        obtain ⟨v1, k3, k4⟩ := k2.get z2
        refine ⟨⟨us, zs, v0, v1, same_l (sm2.trans g2.sub) h1, same_l (sm2.trans g2.sub) k1, h3, k3⟩, fun x H3 y => ?_⟩
        obtain ⟨T, x0, y0, rfl, hT, rfl, hx, hy⟩ := y
        have h5 := hx us (same_l (sm2.trans g2.sub) h1)
        have k5 := hy zs (same_l (sm2.trans g2.sub) k1)
        rw [h3] at h5
        rw [k3] at k5
        cases h5
        cases k5
        have sm3 : Same F2 (upd F2 T (.tup [v0, v1])) := same_new (g2.freshF hT)
        exact ⟨_, sm3, g2.new hT, .tup (SqT1.of upd_same) (.cons (h4.mono (sm2.trans sm3)) (.one (k4.mono (sm2.trans sm3))))⟩
      · rw [h2.length, k2.length]
        simp at hl
        omega), w⟩⟩
end
end DL

set_option Elab.async false
set_option linter.all false
set_option maxRecDepth 100000
set_option maxHeartbeats 4000000
set_option autoImplicit false
namespace DL
open PySem L2

/-! ### a def's core; keywords -/
def FnC (cl : ClW) (P : Program) (w : World) (K : PySem.W.Frag) (mg : Str → Option Value) (base : Heap) (k : Nat) (x qual : Str) (params : Arguments) (body : List Stmt) (scope : Scope) (f : Addr) (ps : List Str) (spd : SpD) : Prop :=
  ∃ fd, FunD K x qual params body scope [] [] f fd ∧ FnG cl P w K mg base k f fd ps spd
def pick {α : Type} (ord : List Nat) (l : List α) : List α := ord.filterMap (l[·]?)
theorem pick_len {α β : Type} (l : List α) (m : List β) (h : l.length = m.length) : ∀ ord : List Nat, (pick ord l).length = (pick ord m).length
  | [] => rfl
  | j :: ord => by
    have ih := pick_len l m h ord
    unfold pick at ih ⊢
    rw [List.filterMap_cons, List.filterMap_cons]
    by_cases hj : j < l.length
    · rw [List.getElem?_eq_getElem hj, List.getElem?_eq_getElem (h ▸ hj)]
      simp [ih]
    · rw [List.getElem?_eq_none (by omega), List.getElem?_eq_none (by omega)]
      exact ih
theorem vals_pick {vs : List V} {us : List Value} (h : Vals vs us) : ∀ ord : List Nat, Vals (pick ord vs) (pick ord us)
  | [] => .nil
  | j :: ord => by
    have ih := vals_pick h ord
    have hl := h.length
    unfold DL.pick at ih ⊢
    rw [List.filterMap_cons, List.filterMap_cons]
    cases e : vs[j]? with
    | none =>
      have : us.length ≤ j := by have := List.getElem?_eq_none_iff.mp e; omega
      rw [List.getElem?_eq_none this]
      exact ih
    | some v =>
      obtain ⟨u, hu, r⟩ := h.get e
      rw [hu]
      exact .cons r ih
theorem Reps.pick {K : PySem.W.Frag} {cl : ClW} {F : Hp} {vs : List V} {ds : List D} (h : Reps K cl F vs ds) : ∀ ord : List Nat, Reps K cl F (pick ord vs) (pick ord ds)
  | [] => .nil
  | j :: ord => by
    have ih := Reps.pick h ord
    have hl := h.length
    unfold DL.pick at ih ⊢
    rw [List.filterMap_cons, List.filterMap_cons]
    cases e : ds[j]? with
    | none =>
      have : vs.length ≤ j := by have := List.getElem?_eq_none_iff.mp e; omega
      rw [List.getElem?_eq_none this]
      exact ih
    | some v =>
      obtain ⟨u, hu, r⟩ := h.get e
      rw [hu]
      exact .cons r ih
/-- n positional values and the keywords ks fill the parameters, in the order ord -/
def KBp (K : PySem.W.Frag) (fd : FuncData) (ps : List Str) (n : Nat) (ks : List Str) (ord : List Nat) : Prop :=
  ∀ (s : Shared) (us ws : List Value), K.In s.heap → us.length = n → ws.length = ks.length → BindsTo s fd ⟨us, ks.zip ws⟩ (ps.zip (pick ord (us ++ ws)))
theorem kb_of {K : PySem.W.Frag} {x qual : Str} {params : Arguments} {body : List Stmt} {scope : Scope} {kws : List (Str × V)} {f : Addr} {fd : FuncData} {ps ks : List Str} {n : Nat} {ord : List Nat} (F : FunD K x qual params body scope [] kws f fd)
    (h : ∀ (kV doc pm : Value) (an : Option Addr) (cdv ct : Value) (us ws : List Value), us.length = n → ws.length = ks.length → bindArgs (PySem.W.fnOf x qual params body scope .none kV doc pm an cdv ct) ⟨us, ks.zip ws⟩ = pure (ps.zip (pick ord (us ++ ws)))) : KBp K fd ps n ks ord := by
  obtain ⟨oc, od, dV, kV, doc, pm, an, cdv, ct, osl, rfl, lk, hcd, hD, hK⟩ := F.ex
  rcases hD with ⟨_, rfl⟩ | ⟨e, _⟩
  · exact fun s us ws _ hu hw => .of_eq (h kV doc pm an cdv ct us ws hu hw)
  · exact absurd rfl e
section
variable {cl : ClW} {P : Program} {w : World} {K : PySem.W.Frag} {mg : Str → Option Value} {base : Heap} {k : Nat} {x qual : Str} {params : Arguments} {body : List Stmt} {scope : Scope} {N ps ks : List Str} {spd : SpD} {f : Addr} {t : DTS} {c n : Nat} {ord : List Nat} {m : Str}
theorem fnC_of (F : ∃ fd, FunD K x qual params body scope [] [] f fd) (S : FnScope N ps scope)
    (hbody : ∀ (cdv : Value) (A : Around) (outer : List PySem.Env) (s : Shared) (H : Hp) (E : XK), Cap (cxOf (L2.CX P w) P w K mg base N qual scope f cdv A outer s H E) (fun cls d _ H => E cls d H) k →
      DSs cl (cxOf (L2.CX P w) P w K mg base N qual scope f cdv A outer s H E) (fun cls d _ H => E cls d H) body t)
    (hsp : ∀ ds M Q E, spd ds M Q E → ds.length = ps.length ∧ t (dEnds Q E) (startD N ds) M) : FnC cl P w K mg base (k + 1) x qual params body scope f ps spd := by
  obtain ⟨fd, F⟩ := F
  exact ⟨fd, F, fn_d F S t hbody hsp⟩
def FnBK (cl : ClW) (P : Program) (w : World) (K : PySem.W.Frag) (mg : Str → Option Value) (base : Heap) (k : Nat) (x : Str) (n : Nat) (ks : List Str) (ord : List Nat) (spd : SpD) : Prop :=
  ∃ f fd ps, mg x = some (.ref f) ∧ PySem.W.keepIn K (.ref f) = true ∧ KBp K fd ps n ks ord ∧ FnG cl P w K mg base k f fd ps spd
def MethBK (cl : ClW) (P : Program) (w : World) (K : PySem.W.Frag) (mg : Str → Option Value) (base : Heap) (k : Nat) (c : Nat) (m : Str) (n : Nat) (ks : List Str) (ord : List Nat) (spd : SpD) : Prop :=
  Cls K (cl c) ∧ ∃ f fd ps, Meth K (cl c) m f ∧ KBp K fd ps n ks ord ∧ FnG cl P w K mg base k f fd ps spd
def MkBK (cl : ClW) (P : Program) (w : World) (K : PySem.W.Frag) (mg : Str → Option Value) (base : Heap) (k : Nat) (x : Str) (c : Nat) (n : Nat) (ks : List Str) (ord : List Nat) (spd : SpD) : Prop :=
  mg x = some (.ref (cl c)) ∧ ∃ f fd ps, Mk K (cl c) f ∧ KBp K fd ps n ks ord ∧ FnG cl P w K mg base k f fd ps spd
abbrev HBind (x qual : Str) (params : Arguments) (body : List Stmt) (scope : Scope) (ps : List Str) : Prop := ∀ (kV doc pm : Value) (an : Option Addr) (cdv ct : Value) (us : List Value), us.length = ps.length → bindArgs (PySem.W.fnOf x qual params body scope .none kV doc pm an cdv ct) ⟨us, []⟩ = pure (ps.zip us)
abbrev HBindK (x qual : Str) (params : Arguments) (body : List Stmt) (scope : Scope) (ps : List Str) (n : Nat) (ks : List Str) (ord : List Nat) : Prop := ∀ (kV doc pm : Value) (an : Option Addr) (cdv ct : Value) (us ws : List Value), us.length = n → ws.length = ks.length → bindArgs (PySem.W.fnOf x qual params body scope .none kV doc pm an cdv ct) ⟨us, ks.zip ws⟩ = pure (ps.zip (pick ord (us ++ ws)))
theorem FnC.fn (C : FnC cl P w K mg base k x qual params body scope f ps spd) {y : Str} (hm : mg y = some (.ref f)) (hb : HBind x qual params body scope ps) : FnB cl P w K mg base k y ps spd := by
  obtain ⟨fd, F, G⟩ := C
  exact ⟨f, fd, hm, F.kp, F.bindsN hb, G⟩
theorem FnC.fnK (C : FnC cl P w K mg base k x qual params body scope f ps spd) {y : Str} (hm : mg y = some (.ref f)) (hb : HBindK x qual params body scope ps n ks ord) : FnBK cl P w K mg base k y n ks ord spd := by
  obtain ⟨fd, F, G⟩ := C
  exact ⟨f, fd, ps, hm, F.kp, kb_of F hb, G⟩
theorem FnC.meth (C : FnC cl P w K mg base k x qual params body scope f ps spd) (hc : Cls K (cl c)) (hm : Meth K (cl c) m f) (hb : HBind x qual params body scope ps) {j : Nat} (hj : k ≤ j) : MethB cl P w K mg base j c m spd := by
  obtain ⟨fd, F, G⟩ := C
  exact ⟨hc, f, fd, ps, hm, F.bindsN hb, G.mono hj⟩
theorem FnC.methK (C : FnC cl P w K mg base k x qual params body scope f ps spd) (hc : Cls K (cl c)) (hm : Meth K (cl c) m f) (hb : HBindK x qual params body scope ps n ks ord) {j : Nat} (hj : k ≤ j) : MethBK cl P w K mg base j c m n ks ord spd := by
  obtain ⟨fd, F, G⟩ := C
  exact ⟨hc, f, fd, ps, hm, kb_of F hb, G.mono hj⟩
theorem FnC.mk (C : FnC cl P w K mg base k x qual params body scope f ps spd) {y : Str} (hy : mg y = some (.ref (cl c))) (hm : Mk K (cl c) f) (hb : HBind x qual params body scope ps) : MkB cl P w K mg base k y c ps spd := by
  obtain ⟨fd, F, G⟩ := C
  exact ⟨hy, f, fd, hm, F.bindsN hb, G⟩
theorem FnC.mkK (C : FnC cl P w K mg base k x qual params body scope f ps spd) {y : Str} (hy : mg y = some (.ref (cl c))) (hm : Mk K (cl c) f) (hb : HBindK x qual params body scope ps n ks ord) : MkBK cl P w K mg base k y c n ks ord spd := by
  obtain ⟨fd, F, G⟩ := C
  exact ⟨hy, f, fd, ps, hm, kb_of F hb, G⟩
end

/-! ### keywords' values -/
structure DK (cl : ClW) (X : Cx) (W : WX) (kws : List Keyword) (τ : DTA) : Prop where
  pk : PK X kws (lowA X.K cl W τ)
section
variable {cl : ClW} {X : Cx} {W : WX} {e o : Expr} {es : List Expr} {kws : List Keyword} {nm : Option Str} {kpos pos apos p : Pos} {τ : DTE} {α β : DTA} {x m : Str} {n k j c : Nat} {ks ps : List Str} {ord : List Nat} {spd : SpD} {f : Addr} {fd : FuncData} {pl : Sem Bool}
theorem dk_nil : DK cl X W [] dNil := ⟨⟨fun pos pins s σ H Q I ⟨F, ρ, M, Qd, Xd, g, sl, t, p, w⟩ => pk_nil.run pos pins s σ H Q I (p [] H F [] M (Same.refl F) g .nil t)⟩⟩
theorem dk_cons (ha : DE cl X W e τ) (hr : DK cl X W kws α) : DK cl X W (⟨nm, e, kpos⟩ :: kws) (dCons τ α) :=
  ⟨⟨fun pos pins s σ H Q I ⟨F, ρ, M, Qd, Xd, g, sl, t, p, w⟩ => (pk_cons ha.pe hr.pk).run pos pins s σ H Q I ⟨F, ρ, M, _, Xd, g, sl, t, fun v H' F' d M' sm g' r q => ⟨F', ρ, M', _, Xd, g', sl.mono sm, q, fun vs H2 F2 ds M2 sm2 g2 r2 q2 => p _ _ _ _ _ (sm.trans sm2) g2 (.cons (r.mono sm2) r2) q2, w.mono sm⟩, w⟩⟩⟩
theorem run_gk {pins : List (Addr × Obj)} {σ : St} {H : Hp} {s : Shared} {Q : VK} {us ws : List Value} {vs zs : List V} (cp : Cap X W k) (F : FnG cl X.prog X.w X.K X.mg X.base k f fd ps spd) (hb : KBp X.K fd ps n ks ord)
    (I : Inv X pins σ H s) (r : Vals vs us) (rz : Vals zs ws) (hn : us.length = n) (hw : ws.length = ks.length) (h : lower X.K cl spd (pick ord (vs ++ zs)) H Q (WE W σ)) : wpAny (model X.prog X.w) X.A (call (.ref f) us (ks.zip ws)) (EP X pins σ Q) X.xe s := by
  have r2 : Vals (pick ord (vs ++ zs)) (pick ord (us ++ ws)) := vals_pick (r.append rz) ord
  refine wpAny_call (codeAny_mono (F.run X.A X.stack s H ⟨us, ks.zip ws⟩ (pick ord (us ++ ws)) (pick ord (vs ++ zs)) Q _ cp.hr I.env0 (hb s us ws I.kIn hn hw) r2 h) fun r s' hq => ?_)
  cases r with
  | error e => exact passAt cp.tk σ pins H s e s' I hq
  | ok fl =>
    cases fl with
    | ret u => exact I.after hq
    | next => exact False.elim hq
    | brk => exact False.elim hq
    | cont => exact False.elim hq
/-- f(k = v, ..) -/
def dCallK (spd : SpD) (n : Nat) (ord : List Nat) (β : DTA) : DTE := fun ρ M Q X => β ρ M (fun es M1 => es.length = n ∧ spd (pick ord es) M1 Q (fun c ns es M2 => X c ns es ρ M2)) X
theorem d_fnK0 (cp : Cap X W k) (G : FnBK cl X.prog X.w X.K X.mg X.base j x 0 ks ord spd) (hj : j ≤ k) (hg : Gl X x) (hkw : DK cl X W kws β) (hn : ks.length = n := by rfl)
    (hall : (backToKw pos (keywordEach kws X.env)).all (·.1.isSome) = true := by rfl) (hks : (backToKw pos (keywordEach kws X.env)).filterMap (·.1) = ks := by rfl)
    (hdb : (x == ("__debug__" : Str)) = false := by decide) (hpl : ((backTo pos (starEach [] X.env)).any (·.1) || (backToKw pos (keywordEach kws X.env)).any (·.1.isNone)) = false := by rfl) :
    DE cl X W (.Call (.Name x p) [] kws pos) (dCallK spd n ord β) := ⟨⟨fun pins s σ H Q I h => by
  obtain ⟨f, fd, ps, hm, hk, hb, G⟩ := G
  obtain ⟨F, ρ, M, Qd, Xd, g, sl, q, pp, w⟩ := h
  refine wpAny_Call_Name_kw (ld_glob I hg hm ?_ hdb)
  refine PySem.W.callWith_KW0 (h₀ := X.base) I.ok.mod.kin hk hall (thn (hkw.pk.run pos pins s σ H (fun vs H1 => vs.length = n ∧ lower X.K cl spd (pick ord vs) H1 Q (WE W σ)) I ⟨F, ρ, M, _, Xd, g, sl, q, fun vs H' F' ds M' sm g' r q' => ?_, w⟩) fun ws s1 ⟨vs, H1, I1, r, hl, q⟩ => ⟨I1.kIn, ?_⟩) hpl
  · obtain ⟨e1, q'⟩ := q'
    exact ⟨by rw [r.length]; exact e1, low_call g' (sl.mono sm) (r.pick ord) q' (pp.mono sm) (w.mono sm)⟩
  · rw [hks]
    exact run_gk (us := []) (vs := []) cp (G.mono hj) hb I1 .nil r rfl (by have := r.length; omega) q⟩⟩
/-- C(k = v, ..) -/
theorem pick_self {α : Type} (ord : List Nat) (x : α) (l : List α) : pick (0 :: ord.map (· + 1)) (x :: l) = x :: pick ord l := by
  unfold pick
  rw [List.filterMap_cons]
  show x :: List.filterMap (fun i => (x :: l)[i]?) (ord.map (· + 1)) = _
  rw [List.filterMap_map]
  rfl
def dMakeK (c : Nat) (spd : SpD) (n : Nat) (ord : List Nat) (β : DTA) : DTE := fun ρ M Q X => β ρ M (fun ds M1 => ds.length = n ∧ ∀ x, M1 x = none → spd (.ref x :: pick ord ds) (updM M1 x (.obj c [] [])) (fun d M2 => d = .non ∧ frz (.ref x) M2 Q) (fun c' ns es M2 => X c' ns es ρ M2)) X
/-- o.m(k = v, ..) -/
def dMethK (tb : List (Nat × SpD)) (m : Str) (n : Nat) (ord : List Nat) (τ : DTE) (β : DTA) : DTE := fun ρ M Q X => τ ρ M (fun o M1 => ∃ c ns ds spd, vw M1 o = .obj c ns ds ∧ tb.lookup c = some spd ∧ m ∉ ns ∧ β ρ M1 (fun as M2 => as.length = n ∧ spd (pick ord (o :: as)) M2 Q (fun c' ns es M3 => X c' ns es ρ M3)) X) X
theorem d_methK0 {tb : List (Nat × SpD)} (cp : Cap X W k) (hm : ∀ c spd, tb.lookup c = some spd → MethBK cl X.prog X.w X.K X.mg X.base k c m 1 ks ord spd) (ho : DE cl X W o τ) (hkw : DK cl X W kws β) (hn : ks.length = n := by rfl)
    (hall : (backToKw pos (keywordEach kws X.env)).all (·.1.isSome) = true := by rfl) (hks : (backToKw pos (keywordEach kws X.env)).filterMap (·.1) = ks := by rfl)
    (hpl : ((backTo pos (starEach [] X.env)).any (·.1) || (backToKw pos (keywordEach kws X.env)).any (·.1.isNone)) = false := by rfl)
    (ht : eval (.Call (.Attribute o m apos) [] kws pos) X.env = (do
      let ov ← eval o X.env
      standAt apos.atName
      let (f, first) ← holding [ov] (getMethod ov m pl)
      callWith pos f first (backTo pos (starEach [] X.env)) (backToKw pos (keywordEach kws X.env))) := by rfl) :
    DE cl X W (.Call (.Attribute o m apos) [] kws pos) (dMethK tb m n ord τ β) := ⟨⟨fun pins s σ H Q I h => by
  obtain ⟨F, ρ, M, Qd, Xd, g, sl, q, p, w⟩ := h
  refine PySem.W.methodCall_KW (pl := pl) (thn (ho.pe.run pins s σ H (fun v H1 => ∃ F' ρ' M' o, Same F F' ∧ Good X.K cl F' H1 M' ∧ Rep X.K cl F' v o ∧ ρ' = ρ ∧ ∃ c ns ds spd, vw M' o = .obj c ns ds ∧ tb.lookup c = some spd ∧ m ∉ ns ∧ β ρ M' (fun as M2 => as.length = n ∧ spd (pick ord (o :: as)) M2 Qd (fun c' ns es M3 => Xd c' ns es ρ M3)) Xd) I
    ⟨F, ρ, M, _, Xd, g, sl, q, fun v H' F' d M' sm g' r q' => ⟨F', ρ, M', d, sm, g', r, rfl, q'⟩, w⟩) fun u s1 ⟨v, H1, I1, rv, F1, ρ1, M1, od, sm1, g1, r1, _, c, ns, ds, spd, e1, e2, e3, q1⟩ => ?_) ht
  obtain ⟨hc, f, fd, ps, mt, hb, G⟩ := hm c spd e2
  obtain ⟨a, dx, fs, rfl, ha1, ha2⟩ := meth_at g1 r1 e1 e3
  obtain rfl : u = Value.ref a := rv
  refine getmeth_ok I1 ha1 hc mt ha2 ?_
  refine PySem.W.callWith_KW0 (h₀ := X.base) (first := [.ref a]) I1.ok.mod.kin mt.kp hall (thn (hkw.pk.run pos pins s1 σ H1 (fun vs H2 => vs.length = n ∧ lower X.K cl spd (pick ord (.ref a :: vs)) H2 Q (WE W σ)) I1 ⟨F1, ρ, M1, _, Xd, g1, sl.mono sm1, q1, fun vs H' F' ds M' sm g' r q' => ?_, w.mono sm1⟩) fun ws s2 ⟨vs, H2, I2, r, hl, q⟩ => ⟨I2.kIn, ?_⟩) hpl
  · obtain ⟨e1, q'⟩ := q'
    exact ⟨by rw [r.length]; exact e1, low_call g' (sl.mono (sm1.trans sm)) (Reps.pick (.cons (r1.mono sm) r) ord) q' (p.mono (sm1.trans sm)) (w.mono (sm1.trans sm))⟩
  · rw [hks]
    exact run_gk (us := [.ref a]) (vs := [.ref a]) cp G hb I2 (.cons rfl .nil) r rfl (by have := r.length; omega) q⟩⟩
theorem d_mkK0 (cp : Cap X W k) (G : MkBK cl X.prog X.w X.K X.mg X.base j x c 1 ks (0 :: ord.map (· + 1)) spd) (hj : j + 1 ≤ k) (hg : Gl X x) (hkw : DK cl X W kws β) (hn : ks.length = n := by rfl)
    (hall : (backToKw pos (keywordEach kws X.env)).all (·.1.isSome) = true := by rfl) (hks : (backToKw pos (keywordEach kws X.env)).filterMap (·.1) = ks := by rfl)
    (hdb : (x == ("__debug__" : Str)) = false := by decide) (hpl : ((backTo pos (starEach [] X.env)).any (·.1) || (backToKw pos (keywordEach kws X.env)).any (·.1.isNone)) = false := by rfl) :
    DE cl X W (.Call (.Name x p) [] kws pos) (dMakeK c spd n ord β) := ⟨⟨fun pins s σ H Q I h => by
  obtain ⟨hm, f, fd, ps, Mk0, hb, G⟩ := G
  obtain ⟨k', rfl⟩ : ∃ k', k = k' + 1 := ⟨k - 1, by omega⟩
  obtain ⟨F, ρ, M0, Qd, Xd, g, sl, q, pp, w⟩ := h
  refine wpAny_Call_Name_kw (ld_glob I hg hm ?_ hdb)
  refine PySem.W.callWith_KW0 (h₀ := X.base) I.ok.mod.kin Mk0.kp hall (thn (hkw.pk.run pos pins s σ H (fun vs H1 => vs.length = n ∧ ∀ x dx, H1 x = none → H1 dx = none → dx ≠ x → lower X.K cl spd (.ref x :: pick ord vs) (upd (upd H1 dx (.own x)) x (.ins (cl c) dx [])) (fun v H2 => v = .non ∧ Q (.ref x) H2) (WE W σ)) I
    ⟨F, ρ, M0, _, Xd, g, sl, q, fun vs H' F' ds M' sm g' r q' => ?_, w⟩) fun us s1 ⟨vs, H1, I1, r, hl, q⟩ => ⟨I1.kIn, ?_⟩) hpl
  · obtain ⟨e1, q'⟩ := q'
    exact ⟨by rw [r.length]; exact e1, fun x dx hx hdx ne => low_mk g' (sl.mono sm) (r.pick ord) hx hdx ne (q' x (g'.freshM hx)) (post_frz (pp.mono sm)) (w.mono sm)⟩
  · rw [hks]
    have hwl : us.length = ks.length := by have := r.length; omega
    refine run_mk (us := []) (kw := ks.zip us) (ws := pick ord us) (zs := pick ord vs) cp Mk0 (G.mono (by omega)) I1 (vals_pick r ord) (fun s u hk hl2 => ?_) q
    have := hb s [u] us hk rfl hwl
    rw [show [u] ++ us = u :: us from rfl, pick_self] at this
    exact this⟩⟩
end
end DL

set_option Elab.async false
set_option linter.all false
set_option maxRecDepth 100000
set_option maxHeartbeats 4000000
set_option autoImplicit false
namespace DL
open PySem L2

/-! ### walking loops and comprehensions: an invariant over what is done -/
theorem forD_run {γ : DTG} {t : DTS} {E : DEnds} (xs : List D) (P : List D → Env → Mem → Prop)
    (step : ∀ (done : List D) (x : D) (rest : List D) (ρ : Env) (M : Mem) (Nx : Env → Mem → Prop), xs = done ++ x :: rest → P done ρ M → (∀ ρ' M', P (done ++ [x]) ρ' M' → Nx ρ' M') →
      γ x ρ M (fun ρ2 M2 => t { E with nx := Nx, ct := Nx, bk := E.nx } ρ2 M2) E.ex)
    (fin : ∀ ρ M, P xs ρ M → E.nx ρ M) {ρ : Env} {M : Mem} (h0 : P [] ρ M) : forD γ t xs E ρ M := by
  have go : ∀ (rest done : List D) (ρ : Env) (M : Mem), xs = done ++ rest → P done ρ M → forD γ t rest E ρ M := by
    intro rest
    induction rest with
    | nil =>
      intro done ρ M e p
      rw [List.append_nil] at e
      subst e
      exact fin ρ M p
    | cons x rest ih =>
      intro done ρ M e p
      exact step done x rest ρ M (forD γ t rest E) e p fun ρ' M' p' => ih (done ++ [x]) ρ' M' (by rw [e]; simp) p'
  exact go xs [] ρ M rfl h0
theorem lcD_run {γ : DTG} {υ : DTT} {τ : DTE} {vs : List Nat} {a : Addr} {Q : DV} {ρ : Env} (xs : List D) (P : List D → List D → Mem → Prop)
    (step : ∀ (done : List D) (x : D) (rest acc : List D) (M : Mem) (Nx : Mem → Prop), xs = done ++ x :: rest → M a = some (.lst acc) → P done acc M → (∀ acc' M', M' a = some (.lst acc') → P (done ++ [x]) acc' M' → Nx M') →
      γ x (wipeD ρ vs) M (fun ρ2 M2 => υ ρ2 M2 (fun b M3 => if b = true then τ ρ2 M3 (fun d M4 => ∃ acc, M4 a = some (.lst acc) ∧ acc.length < sizeLine ∧ Nx (updM M4 a (.lst (acc ++ [d])))) noX else Nx M3) noX) noX)
    (fin : ∀ acc M, M a = some (.lst acc) → P xs acc M → Q (.lst acc) (delM M a)) {M : Mem} (h0 : P [] [] (updM M a (.lst []))) : lcD γ υ τ vs a xs ρ (updM M a (.lst [])) Q := by
  have go : ∀ (rest done acc : List D) (M : Mem), xs = done ++ rest → M a = some (.lst acc) → P done acc M → lcD γ υ τ vs a rest ρ M Q := by
    intro rest
    induction rest with
    | nil =>
      intro done acc M e ha p
      rw [List.append_nil] at e
      subst e
      exact ⟨acc, ha, fin acc M ha p⟩
    | cons x rest ih =>
      intro done acc M e ha p
      exact step done x rest acc M (fun M' => lcD γ υ τ vs a rest ρ M' Q) e ha p fun acc' M' ha' p' => ih (done ++ [x]) acc' M' (by rw [e]; simp) ha' p'
  exact go xs [] [] _ rfl updM_same h0
/-- each item answers by a function, memory untouched -/
theorem lcD_fn {γ : DTG} {υ : DTT} {τ : DTE} {vs : List Nat} {a : Addr} {Q : DV} {ρ : Env} {M : Mem} (f : D → Option D) (xs : List D) (hl : xs.length ≤ 16777216) (hM : M a = none)
    (step : ∀ x ∈ xs, ∀ (M1 : Mem) (T : Option D → Mem → Prop), (∀ b, b ≠ a → M1 b = M b) → T (f x) M1 → γ x (wipeD ρ vs) M1 (fun ρ2 M2 => υ ρ2 M2 (fun b M3 => if b = true then τ ρ2 M3 (fun d M4 => T (some d) M4) noX else T none M3) noX) noX)
    (q : Q (.lst (xs.filterMap f)) M) : lcD γ υ τ vs a xs ρ (updM M a (.lst [])) Q := by
  refine lcD_run xs (fun done acc M1 => acc = done.filterMap f ∧ M1 = updM M a (.lst acc)) ?_ ?_ ⟨rfl, rfl⟩
  · rintro done x rest acc M1 Nx e ha ⟨rfl, rfl⟩ nx
    have hx : x ∈ xs := by rw [e]; simp
    have hlen : (done.filterMap f).length < sizeLine := by
      have h1 := List.length_filterMap_le f done
      have h2 := congrArg List.length e
      rw [List.length_append, List.length_cons] at h2
      rw [sizeLine_eq]
      omega
    refine step x hx (updM M a (.lst (done.filterMap f))) (fun o M4 => match o with | some d => ∃ acc, M4 a = some (.lst acc) ∧ acc.length < sizeLine ∧ Nx (updM M4 a (.lst (acc ++ [d]))) | none => Nx M4) (fun b hb => updM_ne hb) ?_
    cases ho : f x with
    | none =>
      refine nx _ _ updM_same ⟨?_, rfl⟩
      rw [List.filterMap_append]
      simp [ho]
    | some d =>
      refine ⟨_, updM_same, hlen, nx _ _ updM_same ⟨?_, ?_⟩⟩
      · rw [List.filterMap_append]
        simp [ho]
      · exact updM_updM
  · rintro acc M1 ha ⟨rfl, rfl⟩
    rw [delM_updM hM]
    exact q

/-! ### constants of a class -/
section
variable {cl : ClW} {X : Cx} {W : WX} {x f : Str} {p pos : Pos} {c : Nat} {d : D}
theorem d_clsN (hg : Gl X x) (hm : X.mg x = some (.ref (cl c))) (hd : (x == ("__debug__" : Str)) = false := by decide) : DE cl X W (.Name x pos) (dC (.cls c)) :=
  d_c (v := .ref (cl c)) (pe_glob hg hm rfl hd) fun _ => .cls c
def CValB (K : PySem.W.Frag) (cl : Nat → Addr) (c : Nat) (f : Str) (d : D) : Prop := ∃ mc v u, ClX.CRead K (cl c) mc ∧ ClX.CVal K (cl c) mc f v u ∧ ∀ (cw : ClW) F, Rep K cw F v d
theorem d_cval (r : CValB X.K cl c f d) (hg : Gl X x) (hm : X.mg x = some (.ref (cl c))) (hd : (x == ("__debug__" : Str)) = false := by decide)
    (hb : attributeBase (.Name x p) f X.env (eval (.Name x p) X.env) = eval (.Name x p) X.env := by rfl) : DE cl X W (.Attribute (.Name x p) f pos) (dC d) := by
  obtain ⟨mc, v, u, h1, h2, h3⟩ := r
  exact ⟨pe_imp (ClX.pe_cval (d_clsN (cl := cl) (W := W) (c := c) hg hm hd).pe hb) fun σ H Q ⟨F, ρ, M, Qd, Xd, g, s, t, p, w⟩ => ⟨F, ρ, M, fun d' M' => d' = .cls c ∧ Qd d M', Xd, g, s, ⟨rfl, t⟩, fun v' H' F' d' M' sm g' r' ⟨e1, q⟩ => by
    subst e1
    obtain rfl := r'.toCls
    exact ⟨cl c, mc, v, u, rfl, h1, h2, p _ _ _ _ _ sm g' (h3 _ F') q⟩, w⟩⟩
end

/-! ### dict comprehensions -/
def putKs {β : Type} [DecidableEq β] (k : β) (ks : List β) : List β := if (ks.any fun j => decide (j = k)) = true then ks else ks ++ [k]
def putVs {α β : Type} [DecidableEq β] (k : β) (y : α) (ks : List β) (vs : List α) : List α := if (ks.any fun j => decide (j = k)) = true then List.zipWith (fun j v => if j = k then y else v) ks vs else vs ++ [y]
theorem putK_zip {β : Type} [DecidableEq β] (k : β) (y : V) (ks : List β) (vs : List V) (h : ks.length = vs.length) : putK (ks.zip vs) k y = (putKs k ks).zip (putVs k y ks vs) ∧ (putKs k ks).length = (putVs k y ks vs).length := by
  have ha : ((ks.zip vs).any fun kv => decide (kv.1 = k)) = ks.any fun j => decide (j = k) := by
    clear y
    induction ks generalizing vs with
    | nil => simp
    | cons j ks ih =>
      cases vs with
      | nil => simp at h
      | cons v vs => simp only [List.zip_cons_cons, List.any_cons]; rw [ih vs (by simpa using h)]
  unfold putK putKs putVs
  rw [ha]
  split
  · constructor
    · clear ha
      rename_i hh
      clear hh
      induction ks generalizing vs with
      | nil => simp
      | cons j ks ih =>
        cases vs with
        | nil => simp at h
        | cons v vs =>
          simp only [List.zip_cons_cons, List.map_cons, List.zipWith_cons_cons]
          rw [ih vs (by simpa using h)]
          by_cases e : j = k <;> simp [e]
    · simp [h]
  · constructor
    · rw [List.zip_append h]; rfl
    · simp [h]
theorem reps_putVs {K : PySem.W.Frag} {cl : ClW} {F : Hp} {β : Type} [DecidableEq β] {k : β} {y : V} {d : D} (r : Rep K cl F y d) (ks : List β) {vs : List V} {ds : List D} (h : Reps K cl F vs ds) : Reps K cl F (putVs k y ks vs) (putVs k d ks ds) := by
  unfold putVs
  split
  · rename_i hh
    clear hh
    induction ks generalizing vs ds with
    | nil => simp; exact .nil
    | cons j ks ih =>
      cases h with
      | nil => simp; exact .nil
      | cons a b =>
        simp only [List.zipWith_cons_cons]
        refine .cons ?_ (ih b)
        by_cases e : j = k
        · simp only [if_pos e]; exact r
        · simp only [if_neg e]; exact a
  · exact h.append (.one r)
def dcD (γ : DTG) (υ : DTT) (τk τv : DTE) (vs : List Nat) (a : Addr) : List D → Env → Mem → DV → Prop
  | [] => fun _ M Q => ∃ ks ds, M a = some (.dK ks ds) ∧ Q (.dK ks ds) (delM M a)
  | x :: xs => fun ρ M Q => γ x (wipeD ρ vs) M (fun ρ2 M2 => υ ρ2 M2 (fun b M3 => if b = true then τk ρ2 M3 (fun kd M4 => τv ρ2 M4 (fun d M5 => ∃ k ks ds, keyD kd = some k ∧ M5 a = some (.dK ks ds) ∧ ks.length < sizeLine ∧ dcD γ υ τk τv vs a xs ρ (updM M5 a (.dK (putKs k ks) (putVs k d ks ds))) Q) noX) noX else dcD γ υ τk τv vs a xs ρ M3 Q) noX) noX
def dDc (ι : DTI) (γ : DTG) (υ : DTT) (τk τv : DTE) (vs : List Nat) : DTE := fun ρ M Q X => ι ρ M (fun xs M1 => ∀ a, M1 a = none → dcD γ υ τk τv vs a xs ρ (updM M1 a (.dK [] [])) Q) X
section
variable {cl : ClW} {X : Cx} {W : WX} {kx vx tg iter : Expr} {ifs : List Expr} {scope : Scope} {own : List (Str × Nat)} {pos : Pos} {ι : DTI} {is : List Nat} {γ : DTG} {υ : DTT} {τk τv : DTE}
theorem dc_lift {K : PySem.W.Frag} (his : ∀ i ∈ is, i ∈ own.map (·.2)) {σ : St} {H : Hp} {Q : VK} {F : Hp} {ρ : Env} {M : Mem} {Qd : DV} {Xd : DX} (g : Good K cl F H M) (s : Slots K cl F σ ρ) (q : dDc ι γ υ τk τv (own.map (·.2)) ρ M Qd Xd) (p : Post K cl F Q Qd) (w : WOk K cl W F Xd) :
    tDc (fun σ H R => ∃ F ρ M Rd Xd, Good K cl F H M ∧ Slots K cl F σ ρ ∧ ι ρ M Rd Xd ∧ (∀ J H' F' xs M', Same F F' → Good K cl F' H' M' → Walks K cl J F' xs → Rd xs M' → R J H') ∧ WOk K cl W F Xd)
      (fun v σ H Q => ∃ F ρ M d Qd Xd, Good K cl F H M ∧ Slots K cl F σ ρ ∧ Rep K cl F v d ∧ γ d ρ M Qd Xd ∧ (∀ σ' H' F' ρ' M', Same F F' → Good K cl F' H' M' → Slots K cl F' σ' ρ' → (∀ vs : List Nat, (∀ i ∈ is, i ∈ vs) → wipe σ' vs = wipe σ vs) → Qd ρ' M' → Q σ' H') ∧ WOk K cl W0 F Xd)
      (lowT K cl W0 υ) (lowE K cl W0 τk) (lowE K cl W0 τv) (own.map (·.2)) σ H Q := by
  refine ⟨F, ρ, M, _, Xd, g, s, q, fun J H1 F1 xs M1 sm1 g1 wk q1 a hD => ?_, w⟩
  refine ⟨fun i m H => m = xs.length - i ∧ i ≤ xs.length ∧ ∃ F' M, Same F1 F' ∧ Good K cl F' H M ∧ dcD γ υ τk τv (own.map (·.2)) a (xs.drop i) ρ M Qd,
    ⟨xs.length, by simp, Nat.zero_le _, F1, updM M1 a (.dK [] []), Same.refl F1, g1.newM (d := .dK [] []) hD ⟨[], upd_same, rfl, .nil⟩, by simpa using q1 a (g1.freshM hD)⟩, ?_⟩
  rintro i m H2 ⟨rfl, hi, F2, M2, sm2, g2, q2⟩
  by_cases hlt : i < xs.length
  · obtain ⟨go, yl⟩ := (wk i F2 H2 M2 sm2 g2).1 xs[i] (by simp [hlt])
    rw [List.drop_eq_getElem_cons hlt] at q2
    unfold dcD at q2
    refine .inr ⟨go, fun H' => ∃ F' M', Same F1 F' ∧ Good K cl F' H' M' ∧ dcD γ υ τk τv (own.map (·.2)) a (xs.drop (i + 1)) ρ M' Qd, fun H' n => ⟨xs.length - (i + 1), by omega, rfl, hlt, n⟩, fun x H3 y => ?_⟩
    obtain ⟨F3, sm3, g3, r3⟩ := yl x H3 y
    refine ⟨F3, wipeD ρ (own.map (·.2)), M2, xs[i], _, noX, g3, (s.mono ((sm1.trans sm2).trans sm3)).wipe _, r3, q2, fun σ4 H4 F4 ρ4 M4 sm4 g4 s4 w4 q4 => ⟨?_, ?_⟩, wok0⟩
    · rw [w4 _ his]
      exact wipe_idem _ _ _ fun _ h => h
    · refine ⟨F4, ρ4, M4, _, noX, g4, s4, q4, fun k H5 F5 M5 sm5 g5 q5 => ?_, wok0⟩
      cases k with
      | true =>
        rw [if_pos rfl] at q5 ⊢
        refine ⟨F5, ρ4, M5, _, noX, g5, s4.mono sm5, q5, fun y2 H6 F6 d M6 sm6 g6 r6 q6 => ?_, wok0⟩
        refine ⟨F6, ρ4, M6, _, noX, g6, s4.mono (sm5.trans sm6), q6, fun y3 H7 F7 d3 M7 sm7 g7 r7 q7 => ?_, wok0⟩
        obtain ⟨k, ks, ds, e0, e1, e2, q7⟩ := q7
        obtain ⟨hF, us, h1, h2, h3⟩ := g7.cell a _ e1
        obtain ⟨z1, z2⟩ := putK_zip k y3 ks us h2
        have hl : (ks.zip us).length < sizeLine := by rw [List.length_zip, ← h2, Nat.min_self]; exact e2
        refine ⟨ks.zip us, k, key_rep (.inl r6) e0 (H := H7), h1, hl, F7, _, ((((sm2.trans sm3).trans sm4).trans sm5).trans sm6).trans sm7, g7.put (d := .dK (putKs k ks) (putVs k d3 ks ds)) e1 ⟨putVs k y3 ks us, ?_, z2, reps_putVs r7 ks h3⟩, q7⟩
        rw [upd_same, z1]
      | false =>
        rw [if_neg Bool.false_ne_true] at q5 ⊢
        exact ⟨F5, M5, ((sm2.trans sm3).trans sm4).trans sm5, g5, q5⟩
  · have e : i = xs.length := by omega
    subst e
    rw [List.drop_length] at q2
    obtain ⟨ks, ds, e1, q2⟩ := q2
    obtain ⟨F3, sm3, g3, r3⟩ := g2.freeze e1
    exact .inl ⟨(wk _ F2 H2 M2 sm2 g2).2 (Nat.le_refl _), p _ _ _ _ _ ((sm1.trans sm2).trans sm3) g3 r3 q2⟩
theorem d_dc (hc : X.calm = true) (hN : X.N.Nodup) (hi : DI cl X W tg iter ι) (ok : BlkOk X.N X.env.scope scope own)
    (hg : ∀ (s : Shared) (H : Hp) (C : Addr) (cs : List (Str × Addr)) (fp : List Addr), DG cl (X.blk s H scope (compEnvC scope cs C X.env) fp) W0 tg is γ) (ht : ∀ (s : Shared) (H : Hp) (C : Addr) (cs : List (Str × Addr)) (fp : List Addr), DTs cl (X.blk s H scope (compEnvC scope cs C X.env) fp) W0 ifs υ)
    (hk : ∀ (s : Shared) (H : Hp) (C : Addr) (cs : List (Str × Addr)) (fp : List Addr), DE cl (X.blk s H scope (compEnvC scope cs C X.env) fp) W0 kx τk)
    (he : ∀ (s : Shared) (H : Hp) (C : Addr) (cs : List (Str × Addr)) (fp : List Addr), DE cl (X.blk s H scope (compEnvC scope cs C X.env) fp) W0 vx τv) (his : ∀ i ∈ is, i ∈ own.map (·.2) := by decide) (hs : ∀ x, foldedSetIterable iter X.env x = pure x := by intro _; rfl) :
    DE cl X W (.DictComp kx vx [⟨tg, iter, ifs, 0⟩] scope pos) (dDc ι γ υ τk τv (own.map (·.2))) :=
  ⟨pe_imp (pe_dc hc hN hi.pi ok (fun s H C cs fp => (hg s H C cs fp).pg) (fun s H C cs fp => (ht s H C cs fp).pts) (fun s H C cs fp => (hk s H C cs fp).pe) (fun s H C cs fp => (he s H C cs fp).pe) hs) fun σ H Q ⟨F, ρ, M, Qd, Xd, g, s, q, p, w⟩ => dc_lift his g s q p w⟩
end
end DL

set_option Elab.async false
set_option linter.all false
set_option maxRecDepth 100000
set_option maxHeartbeats 4000000
set_option autoImplicit false
namespace DL
open PySem L2

/-! ### walking a list, a tuple, a text, bytes -/
section
open PySem.Spec PyProof.Rows
variable {X : Cx} {tg : Expr}
def iSeqV (K : PySem.W.Frag) (tl : TE) : TI := fun σ H R => tl σ H fun x H1 => (∃ a, x = .ref a ∧ (∃ xs, SqL K H1 a xs) ∧ R (Itl K a) H1) ∨ (∃ a, x = .ref a ∧ (∃ xs, SqT K H1 a xs) ∧ R (Itt K a) H1) ∨ (∃ z, x = .str z ∧ R (Its z) H1) ∨ (∃ z, x = .byt z ∧ R (Itb z) H1)
theorem pi_seqV {l : Expr} {tl : TE} (hl : PE X l tl) : PI X tg l (iSeqV X.K tl) := by
  refine ⟨fun pins s σ H R I h => ?_⟩
  refine thn (hl.run pins s σ H _ I h) fun v s1 ⟨x, H1, I1, r1, q1⟩ => ?_
  rcases q1 with ⟨a, e, ⟨xs, hq⟩, q⟩ | ⟨a, e, ⟨xs, hq⟩, q⟩ | ⟨x, ex, q⟩ | ⟨x, ex, q⟩
  · subst e
    cases r1
    obtain ⟨its, rv, p, hz⟩ := I1.list hq
    refine wpAny_pyIter_list p.isList ?_
    refine ⟨s1.heap.objs.size, [s1.heap.objs.size], _, _, H1, rfl, I1.kept (t' := s1.toks) fun b o e => Heap.get?_push_of_some _ e, turn_list a _, ⟨_, Heap.get?_push_size _ rfl, rfl, rfl⟩, fun b hb => ?_, q⟩
    have e : b = s1.heap.objs.size := by simpa using hb
    subst e
    exact I1.fpOk (Nat.le_refl _) (I1.hok.fresh (Nat.le_refl _))
  · subst e
    cases r1
    obtain ⟨its, rv, p, hz⟩ := I1.tuple hq
    refine wpAny_pyIter_tuple (show s1.heap.IsTuple a its.toArray from p) ?_
    refine ⟨s1.heap.objs.size, [s1.heap.objs.size], _, _, H1, rfl, I1.kept (t' := s1.toks) fun b o e => Heap.get?_push_of_some _ e, turn_tuple a _, ⟨_, Heap.get?_push_size _ rfl, rfl, rfl⟩, fun b hb => ?_, q⟩
    have e : b = s1.heap.objs.size := by simpa using hb
    subst e
    exact I1.fpOk (Nat.le_refl _) (I1.hok.fresh (Nat.le_refl _))
  · subst ex
    obtain ⟨t, rfl⟩ := r1
    cases ha : x.cps.all (· < 128)
    · exact wpAny_pyIter_wide ha (pi_one (tk := s1.toks) I1 _ (turn_str _ x t "str_iterator" (.inr rfl)) ⟨_, Heap.get?_push_size _ rfl, rfl, rfl⟩ q)
    · exact wpAny_pyIter_ascii ha (pi_one (tk := s1.toks) I1 _ (turn_str _ x t "str_ascii_iterator" (.inl rfl)) ⟨_, Heap.get?_push_size _ rfl, rfl, rfl⟩ q)
  · subst ex
    obtain ⟨t, rfl⟩ := r1
    exact PySem.W.KBw.pyIter_bytes (pi_one (tk := s1.toks) I1 _ (turn_byt _ x t) ⟨_, Heap.get?_push_size _ rfl, rfl, rfl⟩ q)
end
@[simp] def itD : D → Option (List D)
  | .lst xs => some xs
  | .tup xs => some xs
  | .str z => some (z.cps.toList.map fun c => D.str ⟨#[c]⟩)
  | .byt b => some (b.toList.map fun c => D.int ((c.toNat : Nat) : Int))
  | _ => none
@[simp] def iS (τ : DTE) : DTI := fun ρ M R X => τ ρ M (fun d M1 => ∃ xs, itD d = some xs ∧ R xs M1) X
section
variable {cl : ClW} {X : Cx} {W : WX} {e : Expr} {τ : DTE}
theorem di_seq {tg : Expr} (h : DE cl X W e τ) : DI cl X W tg e (iS τ) := ⟨pi_imp (pi_seqV h.pe) fun σ H R ⟨F, ρ, M, Rd, Xd, g, s, q, p, w⟩ =>
  ⟨F, ρ, M, _, Xd, g, s, q, fun v H' F' d M' sm g' r ⟨xs, e1, q'⟩ => (by
    cases d with
    | lst ds =>
      cases e1
      obtain ⟨a, vs, rfl, h1, h2⟩ := r.toLst
      refine .inl ⟨a, rfl, ⟨vs, same_l g'.sub h1⟩, p _ _ F' xs M' sm g' (fun i F2 H2 M2 sm2 g2 => ⟨fun d hd => ?_, fun hl => ⟨vs, same_l (sm2.trans g2.sub) h1, by rw [h2.length]; exact hl⟩⟩) q'⟩
      obtain ⟨v, hv, rv⟩ := h2.get hd
      refine ⟨⟨vs, v, same_l (sm2.trans g2.sub) h1, hv⟩, fun x H3 ⟨e1, e2⟩ => ?_⟩
      subst e1
      have := e2 vs (same_l (sm2.trans g2.sub) h1)
      rw [hv] at this
      cases this
      exact ⟨F2, Same.refl F2, g2, rv.mono sm2⟩
    | tup ds =>
      cases e1
      obtain ⟨a, vs, rfl, h1, h2⟩ := r.toTup
      refine .inr (.inl ⟨a, rfl, ⟨vs, same_t g'.sub h1⟩, p _ _ F' xs M' sm g' (fun i F2 H2 M2 sm2 g2 => ⟨fun d hd => ?_, fun hl => ⟨vs, same_t (sm2.trans g2.sub) h1, by rw [h2.length]; exact hl⟩⟩) q'⟩)
      obtain ⟨v, hv, rv⟩ := h2.get hd
      refine ⟨⟨vs, v, same_t (sm2.trans g2.sub) h1, hv⟩, fun x H3 ⟨e1, e2⟩ => ?_⟩
      subst e1
      have := e2 vs (same_t (sm2.trans g2.sub) h1)
      rw [hv] at this
      cases this
      exact ⟨F2, Same.refl F2, g2, rv.mono sm2⟩
    | str z =>
      cases e1
      obtain rfl := r.toStr
      refine .inr (.inr (.inl ⟨z, rfl, p _ _ F' _ M' sm g' (fun i F2 H2 M2 sm2 g2 => ⟨fun d hd => ?_, fun hl => ?_⟩) q'⟩))
      · rw [List.getElem?_map] at hd
        obtain ⟨c, hc, rfl⟩ := Option.map_eq_some_iff.mp hd
        have hc' : z.cps[i]? = some c := by simpa using hc
        refine ⟨(Array.getElem?_eq_some_iff.mp hc').1, fun x H3 ⟨e1, c2, e2, e3⟩ => ?_⟩
        subst e1 e3
        rw [hc'] at e2
        cases e2
        exact ⟨F2, Same.refl F2, g2, .str _⟩
      · show z.cps.size ≤ i
        simpa using hl
    | byt z =>
      cases e1
      obtain rfl := r.toByt
      refine .inr (.inr (.inr ⟨z, rfl, p _ _ F' _ M' sm g' (fun i F2 H2 M2 sm2 g2 => ⟨fun d hd => ?_, fun hl => ?_⟩) q'⟩))
      · rw [List.getElem?_map] at hd
        obtain ⟨c, hc, rfl⟩ := Option.map_eq_some_iff.mp hd
        have hc' : z[i]? = some c := by simpa using hc
        refine ⟨(Array.getElem?_eq_some_iff.mp hc').1, fun x H3 ⟨e1, c2, e2, e3⟩ => ?_⟩
        subst e1 e3
        rw [hc'] at e2
        cases e2
        exact ⟨F2, Same.refl F2, g2, .int _⟩
      · show z.size ≤ i
        simpa using hl
    | _ => cases e1), w⟩⟩
end

/-! ### the table of a method's promises -/
theorem tb_nil {p : Nat → SpD → Prop} : ∀ c spd, ([] : List (Nat × SpD)).lookup c = some spd → p c spd := fun _ _ h => by cases h
theorem tb_cons {p : Nat → SpD → Prop} {c0 : Nat} {s0 : SpD} {l : List (Nat × SpD)} (h : p c0 s0) (t : ∀ c spd, l.lookup c = some spd → p c spd) : ∀ c spd, ((c0, s0) :: l).lookup c = some spd → p c spd := fun c spd e => by
  rw [List.lookup_cons] at e
  split at e
  · rename_i q
    cases e
    rw [eq_of_beq q]
    exact h
  · exact t c spd e

/-! ### a whole number that a class holds -/
def cvalB (K : PySem.W.Frag) (C : Addr) (f : Str) (i : Int) : Bool := PySem.W.readsIn K C (.type "type") && (He.eqO (PySem.W.specialIn K (.ref C) "__getattribute__") (some (some (.builtin "type.__getattribute__"))) && (match PySem.W.findCls K (.ref C) (.type "type") f with
  | some (.val (.int j _)) => decide (j = i)
  | _ => false))
theorem cvalB_ok {K : PySem.W.Frag} {cl : Nat → Addr} {c : Nat} {f : Str} {i : Int} (h : cvalB K (cl c) f i = true) : CValB K cl c f (.int i) := by
  obtain ⟨h1, h2⟩ := He.ba h
  obtain ⟨h4, h3⟩ := He.ba h2
  split at h3
  · rename_i j t e
    have e2 : j = i := of_decide_eq_true h3
    subst e2
    exact ⟨.type "type", .int j, .int j t, ⟨h1, He.eqO_ok h4⟩, ⟨e, ⟨t, rfl⟩⟩, fun _ _ => .int j⟩
  · cases h3
end DL

set_option Elab.async false
set_option linter.all false
set_option maxRecDepth 100000
set_option maxHeartbeats 2000000
set_option autoImplicit false
namespace DL
open PySem L2
/-! ### simp's rows, more -/
section
variable {M : Mem} {i j : Int} {b : Bool} {x y : Str} {xs ys : List D} {d e : D} {a : Addr} {ks : List Key}
@[simp] theorem ixA_lst : ixA (.lst xs) e = ixD (.lst xs) e := rfl
@[simp] theorem ixA_tup : ixA (.tup xs) e = ixD (.tup xs) e := rfl
@[simp] theorem ixA_str : ixA (.str x) e = ixD (.str x) e := rfl
@[simp] theorem ixA_dK : ixA (.dK ks xs) e = (keyD e).bind fun k => atK k ks xs := rfl
@[simp] theorem keyD_int : keyD (.int i) = some (.inl i) := rfl
@[simp] theorem keyD_str : keyD (.str x) = some (.inr x) := rfl
@[simp] theorem tupF_lst : tupF [.lst xs] = some (.tup xs) := rfl
@[simp] theorem tupF_tup : tupF [.tup xs] = some (.tup xs) := rfl
@[simp] theorem lstF_lst : lstF [.lst xs] = some (.lst xs) := rfl
@[simp] theorem lstF_tup : lstF [.tup xs] = some (.lst xs) := rfl
@[simp] theorem allF_lst : allF [.lst xs] = (blsOf xs).map fun bs => .bl (bs.all id) := rfl
@[simp] theorem anyF_lst : anyF [.lst xs] = (blsOf xs).map fun bs => .bl (bs.any id) := rfl
@[simp] theorem inD_def : inD d e = (inB d e).map D.bl := rfl
@[simp] theorem ninD_def : ninD d e = (inB d e).map fun b => D.bl !b := rfl
@[simp] theorem inB_lst : inB d (.lst xs) = if flatD d && xs.all flatD then some (xs.any fun y => eqFD y d) else none := rfl
@[simp] theorem inB_tup : inB d (.tup xs) = if flatD d && xs.all flatD then some (xs.any fun y => eqFD y d) else none := rfl
@[simp] theorem inB_dK : inB d (.dK ks xs) = (keyD d).map fun k => ks.any fun j => decide (j = k) := rfl
@[simp] theorem inB_str : inB (.str x) (.str y) = some (inStr x y) := rfl
@[simp] theorem tyD_lst : tyD "list" (.lst xs) = true := rfl
theorem fldD_obj {cs : List Nat} {f : Str} {c : Nat} {ns : List Str} (h : c ∈ cs) : fldD cs f (.obj c ns xs) = lookN f ns xs := if_pos h
theorem lookN_hit {α : Type} {f : Str} {ns : List Str} {d : α} {ds : List α} : lookN f (f :: ns) (d :: ds) = some d := if_pos rfl
theorem lookN_miss {α : Type} {f g : Str} {ns : List Str} {d : α} {ds : List α} (h : g ≠ f) : lookN f (g :: ns) (d :: ds) = lookN f ns ds := if_neg h
end
end DL

set_option Elab.async false
set_option linter.all false
set_option maxRecDepth 100000
set_option autoImplicit false
namespace DL
open PySem L2
/-! ### the head's facts, the interpreter's statics among them -/
def asS (g : Addr → Option Obj) (n : Nat) : List Addr := He.asD g n ++ [cStatics]
def obsS (n : Nat) (fa : List He.Fa) (fn : List He.DefD) (ex : PySem.W.Frag → Bool) (g : Addr → Option Obj) : He.AlD × Bool := (He.obsD fa fn (He.frG g (asS g n)), ex (He.frG g (asS g n)))
def hookS (n : Nat) (fa : List He.Fa) (fn : List He.DefD) (ex : PySem.W.Frag → Bool) : PySem.W.Hook where
  α := He.AlD × Bool
  obs := fun s => obsS n fa fn ex s.heap.get?
  val := fun _ => (He.valD fn, true)
  says := fun _ h => ∃ K : PySem.W.Frag, K.In h ∧ He.SaysD fa fn K ∧ ex K = true
  of := fun _ _ e => ⟨_, He.frG_in, congrArg Prod.fst e, congrArg Prod.snd e⟩
  keeps := fun _ _ _ ⟨K, hK, c⟩ k => ⟨K, PySem.W.Frag.In.keeps hK k, c⟩
theorem obsS_eq {n : Nat} {fa : List He.Fa} {fn : List He.DefD} {ex : PySem.W.Frag → Bool} {g : Addr → Option Obj} {s : Shared} (h : ∀ a, g a = s.heap.get? a) : obsS n fa fn ex g = (hookS n fa fn ex).obs s := by
  have e : g = s.heap.get? := funext h
  rw [e] <;> rfl
end DL

set_option Elab.async false
set_option linter.all false
set_option maxRecDepth 100000
set_option autoImplicit false
namespace DL
open PySem L2
/-! ### equality of plain data, by its shape -/
mutual
def plD : Nat → D → Bool
  | _, .non => true
  | _, .bl _ => true
  | _, .int _ => true
  | _, .str x => PyData.strOk x
  | n + 1, .lst xs => plDs n xs
  | n + 1, .tup xs => plDs n xs
  | _, _ => false
def plDs : Nat → List D → Bool
  | _, [] => true
  | n, x :: xs => plD n x && plDs n xs
end
mutual
def eqT : D → D → Bool
  | .non, .non => true
  | .bl a, .bl b => a == b
  | .bl a, .int j => (if a then 1 else 0) == j
  | .int i, .bl b => i == (if b then 1 else 0)
  | .int i, .int j => i == j
  | .str x, .str y => x == y
  | .lst xs, .lst ys => eqTs xs ys
  | .tup xs, .tup ys => eqTs xs ys
  | _, _ => false
def eqTs : List D → List D → Bool
  | [], [] => true
  | x :: xs, y :: ys => eqT x y && eqTs xs ys
  | _, _ => false
end
mutual
theorem plD_py : ∀ (n : Nat) (d : D), plD n d = true → ∃ p, toPy d = some p ∧ p.canLay0 = true ∧ p.depth ≤ n
  | n, .non, _ => ⟨.none, rfl, rfl, by simp [PyData.depth]⟩
  | n, .bl b, _ => ⟨.bool b, rfl, rfl, by simp [PyData.depth]⟩
  | n, .int b, _ => ⟨.int b, rfl, rfl, by simp [PyData.depth]⟩
  | n, .str b, h => ⟨.str b, rfl, by simpa [PyData.canLay0, plD] using h, by simp [PyData.depth]⟩
  | n + 1, .lst xs, h => by
    obtain ⟨ps, h1, h2, h3⟩ := plDs_py n xs (by simpa [plD] using h)
    exact ⟨.list ps, by simp [toPy, h1], by simpa [PyData.canLay0] using h2, by simp [PyData.depth]; omega⟩
  | n + 1, .tup xs, h => by
    obtain ⟨ps, h1, h2, h3⟩ := plDs_py n xs (by simpa [plD] using h)
    exact ⟨.tuple ps, by simp [toPy, h1], by simpa [PyData.canLay0] using h2, by simp [PyData.depth]; omega⟩
  | 0, .lst _, h => by simp [plD] at h
  | 0, .tup _, h => by simp [plD] at h
  | _, .byt _, h => by simp [plD] at h
  | _, .ty _, h => by simp [plD] at h
  | _, .ref _, h => by simp [plD] at h
  | _, .dK _ _, h => by simp [plD] at h
  | _, .dT _ _, h => by simp [plD] at h
  | _, .obj _ _ _, h => by simp [plD] at h
  | _, .cls _, h => by simp [plD] at h
  | _, .exc _ _ _ _ _, h => by simp [plD] at h
  | _, .xob _ _ _, h => by simp [plD] at h
  | _, .thk _ _ _ _ _, h => by simp [plD] at h
theorem plDs_py : ∀ (n : Nat) (ds : List D), plDs n ds = true → ∃ ps, toPys ds = some ps ∧ PyData.canLayAll0 ps = true ∧ PyData.depthAll ps ≤ n
  | n, [], _ => ⟨[], rfl, rfl, by simp [PyData.depthAll]⟩
  | n, x :: xs, h => by
    simp only [plDs, Bool.and_eq_true] at h
    obtain ⟨p, h1, h2, h3⟩ := plD_py n x h.1
    obtain ⟨ps, k1, k2, k3⟩ := plDs_py n xs h.2
    exact ⟨p :: ps, by simp [toPys, h1, k1], by simp [PyData.canLayAll0, h2, k2], by simp [PyData.depthAll]; omega⟩
end
theorem toPy_inv {d : D} {p : PyData} (h : toPy d = some p) : (d = .non ∧ p = .none) ∨ (∃ b, d = .bl b ∧ p = .bool b) ∨ (∃ i, d = .int i ∧ p = .int i) ∨ (∃ x, d = .str x ∧ p = .str x) ∨ (∃ xs ps, d = .lst xs ∧ p = .list ps ∧ toPys xs = some ps) ∨ (∃ xs ps, d = .tup xs ∧ p = .tuple ps ∧ toPys xs = some ps) := by
  cases d with
  | non => simp only [toPy] at h; cases h; exact .inl ⟨rfl, rfl⟩
  | bl b => simp only [toPy] at h; cases h; exact .inr (.inl ⟨b, rfl, rfl⟩)
  | int b => simp only [toPy] at h; cases h; exact .inr (.inr (.inl ⟨b, rfl, rfl⟩))
  | str b => simp only [toPy] at h; cases h; exact .inr (.inr (.inr (.inl ⟨b, rfl, rfl⟩)))
  | lst xs =>
    simp only [toPy] at h
    obtain ⟨ps, h1, rfl⟩ := Option.map_eq_some_iff.mp h
    exact .inr (.inr (.inr (.inr (.inl ⟨xs, ps, rfl, rfl, h1⟩))))
  | tup xs =>
    simp only [toPy] at h
    obtain ⟨ps, h1, rfl⟩ := Option.map_eq_some_iff.mp h
    exact .inr (.inr (.inr (.inr (.inr ⟨xs, ps, rfl, rfl, h1⟩))))
  | _ => simp only [toPy] at h; cases h
theorem toPys_cons {x : D} {xs : List D} {ps : List PyData} (h : toPys (x :: xs) = some ps) : ∃ p qs, ps = p :: qs ∧ toPy x = some p ∧ toPys xs = some qs := by
  simp only [toPys] at h
  cases e1 : toPy x with
  | none => rw [e1] at h; cases h
  | some p =>
    cases e2 : toPys xs with
    | none => rw [e1, e2] at h; cases h
    | some qs => rw [e1, e2] at h; cases h; exact ⟨p, qs, rfl, rfl, rfl⟩
mutual
theorem eqv_T : ∀ (d e : D) (p q : PyData), toPy d = some p → toPy e = some q → PyData.eqv p q = eqT d e
  | .non, e, p, q, h, k => by
    simp only [toPy] at h; cases h
    rcases toPy_inv k with ⟨rfl, rfl⟩ | ⟨b, rfl, rfl⟩ | ⟨b, rfl, rfl⟩ | ⟨b, rfl, rfl⟩ | ⟨xs, ps, rfl, rfl, _⟩ | ⟨xs, ps, rfl, rfl, _⟩ <;> rfl
  | .bl a, e, p, q, h, k => by
    simp only [toPy] at h; cases h
    rcases toPy_inv k with ⟨rfl, rfl⟩ | ⟨b, rfl, rfl⟩ | ⟨b, rfl, rfl⟩ | ⟨b, rfl, rfl⟩ | ⟨xs, ps, rfl, rfl, _⟩ | ⟨xs, ps, rfl, rfl, _⟩ <;> rfl
  | .int a, e, p, q, h, k => by
    simp only [toPy] at h; cases h
    rcases toPy_inv k with ⟨rfl, rfl⟩ | ⟨b, rfl, rfl⟩ | ⟨b, rfl, rfl⟩ | ⟨b, rfl, rfl⟩ | ⟨xs, ps, rfl, rfl, _⟩ | ⟨xs, ps, rfl, rfl, _⟩ <;> rfl
  | .str a, e, p, q, h, k => by
    simp only [toPy] at h; cases h
    rcases toPy_inv k with ⟨rfl, rfl⟩ | ⟨b, rfl, rfl⟩ | ⟨b, rfl, rfl⟩ | ⟨b, rfl, rfl⟩ | ⟨xs, ps, rfl, rfl, _⟩ | ⟨xs, ps, rfl, rfl, _⟩ <;> rfl
  | .lst xs, e, p, q, h, k => by
    simp only [toPy] at h
    obtain ⟨ps, h1, rfl⟩ := Option.map_eq_some_iff.mp h
    rcases toPy_inv k with ⟨rfl, rfl⟩ | ⟨b, rfl, rfl⟩ | ⟨b, rfl, rfl⟩ | ⟨b, rfl, rfl⟩ | ⟨ys, qs, rfl, rfl, k1⟩ | ⟨ys, qs, rfl, rfl, k1⟩
    · rfl
    · rfl
    · rfl
    · rfl
    · simp only [PyData.eqv, eqT]
      exact eqvs_T xs ys ps qs h1 k1
    · rfl
  | .tup xs, e, p, q, h, k => by
    simp only [toPy] at h
    obtain ⟨ps, h1, rfl⟩ := Option.map_eq_some_iff.mp h
    rcases toPy_inv k with ⟨rfl, rfl⟩ | ⟨b, rfl, rfl⟩ | ⟨b, rfl, rfl⟩ | ⟨b, rfl, rfl⟩ | ⟨ys, qs, rfl, rfl, k1⟩ | ⟨ys, qs, rfl, rfl, k1⟩
    · rfl
    · rfl
    · rfl
    · rfl
    · rfl
    · simp only [PyData.eqv, eqT]
      exact eqvs_T xs ys ps qs h1 k1
  | .byt _, _, _, _, h, _ => by simp only [toPy] at h; cases h
  | .ty _, _, _, _, h, _ => by simp only [toPy] at h; cases h
  | .ref _, _, _, _, h, _ => by simp only [toPy] at h; cases h
  | .dK _ _, _, _, _, h, _ => by simp only [toPy] at h; cases h
  | .dT _ _, _, _, _, h, _ => by simp only [toPy] at h; cases h
  | .obj _ _ _, _, _, _, h, _ => by simp only [toPy] at h; cases h
  | .cls _, _, _, _, h, _ => by simp only [toPy] at h; cases h
theorem eqvs_T : ∀ (ds es : List D) (ps qs : List PyData), toPys ds = some ps → toPys es = some qs → PyData.eqvAll ps qs = eqTs ds es
  | [], [], ps, qs, h, k => by simp only [toPys] at h k; cases h; cases k; simp only [PyData.eqvAll, eqTs]
  | [], e :: es, ps, qs, h, k => by
    obtain ⟨q, qs', rfl, _, _⟩ := toPys_cons k
    simp only [toPys] at h; cases h; simp only [PyData.eqvAll, eqTs]
  | d :: ds, [], ps, qs, h, k => by
    obtain ⟨q, qs', rfl, _, _⟩ := toPys_cons h
    simp only [toPys] at k; cases k; simp only [PyData.eqvAll, eqTs]
  | d :: ds, e :: es, ps, qs, h, k => by
    obtain ⟨p, ps', rfl, h1, h2⟩ := toPys_cons h
    obtain ⟨q, qs', rfl, k1, k2⟩ := toPys_cons k
    simp only [PyData.eqvAll, eqTs]
    rw [eqv_T d e p q h1 k1, eqvs_T ds es ps' qs' h2 k2]
end
/-- == of plain data -/
theorem eqP_pl {n m : Nat} {d e : D} (hd : plD n d = true) (he : plD m e = true) (hn : n ≤ 64 := by decide) (hm : m ≤ 64 := by decide) : eqP d e = some (eqT d e) := by
  obtain ⟨p, h1, h2, h3⟩ := plD_py n d hd
  obtain ⟨q, k1, k2, k3⟩ := plD_py m e he
  unfold eqP
  rw [h1, k1]
  have s1 : SeqAt.shaped p = true := by unfold SeqAt.shaped; rw [h2, decide_eq_true (by omega)]; rfl
  have s2 : SeqAt.shaped q = true := by unfold SeqAt.shaped; rw [k2, decide_eq_true (by omega)]; rfl
  simp only [s1, s2, Bool.and_self, if_true]
  rw [eqv_T d e p q h1 k1]
theorem eqD_lst' {n m : Nat} {xs ys : List D} (hd : plDs n xs = true) (he : plDs m ys = true) (hn : n < 64 := by decide) (hm : m < 64 := by decide) : eqD (.lst xs) (.lst ys) = some (.bl (eqTs xs ys)) := by
  show (eqP _ _).map D.bl = _
  rw [eqP_pl (n := n + 1) (m := m + 1) (by simpa [plD] using hd) (by simpa [plD] using he) hn hm]
  simp only [Option.map_some, eqT]
theorem neD_lst' {n m : Nat} {xs ys : List D} (hd : plDs n xs = true) (he : plDs m ys = true) (hn : n < 64 := by decide) (hm : m < 64 := by decide) : neD (.lst xs) (.lst ys) = some (.bl !(eqTs xs ys)) := by
  show (eqP _ _).map (fun b => D.bl !b) = _
  rw [eqP_pl (n := n + 1) (m := m + 1) (by simpa [plD] using hd) (by simpa [plD] using he) hn hm]
  simp only [Option.map_some, eqT]
theorem eqD_tup' {n m : Nat} {xs ys : List D} (hd : plDs n xs = true) (he : plDs m ys = true) (hn : n < 64 := by decide) (hm : m < 64 := by decide) : eqD (.tup xs) (.tup ys) = some (.bl (eqTs xs ys)) := by
  show (eqP _ _).map D.bl = _
  rw [eqP_pl (n := n + 1) (m := m + 1) (by simpa [plD] using hd) (by simpa [plD] using he) hn hm]
  simp only [Option.map_some, eqT]
theorem neD_tup' {n m : Nat} {xs ys : List D} (hd : plDs n xs = true) (he : plDs m ys = true) (hn : n < 64 := by decide) (hm : m < 64 := by decide) : neD (.tup xs) (.tup ys) = some (.bl !(eqTs xs ys)) := by
  show (eqP _ _).map (fun b => D.bl !b) = _
  rw [eqP_pl (n := n + 1) (m := m + 1) (by simpa [plD] using hd) (by simpa [plD] using he) hn hm]
  simp only [Option.map_some, eqT]
mutual
theorem eqT_refl : ∀ (n : Nat) (d : D), plD n d = true → eqT d d = true
  | _, .non, _ => by simp [eqT]
  | _, .bl _, _ => by simp [eqT]
  | _, .int _, _ => by simp [eqT]
  | _, .str _, _ => by simp [eqT]
  | n + 1, .lst xs, h => by simp only [eqT]; exact eqTs_refl n xs (by simpa [plD] using h)
  | n + 1, .tup xs, h => by simp only [eqT]; exact eqTs_refl n xs (by simpa [plD] using h)
  | 0, .lst _, h => by simp [plD] at h
  | 0, .tup _, h => by simp [plD] at h
  | _, .byt _, h => by simp [plD] at h
  | _, .ty _, h => by simp [plD] at h
  | _, .ref _, h => by simp [plD] at h
  | _, .dK _ _, h => by simp [plD] at h
  | _, .dT _ _, h => by simp [plD] at h
  | _, .obj _ _ _, h => by simp [plD] at h
  | _, .cls _, h => by simp [plD] at h
  | _, .exc _ _ _ _ _, h => by simp [plD] at h
  | _, .xob _ _ _, h => by simp [plD] at h
  | _, .thk _ _ _ _ _, h => by simp [plD] at h
theorem eqTs_refl : ∀ (n : Nat) (ds : List D), plDs n ds = true → eqTs ds ds = true
  | _, [], _ => by simp [eqTs]
  | n, d :: ds, h => by
    simp only [plDs, Bool.and_eq_true] at h
    simp only [eqTs, Bool.and_eq_true]
    exact ⟨eqT_refl n d h.1, eqTs_refl n ds h.2⟩
end
theorem plDs_all {n : Nat} : ∀ {ds : List D}, plDs n ds = true ↔ ∀ d ∈ ds, plD n d = true
  | [] => by simp [plDs]
  | d :: ds => by simp [plDs, plDs_all (ds := ds)]
@[simp] theorem plDs_nil {n : Nat} : plDs n [] = true := by simp [plDs]
theorem plDs_map {α : Type} {n : Nat} {f : α → D} {l : List α} (h : ∀ x ∈ l, plD n (f x) = true) : plDs n (l.map f) = true := plDs_all.mpr fun d hd => by
  obtain ⟨x, hx, rfl⟩ := List.mem_map.mp hd
  exact h x hx
@[simp] theorem eqTs_nilr {xs : List D} : eqTs xs [] = xs.isEmpty := by cases xs <;> simp [eqTs]
end DL

set_option Elab.async false
set_option linter.all false
set_option maxRecDepth 100000
set_option maxHeartbeats 1000000
namespace DL
open PySem L2

/-! ### written texts are told apart -/
theorem toNat_inj {a b : Char} (h : a.toNat = b.toNat) : a = b := by
  have : a.val = b.val := UInt32.toNat_inj.mp h
  exact Char.ext this
@[simp] theorem ofStr_inj (a b : String) : (Str.ofString a = Str.ofString b) = (a = b) := by
  refine propext ⟨fun h => ?_, fun h => by rw [h]⟩
  rw [Str.ofString_eq_toList, Str.ofString_eq_toList] at h
  have h2 : a.toList.map Char.toNat = b.toList.map Char.toNat := by simpa using h
  have h3 : a.toList = b.toList := List.map_inj_right (fun x y e => toNat_inj e) |>.mp h2
  exact String.toList_inj.mp h3
@[simp] theorem ofStr_beq (a b : String) : (Str.ofString a == Str.ofString b) = (a == b) := by
  by_cases h : a = b
  · subst h; simp
  · have h1 : ¬ (Str.ofString a = Str.ofString b) := by rw [ofStr_inj]; exact h
    rw [beq_false_of_ne h1, beq_false_of_ne h]
/-! ### one turn of a loop, what follows left alone -/
theorem forD_cons {γ : DTG} {t : DTS} {E : DEnds} {x : D} {xs : List D} {ρ : DL.Env} {M : Mem} (h : ∀ N : DL.Env → Mem → Prop, (∀ ρ' M', forD γ t xs E ρ' M' → N ρ' M') → γ x ρ M (fun ρ2 M2 => t { E with nx := N, ct := N, bk := E.nx } ρ2 M2) E.ex) : forD γ t (x :: xs) E ρ M :=
  h (forD γ t xs E) fun _ _ h => h
/-! ### a method's promise, found by the object -/
def methAt (tb : List (Nat × SpD)) (m : Str) (o : D) (M : Mem) (R : SpD → Prop) : Prop := ∃ c ns ds spd, vw M o = .obj c ns ds ∧ tb.lookup c = some spd ∧ m ∉ ns ∧ R spd
theorem dMeth_def (tb : List (Nat × SpD)) (m : Str) (τ : DTE) (α : DTA) : dMeth tb m τ α = fun ρ M Q X => τ ρ M (fun o M1 => methAt tb m o M1 fun spd => α ρ M1 (fun as M2 => spd (o :: as) M2 Q (fun c' ns es M3 => X c' ns es ρ M3)) X) X := rfl
theorem dMethK_def (tb : List (Nat × SpD)) (m : Str) (n : Nat) (ord : List Nat) (τ : DTE) (β : DTA) : dMethK tb m n ord τ β = fun ρ M Q X => τ ρ M (fun o M1 => methAt tb m o M1 fun spd => β ρ M1 (fun as M2 => as.length = n ∧ spd (pick ord (o :: as)) M2 Q (fun c' ns es M3 => X c' ns es ρ M3)) X) X := rfl
theorem methAt_obj {tb : List (Nat × SpD)} {m : Str} {M : Mem} {R : SpD → Prop} {c : Nat} {ns : List Str} {ds : List D} : methAt tb m (.obj c ns ds) M R ↔ ∃ spd, tb.lookup c = some spd ∧ m ∉ ns ∧ R spd := by
  constructor
  · rintro ⟨c', ns', ds', spd, h, h1, h2, h3⟩
    rw [vw_obj] at h
    cases h
    exact ⟨spd, h1, h2, h3⟩
  · rintro ⟨spd, h1, h2, h3⟩
    exact ⟨c, ns, ds, spd, rfl, h1, h2, h3⟩
theorem methAt_ref {tb : List (Nat × SpD)} {m : Str} {M : Mem} {R : SpD → Prop} {a : Addr} {c : Nat} {ns : List Str} {ds : List D} (h : M a = some (.obj c ns ds)) : methAt tb m (.ref a) M R ↔ ∃ spd, tb.lookup c = some spd ∧ m ∉ ns ∧ R spd := by
  have e : vw M (.ref a) = .obj c ns ds := vw_ref h
  constructor
  · rintro ⟨c', ns', ds', spd, h, h1, h2, h3⟩
    rw [e] at h
    cases h
    exact ⟨spd, h1, h2, h3⟩
  · rintro ⟨spd, h1, h2, h3⟩
    exact ⟨c, ns, ds, spd, e, h1, h2, h3⟩
theorem lookup_hit {α : Type} {c : Nat} {x y : α} {l : List (Nat × α)} : List.lookup c ((c, x) :: l) = some y ↔ x = y := by simp [List.lookup]
end DL

set_option Elab.async false
set_option linter.all false
set_option maxRecDepth 100000
set_option maxHeartbeats 1000000
set_option autoImplicit false
/-! what the laws about forests share: the source of draws, names, levels, ancestors. No program in sight. -/
namespace FL
open PySem L2 DL

/-! ### memory -/
def Keep (M M' : Mem) : Prop := ∀ b d, M b = some d → M' b = some d
theorem Keep.refl (M : Mem) : Keep M M := fun _ _ h => h
theorem Keep.trans {M M1 M2 : Mem} (h : Keep M M1) (k : Keep M1 M2) : Keep M M2 := fun b d e => k b d (h b d e)
theorem Keep.new {M : Mem} {a : Addr} {d : D} (h : M a = none) : Keep M (updM M a d) := fun b e q => by
  rw [updM_ne (fun z => by rw [z, h] at q; cases q)]; exact q
theorem Keep.upd {M M' : Mem} {a : Addr} {d : D} (k : Keep M M') (h : M a = none) : Keep M (updM M' a d) := fun b e q => by
  rw [updM_ne (fun z => by rw [z, h] at q; cases q)]; exact k b e q
theorem Keep.del {M M' : Mem} {a : Addr} (k : Keep M M') (h : M a = none) : Keep M (delM M' a) := fun b e q => by
  rw [delM_ne (fun z => by rw [z, h] at q; cases q)]; exact k b e q
theorem Keep.vw {M M' : Mem} (k : Keep M M') {d : D} (h : ∀ a, d = .ref a → (M a).isSome) : vw M' d = vw M d := by
  cases d with
  | ref a =>
    have := h a rfl
    cases e : M a with
    | none => rw [e] at this; cases this
    | some c => rw [vw_ref e, vw_ref (k a c e)]
  | _ => rfl

/-! ### the source of draws -/
/-- a source of draws stands at r, its counter is at most n -/
def Well (M : Mem) (r : Addr) (n : Nat) : Prop := ∃ a b c : Int, M r = some (.lst [.int a, .int b, .int c]) ∧ 0 ≤ b ∧ b < 2147483629 ∧ 0 ≤ c ∧ c ≤ n
/-- only the source at r has been turned; what is new may have come -/
structure WTo (M M' : Mem) (r : Addr) (n : Nat) : Prop where
  ok : Well M' r n
  keep : ∀ b d, b ≠ r → M b = some d → M' b = some d
theorem Well.mono {M : Mem} {r : Addr} {n m : Nat} (h : Well M r n) (l : n ≤ m) : Well M r m := by
  obtain ⟨a, b, c, h1, h2, h3, h4, h5⟩ := h
  exact ⟨a, b, c, h1, h2, h3, h4, by omega⟩
theorem Well.keep {M M' : Mem} {r : Addr} {n : Nat} (h : Well M r n) (k : Keep M M') : Well M' r n := by
  obtain ⟨a, b, c, h1, h2⟩ := h
  exact ⟨a, b, c, k _ _ h1, h2⟩
theorem Well.there {M : Mem} {r : Addr} {n : Nat} (h : Well M r n) : ∃ d, M r = some d := by
  obtain ⟨a, b, c, h1, _⟩ := h
  exact ⟨_, h1⟩
theorem Well.ne {M : Mem} {r a : Addr} {n : Nat} (h : Well M r n) (e : M a = none) : r ≠ a := fun z => by
  obtain ⟨d, q⟩ := h.there
  rw [z, e] at q
  cases q
theorem WTo.refl {M : Mem} {r : Addr} {n : Nat} (h : Well M r n) : WTo M M r n := ⟨h, fun _ _ _ q => q⟩
theorem WTo.trans {M M1 M2 : Mem} {r : Addr} {n m : Nat} (h : WTo M M1 r n) (k : WTo M1 M2 r m) : WTo M M2 r m := ⟨k.ok, fun b d hb q => k.keep b d hb (h.keep b d hb q)⟩
theorem WTo.mono {M M1 : Mem} {r : Addr} {n m : Nat} (h : WTo M M1 r n) (l : n ≤ m) : WTo M M1 r m := ⟨h.ok.mono l, h.keep⟩
theorem WTo.and {M M1 M2 : Mem} {r : Addr} {n : Nat} (h : WTo M M1 r n) (k : Keep M1 M2) : WTo M M2 r n := ⟨h.ok.keep k, fun b d hb q => k b d (h.keep b d hb q)⟩
theorem WTo.keep1 {M M1 : Mem} {r a : Addr} {n : Nat} {d : D} (h : WTo M M1 r n) (e : M a = some d) (hne : a ≠ r) : M1 a = some d := h.keep a d hne e
theorem WTo.put {M : Mem} {r : Addr} {n : Nat} {a b c : Int} (hb : 0 ≤ b) (hb2 : b < 2147483629) (hc : 0 ≤ c) (hn : c ≤ n) : WTo M (updM M r (.lst [.int a, .int b, .int c])) r n :=
  ⟨⟨a, b, c, updM_same, hb, hb2, hc, hn⟩, fun _ _ h q => by rw [updM_ne h]; exact q⟩
/-- a cell a, new since M, is written -/
theorem WTo.upd {M M1 : Mem} {r a : Addr} {n : Nat} {d : D} (h : WTo M M1 r n) (e : M a = none) (hne : a ≠ r) : WTo M (updM M1 a d) r n := by
  refine ⟨?_, fun b c hb q => ?_⟩
  · obtain ⟨x, y, z, h1, h2⟩ := h.ok
    exact ⟨x, y, z, by rw [updM_ne (Ne.symm hne)]; exact h1, h2⟩
  · rw [updM_ne (fun z => by rw [z, e] at q; cases q)]
    exact h.keep b c hb q
theorem WTo.del {M M1 : Mem} {r a : Addr} {n : Nat} (h : WTo M M1 r n) (e : M a = none) (hne : a ≠ r) : WTo M (delM M1 a) r n := by
  refine ⟨?_, fun b c hb q => ?_⟩
  · obtain ⟨x, y, z, h1, h2⟩ := h.ok
    exact ⟨x, y, z, by rw [delM_ne (Ne.symm hne)]; exact h1, h2⟩
  · rw [delM_ne (fun z => by rw [z, e] at q; cases q)]
    exact h.keep b c hb q

/-! ### names -/
def isL (c : Nat) : Bool := decide (97 ≤ c) && decide (c ≤ 122)
def isS (c : Nat) : Bool := isL c || (decide (48 ≤ c) && decide (c ≤ 57))
def S (cs : List Nat) : Str := ⟨cs.toArray⟩
@[simp] theorem S_inj {a b : List Nat} : S a = S b ↔ a = b := by
  constructor
  · intro h
    have := congrArg (fun x : Str => x.cps.toList) h
    simpa [S] using this
  · rintro rfl; rfl
/-- a name: a letter, then at most seven letters or digits -/
def NameOk (cs : List Nat) : Prop := ∃ c r, cs = c :: r ∧ r.length ≤ 7 ∧ isL c = true ∧ ∀ e ∈ r, isS e = true
theorem isL_lt {c : Nat} (h : isL c = true) : c < 1114112 := by simp [isL] at h; omega
theorem isS_lt {c : Nat} (h : isS c = true) : c < 1114112 := by simp [isS, isL] at h; omega
theorem isL_S {c : Nat} (h : isL c = true) : isS c = true := by simp [isS, h]
theorem NameOk.all {cs : List Nat} (h : NameOk cs) : ∀ c ∈ cs, isS c = true := by
  obtain ⟨c, r, rfl, _, h1, h2⟩ := h
  intro e he
  rcases List.mem_cons.mp he with rfl | he
  · exact isL_S h1
  · exact h2 e he
theorem NameOk.ok {cs : List Nat} (h : NameOk cs) (n : Nat) : plD n (.str (S cs)) = true := by
  simp [plD, PyData.strOk, S]
  intro c hc
  exact isS_lt (h.all c hc)
theorem NameOk.len {cs : List Nat} (h : NameOk cs) : 1 ≤ cs.length ∧ cs.length ≤ 8 := by
  obtain ⟨c, r, rfl, h1, _⟩ := h
  simp; omega

/-! ### texts by their signs -/
theorem S_append (a b : List Nat) : S a ++ S b = S (a ++ b) := by
  show Str.append (S a) (S b) = _
  unfold Str.append S
  simp
@[simp] theorem S_length (a : List Nat) : (S a).length = a.length := by simp [S, Str.length]
theorem S_of (z : Str) : z = S z.cps.toList := by cases z; simp [S]
theorem S_take (e : List Nat) (k : Nat) : cutS (S e) none (some (k : Int)) = S (e.take k) := by
  unfold cutS
  rw [HT.sIx_none, HT.sIx_nat]
  simp [S, Str.length]
theorem S_drop (e : List Nat) (k : Nat) : cutS (S e) (some (k : Int)) none = S (e.drop k) := by
  unfold cutS
  rw [HT.sIx_none, HT.sIx_nat]
  simp [S, Str.length]
  by_cases h : k ≤ e.length
  · rw [Nat.min_eq_left h, List.take_of_length_le (by simp)]
  · rw [Nat.min_eq_right (by omega), List.drop_length, List.drop_of_length_le (by omega)]; simp
theorem range_at {n : Nat} {f : Nat → D} {done rest : List D} {x : D} (h : (List.range n).map f = done ++ x :: rest) : done.length < n ∧ x = f done.length := by
  have h1 := congrArg List.length h
  simp at h1
  have h2 : done.length < n := by omega
  refine ⟨h2, ?_⟩
  have h3 := congrArg (fun l : List D => l[done.length]?) h
  simp [h2] at h3
  exact h3.symm
/-! the digits of small numbers -/
def dg (k : Nat) : List Nat := ((toString (k : Int) : String) : Str).cps.toList
theorem dg_ok : ∀ k : Fin 60, (∀ e ∈ dg k.val, 48 ≤ e ∧ e ≤ 57) ∧ (dg k.val).length ≤ 2 := by decide +kernel
theorem dg_inj : ∀ j k : Fin 60, dg j.val = dg k.val → j = k := by decide +kernel

/-! ### rows -/
structure Row where
  nm : List Nat
  va : Int
  lv : Int
def Row.d (r : Row) : D := .tup [.str (S r.nm), .int r.va, .int r.lv]
/-- levels go up by at most one -/
def LevOk (ls : List Int) : Prop := ∀ (i : Nat) (l : Int), ls[i]? = some l → 0 ≤ l ∧ (i = 0 → l = 0) ∧ ∀ k : Nat, i = k + 1 → ∃ m : Int, ls[k]? = some m ∧ l ≤ m + 1
structure RowsOk (rs : List Row) : Prop where
  len : rs.length ≤ 60
  names : ∀ r ∈ rs, NameOk r.nm
  vals : ∀ r ∈ rs, -(10 ^ 30) ≤ r.va ∧ r.va ≤ 10 ^ 30
  nd : (rs.map Row.nm).Nodup
  lev : LevOk (rs.map Row.lv)
theorem LevOk.snoc {ls : List Int} {l : Int} (h : LevOk ls) (h0 : 0 ≤ l) (h1 : ls = [] → l = 0) (h2 : ∀ m, ls.getLast? = some m → l ≤ m + 1) : LevOk (ls ++ [l]) := by
  intro i x hx
  by_cases hi : i < ls.length
  · rw [List.getElem?_append_left hi] at hx
    obtain ⟨a, b, c⟩ := h i x hx
    refine ⟨a, b, fun k hk => ?_⟩
    obtain ⟨m, hm, hl⟩ := c k hk
    exact ⟨m, by rw [List.getElem?_append_left (by omega)]; exact hm, hl⟩
  · rw [List.getElem?_append_right (by omega)] at hx
    have hi2 : i = ls.length := by
      have := (List.getElem?_eq_some_iff.mp hx).1
      simp at this
      omega
    subst hi2
    simp at hx
    subst hx
    refine ⟨h0, fun z => h1 (List.eq_nil_of_length_eq_zero z), fun k hk => ?_⟩
    have hk2 : k < ls.length := by omega
    refine ⟨ls[k], by rw [List.getElem?_append_left hk2]; simp [hk2], h2 _ ?_⟩
    rw [List.getLast?_eq_getElem?, hk]
    simp [hk2]

/-! ### the way up -/
/-- the places above, the nearest first: scan back from i, each lower than what was lowest -/
def anc (ls : List Int) : Nat → Int → List Nat
  | 0, _ => []
  | i + 1, lev => if ls.getD i 0 < lev then i :: anc ls i (ls.getD i 0) else anc ls i lev
def ancs (ls : List Int) (p : Nat) : List Nat := anc ls p (ls.getD p 0)
theorem anc_lt (ls : List Int) : ∀ (i : Nat) (lev : Int), ∀ j ∈ anc ls i lev, j < i
  | 0, _, j, h => by simp [anc] at h
  | i + 1, lev, j, h => by
    unfold anc at h
    split at h
    · rcases List.mem_cons.mp h with rfl | h
      · omega
      · have := anc_lt ls i _ j h; omega
    · have := anc_lt ls i _ j h; omega
theorem anc_step (ls : List Int) : ∀ (i : Nat) (lev : Int) (q : Nat) (r : List Nat), anc ls i lev = q :: r → r = ancs ls q
  | 0, _, q, r, h => by simp [anc] at h
  | i + 1, lev, q, r, h => by
    unfold anc at h
    split at h
    · cases h; rfl
    · exact anc_step ls i lev q r h
/-- the nearest above is the last one a level higher -/
theorem anc_head {ls : List Int} (L : LevOk ls) : ∀ (i : Nat) (lev : Int), i < ls.length → lev ≤ ls.getD i 0 → ((List.range i).filter fun k => ls.getD k 0 == lev - 1).getLast? = (anc ls i lev).head?
  | 0, _, _, _ => by simp [anc]
  | i + 1, lev, hi, hl => by
    have e1 : ls[i + 1]? = some (ls.getD (i + 1) 0) := by simp [List.getD, hi]
    obtain ⟨m, hm, hle⟩ := (L (i + 1) _ e1).2.2 i rfl
    have e2 : ls.getD i 0 = m := by simp [List.getD, hm]
    rw [List.range_succ, List.filter_append]
    unfold anc
    by_cases h : ls.getD i 0 < lev
    · rw [if_pos h]
      have e3 : ls.getD i 0 = lev - 1 := by omega
      have : ([i].filter fun k => ls.getD k 0 == lev - 1) = [i] := by
        rw [List.filter_cons_of_pos (by rw [e3]; exact beq_self_eq_true _)]; rfl
      rw [this]
      simp
    · rw [if_neg h]
      have : ([i].filter fun k => ls.getD k 0 == lev - 1) = [] := by
        have : ls.getD i 0 ≠ lev - 1 := by omega
        rw [List.filter_cons_of_neg (by simpa using this)]; rfl
      rw [this, List.append_nil]
      exact anc_head L i lev (by omega) (by omega)
/-- the whole line, the node first -/
def line (ls : List Int) (p : Nat) : List Nat := p :: ancs ls p
theorem line_le (ls : List Int) (p : Nat) : ∀ j ∈ line ls p, j ≤ p := by
  intro j hj
  rcases List.mem_cons.mp hj with rfl | h
  · omega
  · exact Nat.le_of_lt (anc_lt ls _ _ j h)
theorem line_cons {ls : List Int} {p q : Nat} {r : List Nat} (h : ancs ls p = q :: r) : line ls p = p :: line ls q := by
  unfold line
  rw [h, anc_step ls _ _ q r h]
theorem ancs_lt {ls : List Int} {p q : Nat} {r : List Nat} (h : ancs ls p = q :: r) : q < p := anc_lt ls p _ q (by unfold ancs at h; rw [h]; simp)
/-! ### where two lines meet -/
def meetL : Option Nat → List (Nat × Nat) → Option Nat
  | f, [] => f
  | f, (a, b) :: r => if a = b then meetL (some a) r else f
theorem meetL_snoc (a b : Nat) (h : a ≠ b) : ∀ (zs : List (Nat × Nat)) (f : Option Nat), meetL f (zs ++ [(a, b)]) = meetL f zs
  | [], f => by simp [meetL, h]
  | (x, y) :: zs, f => by
    simp only [List.cons_append, meetL]
    split
    · exact meetL_snoc a b h zs _
    · rfl
theorem meetL_self : ∀ (l : List Nat) (f : Option Nat), meetL f (l.zip l) = if l = [] then f else l.getLast?
  | [], f => by simp [meetL]
  | x :: l, f => by
    simp only [List.zip_cons_cons, meetL, if_true]
    rw [meetL_self l]
    cases l with
    | nil => simp
    | cons y l => simp [List.getLast?_cons_cons]
theorem zip_snoc_l {α β : Type} (xs : List α) (x : α) (ys : List β) : (xs ++ [x]).zip ys = xs.zip ys ++ (match ys[xs.length]? with | some y => [(x, y)] | none => []) := by
  induction xs generalizing ys with
  | nil => cases ys <;> simp
  | cons a xs ih =>
    cases ys with
    | nil => simp
    | cons b ys => simp [ih ys]
theorem zip_snoc_r {α β : Type} (xs : List α) (ys : List β) (y : β) : xs.zip (ys ++ [y]) = xs.zip ys ++ (match xs[ys.length]? with | some x => [(x, y)] | none => []) := by
  induction xs generalizing ys with
  | nil => cases ys <;> simp
  | cons a xs ih =>
    cases ys with
    | nil => simp
    | cons b ys => simp [ih ys]
theorem meet_eq (ls : List Int) : ∀ (n p q : Nat), p + q ≤ n → meetL none ((line ls p).reverse.zip (line ls q).reverse) = ((line ls p).filter fun x => decide (x ∈ line ls q)).head?
  | n, p, q, hn => by
    by_cases e : p = q
    · subst e
      rw [meetL_self]
      have : ((line ls p).filter fun x => decide (x ∈ line ls p)) = line ls p := List.filter_eq_self.mpr fun x hx => decide_eq_true hx
      rw [this]
      simp [line]
    · by_cases h : q < p
      · have hp : p ∉ line ls q := fun z => by have := line_le ls q p z; omega
        cases ha : ancs ls p with
        | nil =>
          have hl : line ls p = [p] := by unfold line; rw [ha]
          rw [hl]
          cases hz : (line ls q).reverse with
          | nil => simp [meetL, hp]
          | cons x r =>
            have hx : x ∈ line ls q := by
              have : x ∈ (line ls q).reverse := by rw [hz]; simp
              simpa using this
            have : p ≠ x := fun z => hp (z ▸ hx)
            simp [meetL, this, hp]
        | cons p' r =>
          have hl := line_cons ha
          have hlt := ancs_lt ha
          obtain ⟨n', rfl⟩ : ∃ n', n = n' + 1 := ⟨n - 1, by omega⟩
          rw [hl, List.reverse_cons, zip_snoc_l, List.filter_cons]
          simp only [decide_eq_false hp, Bool.false_eq_true, if_false]
          rw [← meet_eq ls n' p' q (by omega)]
          split
          · rename_i y hy
            refine meetL_snoc p y ?_ _ _
            have hy2 : y ∈ line ls q := by
              have := List.mem_of_getElem? hy
              simpa using this
            exact fun z => hp (z ▸ hy2)
          · rw [List.append_nil]
      · have hq : q ∉ line ls p := fun z => by have := line_le ls p q z; omega
        cases ha : ancs ls q with
        | nil =>
          have hl : line ls q = [q] := by unfold line; rw [ha]
          rw [hl]
          have hf : ((line ls p).filter fun x => decide (x ∈ [q])) = [] := List.filter_eq_nil_iff.mpr fun x hx => by
            have : x ≠ q := fun z => hq (z ▸ hx)
            simp [this]
          rw [hf]
          cases hz : (line ls p).reverse with
          | nil => simp [meetL]
          | cons x r =>
            have hx : x ∈ line ls p := by
              have : x ∈ (line ls p).reverse := by rw [hz]; simp
              simpa using this
            have : x ≠ q := fun z => hq (z ▸ hx)
            simp [meetL, this]
        | cons q' r =>
          have hl := line_cons ha
          have hlt := ancs_lt ha
          obtain ⟨n', rfl⟩ : ∃ n', n = n' + 1 := ⟨n - 1, by omega⟩
          rw [hl, List.reverse_cons, zip_snoc_r]
          have hf : ((line ls p).filter fun x => decide (x ∈ q :: line ls q')) = ((line ls p).filter fun x => decide (x ∈ line ls q')) := List.filter_congr fun x hx => by
            have : x ≠ q := fun z => hq (z ▸ hx)
            simp [this]
          rw [hf, ← meet_eq ls n' p q' (by omega)]
          split
          · rename_i y hy
            refine meetL_snoc y q ?_ _ _
            have hy2 : y ∈ line ls p := by
              have := List.mem_of_getElem? hy
              simpa using this
            exact fun z => hq (z ▸ hy2)
          · rw [List.append_nil]
end FL

set_option Elab.async false
set_option linter.all false
set_option maxRecDepth 100000
set_option maxHeartbeats 1000000
/-! small lemmas that the pure parts of the forest laws share -/
namespace FL
open PySem L2 DL
theorem fm_const {α β : Type} (d : β) : ∀ xs : List α, xs.filterMap (fun _ => some d) = List.replicate xs.length d
  | [] => rfl
  | x :: xs => by simp [fm_const d xs, List.replicate_succ]
theorem bls_rep (b : Bool) : ∀ n : Nat, blsOf (List.replicate n (D.bl b)) = some (List.replicate n b)
  | 0 => rfl
  | n + 1 => by simp [List.replicate_succ, blsOf, bls_rep b n]
theorem inStr_1 (c : Nat) (z : Str) : inStr ⟨#[c]⟩ z = decide (c ∈ z.cps.toList) := rfl
def strD (x : List Nat) : D := .str (S x)
theorem mem_made {x : List Nat} (ns : List (List Nat)) : ((ns.map strD).any fun y => eqFD y (.str (S x))) = decide (x ∈ ns) := by
  induction ns with
  | nil => simp
  | cons y ns ih =>
    simp only [List.map_cons, List.any_cons, ih, strD]
    by_cases e : y = x
    · subst e; simp
    · have : ¬ (S y = S x) := by simpa using e
      simp [this, e, Ne.symm e]
theorem strD_add (a b : List Nat) (h : a.length + b.length ≤ 16777216) : addD (strD a) (strD b) = some (strD (a ++ b)) := by
  unfold strD
  rw [addD_str (by simpa using h), S_append]
theorem lenF_strD {M : Mem} {x : List Nat} (h : x.length ≤ 16777216) : lenF [vw M (strD x)] = some (.int x.length) := by
  show lenF [D.str (S x)] = _
  simp [lenF, h]
theorem slD_take {M : Mem} {x : List Nat} {k : Nat} (h : x.length ≤ 16777216) : slD (vw M (strD x)) none (some (k : Int)) = some (strD (x.take k)) := by
  show slD (D.str (S x)) none (some (k : Int)) = _
  simp [slD, h, S_take, strD]
theorem slD_drop {M : Mem} {x : List Nat} {k : Nat} (h : x.length ≤ 16777216) : slD (vw M (strD x)) (some ((k : Int) + 1)) none = some (strD (x.drop (k + 1))) := by
  show slD (D.str (S x)) (some ((k : Int) + 1)) none = _
  have e : ((k : Int) + 1) = ((k + 1 : Nat) : Int) := by omega
  rw [e]
  simp only [slD]
  rw [if_pos (by simpa using h), S_drop]
  rfl
theorem atI_lastF {α : Type} (l : List α) (x : α) : atI (l ++ [x]) (-1) = some x := by
  unfold atI ixN
  have h : (1 : Int) ≤ l.length + 1 := by omega
  have h2 : (-1 + ((l.length : Int) + 1)).toNat = l.length := by omega
  simp [h, h2]
theorem take_snoc {α : Type} {l : List α} {k : Nat} (h : k < l.length) : l.take k ++ [l[k]] = l.take (k + 1) := by
  rw [List.take_succ, List.getElem?_eq_getElem h]; rfl
theorem atI_get' {α : Type} {l : List α} {k : Nat} {x : α} (h : l[k]? = some x) : atI l (k : Int) = some x := atI_nat h
/-! ### rows, forests as data -/
def SeqOf (d : D) (xs : List D) : Prop := d = .lst xs ∨ d = .tup xs
theorem SeqOf.vw {d : D} {xs : List D} (h : SeqOf d xs) (M : Mem) : vw M d = d := by rcases h with rfl | rfl <;> rfl
theorem SeqOf.ix {d : D} {xs : List D} (h : SeqOf d xs) (k : Int) : ixA d (.int k) = atI xs k := by rcases h with rfl | rfl <;> rfl
theorem SeqOf.it {d : D} {xs : List D} (h : SeqOf d xs) : itD d = some xs := by rcases h with rfl | rfl <;> rfl
theorem SeqOf.len {d : D} {xs : List D} (h : SeqOf d xs) : lenF [d] = some (.int xs.length) := by rcases h with rfl | rfl <;> rfl
theorem SeqOf.ty {d : D} {xs : List D} (h : SeqOf d xs) : ∃ n, tyName d = some n ∧ (n == "list" || n == "tuple") = true := by
  rcases h with rfl | rfl
  · exact ⟨"list", rfl, rfl⟩
  · exact ⟨"tuple", rfl, rfl⟩
theorem SeqOf.sl {d : D} {xs : List D} (h : SeqOf d xs) (lo hi : Option Int) : ∃ e, slD d lo hi = some e ∧ SeqOf e (cutD xs lo hi) := by
  rcases h with rfl | rfl
  · exact ⟨_, rfl, .inl rfl⟩
  · exact ⟨_, rfl, .inr rfl⟩
theorem SeqOf.tup {d : D} {xs : List D} (h : SeqOf d xs) : tupF [d] = some (.tup xs) := by rcases h with rfl | rfl <;> rfl
theorem sIx_nat (n d p : Nat) : HT.sIx n d (some (p : Int)) = min p n := by
  have h0 : ¬ ((p : Int) < 0) := by omega
  unfold HT.sIx
  simp [h0]
theorem cutD_to {xs : List D} {p : Nat} : cutD xs none (some (p : Int)) = xs.take p := by
  unfold cutD
  rw [sIx_nat]
  have e0 : HT.sIx xs.length 0 none = 0 := rfl
  rw [e0]
  simp only [List.drop_zero, Nat.sub_zero]
  by_cases h : p ≤ xs.length
  · rw [Nat.min_eq_left h]
  · rw [Nat.min_eq_right (by omega), List.take_of_length_le (Nat.le_refl _), List.take_of_length_le (by omega)]
theorem cutD_from {xs : List D} {p : Nat} : cutD xs (some (p : Int)) none = xs.drop p := by
  unfold cutD
  rw [sIx_nat]
  have e0 : HT.sIx xs.length xs.length none = xs.length := rfl
  rw [e0]
  by_cases h : p ≤ xs.length
  · rw [Nat.min_eq_left h]
    exact List.take_of_length_le (by simp)
  · rw [Nat.min_eq_right (by omega), List.drop_of_length_le (Nat.le_refl _), List.drop_of_length_le (by omega)]
    simp
theorem RowsOk.at {rs : List Row} (h : RowsOk rs) {p : Nat} {x : Row} (hx : rs[p]? = some x) :
    NameOk x.nm ∧ (-(10 ^ 30) ≤ x.va ∧ x.va ≤ 10 ^ 30) ∧ 0 ≤ x.lv ∧ (p = 0 → x.lv = 0) ∧ (∀ k : Nat, p = k + 1 → ∃ y, rs[k]? = some y ∧ x.lv ≤ y.lv + 1) ∧ ∀ y ∈ rs.take p, y.nm ≠ x.nm := by
  have hm : x ∈ rs := List.mem_of_getElem? hx
  have hl := h.lev p x.lv (by simp [hx])
  refine ⟨h.names x hm, h.vals x hm, hl.1, hl.2.1, fun k hk => ?_, fun y hy e => ?_⟩
  · obtain ⟨m, h1, h2⟩ := hl.2.2 k hk
    rw [List.getElem?_map] at h1
    cases e : rs[k]? with
    | none => rw [e] at h1; cases h1
    | some y => rw [e] at h1; cases h1; exact ⟨y, rfl, h2⟩
  · obtain ⟨j, hj, hjy⟩ := List.mem_take_iff_getElem.mp hy
    have hp := (List.getElem?_eq_some_iff.mp hx).1
    have e1 : (rs.map Row.nm)[j]? = (rs.map Row.nm)[p]? := by
      simp only [List.getElem?_map, hx]
      rw [List.getElem?_eq_getElem (by omega), hjy]
      simp [e]
    have := (List.getElem?_inj (by simp; omega) h.nd).mp e1
    omega
/-- the object of a forest with these rows -/
def spotsK (rs : List Row) : List Key := rs.map fun r => .inr (S r.nm)
def places (n : Nat) : List D := (List.range n).map fun (i : Nat) => D.int (i : Int)
def FD (rs : List Row) : D := .obj 0 ["rows", "order", "spots"] [.tup (rs.map Row.d), .tup (rs.map fun r => strD r.nm), .dK (spotsK rs) (places rs.length)]
@[simp] theorem vw_FD {M : Mem} {rs : List Row} : vw M (FD rs) = FD rs := rfl
@[simp] theorem vw_strD {M : Mem} {x : List Nat} : vw M (strD x) = strD x := rfl
@[simp] theorem methAt_FD {tb : List (Nat × SpD)} {m : Str} {M : Mem} {R : SpD → Prop} {rs : List Row} : methAt tb m (FD rs) M R ↔ ∃ spd, tb.lookup 0 = some spd ∧ m ∉ (["rows", "order", "spots"] : List Str) ∧ R spd := methAt_obj
theorem fld_rows {cs : List Nat} {rs : List Row} (h : 0 ∈ cs) : fldD cs "rows" (FD rs) = some (.tup (rs.map Row.d)) := by simp [fldD, FD, lookN, h]
theorem fld_order {cs : List Nat} {rs : List Row} (h : 0 ∈ cs) : fldD cs "order" (FD rs) = some (.tup (rs.map fun r => strD r.nm)) := by simp [fldD, FD, lookN, h]
theorem fld_spots {cs : List Nat} {rs : List Row} (h : 0 ∈ cs) : fldD cs "spots" (FD rs) = some (.dK (spotsK rs) (places rs.length)) := by simp [fldD, FD, lookN, h]

theorem dcD_fn {γ : DTG} {υ : DTT} {τk τv : DTE} {vs : List Nat} {a : Addr} {Q : DV} {ρ : DL.Env} {M : Mem} (kf vf : D → D) (kk : D → Key) (xs : List D) (hl : xs.length ≤ 16777216) (hM : M a = none) (hnd : (xs.map kk).Nodup) (hk : ∀ x ∈ xs, keyD (kf x) = some (kk x))
    (step : ∀ x ∈ xs, ∀ (M1 : Mem) (T : D → D → Mem → Prop) (N : Mem → Prop), (∀ b, b ≠ a → M1 b = M b) → T (kf x) (vf x) M1 → γ x (wipeD ρ vs) M1 (fun ρ2 M2 => υ ρ2 M2 (fun b M3 => if b = true then τk ρ2 M3 (fun kd M4 => τv ρ2 M4 (fun d M5 => T kd d M5) noX) noX else N M3) noX) noX)
    (q : Q (.dK (xs.map kk) (xs.map vf)) M) : dcD γ υ τk τv vs a xs ρ (updM M a (.dK [] [])) Q := by
  have go : ∀ (rest done : List D), xs = done ++ rest → dcD γ υ τk τv vs a rest ρ (updM M a (.dK (done.map kk) (done.map vf))) Q := by
    intro rest
    induction rest with
    | nil =>
      intro done e
      rw [List.append_nil] at e
      subst e
      exact ⟨_, _, updM_same, by rw [delM_updM hM]; exact q⟩
    | cons x rest ih =>
      intro done e
      have hx : x ∈ xs := by rw [e]; simp
      refine step x hx _ (fun kd d M5 => ∃ k ks ds, keyD kd = some k ∧ M5 a = some (.dK ks ds) ∧ ks.length < sizeLine ∧ dcD γ υ τk τv vs a rest ρ (updM M5 a (.dK (putKs k ks) (putVs k d ks ds))) Q) (fun M3 => dcD γ υ τk τv vs a rest ρ M3 Q) (fun b hb => updM_ne hb) ?_
      have hn : (List.map kk done).any (fun j => decide (j = kk x)) = false := by
        rw [e, List.map_append, List.map_cons] at hnd
        have := (List.nodup_append.mp hnd).2.2
        rw [Bool.eq_false_iff]
        intro z
        obtain ⟨j, hj, hj2⟩ := List.any_eq_true.mp z
        exact this j hj (kk x) (by simp) (of_decide_eq_true hj2)
      refine ⟨kk x, _, _, hk x hx, updM_same, ?_, ?_⟩
      · have h2 := congrArg List.length e
        rw [List.length_append, List.length_cons] at h2
        rw [List.length_map, sizeLine_eq]
        omega
      · rw [updM_updM]
        unfold putKs putVs
        rw [hn]
        have := ih (done ++ [x]) (by rw [e]; simp)
        simpa using this
  exact go xs [] rfl
def nmAt (rs : List Row) (i : Nat) : D := strD ((rs.map Row.nm).getD i [])
@[simp] theorem vw_nmAt {M : Mem} {rs : List Row} {i : Nat} : vw M (nmAt rs i) = nmAt rs i := rfl
def lvs (rs : List Row) : List Int := rs.map Row.lv
theorem nmAt_of {rs : List Row} {p : Nat} {x : Row} (h : rs[p]? = some x) : nmAt rs p = strD x.nm := by
  unfold nmAt
  simp [List.getD, h]
theorem lvs_of {rs : List Row} {p : Nat} {x : Row} (h : rs[p]? = some x) : (lvs rs).getD p 0 = x.lv := by
  unfold lvs
  simp [List.getD, h]
theorem row_at {rs : List Row} {p : Nat} (h : p < rs.length) : ∃ x, rs[p]? = some x := ⟨rs[p], by simp [h]⟩
theorem nm_inj {rs : List Row} (h : RowsOk rs) {i j : Nat} (hi : i < rs.length) (hj : j < rs.length) : nmAt rs i = nmAt rs j ↔ i = j := by
  constructor
  · intro e
    unfold nmAt strD at e
    have e2 : (rs.map Row.nm).getD i [] = (rs.map Row.nm).getD j [] := by simpa using e
    have e3 : (rs.map Row.nm)[i]? = (rs.map Row.nm)[j]? := by
      simp only [List.getD, List.getElem?_map, List.getElem?_eq_getElem hi, List.getElem?_eq_getElem hj, Option.map_some, Option.getD_some] at e2 ⊢
      rw [e2]
    exact (List.getElem?_inj (by simpa using hi) h.nd).mp e3
  · rintro rfl; rfl
theorem eqF_nm {rs : List Row} (h : RowsOk rs) {i j : Nat} (hi : i < rs.length) (hj : j < rs.length) : eqFD (nmAt rs i) (nmAt rs j) = decide (i = j) := by
  by_cases e : i = j
  · subst e; simp [nmAt, strD]
  · have : nmAt rs i ≠ nmAt rs j := fun z => e ((nm_inj h hi hj).mp z)
    unfold nmAt strD at this ⊢
    have h2 : ¬ ((rs.map Row.nm).getD i [] = (rs.map Row.nm).getD j []) := fun z => this (by rw [z])
    simp only [eqFD]
    rw [decide_eq_false e]
    simpa using h2
theorem ne_nm {rs : List Row} (h : RowsOk rs) {i j : Nat} (hi : i < rs.length) (hj : j < rs.length) : neD (nmAt rs i) (nmAt rs j) = some (.bl (!decide (i = j))) := by
  rw [← eqF_nm h hi hj]
  rfl
theorem spotsK_nd {rs : List Row} (h : RowsOk rs) : (spotsK rs).Nodup := by
  unfold spotsK
  have e := h.nd
  rw [show (rs.map fun r => (Sum.inr (S r.nm) : Key)) = (rs.map Row.nm).map (fun z => (Sum.inr (S z) : Key)) by simp]
  exact List.Pairwise.map _ (fun a b (hab : a ≠ b) z => hab (by simpa using z)) e
/-- the place of a name in the dict of places -/
theorem spot_at {rs : List Row} (h : RowsOk rs) {p : Nat} (hp : p < rs.length) : ixA (.dK (spotsK rs) (places rs.length)) (nmAt rs p) = some (.int p) := by
  have key : ∀ (n : Nat) (ks : List Key) (o p : Nat), ks.Nodup → p < ks.length → atK (ks.getD p (.inl 0)) ks ((List.range' o ks.length).map fun (i : Nat) => D.int (i : Int)) = some (.int ((o + p : Nat) : Int)) := by
    intro n ks
    induction ks with
    | nil => intro o p _ hp; simp at hp
    | cons k ks ih =>
      intro o p nd hp
      rw [List.length_cons, List.range'_succ, List.map_cons]
      unfold atK
      cases p with
      | zero => simp
      | succ p =>
        have nd2 := List.nodup_cons.mp nd
        have hp2 : p < ks.length := by simpa using hp
        have hm : ks.getD p (.inl 0) ∈ ks := by simp [List.getD, hp2]
        have hne : k ≠ ks.getD p (.inl 0) := fun z => nd2.1 (z ▸ hm)
        have e : (k :: ks).getD (p + 1) (.inl 0) = ks.getD p (.inl 0) := by simp [List.getD]
        rw [e, if_neg hne, ih (o + 1) p nd2.2 hp2]
        congr 3
        omega
  obtain ⟨x, hx⟩ := row_at hp
  have hn := spotsK_nd h
  have hl : (spotsK rs).length = rs.length := by simp [spotsK]
  have e1 := key 0 (spotsK rs) 0 p hn (by omega)
  have e2 : (spotsK rs).getD p (.inl 0) = .inr (S x.nm) := by simp [spotsK, List.getD, hx]
  rw [e2, hl, ← List.range_eq_range'] at e1
  rw [nmAt_of hx, strD, ixA_dK, keyD_str, Option.bind_some]
  simpa [places] using e1
theorem spot_in {rs : List Row} {p : Nat} (hp : p < rs.length) : inD (nmAt rs p) (.dK (spotsK rs) (places rs.length)) = some (.bl true) := by
  obtain ⟨x, hx⟩ := row_at hp
  rw [nmAt_of hx]
  have e : (spotsK rs).any (fun j => decide (j = Sum.inr (S x.nm))) = true := List.any_eq_true.mpr ⟨.inr (S x.nm), List.mem_map.mpr ⟨x, List.mem_of_getElem? hx, rfl⟩, by simp⟩
  rw [strD, inD_def, inB_dK, keyD_str, Option.map_some, e]
  rfl
theorem anc_bound {ls : List Int} {i : Nat} {lev : Int} {j n : Nat} (h : j ∈ anc ls i lev) (hi : i ≤ n) : j < n := Nat.lt_of_lt_of_le (anc_lt ls i lev j h) hi
theorem anc_len (ls : List Int) : ∀ (i : Nat) (lev : Int), (anc ls i lev).length ≤ i
  | 0, _ => by simp [anc]
  | i + 1, lev => by
    unfold anc
    split
    · have := anc_len ls i (ls.getD i 0); simp; exact this
    · have := anc_len ls i lev; omega
theorem ancs_len (ls : List Int) (p : Nat) : (ancs ls p).length ≤ p := anc_len ls p _
theorem heads_nm (rs : List Row) : (rs.map Row.d).filterMap (fun y => ixD y (.int 0)) = rs.map fun r => strD r.nm := by
  rw [List.filterMap_map, show ((fun y => ixD y (.int 0)) ∘ Row.d) = (fun r => some (strD r.nm)) by funext r; simp [Row.d, strD]]
  exact congrFun List.filterMap_eq_map rs
theorem enum_rows (rs : List Row) : ((rs.map Row.d).zipIdx.map fun p => D.tup [.int (p.2 : Nat), p.1]) = rs.zipIdx.map fun p => D.tup [.int (p.2 : Nat), Row.d p.1] := by
  refine List.ext_getElem (by simp) fun i h1 h2 => ?_
  simp
def eKey : D → Key
  | .tup [_, .tup (.str n :: _)] => .inr n
  | _ => .inl 0
def eKd : D → D
  | .tup [_, .tup (n :: _)] => n
  | _ => .non
def eVal : D → D
  | .tup (i :: _) => i
  | _ => .non
theorem enum_keys (rs : List Row) : (rs.zipIdx.map fun p => D.tup [.int (p.2 : Nat), Row.d p.1]).map eKey = spotsK rs := by
  refine List.ext_getElem (by simp [spotsK]) fun i h1 h2 => ?_
  simp [spotsK, Row.d, eKey]
theorem enum_places (rs : List Row) : (rs.zipIdx.map fun p => D.tup [.int (p.2 : Nat), Row.d p.1]).map eVal = places rs.length := by
  refine List.ext_getElem (by simp [places]) fun i h1 h2 => ?_
  simp [places, eVal]
/-- earlier names are others -/
theorem not_earlier {rs : List Row} {x : Row} (h : ∀ y ∈ rs, y.nm ≠ x.nm) : inD (.str (S x.nm)) (.lst (rs.map fun r => strD r.nm)) = some (.bl false) := by
  have e4 : (rs.map fun r => strD r.nm).any (fun y => eqFD y (.str (S x.nm))) = false := by
    rw [Bool.eq_false_iff]
    intro z
    obtain ⟨y, hy, hy2⟩ := List.any_eq_true.mp z
    obtain ⟨r, hr, rfl⟩ := List.mem_map.mp hy
    have : ¬ (r.nm = x.nm) := h r hr
    simp [strD, this] at hy2
  have e5 : (rs.map fun r => strD r.nm).all flatD = true := List.all_eq_true.mpr fun y hy => by obtain ⟨r, _, rfl⟩ := List.mem_map.mp hy; rfl
  rw [inD_def, inB_lst, e5, e4]
  rfl
theorem any_nm {rs : List Row} (h : RowsOk rs) {p : Nat} (hp : p < rs.length) (l : List Nat) (hl : ∀ j ∈ l, j < rs.length) : ((l.map (nmAt rs)).any fun y => eqFD y (nmAt rs p)) = decide (p ∈ l) := by
  induction l with
  | nil => simp
  | cons j l ih =>
    rw [List.map_cons, List.any_cons, ih (fun k hk => hl k (by simp [hk])), eqF_nm h (hl j (by simp)) hp]
    by_cases e : j = p
    · subst e; simp
    · simp [e, Ne.symm e]
theorem in_nm {rs : List Row} (h : RowsOk rs) {p : Nat} (hp : p < rs.length) (l : List Nat) (hl : ∀ j ∈ l, j < rs.length) : inD (nmAt rs p) (.lst (l.map (nmAt rs))) = some (.bl (decide (p ∈ l))) := by
  have f1 : flatD (nmAt rs p) = true := rfl
  have f2 : (l.map (nmAt rs)).all flatD = true := by simp [nmAt, strD]
  rw [inD_def, inB_lst, f1, f2, any_nm h hp l hl]
  rfl
def optNm (rs : List Row) : Option Nat → D
  | some i => nmAt rs i
  | none => .non
def optI : Option Nat → D
  | some i => .int (i : Int)
  | none => .non
@[simp] theorem optI_some (i : Nat) : optI (some i) = .int (i : Int) := rfl
@[simp] theorem optI_none : optI none = .non := rfl
def intD (i : Nat) : D := .int (i : Int)
/-- the places of the parents -/
def parD (ls : List Int) : List D := (List.range ls.length).map fun i => optI (ancs ls i).head?
theorem line_len (ls : List Int) (p : Nat) : (line ls p).length ≤ p + 1 := by
  have := anc_len ls p (ls.getD p 0)
  simp only [line, ancs, List.length_cons]
  omega
theorem line_next {ls : List Int} : ∀ (k p : Nat) (j : Nat), (line ls p)[k]? = some j → (line ls p)[k + 1]? = (ancs ls j).head?
  | 0, p, j, h => by
    simp [line] at h
    subst h
    simp [line, List.head?_eq_getElem?]
  | k + 1, p, j, h => by
    cases ha : ancs ls p with
    | nil => simp [line, ha] at h
    | cons q r =>
      rw [line_cons ha] at h ⊢
      rw [List.getElem?_cons_succ] at h ⊢
      exact line_next k q j h
def upTo (ls : List Int) (l : Int) : D → Option D
  | .int i => if ls.getD i.toNat 0 == l then some (.int i) else none
  | _ => none
theorem upTo_int (ls : List Int) (l : Int) (i : Nat) : upTo ls l (.int (i : Int)) = if ls.getD i 0 = l then some (.int (i : Int)) else none := by
  simp [upTo]
theorem upTo_map (ls : List Int) (l : Int) (n : Nat) : ((List.range n).map fun (i : Nat) => D.int (i : Int)).filterMap (upTo ls l) = ((List.range n).filter fun k => ls.getD k 0 == l).map intD := by
  generalize List.range n = xs
  induction xs with
  | nil => rfl
  | cons x xs ih =>
    rw [List.map_cons, List.filterMap_cons, upTo_int, ih, List.filter_cons]
    by_cases c : ls.getD x 0 = l
    · rw [if_pos c]
      simp only [beq_iff_eq.mpr c, if_true, List.map_cons]
      rfl
    · rw [if_neg c]
      simp only [beq_false_of_ne c, Bool.false_eq_true, if_false]
def keepIn (l : List Nat) : D → Option D
  | .int i => if i.toNat ∈ l then some (.int i) else none
  | _ => none
theorem keepIn_int (l : List Nat) (i : Nat) : keepIn l (intD i) = if i ∈ l then some (intD i) else none := by
  simp [keepIn, intD]
theorem keepIn_map (l : List Nat) (xs : List Nat) : (xs.map intD).filterMap (keepIn l) = (xs.filter fun x => decide (x ∈ l)).map intD := by
  induction xs with
  | nil => rfl
  | cons x xs ih =>
    rw [List.map_cons, List.filterMap_cons, keepIn_int, ih, List.filter_cons]
    by_cases c : x ∈ l <;> simp [c]
theorem meetL_comm : ∀ (xs ys : List Nat) (f : Option Nat), meetL f (xs.zip ys) = meetL f (ys.zip xs)
  | [], ys, f => by cases ys <;> rfl
  | x :: xs, [], f => rfl
  | x :: xs, y :: ys, f => by
    simp only [List.zip_cons_cons, meetL]
    by_cases e : x = y
    · subst e; simp only [if_true]; exact meetL_comm xs ys _
    · rw [if_neg e, if_neg (Ne.symm e)]
@[simp] theorem vw_optNm {M : Mem} {rs : List Row} {o : Option Nat} : vw M (optNm rs o) = optNm rs o := by cases o <;> rfl
theorem Row_pl {x : Row} (h : NameOk x.nm) : plD 1 (Row.d x) = true := by
  simp [Row.d, plD, plDs]
  exact h.ok 0
end FL

set_option Elab.async false
set_option linter.all false
set_option maxRecDepth 100000
set_option maxHeartbeats 4000000
set_option autoImplicit false
namespace DL
open PySem L2

/-! ### a def called from inside a built-in -/
section
variable {cl : ClW} {X : Cx} {W : WX} {k : Nat} {f : Addr} {fd : FuncData} {ps : List Str} {spd : SpD}
theorem env_at {pins : List (Addr × Obj)} {σ : St} {H : Hp} {s : Shared} {A : Around} (I : Inv X pins σ H s) (hfr : A.frames = X.A.frames) : Env0 X.prog X.w X.K X.mg X.base A X.stack s H := by
  have e := I.env0
  exact ⟨by rw [hfr]; exact e.frames, e.mod, e.bs, e.bsz, e.funs, e.frf, e.hok, e.bare⟩
theorem run_gA {A : Around} {pins : List (Addr × Obj)} {σ : St} {H : Hp} {s : Shared} {Q : VK} {us : List Value} {vs : List V} (tk : Takes X W) (hr : RoomG k A) (hfr : A.frames = X.A.frames) (G : FnG cl X.prog X.w X.K X.mg X.base k f fd ps spd) (hb : Binds X.K fd ps [])
    (I : Inv X pins σ H s) (r : Vals vs us) (h : lower X.K cl spd vs H Q (WE W σ)) : wpAny (model X.prog X.w) A (call (.ref f) us) (EP X pins σ Q) X.xe s := by
  have hl : us.length = ps.length := by rw [← Paired.length r]; exact G.lenV h
  have hbb : BindsTo s fd ⟨us, []⟩ (ps.zip us) := by
    have := hb s us I.kIn (by simpa using hl)
    simpa using this
  refine wpAny_call (codeAny_mono (G.run A X.stack s H ⟨us, []⟩ us vs Q _ hr (env_at I hfr) hbb r h) fun r s' hq => ?_)
  cases r with
  | error e => exact passAt tk σ pins H s e s' I hq
  | ok fl =>
    cases fl with
    | ret u => exact I.after hq
    | next => exact False.elim hq
    | brk => exact False.elim hq
    | cont => exact False.elim hq
end

/-! ### operations with all that stands around -/
abbrev DB2 := D → D → DL.Env → Mem → DV → DX → Prop
def BinG (cl : ClW) (X : Cx) (W : WX) (op : Value → Value → Sem Value) (φ : DB2) : Prop :=
  ∀ (pins : List (Addr × Obj)) (s : Shared) (σ : St) (H F : Hp) (ρ : DL.Env) (M : Mem) (v u : Value) (x y : V) (d e : D) (Q : VK) (Qd : DV) (Xd : DX), Inv X pins σ H s → RelV x v → RelV y u → Good X.K cl F H M → Slots X.K cl F σ ρ → Rep X.K cl F x d → Rep X.K cl F y e →
    φ d e ρ M Qd Xd → Post X.K cl F Q Qd → WOk X.K cl W F Xd → wpAny (model X.prog X.w) X.A (op v u) (EP X pins σ Q) X.xe s
@[simp] def dBin (φ : DB2) (τa τb : DTE) : DTE := fun ρ M Q X => τa ρ M (fun d M1 => τb ρ M1 (fun e M2 => φ d e ρ M2 Q X) X) X
@[simp] def bOp (f : D → D → Option D) : DB2 := fun d e _ M Q _ => ∃ z, f (vw M d) (vw M e) = some z ∧ Q z M
@[simp] def bOr (φ ψ : DB2) : DB2 := fun d e ρ M Q X => φ d e ρ M Q X ∨ ψ d e ρ M Q X
section
variable {cl : ClW} {X : Cx} {W : WX} {pos : Pos} {a b : Expr} {τa τb : DTE}
theorem BinG.or {op : Value → Value → Sem Value} {φ ψ : DB2} (h : BinG cl X W op φ) (h' : BinG cl X W op ψ) : BinG cl X W op (bOr φ ψ) := fun pins s σ H F ρ M v u x y d e Q Qd Xd I rx ry g sl r1 r2 q p w => by
  rcases q with q | q
  · exact h pins s σ H F ρ M v u x y d e Q Qd Xd I rx ry g sl r1 r2 q p w
  · exact h' pins s σ H F ρ M v u x y d e Q Qd Xd I rx ry g sl r1 r2 q p w
theorem BinG.of_op {op : Value → Value → Sem Value} {r : R2} {f : D → D → Option D} (ho : OpR X op r) (hf : LOp X.K cl r f) : BinG cl X W op (bOp f) := fun pins s σ H F ρ M v u x y d e Q Qd Xd I rx ry g sl r1 r2 q p w => by
  obtain ⟨z, e1, q⟩ := q
  exact ho pins s σ H x y v u Q I rx ry (hf F H M x y _ _ z Q Qd g (vw_ok g r1) (vw_ok g r2) e1 p q)
theorem bin_low {σ : St} {H : Hp} {Q : VK} {φ : DB2} (h : lowE X.K cl W (dBin φ τa τb) σ H Q) : lowE X.K cl W τa σ H (fun x H1 => ∃ F ρ M d Qd Xd, Good X.K cl F H1 M ∧ Slots X.K cl F σ ρ ∧ Rep X.K cl F x d ∧ τb ρ M (fun e M2 => φ d e ρ M2 Qd Xd) Xd ∧ Post X.K cl F Q Qd ∧ WOk X.K cl W F Xd) := by
  obtain ⟨F, ρ, M, Qd, Xd, g, s, q, p, w⟩ := h
  exact ⟨F, ρ, M, _, Xd, g, s, q, fun x H1 F1 d M1 sm g1 r q1 => ⟨F1, ρ, M1, d, Qd, Xd, g1, s.mono sm, r, q1, p.mono sm, w.mono sm⟩, w⟩
theorem run_bin {op : Value → Value → Sem Value} {φ : DB2} (ho : BinG cl X W op φ) (ha : DE cl X W a τa) (hb : DE cl X W b τb) {pins : List (Addr × Obj)} {s : Shared} {σ : St} {H : Hp} {Q : VK} (I : Inv X pins σ H s) (h : lowE X.K cl W (dBin φ τa τb) σ H Q) :
    wpAny (model X.prog X.w) X.A (eval a X.env) (fun v s1 => wpAny (model X.prog X.w) X.A (eval b X.env) (fun u s2 => wpAny (model X.prog X.w) X.A (op v u) (EP X pins σ Q) X.xe s2) X.xe s1) X.xe s := by
  refine thn (ha.pe.run pins s σ H _ I (bin_low h)) fun v s1 ⟨x, H1, I1, r1, F1, ρ, M1, d, Qd, Xd, g1, sl1, rd, q1, p1, w1⟩ => ?_
  refine thn (hb.pe.run pins s1 σ H1 (fun y H2 => ∃ F2 M2 e, Same F1 F2 ∧ Good X.K cl F2 H2 M2 ∧ Rep X.K cl F2 y e ∧ φ d e ρ M2 Qd Xd) I1 ⟨F1, ρ, M1, _, Xd, g1, sl1, q1, fun y H2 F2 e M2 sm g2 r2 q2 => ⟨F2, M2, e, sm, g2, r2, q2⟩, w1⟩) fun u s2 ⟨y, H2, I2, r2, F2, M2, e, sm, g2, re, q2⟩ => ?_
  exact ho pins s2 σ H2 F2 ρ M2 v u x y d e Q Qd Xd I2 r1 r2 g2 (sl1.mono sm) (rd.mono sm) re q2 (p1.mono sm) (w1.mono sm)
theorem d_bin {op : Operator} {φ : DB2} (ho : BinG cl X W (binaryOp op) φ) (ha : DE cl X W a τa) (hb : DE cl X W b τb) : DE cl X W (.BinOp a op b pos) (dBin φ τa τb) := ⟨⟨fun pins s σ H Q I h => wpAny_BinOp (run_bin ho ha hb I h)⟩⟩
theorem d_cmpG {op : CmpOp} {φ : DB2} (ho : BinG cl X W (compareOp op) φ) (ha : DE cl X W a τa) (hb : DE cl X W b τb) (hm : behindInMarks op b = false) : DE cl X W (.Compare a [op] [b] pos) (dBin φ τa τb) := ⟨⟨fun pins s σ H Q I h => wpAny_Compare1 (run_bin ho ha hb I h) hm⟩⟩
theorem d_tcmpG {op : CmpOp} {φ : DB2} (ho : BinG cl X W (compareOp op) φ) (ha : DE cl X W a τa) (hb : DE cl X W b τb) (hm : behindInMarks op b = false) : DT cl X W (.Compare a [op] [b] pos) (dTest (dBin φ τa τb)) := ⟨⟨fun pins s σ H Q I h => by
  obtain ⟨F, ρ, M, Qd, Xd, g, sl, q, p, w⟩ := h
  have h2 : lowE X.K cl W (dBin φ τa τb) σ H (fun x H' => ∃ k, x = .bl k ∧ Q k H') := ⟨F, ρ, M, _, Xd, g, sl, q, p.test, w⟩
  refine wpAny_isTrue_Compare1 (thn (run_bin ho ha hb I h2) fun v s1 q1 => thn q1 fun u s2 q2 => thn q2 fun c s3 ⟨z, H3, I3, r3, k, e, q3⟩ => ?_) hm
  subst e
  cases r3
  exact wpAny_truthy_bool ⟨H3, I3, q3⟩⟩⟩
end
end DL

set_option Elab.async false
set_option linter.all false
set_option maxRecDepth 100000
set_option maxHeartbeats 4000000
set_option autoImplicit false
namespace DL
open PySem L2

/-! ### an own class's operators -/
@[simp] def kB : D → Option D
  | .bl b => some (.bl b)
  | _ => none
@[simp] def kNB : D → Option D
  | .bl b => some (.bl !b)
  | _ => none
@[simp] def kV : D → Option D
  | .bl b => some (.bl b)
  | .obj c ns ds => some (.obj c ns ds)
  | _ => none
def bOwn (tb : List (Nat × SpD)) (k : D → Option D) : DB2 := fun d e ρ M Q X => ∃ c ns ds spd, vw M d = .obj c ns ds ∧ tb.lookup c = some spd ∧ spd [d, e] M (fun r M' => ∃ z, k r = some z ∧ Q z M') (fun c' ns es M' => X c' ns es ρ M')
def bOwnR (tb : List (Nat × SpD)) (k : D → Option D) : DB2 := fun d e ρ M Q X => ∃ c ns ds spd, vw M e = .obj c ns ds ∧ tb.lookup c = some spd ∧ spd [e, d] M (fun r M' => ∃ z, k r = some z ∧ Q z M') (fun c' ns es M' => X c' ns es ρ M')
def okE (cs : List Nat) : D → Bool
  | .obj c _ _ => decide (c ∈ cs)
  | d => (tyName d).isSome
def bEq (tb : List (Nat × SpD)) (cs : List Nat) (k : D → Option D) : DB2 := fun d e ρ M Q X => okE cs (vw M e) = true ∧ bOwn tb k d e ρ M Q X
section
variable {cl : ClW} {X : Cx} {W : WX} {k : Nat} {tb : List (Nat × SpD)}
theorem inst_at {pins : List (Addr × Obj)} {σ : St} {H : Hp} {s : Shared} {a C dx : Addr} {fs : List (Str × V)} (I : Inv X pins σ H s) (h : H a = some (.ins C dx fs)) : ∃ od, PySem.W.InstAt s.heap a (PySem.W.instObj C dx) C (some od) := by
  obtain ⟨mA, J, _⟩ := ins_get I.hok h
  obtain ⟨od, J, _⟩ := J.look
  exact ⟨od, J⟩
theorem obj_at {F H : Hp} {M : Mem} {v : V} {d : D} {c : Nat} {ns : List Str} {ds : List D} (g : Good X.K cl F H M) (r : Rep X.K cl F v d) (e : vw M d = .obj c ns ds) : ∃ a dx fs, v = .ref a ∧ H a = some (.ins (cl c) dx fs) := by
  have hv := vw_ok g r
  rw [e] at hv
  obtain ⟨a, dx, vs, rfl, h1, h2, h3⟩ := hv.obj g.sub
  exact ⟨a, dx, _, rfl, h1⟩
theorem post_kB {F : Hp} {Q : VK} {Qd : DV} (p : Post X.K cl F Q Qd) (n : Bool) : Post X.K cl F (fun v H' => ∃ b, v = .bl b ∧ Q (.bl (if n then !b else b)) H') (fun r M' => ∃ z, (if n then kNB r else kB r) = some z ∧ Qd z M') := fun v H' F' d M' sm g' r ⟨z, e, q⟩ => by
  obtain ⟨b, rfl⟩ : ∃ b, d = .bl b := by
    cases d with
    | bl b => exact ⟨b, rfl⟩
    | _ => cases n <;> cases e
  cases r
  cases n
  · cases e; exact ⟨b, rfl, p _ _ _ _ _ sm g' (.bl b) q⟩
  · cases e; exact ⟨b, rfl, p _ _ _ _ _ sm g' (.bl !b) q⟩
/-- v in o, v not in o -/
theorem own_in (cp : Cap X W k) (hm : ∀ c spd, tb.lookup c = some spd → MethB cl X.prog X.w X.K X.mg X.base k c "__contains__" spd) : BinG cl X W (compareOp .In) (bOwnR tb kB) := by
  intro pins s σ H F ρ M v u x y d e Q Qd Xd I rx ry g sl r1 r2 ⟨c, ns, ds, spd, e1, e2, q⟩ p w
  obtain ⟨hc, f, fd, ps, mt, hb, G⟩ := hm c spd e2
  obtain ⟨a, dx, fs, rfl, ha⟩ := obj_at g r2 e1
  obtain rfl : u = Value.ref a := ry
  obtain ⟨od, J⟩ := inst_at I ha
  obtain ⟨m, hF⟩ := I.fr
  refine PySem.W.in_K hF I.ok.mod.kin J mt.at_ mt.fn (thn (run_gA (us := [.ref a, v]) (vs := [.ref a, x]) cp.tk cp.hr rfl G hb I (.cons rfl (.cons rx .nil)) (low_call g sl (.cons r2 (.one r1)) q (post_kB p false) w)) fun r s' ⟨z, H', I', rz, b, ez, qz⟩ => ?_)
  subst ez
  cases rz
  exact wpAny_truthy_bool ⟨.bl b, H', I', rfl, qz⟩
theorem own_notIn (cp : Cap X W k) (hm : ∀ c spd, tb.lookup c = some spd → MethB cl X.prog X.w X.K X.mg X.base k c "__contains__" spd) : BinG cl X W (compareOp .NotIn) (bOwnR tb kNB) := by
  intro pins s σ H F ρ M v u x y d e Q Qd Xd I rx ry g sl r1 r2 ⟨c, ns, ds, spd, e1, e2, q⟩ p w
  obtain ⟨hc, f, fd, ps, mt, hb, G⟩ := hm c spd e2
  obtain ⟨a, dx, fs, rfl, ha⟩ := obj_at g r2 e1
  obtain rfl : u = Value.ref a := ry
  obtain ⟨od, J⟩ := inst_at I ha
  obtain ⟨m, hF⟩ := I.fr
  refine PySem.W.notIn_K hF I.ok.mod.kin J mt.at_ mt.fn (thn (run_gA (us := [.ref a, v]) (vs := [.ref a, x]) cp.tk cp.hr rfl G hb I (.cons rfl (.cons rx .nil)) (low_call g sl (.cons r2 (.one r1)) q (post_kB p true) w)) fun r s' ⟨z, H', I', rz, b, ez, qz⟩ => ?_)
  subst ez
  cases rz
  exact wpAny_truthy_bool ⟨.bl !b, H', I', rfl, qz⟩
/-- which comes first in a comparison -/
def NfOk (K : PySem.W.Frag) (cl : Nat → Addr) (cs : List Nat) : Prop := ∀ c ∈ cs, (∀ n ∈ tyNames, PySem.W.notFirst K (cl c) (.type n) = true) ∧ ∀ c' ∈ cs, PySem.W.notFirst K (cl c) (.ref (cl c')) = true
theorem type_at {pins : List (Addr × Obj)} {σ : St} {H F : Hp} {s : Shared} {M : Mem} {y : V} {u : Value} {e : D} {cs : List Nat} (nf : NfOk X.K cl cs) {c : Nat} (hc : c ∈ cs) (I : Inv X pins σ H s) (ry : RelV y u) (g : Good X.K cl F H M) (r2 : Rep X.K cl F y e) (ok : okE cs (vw M e) = true) :
    ∃ t, PySem.W.Looks (model X.prog X.w) s.heap (typeOf u) t ∧ PySem.W.notFirst X.K (cl c) t = true := by
  have hv := vw_ok g r2
  have bt : ∀ n, tyName (vw M e) = some n → ∃ t, PySem.W.Looks (model X.prog X.w) s.heap (typeOf u) t ∧ PySem.W.notFirst X.K (cl c) t = true := fun n hn => by
    obtain ⟨P, Z, z, _⟩ := kit_of I ry (tyX_of g.sub hv hn)
    exact ⟨_, Z.ty _ _ I.kIn z, (nf c hc).1 n (tyName_mem hn)⟩
  cases hn : tyName (vw M e) with
  | some n => exact bt n hn
  | none =>
    cases hd : vw M e with
    | obj c' ns ds =>
      rw [hd] at ok
      have hc' : c' ∈ cs := of_decide_eq_true ok
      obtain ⟨a, dx, fs, rfl, ha⟩ := obj_at g r2 hd
      obtain rfl : u = Value.ref a := ry
      obtain ⟨od, J⟩ := inst_at I ha
      exact ⟨_, J.type, (nf c hc).2 c' hc'⟩
    | _ =>
      rw [hd] at ok hn
      exact absurd ok (by unfold okE; simp [hn])
theorem own_eq {cs : List Nat} (cp : Cap X W k) (nf : NfOk X.K cl cs) (htb : ∀ c spd, tb.lookup c = some spd → c ∈ cs) (hm : ∀ c spd, tb.lookup c = some spd → MethB cl X.prog X.w X.K X.mg X.base k c "__eq__" spd) : BinG cl X W (compareOp .Eq) (bEq tb cs kB) := by
  intro pins s σ H F ρ M v u x y d e Q Qd Xd I rx ry g sl r1 r2 ⟨ok, c, ns, ds, spd, e1, e2, q⟩ p w
  obtain ⟨hc, f, fd, ps, mt, hb, G⟩ := hm c spd e2
  obtain ⟨t, ht, hn⟩ := type_at nf (htb c spd e2) I ry g r2 ok
  obtain ⟨a, dx, fs, rfl, ha⟩ := obj_at g r1 e1
  obtain rfl : v = Value.ref a := rx
  obtain ⟨od, J⟩ := inst_at I ha
  obtain ⟨m, hF⟩ := I.fr
  refine PySem.W.cmp_K (op := .Eq) cp.hr.room.units0 hF I.ok.mod.kin J ht hn mt.at_ mt.fn (wpAny_mono (run_gA (us := [.ref a, u]) (vs := [.ref a, y]) cp.tk cp.hr rfl G hb I (.cons rfl (.cons ry .nil)) (low_call g sl (.cons r1 (.one r2)) q (post_kB p false) w)) (fun r s' ⟨z, H', I', rz, b, ez, qz⟩ => ?_) fun _ _ h => h)
  subst ez
  cases rz
  exact ⟨.bl b, H', I', rfl, qz⟩
end
end DL

set_option Elab.async false
set_option linter.all false
set_option maxRecDepth 100000
set_option maxHeartbeats 4000000
set_option autoImplicit false
namespace DL
open PySem L2

section
variable {prog : Program} {w : World} {A : Around} {E : Value → Shared → Prop} {s : Shared} {K : PySem.W.Frag} {x C L f : Addr} {h₀ : Heap} {m : Str → Option Value} {ox : Obj} {od : Option Obj} {b tb : Value}
/-- o != b by the own ==, object.__ne__ between -/
theorem ne_try {Q : Option Value → Shared → Prop} (hu : A.units + 1 < cLine) (KX : K.In s.heap) (I : PySem.W.InstAt s.heap x ox C od) (hN : PySem.W.findIn K (.ref C) "__ne__" = some (some (.builtin "object.__ne__"))) (hE : PySem.W.findIn K (.ref C) "__eq__" = some (some (.ref f))) (hf : PySem.W.isFn K (.ref f) = true) (hO : PySem.W.mroIn K C (.type "object") = some true)
    (h : wpAny (model prog w) A.in1 (call (.ref f) [.ref x, b]) (fun v s' => ∃ r, v = .bool r ∧ Q (some (.bool (!r))) s') E s) : wpAny (model prog w) A (tryCompare (.ref x) "__ne__" b) Q E s := by
  have ne := F.cmp_object.ne
  have body : wpAny (model prog w) A (call (.builtin "object.__ne__") [.ref x, b]) (fun v s' => ∃ r, v = .bool (!r) ∧ Q (some (.bool (!r))) s') E s := by
    refine wpAny_call (codeAny_call_builtin ne.plain F.cmpEntry_ne (PySem.W.check_slot F.cmpKind_ne F.cmpSplit_ne (I.type.andThen (PySem.W.looks_mroIn KX hO)) (F.cmpArgs_ne _ _) ?_))
    unfold Builtin.«object.__ne__»
    repeat (first
      | with_reducible refine wpAny_cRoomFor hu ?_
      | (refine wpAny_bind (m := callSpecialIfBound? (.ref x) (Str.ofString "__eq__") [b]) (PySem.W.ifBound_K KX I hE hf (wpAny_mono h (fun r s' hr => by
          obtain ⟨c, rfl, hq⟩ := hr
          repeat (first | exact ⟨c, rfl, hq⟩ | exact wpAny_pure ⟨c, rfl, hq⟩ | exact wpAny_truthy_bool ⟨c, rfl, hq⟩ | (refine wpAny_bind (m := truthy (.bool _)) (wpAny_truthy_bool ?_)) | wp_step)) fun _ _ e => e)))
      | wp_step)
  unfold tryCompare
  have fin : wpAny (model prog w) A (call (.builtin "object.__ne__") ([.ref x] ++ [b]) >>= fun v => pure (some v)) (fun o s' => ∃ r, o = some (.bool (!r)) ∧ Q (some (.bool (!r))) s') E s :=
    wpAny_bind (wpAny_mono body (fun v s' ⟨r, e, q⟩ => wpAny_pure ⟨r, by rw [e], q⟩) fun _ _ e => e)
  have one : wpAny (model prog w) A (callSpecialIfBound? (.ref x) "__ne__" [b]) (fun o s' => ∃ r, o = some (.bool (!r)) ∧ Q (some (.bool (!r))) s') E s := by
    simp only [callSpecialIfBound?, bindSpecialIfBound?]
    refine wpAny_holding (wpAny_bind (wpAny_bind (wpAny_bind (I.type.here ((PySem.W.looks_findIn KX hN).here ?_)))))
    simp only [ne.bind]
    refine wpAny_bind (wpAny_askSetting (wpAny_ite ?_))
    split
    · exact wpAny_bind (wpAny_pure (wpAny_pure fin))
    · exact wpAny_tryCatch (wpAny_bind (wpAny_pure (wpAny_pure fin)))
  refine wpAny_bind (wpAny_mono one (fun o s' ⟨r, e, q⟩ => ?_) fun _ _ e => e)
  subst e
  exact wpAny_pure q
theorem ne_K {Q : Value → Shared → Prop} (hu : A.units + 1 < cLine) (KX : K.In s.heap) (I : PySem.W.InstAt s.heap x ox C od) (hb : PySem.W.Looks (model prog w) s.heap (typeOf b) tb) (hn : PySem.W.notFirst K C tb = true) (hN : PySem.W.findIn K (.ref C) "__ne__" = some (some (.builtin "object.__ne__"))) (hE : PySem.W.findIn K (.ref C) "__eq__" = some (some (.ref f))) (hf : PySem.W.isFn K (.ref f) = true) (hO : PySem.W.mroIn K C (.type "object") = some true)
    (h : wpAny (model prog w) A.in1 (call (.ref f) [.ref x, b]) (fun v s' => ∃ r, v = .bool r ∧ Q (.bool (!r)) s') E s) : wpAny (model prog w) A (richCompare .NotEq (.ref x) b) Q E s := by
  have one : wpAny (model prog w) A (tryCompare (.ref x) (cmpInfo .NotEq).2.1 b) (fun r s' => ∃ v, r = some v ∧ Q v s') E s :=
    ne_try hu KX I hN hE hf hO (wpAny_mono h (fun v s' ⟨r, e, q⟩ => ⟨r, e, _, rfl, q⟩) fun _ _ e => e)
  have two : wpAny (model prog w) A (tryCompare (.ref x) (cmpInfo .NotEq).2.1 b) (fun r s' => ∃ v, r = some v ∧ wpAny (model prog w) A (pure v : Sem Value) Q E s') E s := wpAny_mono one (fun r s' ⟨v, e, q⟩ => ⟨v, e, wpAny_pure q⟩) fun _ _ e => e
  unfold richCompare
  simp only [oneThing_ref]
  refine wpAny_holding (wpAny_bind (wpAny_cRoomFor (by omega) ?_))
  refine wpAny_bind (I.type.here (wpAny_bind (hb.here ?_)))
  split
  · rename_i q
    have e : PySem.W.subIn K tb (.ref C) = some false := by
      rcases Bool.or_eq_true_iff.mp hn with e | e
      · rw [beq_iff_eq.mp e] at q
        exact absurd q (by simp)
      · exact beq_iff_eq.mp e
    refine wpAny_bind ((PySem.W.looks_subIn KX e).here ?_)
    simp only [Bool.false_eq_true, if_false]
    refine wpAny_bind (wpAny_mono two (fun r s' ⟨v, e, z⟩ => ?_) fun _ _ e => e)
    subst e
    exact z
  · refine wpAny_bind (wpAny_pure ?_)
    simp only [Bool.false_eq_true, if_false]
    refine wpAny_bind (wpAny_mono two (fun r s' ⟨v, e, z⟩ => ?_) fun _ _ e => e)
    subst e
    exact z
end
section
variable {cl : ClW} {X : Cx} {W : WX} {k : Nat} {tb : List (Nat × SpD)}
def NeOk (K : PySem.W.Frag) (cl : Nat → Addr) (cs : List Nat) : Prop := ∀ c ∈ cs, PySem.W.findIn K (.ref (cl c)) "__ne__" = some (some (.builtin "object.__ne__")) ∧ PySem.W.mroIn K (cl c) (.type "object") = some true
theorem own_ne {cs : List Nat} (cp : Cap X W (k + 1)) (nf : NfOk X.K cl cs) (no : NeOk X.K cl cs) (htb : ∀ c spd, tb.lookup c = some spd → c ∈ cs) (hm : ∀ c spd, tb.lookup c = some spd → MethB cl X.prog X.w X.K X.mg X.base k c "__eq__" spd) : BinG cl X W (compareOp .NotEq) (bEq tb cs kNB) := by
  intro pins s σ H F ρ M v u x y d e Q Qd Xd I rx ry g sl r1 r2 ⟨ok, c, ns, ds, spd, e1, e2, q⟩ p w
  obtain ⟨hc, f, fd, ps, mt, hb, G⟩ := hm c spd e2
  obtain ⟨t, ht, hn⟩ := type_at nf (htb c spd e2) I ry g r2 ok
  obtain ⟨n1, n2⟩ := no c (htb c spd e2)
  obtain ⟨a, dx, fs, rfl, ha⟩ := obj_at g r1 e1
  obtain rfl : v = Value.ref a := rx
  obtain ⟨od, J⟩ := inst_at I ha
  refine ne_K (RoomG.u1 cp.hr) I.kIn J ht hn n1 mt.at_ mt.fn n2 (wpAny_mono (run_gA (us := [.ref a, u]) (vs := [.ref a, y]) cp.tk cp.hr.in1 rfl G hb I (.cons rfl (.cons ry .nil)) (low_call g sl (.cons r1 (.one r2)) q (post_kB p true) w)) (fun r s' ⟨z, H', I', rz, b, ez, qz⟩ => ?_) fun _ _ h => h)
  subst ez
  cases rz
  exact ⟨b, rfl, .bl !b, H', I', rfl, qz⟩
/-- a op b, both of one own class -/
theorem post_kV {F : Hp} {Q : VK} {Qd : DV} (p : Post X.K cl F Q Qd) : Post X.K cl F (fun v H' => ((∃ b, v = .bl b) ∨ ∃ a, v = .ref a) ∧ Q v H') (fun r M' => ∃ z, kV r = some z ∧ Qd z M') := fun v H' F' d M' sm g' r ⟨z, e, q⟩ => by
  cases d with
  | bl b => cases r; cases e; exact ⟨.inl ⟨b, rfl⟩, p _ _ _ _ _ sm g' (.bl b) q⟩
  | obj c ns ds =>
    have hz : z = .obj c ns ds := by simpa [eq_comm] using e
    subst hz
    obtain ⟨a, dx, vs, rfl, h1, h2, h3⟩ := r.toObj
    exact ⟨.inr ⟨a, rfl⟩, p _ _ _ _ _ sm g' r q⟩
  | _ => cases e
def bOwn2 (tb : List (Nat × SpD)) : DB2 := fun d e ρ M Q X => ∃ c ns ds ns' ds' spd, vw M d = .obj c ns ds ∧ vw M e = .obj c ns' ds' ∧ tb.lookup c = some spd ∧ spd [d, e] M (fun r M' => ∃ z, kV r = some z ∧ Q z M') (fun c' ns es M' => X c' ns es ρ M')
theorem own_bin {op : Operator} (cp : Cap X W k) (sf : ∀ c spd, tb.lookup c = some spd → PySem.W.selfFirst X.K (cl c) = true) (hm : ∀ c spd, tb.lookup c = some spd → MethB cl X.prog X.w X.K X.mg X.base k c (PySem.dunder op.info.2) spd) : BinG cl X W (binaryOp op) (bOwn2 tb) := by
  intro pins s σ H F ρ M v u x y d e Q Qd Xd I rx ry g sl r1 r2 ⟨c, ns, ds, ns', ds', spd, e1, e1', e2, q⟩ p w
  obtain ⟨hc, f, fd, ps, mt, hb, G⟩ := hm c spd e2
  obtain ⟨a, dx, fs, rfl, ha⟩ := obj_at g r1 e1
  obtain ⟨a', dx', fs', rfl, ha'⟩ := obj_at g r2 e1'
  obtain rfl : v = Value.ref a := rx
  obtain rfl : u = Value.ref a' := ry
  obtain ⟨od, J⟩ := inst_at I ha
  obtain ⟨od', J'⟩ := inst_at I ha'
  obtain ⟨m, hF⟩ := I.fr
  refine PySem.W.binop_K hF I.ok.mod.kin J J'.type (sf c spd e2) mt.at_ mt.fn (wpAny_mono (run_gA (us := [.ref a, .ref a']) (vs := [.ref a, .ref a']) cp.tk cp.hr rfl G hb I (.cons rfl (.cons rfl .nil)) (low_call g sl (.cons r1 (.one r2)) q (post_kV p) w)) (fun r s' ⟨z, H', I', rz, ez, qz⟩ => ?_) fun _ _ h => h)
  rcases ez with ⟨b, rfl⟩ | ⟨b, rfl⟩
  · cases rz; exact ⟨.bl b, H', I', rfl, qz⟩
  · obtain rfl : r = Value.ref b := rz
    exact ⟨.ref b, H', I', rfl, qz⟩
/-! ### isinstance of own classes -/
structure TyC (K : PySem.W.Frag) (C : Addr) : Prop where
  cls : Cls K C
  ha : PySem.W.findIn K (.ref C) "__class__" = some (some (.builtin "object.__class__"))
  hn : PySem.W.specialIn K (.builtin "object.__class__") "__get__" = some (some (.builtin "getset_descriptor.__get__"))
  htk : PySem.W.takesIn K (.builtin "object.__class__") = some true
  hm : PySem.W.mroIn K C (.type "object") = some true
/-- of the class with the tag c: the tags of what is one, of what is none -/
structure IsoOk (K : PySem.W.Frag) (cl : Nat → Addr) (c : Nat) (yes no : List Nat) : Prop where
  y : ∀ j ∈ yes, TyC K (cl j) ∧ PySem.W.kitOne K (.ref (cl j)) (.ref (cl c)) = some true
  n : ∀ j ∈ no, TyC K (cl j) ∧ PySem.W.kitOne K (.ref (cl j)) (.ref (cl c)) = some false
  t : ∀ n ∈ tyNames, PySem.W.kitOne K (.type n) (.ref (cl c)) = some false
def isoF (c : Nat) (yes no : List Nat) : List D → Option D
  | [.obj j _ _, .cls i] => if i = c then if j ∈ yes then some (.bl true) else if j ∈ no then some (.bl false) else none else none
  | [d, .cls i] => if i = c then if (tyName d).isSome then some (.bl false) else none else none
  | _ => none
theorem Vw.cls {K : PySem.W.Frag} {F H : Hp} {v : V} {c : Nat} (h : Vw K cl F H v (.cls c)) : v = .ref (cl c) := by
  rcases h with h | ⟨a, rfl, h⟩
  · exact h.toCls
  · exact h.elim
theorem lc_iso {K : PySem.W.Frag} {c : Nat} {yes no : List Nat} (ok : IsoOk K cl c yes no) : LCall K cl (rIsi K) (isoF c yes no) := by
  intro F H M xs ds z Q Qd g r h p q
  generalize e : ds.map (vw M) = es at h
  have fin : ∀ {x y : V} {i : Nat} {t : Value} {b : Bool}, xs = [x, y] → y = .ref (cl i) → i = c → TyX K H x t → PySem.W.kitOne K t (.ref (cl c)) = some b → z = .bl b → rIsi K xs H Q := by
    intro x y i t b h1 h2 h3 h4 h5 h6
    subst h3 h6
    exact ⟨x, y, t, _, b, h1, by rw [h2]; exact .own _, h4, h5, p.val g (.bl b) q⟩
  unfold isoF at h
  split at h
  · rename_i j ns ds' i
    obtain ⟨x, y, h1, hv, hw⟩ := reps2 g r e
    obtain ⟨a, dx, vs, rfl, k1, k2, k3⟩ := hv.obj g.sub
    have ty : ∀ {j : Nat}, TyC K (cl j) → H a = some (.ins (cl j) dx (ns.zip vs)) → TyX K H (.ref a) (.ref (cl j)) := fun t k => .base (.ins k t.cls t.ha t.hn t.htk t.hm)
    split at h
    · rename_i hi
      split at h
      · rename_i hy
        exact fin h1 hw.cls hi (ty (ok.y j hy).1 k1) (ok.y j hy).2 (by cases h; rfl)
      · split at h
        · rename_i hy
          exact fin h1 hw.cls hi (ty (ok.n j hy).1 k1) (ok.n j hy).2 (by cases h; rfl)
        · cases h
    · cases h
  · rename_i d i _
    obtain ⟨x, y, h1, hv, hw⟩ := reps2 g r e
    split at h
    · rename_i hi
      split at h
      · rename_i ht
        cases hn : tyName d with
        | none => rw [hn] at ht; cases ht
        | some n => exact fin h1 hw.cls hi (tyX_of g.sub hv hn) (ok.t n (tyName_mem hn)) (by cases h; rfl)
      · cases h
    · cases h
  · cases h
end
end DL

set_option Elab.async false
set_option linter.all false
set_option maxRecDepth 100000
set_option maxHeartbeats 2000000
set_option autoImplicit false
namespace DL
open PySem L2

/-! ### facts of classes, as truth values -/
theorem Cap.mono {X : Cx} {W : WX} {j k : Nat} (c : Cap X W k) (h : j ≤ k) : Cap X W j := ⟨c.tk, c.hr.mono h, c.po, c.calm⟩
section
variable {K : PySem.W.Frag} {cl : ClW}
theorem and2 {a b : Bool} (h : (a && b) = true) : a = true ∧ b = true := Bool.and_eq_true_iff.mp h
def tycB (K : PySem.W.Frag) (C : Addr) : Bool := He.eqO (PySem.W.findIn K (.ref C) "__class__") (some (some (.builtin "object.__class__"))) && (He.eqO (PySem.W.specialIn K (.builtin "object.__class__") "__get__") (some (some (.builtin "getset_descriptor.__get__"))) && ((PySem.W.takesIn K (.builtin "object.__class__") == some true) && (PySem.W.mroIn K C (.type "object") == some true)))
theorem tycB_ok {C : Addr} (c : Cls K C) (h : tycB K C = true) : TyC K C := by
  obtain ⟨h1, h⟩ := and2 h
  obtain ⟨h2, h⟩ := and2 h
  obtain ⟨h3, h4⟩ := and2 h
  exact ⟨c, He.eqO_ok h1, He.eqO_ok h2, beq_iff_eq.mp h3, beq_iff_eq.mp h4⟩
def isoB (K : PySem.W.Frag) (cl : Nat → Addr) (c : Nat) (yes no : List Nat) : Bool := (yes.all fun j => PySem.W.kitOne K (.ref (cl j)) (.ref (cl c)) == some true) && ((no.all fun j => PySem.W.kitOne K (.ref (cl j)) (.ref (cl c)) == some false) && (tyNames.all fun n => PySem.W.kitOne K (.type n) (.ref (cl c)) == some false))
theorem isoB_ok {cl : Nat → Addr} {c : Nat} {yes no : List Nat} (h : isoB K cl c yes no = true) (t : ∀ j ∈ yes ++ no, TyC K (cl j)) : IsoOk K cl c yes no := by
  obtain ⟨h1, h⟩ := and2 h
  obtain ⟨h2, h3⟩ := and2 h
  exact ⟨fun j hj => ⟨t j (by simp [hj]), beq_iff_eq.mp (List.all_eq_true.mp h1 j hj)⟩, fun j hj => ⟨t j (by simp [hj]), beq_iff_eq.mp (List.all_eq_true.mp h2 j hj)⟩, fun n hn => beq_iff_eq.mp (List.all_eq_true.mp h3 n hn)⟩
def nfB (K : PySem.W.Frag) (cl : Nat → Addr) (cs : List Nat) : Bool := cs.all fun c => (tyNames.all fun n => PySem.W.notFirst K (cl c) (.type n)) && (cs.all fun c' => PySem.W.notFirst K (cl c) (.ref (cl c')))
theorem nfB_ok {cl : Nat → Addr} {cs : List Nat} (h : nfB K cl cs = true) : NfOk K cl cs := fun c hc => by
  obtain ⟨h1, h2⟩ := and2 (List.all_eq_true.mp h c hc)
  exact ⟨fun n hn => List.all_eq_true.mp h1 n hn, fun c' hc' => List.all_eq_true.mp h2 c' hc'⟩
def neB (K : PySem.W.Frag) (cl : Nat → Addr) (cs : List Nat) : Bool := cs.all fun c => He.eqO (PySem.W.findIn K (.ref (cl c)) "__ne__") (some (some (.builtin "object.__ne__"))) && (PySem.W.mroIn K (cl c) (.type "object") == some true)
theorem neB_ok {cl : Nat → Addr} {cs : List Nat} (h : neB K cl cs = true) : NeOk K cl cs := fun c hc => by
  obtain ⟨h1, h2⟩ := and2 (List.all_eq_true.mp h c hc)
  exact ⟨He.eqO_ok h1, beq_iff_eq.mp h2⟩
def sfB (K : PySem.W.Frag) (cl : Nat → Addr) (cs : List Nat) : Bool := cs.all fun c => PySem.W.selfFirst K (cl c)
theorem sfB_ok {cl : Nat → Addr} {cs : List Nat} {tb : List (Nat × SpD)} (h : sfB K cl cs = true) (ht : ∀ c spd, tb.lookup c = some spd → c ∈ cs) : ∀ c spd, tb.lookup c = some spd → PySem.W.selfFirst K (cl c) = true := fun c spd e => List.all_eq_true.mp h c (ht c spd e)
theorem tb_in {tb : List (Nat × SpD)} {cs : List Nat} (h : (tb.map (·.1)).all (fun c => decide (c ∈ cs)) = true) : ∀ c spd, tb.lookup c = some spd → c ∈ cs := by
  intro c spd e
  induction tb with
  | nil => cases e
  | cons p r ih =>
    obtain ⟨c0, s0⟩ := p
    rw [List.map_cons, List.all_cons] at h
    obtain ⟨h1, h2⟩ := and2 h
    by_cases hc : c = c0
    · subst hc; exact of_decide_eq_true h1
    · have : (c == c0) = false := by simpa using hc
      simp only [List.lookup, this] at e
      exact ih h2 e
end
/-! ### {} -/
section
variable {cl : ClW} {X : Cx} {W : WX} {pos : Pos}
theorem d_dict0 : DE cl X W (.Dict [] [] pos) (dC (.dK [] [])) := ⟨pe_imp pe_dnewK fun σ H Q ⟨F, ρ, M, Qd, Xd, g, s, q, p, w⟩ a ha => p _ _ _ _ _ (same_new (g.freshF ha)) (g.new ha) (.dK upd_same rfl .nil) q⟩
end
/-! ### reading what a class of the law's own may ask -/
@[simp] theorem isoF_obj {c j : Nat} {yes no : List Nat} {ns : List Str} {ds : List D} : isoF c yes no [.obj j ns ds, .cls c] = if j ∈ yes then some (.bl true) else if j ∈ no then some (.bl false) else none := by simp [isoF]
theorem isoF_ty {c : Nat} {yes no : List Nat} {d : D} {n : String} (h : tyName d = some n) : isoF c yes no [d, .cls c] = some (.bl false) := by
  cases d <;> simp [isoF, tyName] at h ⊢
end DL

set_option Elab.async false
set_option linter.all false
set_option maxRecDepth 100000
set_option maxHeartbeats 4000000
set_option autoImplicit false
namespace DL
open PySem L2

/-! ### own exceptions: raise C(e, ..), the fields are the parameters -/
/-- the promise of an exception's __init__ that stores its parameters -/
def spX (C : Addr) (fs : List Str) : Sp := fun vs H Q _ => ∃ (a : Addr) (ws : List V), vs = .ref a :: ws ∧ ws.length = fs.length ∧ H a = some (exo a C none) ∧
  ∀ (d : Addr) (H' : Hp), H d = none → d ≠ a → H' a = some (exo a C (some d)) → H' d = some (exd d (fs.reverse.zip ws.reverse)) → (∀ b, b ≠ a → b ≠ d → H' b = H b) → Q .non H'
structure ExcK (P : Program) (w : World) (K : PySem.W.Frag) (mg : Str → Option Value) (base : Heap) (x : Str) (C : Addr) (fs : List Str) : Prop where
  oex : OexC K C
  gl : mg x = some (.ref C)
  ini : ∃ fI fd ps, PySem.W.findIn K (.ref C) "__init__" = some (some (.ref fI)) ∧ PySem.W.typeIn K (.ref fI) = some (.type "function") ∧ FnOk P w K mg base (L2.CX P w) 1 fI fd ps (spX C fs) ∧ Binds K fd ps []
section
variable {P : Program} {w : World} {K : PySem.W.Frag} {mg : Str → Option Value} {base : Heap} {qual : Str} {params : Arguments} {scope : Scope} {f C : Addr} {fd : FuncData}
theorem xinit1 {p1 p2 p3 p4 : Pos} {g : Str} (T : OexC K C) (hno : PySem.W.findIn K (.ref C) g = some none) (F : FunD K "__init__" qual params [.Assign [.Attribute (.Name "self" p1) g p2] (.Name g p3) p4] scope [] [] f fd) (S : FnScope ["self", g] ["self", g] scope)
    (h0 : Vis scope "self" := by first | exact Or.inl rfl | exact Or.inr (Or.inl rfl)) (h1 : Vis scope g := by first | exact Or.inl rfl | exact Or.inr (Or.inl rfl)) (hd : (g == ("__debug__" : Str)) = false := by decide) (hcd : (g == ("__classdict__" : Str)) = false := by decide) : FnOk P w K mg base (L2.CX P w) 1 f fd ["self", g] (spX C [g]) := by
  refine F.ok S (fun vs H Q E ⟨a, ws, e, hl, _⟩ => by rw [e, List.length_cons, hl]; rfl) fun cdv A outer s H vs Q E hr ⟨a, ws, e, hl, ha, q⟩ => ?_
  obtain ⟨v, rfl⟩ : ∃ v, ws = [v] := by
    match ws, hl with
    | [v], _ => exact ⟨v, rfl⟩
  subst e
  refine ⟨_, pss_one (ps_ost (pe_var (i := 0) rfl h0 (by decide)) (pe_var (i := 1) rfl h1 hd hcd)), ?_⟩
  refine ⟨v, rfl, .ref a, rfl, a, C, rfl, T, hno, .inl ⟨ha, fun d hd hne => q d _ hd hne upd_same (by rw [upd_ne hne, upd_same]; rfl) (fun b h1 h2 => by rw [upd_ne h1, upd_ne h2])⟩⟩
theorem xinit2 {p1 p2 p3 p4 p5 p6 p7 p8 : Pos} {g k : Str} (T : OexC K C) (hno : PySem.W.findIn K (.ref C) g = some none) (hno2 : PySem.W.findIn K (.ref C) k = some none)
    (F : FunD K "__init__" qual params [.Assign [.Attribute (.Name "self" p1) g p2] (.Name g p3) p4, .Assign [.Attribute (.Name "self" p5) k p6] (.Name k p7) p8] scope [] [] f fd) (S : FnScope ["self", g, k] ["self", g, k] scope)
    (h0 : Vis scope "self" := by first | exact Or.inl rfl | exact Or.inr (Or.inl rfl)) (h1 : Vis scope g := by first | exact Or.inl rfl | exact Or.inr (Or.inl rfl)) (h2 : Vis scope k := by first | exact Or.inl rfl | exact Or.inr (Or.inl rfl))
    (hd : (g == ("__debug__" : Str)) = false := by decide) (hcd : (g == ("__classdict__" : Str)) = false := by decide) (hd2 : (k == ("__debug__" : Str)) = false := by decide) (hcd2 : (k == ("__classdict__" : Str)) = false := by decide) : FnOk P w K mg base (L2.CX P w) 1 f fd ["self", g, k] (spX C [g, k]) := by
  refine F.ok S (fun vs H Q E ⟨a, ws, e, hl, _⟩ => by rw [e, List.length_cons, hl]; rfl) fun cdv A outer s H vs Q E hr ⟨a, ws, e, hl, ha, q⟩ => ?_
  obtain ⟨v, u, rfl⟩ : ∃ v u, ws = [v, u] := by
    match ws, hl with
    | [v, u], _ => exact ⟨v, u, rfl⟩
  subst e
  refine ⟨_, pss_cons (ps_ost (pe_var (i := 0) rfl h0 (by decide)) (pe_var (i := 1) rfl h1 hd hcd)) (pss_one (ps_ost (pe_var (i := 0) rfl h0 (by decide)) (pe_var (i := 2) rfl h2 hd2 hcd2))), ?_⟩
  refine ⟨v, rfl, .ref a, rfl, a, C, rfl, T, hno, .inl ⟨ha, fun d hd hne => ?_⟩⟩
  refine ⟨u, rfl, .ref a, rfl, a, C, rfl, T, hno2, .inr ⟨d, [(g, v)], upd_same, by rw [upd_ne hne, upd_same], by simp, ?_⟩⟩
  exact q d _ hd hne (by rw [upd_ne (Ne.symm hne), upd_same]) (by rw [upd_same]; rfl) (fun b h1 h2 => by rw [upd_ne h2, upd_ne h1, upd_ne h2])
end
/-- raise C(..) -/
def dRaise (c : Nat) (fs : List Str) (α : DTA) : DTS := fun E ρ M => α ρ M (fun ds M1 => ds.length = fs.length ∧ E.ex c fs.reverse ds.reverse ρ M1) E.ex
section
variable {cl : ClW} {X : Cx} {W : WX} {k : Nat} {x : Str} {c : Nat} {fs : List Str} {e : Expr} {es : List Expr} {α : DTA} {p p2 pos : Pos}
theorem ds_raise (cp : Cap X W k) (hk : 2 ≤ k) (T : ExcK X.prog X.w X.K X.mg X.base x (cl c) fs) (hf : fs.length ≤ 900) (hg : Gl X x) (ha : DA cl X W (e :: es) α)
    (hdb : (x == ("__debug__" : Str)) = false := by decide) (he : starEach (e :: es) X.env = (false, eval e X.env) :: starEach es X.env := by rfl) (hpl : (backTo p2 (starEach es X.env)).any (·.1) = false := by rfl) :
    DS cl X W (.Raise (some (.Call (.Name x p) (e :: es) [] p2)) none pos) (dRaise c fs α) := by
  obtain ⟨fI, fd, ps, iC, tI, F1, hb⟩ := T.ini
  refine ⟨ps_imp (ps_raise cp.calm cp.tk (pmk_oex T.oex iC tI F1 (cp.hr.mono hk).room hb .nil (fun pins σ H s e s' I h => ?_) hg T.gl ha.pa hdb he hpl)) fun D σ H ⟨F, ρ, M, E, g, s, q, ok⟩ => ?_⟩
  · obtain ⟨_, _, _, _, _, _, _, _, _, _, _, _, h⟩ := h
    exact h.elim
  · refine ⟨F, ρ, M, _, E.ex, g, s, q, fun vs H1 F1 ds M1 sm g1 r1 ⟨hl, q1⟩ => ⟨by rw [r1.length, hl]; omega, fun a ha => ?_⟩, ok.ex⟩
    refine ⟨a, vs, by rw [List.append_nil], by rw [r1.length, hl], upd_same, fun d H' hd hne h1 h2 h3 => ⟨rfl, d, _, h1, h2, ?_, ?_⟩⟩
    · rw [upd_ne hne] at hd; exact hd
    · rw [upd_ne hne] at hd
      have eH : L2.upd (L2.del H' a) d (.xd (fs.reverse.zip vs.reverse)) = L2.upd H1 d (.xd (fs.reverse.zip vs.reverse)) := by
        funext b
        by_cases hb : b = d
        · rw [hb, upd_same, upd_same]
        · rw [upd_ne hb, upd_ne hb]
          by_cases hb2 : b = a
          · rw [hb2, del_same, ha]
          · rw [del_ne hb2, h3 b hb2 hb, upd_ne hb2]
      rw [eH]
      have sm2 : Same F1 (L2.upd F1 d (.xd (fs.reverse.zip vs.reverse))) := same_new (g1.freshF hd)
      exact ok.ex c _ _ σ _ _ ρ M1 (some d) (sm.trans sm2) (g1.new hd) (s.mono (sm.trans sm2)) (.inr ⟨d, vs.reverse, rfl, upd_same, by rw [List.length_reverse, List.length_reverse, r1.length, hl], (r1.mono sm2).reverse⟩) q1
end
end DL

set_option Elab.async false
set_option linter.all false
set_option maxRecDepth 100000
set_option maxHeartbeats 4000000
set_option autoImplicit false
namespace DL
open PySem L2

/-! ### try with several clauses, named or not -/
abbrev Clause := Value × Option Nat × (Addr → Value → Option Addr → TS)
def endsAt (o : Option Nat) (Dn : Ends) : Ends := match o with
  | none => Dn
  | some i => { nx := fun σ H => Dn.nx (σ.set i none) H, rt := Dn.rt, bk := fun σ H => Dn.bk (σ.set i none) H, ct := fun σ H => Dn.ct (σ.set i none) H }
def setAt (o : Option Nat) (σ : St) (a : Addr) : St := match o with
  | none => σ
  | some i => σ.set i (some (.ref a))
def wMix (K : PySem.W.Frag) (Wo : WX) (Dn : Ends) : List Clause → WX
  | [] => Wo
  | (c, o, ts) :: r => fun cl d σ H => ∃ b, PySem.W.exmOne K cl c = some b ∧ (b = true → ∀ a, H a = none → ts a cl d (endsAt o Dn) (setAt o σ a) H) ∧ (b = false → wMix K Wo Dn r cl d σ H)
abbrev SuiteOk (X : Cx) (su : List Stmt) (ts : Addr → Value → Option Addr → TS) : Prop := ∀ (a : Addr) (oe : Obj) (cl : Value) (d : Option Addr) (pn : List (Addr × Obj)), Zc cl d oe → (∃ vs, oe.data = .fields vs) → PSs (X.suite a ((a, oe) :: pn)) su (ts a cl d)
inductive Mix (X : Cx) : List ExceptHandler → List Clause → Prop
  | nil : Mix X [] []
  | only {x : Str} {c : Value} {ts : Addr → Value → Option Addr → TS} {st : Stmt} {su : List Stmt} {np hp : Pos} {hs : List ExceptHandler} {l : List Clause} (hc : Names X x c) (h : SuiteOk X (st :: su) ts) (r : Mix X hs l) : Mix X (.ExceptHandler (some (.Name x np)) none (st :: su) hp :: hs) ((c, none, ts) :: l)
  | as {x n : Str} {i : Nat} {c : Value} {ts : Addr → Value → Option Addr → TS} {st : Stmt} {su : List Stmt} {np hp : Pos} {hs : List ExceptHandler} {l : List Clause} (hN : X.N.Nodup) (hi : X.N[i]? = some n) (hn : X.env.kindOf n = some .local) (hc : Names X x c) (h : SuiteOk X (st :: su) ts) (r : Mix X hs l) :
      Mix X (.ExceptHandler (some (.Name x np)) (some n) (st :: su) hp :: hs) ((c, some i, ts) :: l)
section
variable {X : Cx} {body : List Stmt} {hd0 : ExceptHandler} {hds : List ExceptHandler} {l : List Clause} {pos : Pos} {tb : WX → TS} {Wo : WX}
theorem sp_back {pins : List (Addr × Obj)} {pn : List (Addr × Obj)} {xe : Value → Shared → Prop} {Dn : Ends} {s0 : Shared} {σ0 : St} {H0 : Hp} (I0 : Inv X pins σ0 H0 s0) {fl : Flow} {s : Shared} (h : SP (X.tr pn xe) [] Dn fl s) (hp : pn = X.pn ++ pins) : SP X pins Dn fl s := by
  subst hp
  cases fl with
  | ret u => exact let ⟨v, σ, H, J, r, q⟩ := h; ⟨v, σ, H, J.ofTry I0.ok, r, q⟩
  | _ => exact let ⟨σ, H, J, q⟩ := h; ⟨σ, H, J.ofTry I0.ok, q⟩
theorem mix_go {pins : List (Addr × Obj)} {Dn : Ends} {a : Addr} {B h3 : Heap} {s1 sI : Shared} {σ1 : St} {H1 : Hp} {cl : Value} {d : Option Addr} (hst : X.stack = X.env :: X.outer) (hfr : X.env.frame = some X.env.locals) (tk : Takes X Wo)
    (J : Inv X pins σ1 H1 sI) (nb : ∀ b o, sI.heap.get? b = some o → b ∉ frs X.stack → B.get? b = some o) (up : sI.heap.UpToSlots h3) (fl : HandSPX.FlyingZ B (X.env :: X.outer) a (Zc cl d) h3) (na : H1 a = none) (os : s1.os = sI.os) (ag : PyProof.Rows.AllBare s1.gens)
    (hk : Mix X hds l) (w : wMix X.K Wo Dn l cl d σ1 H1) : wpAny (model X.prog X.w) X.A (handleBy (.ref a) X.env hds) (SP X pins Dn) X.xe { s1 with heap := h3 } := by
  have ok := J.ok
  have land : ∀ {h4 : Heap}, HandSPX.FlyingZ B (X.env :: X.outer) a (Zc cl d) h4 → sI.heap.UpToSlots h4 → ∃ oe, Zc cl d oe ∧ (∃ vs, oe.data = .fields vs) ∧ h4.get? a = some oe ∧ Inv X pins σ1 H1 { s1 with heap := h4 } ∧ Inv (X.suite a ((a, oe) :: (X.pn ++ pins))) [] σ1 H1 { s1 with heap := h4 } := fun {h4} fl4 up4 => by
    have J4 : Inv X pins σ1 H1 { s1 with heap := h4 } := J.landed nb fl4.1 up4 os ag
    obtain ⟨oe, vs, e1, e2, e3⟩ := fl4.there
    have out : a ∉ frs (X.env :: X.outer) := fun hm => by
      obtain ⟨_, o', e', no⟩ := fl4.2.2.1.mem hm
      rw [e1] at e'
      cases e'
      exact no vs e3
    have nL : a ≠ X.env.locals := fun z => out (List.mem_filterMap.mpr ⟨X.env, List.mem_cons_self, by rw [hfr, z]⟩)
    have nF : a ∉ X.fs := fun hm => by
      obtain ⟨e, he, q⟩ := List.mem_filterMap.mp hm
      exact out (List.mem_filterMap.mpr ⟨e, List.mem_cons_of_mem _ he, q⟩)
    exact ⟨oe, e2, ⟨vs, e3⟩, e1, J4, J4.suite e1 e3 na nL nF⟩
  have ask : ∀ {x : Str} {c : Value} {np : Pos} {b : Bool} {Q : Bool → Shared → Prop} {E : Value → Shared → Prop}, Names X x c → PySem.W.exmOne X.K cl c = some b → Q b { s1 with heap := h3 } →
      wpAny (model X.prog X.w) (X.A.mark (some (.ref a))) (eval (.Name x np) X.env) (fun v s => wpAny (model X.prog X.w) (X.A.mark (some (.ref a))) (excMatches (.ref a) v) Q E s) E { s1 with heap := h3 } := fun {x c np b Q E} hc hb q => by
    obtain ⟨oe, z1, z2, z3, J3, S3⟩ := land fl up
    have LT : PySem.W.Looks (model X.prog X.w) h3 (typeOf (.ref a)) cl := fun A Q E s k q => wpAny_typeOf_ref (k _ _ z3) (by rw [z1.1]; exact q)
    have yes : wpAny (model X.prog X.w) (X.A.mark (some (.ref a))) (excMatches (.ref a) c) Q E { s1 with heap := h3 } := (PySem.W.exm_one (M := model X.prog X.w) J3.kIn LT hb).here q
    obtain ⟨hg, hdb, hm | ⟨hm, hv, hnn⟩⟩ := hc
    · exact ld_glob (X := X.suite a ((a, oe) :: (X.pn ++ pins))) S3 hg hm yes hdb
    · exact ld_blt (X := X.suite a ((a, oe) :: (X.pn ++ pins))) S3 hg hm hv yes hnn hdb
  induction hk with
  | nil =>
    refine wpAny_handleBy_nil ?_
    obtain ⟨_, _, _, oe, vs, T, oT, ts', he, hz, hd, h1, _⟩ := id fl
    have last : wpAny (model X.prog X.w) X.A (setFlight (.ref a) X.env.frame) (fun _ s4 => wpAny (model X.prog X.w) X.A (throw (.ref a) : Sem Flow) (SP X pins Dn) X.xe s4) X.xe { s1 with heap := h3 } := by
      rw [hfr]
      exact HandSPX.setFlight_upZ fl fun h4 held up4 => wpAny_throw (tk _ _ ⟨a, B, sI, pins, σ1, H1, cl, d, rfl, J, nb, up.trans up4, .inr (.inr (by rw [hst]; exact held)), na, os, ag, w⟩)
    unfold PySem.passOn
    refine wpAny_bind (wpAny_field he hd h1 ?_)
    rw [if_neg (by simp)]
    first | exact wpAny_bind (wpAny_pure (wpAny_bind last)) | exact wpAny_bind last
  | @only x c ts st su np hp hs l hc hsu r ih =>
    obtain ⟨b, hb, hyes, hno⟩ := w
    refine wpAny_handleBy_cons (codeAny_handlers_test ?_) (by intro q; cases q)
    refine ask hc hb ?_
    cases b with
    | false => exact ih (hno rfl)
    | true =>
      refine codeAny_handlers_suite (HandSPX.lands_againZ fl fun h4 fl4 up4 => ?_)
      obtain ⟨oe, z1, z2, z3, J4, S4⟩ := land fl4 (up.trans up4)
      refine wpAny_mono ((hsu a oe cl d (X.pn ++ pins) z1 z2).run [] _ _ H1 _ S4 (hyes rfl a na)) (fun f s6 hsp => ?_) (fun _ _ z => False.elim z)
      cases f with
      | ret u => exact let ⟨v, σ, H, S6, r6, q⟩ := hsp; ⟨v, σ, H, S6.unsuite ok, r6, q⟩
      | _ => exact let ⟨σ, H, S6, q⟩ := hsp; ⟨σ, H, S6.unsuite ok, q⟩
  | @as x n i c ts st su np hp hs l hN hi hn hc hsu r ih =>
    obtain ⟨b, hb, hyes, hno⟩ := w
    refine wpAny_handleBy_cons (codeAny_handlers_test ?_) (by intro q; cases q)
    refine ask hc hb ?_
    cases b with
    | false => exact ih (hno rfl)
    | true =>
      refine codeAny_handlers_suite_as (HandSPX.lands_againZ fl fun h4 fl4 up4 => ?_)
      obtain ⟨oe, z1, z2, z3, J4, S4⟩ := land fl4 (up.trans up4)
      refine store_ok (X := X.suite a ((a, oe) :: (X.pn ++ pins))) (v := .ref a) S4 hN hi (.inl hn) rfl (fun s5 S5 => ?_) (.inr hn)
      refine wpAny_mono ((hsu a oe cl d (X.pn ++ pins) z1 z2).run [] s5 _ H1 _ S5 (hyes rfl a na)) (fun f s6 hsp => ?_) (fun _ _ z => False.elim z)
      have off : ∀ {σ6 : St} {H6 : Hp} {Q : Shared → Prop}, Inv (X.suite a ((a, oe) :: (X.pn ++ pins))) [] σ6 H6 s6 → (∀ s7, Inv X pins (σ6.set i none) H6 s7 → Q s7) →
          wpAny (model X.prog X.w) X.A (do bindName X.env n .none; unbindBehindTheSuite X.env n hp) (fun _ s7 => Q s7) X.xe s6 := fun {σ6 H6 Q} S6 hq => gone_ok (S6.unsuite ok) hN hi hn hq
      cases f with
      | ret u => exact let ⟨v, σ, H, S6, r6, q⟩ := hsp; off S6 fun s7 J7 => ⟨v, _, H, J7, r6, q⟩
      | _ => exact let ⟨σ, H, S6, q⟩ := hsp; off S6 fun s7 J7 => ⟨_, H, J7, q⟩
theorem ps_try_mix (hst : X.stack = X.env :: X.outer) (hfr : X.env.frame = some X.env.locals) (tk : Takes X Wo)
    (hb : ∀ (W : WX) (pn : List (Addr × Obj)) (xe : Value → Shared → Prop), Takes (X.tr pn xe) W → PassesOwn (model X.prog X.w) X.A X.env xe → PSs (X.tr pn xe) body (tb W))
    (hk : Mix X (hd0 :: hds) l) : PS X (.Try body (hd0 :: hds) [] [] pos) (fun Dn σ H => tb (wMix X.K Wo Dn l) Dn σ H) := by
  refine ⟨fun pins s σ H Dn I h => wpAny_Try_except ?_⟩
  have frs_ : X.A.frames = some (X.env :: X.outer) := by rw [I.ok.frames, hst]
  refine wpAny_mono ((hb (wMix X.K Wo Dn l) (X.pn ++ pins) (fun e s₁ => wpAny (model X.prog X.w) X.A (noteFrame e X.env) (fun _ s₂ => wpAny (model X.prog X.w) X.A (setFlight e none) (fun _ s₃ =>
    wpAny (model X.prog X.w) X.A (handleBy e X.env (hd0 :: hds)) (SP X pins Dn) X.xe s₃) X.xe s₂) X.xe s₁) (fun u s1 xx => ?_) PassesOwn.looking).run [] s σ H Dn (I.toTry _) h) (fun f s1 hsp => ?_) (fun e s1 he => he)
  · obtain ⟨a, B, sI, pins', σ1, H1, cl, d, rfl, J', nb, up, sky, na, os, ag, w⟩ := xx
    have sky1 : Sky B (X.env :: X.outer) a (Zc cl d) X.env.locals s1.heap := by rw [← hst]; exact sky
    show wpAny (model X.prog X.w) X.A (noteFrame (.ref a) X.env) _ _ _
    exact Sky.land Zc.steady frs_ hfr sky1 fun h3 fl3 up3 => mix_go hst hfr tk (J'.ofTry I.ok) nb (up.trans up3) fl3 na os ag hk w
  · have z := sp_back I hsp rfl
    cases f with
    | next => exact wpAny_execs_nil z
    | _ => exact z
end
end DL

set_option Elab.async false
set_option linter.all false
set_option maxRecDepth 100000
set_option maxHeartbeats 4000000
set_option autoImplicit false
namespace DL
open PySem L2

/-! ### try .. except .. over data -/
structure DClause where
  k : Nat
  slot : Option Nat
  su : D → DTS
def endsD (o : Option Nat) (E : DEnds) : DEnds := match o with
  | none => { E with ex := noX }
  | some i => { nx := fun ρ M => E.nx (ρ.set i none) M, rt := E.rt, bk := fun ρ M => E.bk (ρ.set i none) M, ct := fun ρ M => E.ct (ρ.set i none) M, ex := noX }
def setD (o : Option Nat) (ρ : DL.Env) (x : D) : DL.Env := match o with
  | none => ρ
  | some i => ρ.set i (some x)
/-- which class is of which -/
def mtT (tb : List ((Nat × Nat) × Bool)) (c k : Nat) : Option Bool := tb.lookup (c, k)
def dHandle (tb : List ((Nat × Nat) × Bool)) : List DClause → DEnds → DX
  | [], E => E.ex
  | q :: r, E => fun c ns ds ρ M => ∃ b, mtT tb c q.k = some b ∧ (b = true → ∀ a dd, M a = none → q.su (.exc a dd c ns ds) (endsD q.slot E) (setD q.slot ρ (.exc a dd c ns ds)) M) ∧ (b = false → dHandle tb r E c ns ds ρ M)
def dTry (tb : List ((Nat × Nat) × Bool)) (t : DTS) (qs : List DClause) : DTS := fun E ρ M => t { E with ex := fun c ns ds ρ' M' => ns ≠ [] ∧ dHandle tb qs E c ns ds ρ' M' } ρ M
def MtOk (K : PySem.W.Frag) (cl : Nat → Addr) (tb : List ((Nat × Nat) × Bool)) : Prop := ∀ c k b, mtT tb c k = some b → PySem.W.exmOne K (.ref (cl c)) (.ref (cl k)) = some b
def XOk (cl : ClW) (x : D) (a : Addr) (cls : Value) (d : Option Addr) : Prop := ∃ dd c ns ds, x = .exc a dd c ns ds ∧ d = some dd ∧ cls = .ref (cl c)
section
variable {cl : ClW} {X : Cx} {W : WX}
theorem pss_ex {α : Type} {p : α → Prop} {st : List Stmt} {t : α → TS} (h : ∀ x, p x → PSs X st (t x)) : PSs X st (fun D σ H => ∃ x, p x ∧ t x D σ H) := ⟨fun pins s σ H D I ⟨x, hx, q⟩ => (h x hx).run pins s σ H D I q⟩
/-- the clauses of the text and those over data -/
inductive DMix (cl : ClW) (X : Cx) : List ExceptHandler → List DClause → Prop
  | nil : DMix cl X [] []
  | only {x : Str} {k : Nat} {su : D → DTS} {st : Stmt} {ss : List Stmt} {np hp : Pos} {hs : List ExceptHandler} {l : List DClause} (hc : Names X x (.ref (cl k)))
      (h : ∀ (x : D) (a : Addr) (oe : Obj) (cls : Value) (d : Option Addr) (pn : List (Addr × Obj)), XOk cl x a cls d → Zc cls d oe → (∃ vs, oe.data = .fields vs) → DSs cl (X.suite a ((a, oe) :: pn)) W0 (st :: ss) (su x)) (r : DMix cl X hs l) :
      DMix cl X (.ExceptHandler (some (.Name x np)) none (st :: ss) hp :: hs) (⟨k, none, su⟩ :: l)
  | as {x n : Str} {i k : Nat} {su : D → DTS} {st : Stmt} {ss : List Stmt} {np hp : Pos} {hs : List ExceptHandler} {l : List DClause} (hN : X.N.Nodup) (hi : X.N[i]? = some n) (hn : X.env.kindOf n = some .local) (hc : Names X x (.ref (cl k)))
      (h : ∀ (x : D) (a : Addr) (oe : Obj) (cls : Value) (d : Option Addr) (pn : List (Addr × Obj)), XOk cl x a cls d → Zc cls d oe → (∃ vs, oe.data = .fields vs) → DSs cl (X.suite a ((a, oe) :: pn)) W0 (st :: ss) (su x)) (r : DMix cl X hs l) :
      DMix cl X (.ExceptHandler (some (.Name x np)) (some n) (st :: ss) hp :: hs) (⟨k, some i, su⟩ :: l)
def tsOf (K : PySem.W.Frag) (cl : ClW) (su : D → DTS) : Addr → Value → Option Addr → TS := fun a cls d Dn σ H => ∃ x, XOk cl x a cls d ∧ lowS K cl W0 (su x) Dn σ H
def clOf (K : PySem.W.Frag) (cl : ClW) (q : DClause) : Clause := (.ref (cl q.k), q.slot, tsOf K cl q.su)
theorem DMix.mix {hs : List ExceptHandler} {l : List DClause} (h : DMix cl X hs l) : Mix X hs (l.map (clOf X.K cl)) := by
  induction h with
  | nil => exact .nil
  | only hc h r ih => exact .only hc (fun a oe cls d pn hz hf => pss_ex (p := fun x => XOk cl x a cls d) fun x hx => (h x a oe cls d pn hx hz hf).pss) ih
  | as hN hi hn hc h r ih => exact .as hN hi hn hc (fun a oe cls d pn hz hf => pss_ex (p := fun x => XOk cl x a cls d) fun x hx => (h x a oe cls d pn hx hz hf).pss) ih
theorem ends_ok {F : Hp} {Dn : Ends} {E : DEnds} (o : Option Nat) (ok : EndsOk X.K cl W F Dn E) : EndsOk X.K cl W0 F (endsAt o Dn) (endsD o E) := by
  have wx : WOk X.K cl W0 F noX := wok0
  cases o with
  | none => exact ⟨ok.nx, ok.rt, ok.bk, ok.ct, wx⟩
  | some i => exact ⟨fun σ H F' ρ M sm g s q => ok.nx _ H F' _ M sm g (s.setN i) q, ok.rt, fun σ H F' ρ M sm g s q => ok.bk _ H F' _ M sm g (s.setN i) q, fun σ H F' ρ M sm g s q => ok.ct _ H F' _ M sm g (s.setN i) q, wx⟩
theorem mix_ok {tb : List ((Nat × Nat) × Bool)} (mt : MtOk X.K cl tb) {Dn : Ends} {E : DEnds} {F : Hp} (ok : EndsOk X.K cl W F Dn E) : ∀ (l : List DClause), WOk X.K cl (wMix X.K W Dn (l.map (clOf X.K cl))) F (fun c ns ds ρ M => ns ≠ [] ∧ dHandle tb l E c ns ds ρ M)
  | [] => fun c ns ds σ H F' ρ M dd sm g s ea ⟨_, q⟩ => ok.ex c ns ds σ H F' ρ M dd sm g s ea q
  | q :: r => fun c ns ds σ H F' ρ M dd sm g s ea ⟨hn, b, e1, e2, e3⟩ => by
    refine ⟨b, mt _ _ _ e1, fun hb a ha => ?_, fun hb => mix_ok mt ok r c ns ds σ H F' ρ M dd sm g s ea ⟨hn, e3 hb⟩⟩
    rcases ea with ⟨_, z, _⟩ | ⟨d, vs, rfl, h1, h2, h3⟩
    · exact absurd z hn
    refine ⟨.exc a d c ns ds, ⟨d, c, ns, ds, rfl, rfl, rfl⟩, F', setD q.slot ρ (.exc a d c ns ds), M, endsD q.slot E, g, ?_, e2 hb a d (g.freshM ha), ends_ok q.slot (ok.mono sm)⟩
    cases ho : q.slot with
    | none => exact s
    | some i => exact s.set i (.exc h1 h2 h3)
theorem ds_try {tb : List ((Nat × Nat) × Bool)} {body : List Stmt} {hd0 : ExceptHandler} {hds : List ExceptHandler} {qs : List DClause} {t : DTS} {pos : Pos} {k : Nat} (cp : Cap X W k) (mt : MtOk X.K cl tb) (hst : X.stack = X.env :: X.outer) (hfr : X.env.frame = some X.env.locals)
    (hb : ∀ (W' : WX) (pn : List (Addr × Obj)) (xe : Value → Shared → Prop), Cap (X.tr pn xe) W' k → DSs cl (X.tr pn xe) W' body t) (hk : DMix cl X (hd0 :: hds) qs) : DS cl X W (.Try body (hd0 :: hds) [] [] pos) (dTry tb t qs) :=
  ⟨ps_imp (ps_try_mix (tb := fun W' => lowS X.K cl W' t) hst hfr cp.tk (fun W' pn xe tk po => (hb W' pn xe ⟨tk, cp.hr, po, cp.calm⟩).pss) hk.mix) fun Dn σ H ⟨F, ρ, M, E, g, s, q, ok⟩ =>
    ⟨F, ρ, M, _, g, s, q, ⟨ok.nx, ok.rt, ok.bk, ok.ct, mix_ok mt ok qs⟩⟩⟩
end
end DL

set_option Elab.async false
set_option linter.all false
set_option maxRecDepth 100000
set_option maxHeartbeats 4000000
set_option autoImplicit false
namespace DL
open PySem L2

/-! ### inside an except suite -/
/-- room there -/
structure CapS (A : Around) : Prop where
  un : A.units + 200 < cLine
  gd : A.guards = some []
theorem Cap.suite {X : Cx} {W : WX} {k : Nat} (c : Cap X W k) (a : Addr) (pn : List (Addr × Obj)) : CapS (X.suite a pn).A := ⟨by have := c.hr.room.un; show X.A.units + 200 < cLine; omega, c.hr.gd⟩
theorem CapS.u1 {A : Around} (c : CapS A) : A.units + 1 < cLine := by have := c.un; omega
theorem CapS.u64 {A : Around} (c : CapS A) : A.units + 64 < cLine := by have := c.un; omega
section
variable {X : Cx}
theorem call_reprU (c : CapS X.A) : CallR X (.builtin "repr") (rRepr X.K) := by
  intro pins s σ H xs us Q I r ⟨x, p, e, hd, hs, hp, hz, q⟩
  subst e
  obtain ⟨u, rfl, ru⟩ := vals1 r
  obtain ⟨as, rd⟩ := Dp.reads I p x u hd ru
  have un := c.un
  have dp := SeqAt.depth_of_shaped hp
  cases hd with
  | non => cases ru; exact PySem.P.repr_of_none ⟨.str _, H, I.tok _, ⟨_, rfl⟩, q⟩
  | bl b => cases ru; exact PySem.P.repr_of_bool ⟨.str _, H, I.tok _, ⟨_, rfl⟩, by simpa [PyData.shown] using q⟩
  | int i => obtain ⟨t, rfl⟩ := ru; exact PySem.P.repr_of_int (by simpa [PyData.showable] using hs) ⟨.str _, H, I.tok _, ⟨_, rfl⟩, by simpa [PyData.shown] using q⟩
  | str z => obtain ⟨t, rfl⟩ := ru; exact PySem.P.repr_of_str ⟨.str _, H, I.tok _, ⟨_, rfl⟩, by simpa [PyData.shown] using q⟩ (by simpa [PyData.shown] using hz)
  | lst h1 h2 => cases ru; exact PySem.repr_of_reads' rd hs (PyData.noDict_hsm (PyData.hasDict_of_canLay _ (SeqAt.canLay_of_shaped hp))) c.gd (by omega) (fun _ _ e => e) (fun h' t tk kp => ⟨.str _, H, I.kept (t' := tk) kp, ⟨_, rfl⟩, q⟩) hz
  | tup h1 h2 => cases ru; exact PySem.repr_of_reads' rd hs (PyData.noDict_hsm (PyData.hasDict_of_canLay _ (SeqAt.canLay_of_shaped hp))) c.gd (by omega) (fun _ _ e => e) (fun h' t tk kp => ⟨.str _, H, I.kept (t' := tk) kp, ⟨_, rfl⟩, q⟩) hz
end
/-- e.f of the caught exception -/
def excF (cs : List Nat) (f : Str) : D → Option D
  | .exc _ _ c ns ds => if c ∈ cs then lookN f ns ds else none
  | _ => none
@[simp] def dXf (cs : List Nat) (f : Str) (x : D) (τ : DTE) : DTE := fun ρ M Q X => τ ρ M (fun d M1 => d = x ∧ ∃ v, excF cs f x = some v ∧ Q v M1) X
def XfOk (K : PySem.W.Frag) (cl : Nat → Addr) (cs : List Nat) (f : Str) : Prop := ∀ c ∈ cs, XfC K (cl c) ∧ PySem.W.findIn K (.ref (cl c)) f = some none
def xfOkB (K : PySem.W.Frag) (cl : Nat → Addr) (cs : List Nat) (f : Str) : Bool := cs.all fun c => xfB K (cl c) && He.eqO (PySem.W.findIn K (.ref (cl c)) f) (some none)
theorem xfOkB_ok {K : PySem.W.Frag} {cl : Nat → Addr} {cs : List Nat} {f : Str} (h : xfOkB K cl cs f = true) : XfOk K cl cs f := fun c hc => by
  obtain ⟨h1, h2⟩ := and2 (List.all_eq_true.mp h c hc)
  exact ⟨xfB_ok h1, He.eqO_ok h2⟩
section
variable {cl : ClW} {X : Cx} {a : Addr} {oe : Obj} {cls : Value} {d : Option Addr} {pn : List (Addr × Obj)} {x : D} {e : Expr} {τ : DTE} {f : Str} {cs : List Nat} {pos : Pos}
theorem d_xf (T : XfOk X.K cl cs f) (hx : XOk cl x a cls d) (hz : Zc cls d oe) (hf : ∃ vs, oe.data = .fields vs) (he : DE cl (X.suite a ((a, oe) :: pn)) W0 e τ) (hb : attributeBase e f X.env (eval e X.env) = eval e X.env := by rfl) :
    DE cl (X.suite a ((a, oe) :: pn)) W0 (.Attribute e f pos) (dXf cs f x τ) := by
  obtain ⟨dd, c, ns, ds, rfl, rfl, rfl⟩ := hx
  by_cases hc : c ∈ cs
  · obtain ⟨t1, t2⟩ := T c hc
    refine ⟨pe_imp (pe_xf t1 t2 hz hf he.pe hb) fun σ H Q ⟨F, ρ, M, Qd, Xd, g, s, q, p, w⟩ => ⟨F, ρ, M, _, Xd, g, s, q, fun v H1 F1 d1 M1 sm g1 r1 ⟨e1, v2, e2, q1⟩ => ?_, w⟩⟩
    subst e1
    cases r1 with
    | @exc _ _ _ _ vs _ h1 h2 h3 =>
      rw [excF, if_pos hc] at e2
      obtain ⟨y, y1, y2⟩ := reps_lookN h3 e2
      exact ⟨rfl, rfl, dd, _, y, rfl, g1.sub _ _ h1, by rw [lookN_zip]; exact y1, p _ _ _ _ _ sm g1 y2 q1⟩
  · refine ⟨⟨fun pins s σ H Q I ⟨F, ρ, M, Qd, Xd, g, sl, q, p, w⟩ => attr_of hb (thn (he.pe.run pins s σ H (fun _ _ => False) I ⟨F, ρ, M, _, Xd, g, sl, q, fun v H1 F1 d1 M1 sm g1 r1 ⟨e1, v2, e2, q1⟩ => ?_, w⟩) fun u s1 ⟨_, _, _, _, h⟩ => h.elim)⟩⟩
    rw [excF, if_neg hc] at e2
    cases e2
end
/-! ### facts of exceptions, as truth values -/
def oexB (K : PySem.W.Frag) (C : Addr) : Bool := (match K.lookup C with
  | some ⟨.type "type", _, .cls cd, sl⟩ => (match cd.mro, sl.toList with
    | .ref C' :: bm, [_, _, _, _, some (.builtin n), _] => decide (C' = C) && (decide (n = "ValueError.__new__") && (!cd.hasDel && (cd.hasDict && PySem.HandSPX.refsVE bm)))
    | _, _ => false)
  | _ => false) && (He.eqO (PySem.W.findIn K (.ref C) "__setattr__") (some (some (.builtin "object.__setattr__"))) && ((PySem.W.subIn K (.ref C) (.type "BaseException") == some true) && ((PySem.W.typeIn K (.ref C) == some (.type "type")) && PySem.W.keepIn K (.ref C))))
theorem oexB_ok {K : PySem.W.Frag} {C : Addr} (h : oexB K C = true) : OexC K C := by
  obtain ⟨h0, h⟩ := and2 h
  obtain ⟨h1, h⟩ := and2 h
  obtain ⟨h2, h⟩ := and2 h
  obtain ⟨h3, h4⟩ := and2 h
  refine ⟨?_, He.eqO_ok h1, beq_iff_eq.mp h2, beq_iff_eq.mp h3, h4⟩
  split at h0
  · rename_i dd cd sl ho
    split at h0
    · rename_i C' bm k0 k1 k2 k3 n k5 hm hs
      obtain ⟨g1, h0⟩ := and2 h0
      obtain ⟨g2, h0⟩ := and2 h0
      obtain ⟨g3, h0⟩ := and2 h0
      obtain ⟨g4, g5⟩ := and2 h0
      have e1 := of_decide_eq_true g1
      have e2 := of_decide_eq_true g2
      have e3 : cd.hasDel = false := by simpa using g3
      subst e1 e2
      obtain ⟨nm, bs, mro, ns, qn, hd, sn, sb, ab, col, del⟩ := cd
      dsimp only at hm e3 g4
      subst hm e3 g4
      have hsl : sl = #[k0, k1, k2, k3, some (.builtin "ValueError.__new__"), k5] := by
        cases sl
        dsimp only at hs
        rw [hs]
      subst hsl
      exact ⟨nm, qn, ns, bs, bm, sn, sb, ab, col, dd, k0, k1, k2, k3, k5, ho, g5⟩
    · cases h0
  · cases h0
def xnB (K : PySem.W.Frag) (C : Addr) (fI : Addr) (fs : List Str) : Bool := He.eqO (PySem.W.findIn K (.ref C) "__init__") (some (some (.ref fI))) && ((PySem.W.typeIn K (.ref fI) == some (.type "function")) && (fs.all fun f => He.eqO (PySem.W.findIn K (.ref C) f) (some none)))
theorem xnB_ok {K : PySem.W.Frag} {C fI : Addr} {fs : List Str} (h : xnB K C fI fs = true) : PySem.W.findIn K (.ref C) "__init__" = some (some (.ref fI)) ∧ PySem.W.typeIn K (.ref fI) = some (.type "function") ∧ ∀ f ∈ fs, PySem.W.findIn K (.ref C) f = some none := by
  obtain ⟨h1, h⟩ := and2 h
  obtain ⟨h2, h3⟩ := and2 h
  exact ⟨He.eqO_ok h1, beq_iff_eq.mp h2, fun f hf => He.eqO_ok (List.all_eq_true.mp h3 f hf)⟩
section
variable {K : PySem.W.Frag} {cl : ClW}
def mtB (K : PySem.W.Frag) (cl : Nat → Addr) (tb : List ((Nat × Nat) × Bool)) : Bool := tb.all fun p => PySem.W.exmOne K (.ref (cl p.1.1)) (.ref (cl p.1.2)) == some p.2
theorem mtB_ok {cl : Nat → Addr} {tb : List ((Nat × Nat) × Bool)} (h : mtB K cl tb = true) : MtOk K cl tb := by
  intro c k b e
  induction tb with
  | nil => cases e
  | cons p r ih =>
    obtain ⟨⟨c0, k0⟩, b0⟩ := p
    unfold mtB at h
    rw [List.all_cons] at h
    obtain ⟨h1, h2⟩ := and2 h
    by_cases hc : (c, k) = (c0, k0)
    · cases hc
      unfold mtT at e
      rw [List.lookup, beq_self_eq_true] at e
      cases e
      exact beq_iff_eq.mp h1
    · have : ((c, k) == (c0, k0)) = false := beq_false_of_ne hc
      unfold mtT at e ih
      rw [List.lookup, this] at e
      exact ih h2 e
end
end DL

set_option Elab.async false
set_option linter.all false
set_option maxRecDepth 100000
set_option maxHeartbeats 4000000
namespace DL
open PySem L2

/-! ### a comprehension's list that is changed later -/
def lcR (γ : DTG) (υ : DTT) (τ : DTE) (vs : List Nat) (a : Addr) : List D → DL.Env → Mem → (Mem → Prop) → Prop
  | [] => fun _ M R => R M
  | x :: xs => fun ρ M R => γ x (wipeD ρ vs) M (fun ρ2 M2 => υ ρ2 M2 (fun b M3 => if b = true then τ ρ2 M3 (fun d M4 => ∃ acc, M4 a = some (.lst acc) ∧ acc.length < sizeLine ∧ lcR γ υ τ vs a xs ρ (updM M4 a (.lst (acc ++ [d]))) R) noX else lcR γ υ τ vs a xs ρ M3 R) noX) noX
def dLcM (ι : DTI) (γ : DTG) (υ : DTT) (τ : DTE) (vs : List Nat) : DTE := fun ρ M Q X => ι ρ M (fun xs M1 => ∀ a, M1 a = none → lcR γ υ τ vs a xs ρ (updM M1 a (.lst [])) (fun M2 => Q (.ref a) M2)) X
section
variable {cl : ClW} {X : Cx} {W : WX} {elt tg iter : Expr} {ifs : List Expr} {scope : Scope} {own : List (Str × Nat)} {pos : Pos} {ι : DTI} {is : List Nat} {γ : DTG} {υ : DTT} {τ : DTE}
theorem lcM_lift {K : PySem.W.Frag} (his : ∀ i ∈ is, i ∈ own.map (·.2)) {σ : St} {H : Hp} {Q : VK} {F : Hp} {ρ : DL.Env} {M : Mem} {Qd : DV} {Xd : DX} (g : Good K cl F H M) (s : Slots K cl F σ ρ) (q : dLcM ι γ υ τ (own.map (·.2)) ρ M Qd Xd) (p : Post K cl F Q Qd) (w : WOk K cl W F Xd) :
    tLc (fun σ H R => ∃ F ρ M Rd Xd, Good K cl F H M ∧ Slots K cl F σ ρ ∧ ι ρ M Rd Xd ∧ (∀ J H' F' xs M', Same F F' → Good K cl F' H' M' → Walks K cl J F' xs → Rd xs M' → R J H') ∧ WOk K cl W F Xd)
      (fun v σ H Q => ∃ F ρ M d Qd Xd, Good K cl F H M ∧ Slots K cl F σ ρ ∧ Rep K cl F v d ∧ γ d ρ M Qd Xd ∧ (∀ σ' H' F' ρ' M', Same F F' → Good K cl F' H' M' → Slots K cl F' σ' ρ' → (∀ vs : List Nat, (∀ i ∈ is, i ∈ vs) → wipe σ' vs = wipe σ vs) → Qd ρ' M' → Q σ' H') ∧ WOk K cl W0 F Xd)
      (lowT K cl W0 υ) (lowE K cl W0 τ) (own.map (·.2)) σ H Q := by
  refine ⟨F, ρ, M, _, Xd, g, s, q, fun J H1 F1 xs M1 sm1 g1 wk q1 a hD => ?_, w⟩
  refine ⟨fun i m H => m = xs.length - i ∧ i ≤ xs.length ∧ ∃ F' M, Same F1 F' ∧ Good K cl F' H M ∧ lcR γ υ τ (own.map (·.2)) a (xs.drop i) ρ M (fun M2 => Qd (.ref a) M2),
    ⟨xs.length, by simp, Nat.zero_le _, F1, updM M1 a (.lst []), Same.refl F1, g1.newM (d := .lst []) hD ⟨[], upd_same, .nil⟩, by simpa using q1 a (g1.freshM hD)⟩, ?_⟩
  rintro i m H2 ⟨rfl, hi, F2, M2, sm2, g2, q2⟩
  by_cases hlt : i < xs.length
  · obtain ⟨go, yl⟩ := (wk i F2 H2 M2 sm2 g2).1 xs[i] (by simp [hlt])
    rw [List.drop_eq_getElem_cons hlt] at q2
    unfold lcR at q2
    refine .inr ⟨go, fun H' => ∃ F' M', Same F1 F' ∧ Good K cl F' H' M' ∧ lcR γ υ τ (own.map (·.2)) a (xs.drop (i + 1)) ρ M' (fun M2 => Qd (.ref a) M2), fun H' n => ⟨xs.length - (i + 1), by omega, rfl, hlt, n⟩, fun x H3 y => ?_⟩
    obtain ⟨F3, sm3, g3, r3⟩ := yl x H3 y
    refine ⟨F3, wipeD ρ (own.map (·.2)), M2, xs[i], _, noX, g3, (s.mono ((sm1.trans sm2).trans sm3)).wipe _, r3, q2, fun σ4 H4 F4 ρ4 M4 sm4 g4 s4 w4 q4 => ⟨?_, ?_⟩, wok0⟩
    · rw [w4 _ his]
      exact wipe_idem _ _ _ fun _ h => h
    · refine ⟨F4, ρ4, M4, _, noX, g4, s4, q4, fun k H5 F5 M5 sm5 g5 q5 => ?_, wok0⟩
      cases k with
      | true =>
        rw [if_pos rfl] at q5 ⊢
        refine ⟨F5, ρ4, M5, _, noX, g5, s4.mono sm5, q5, fun y2 H6 F6 d M6 sm6 g6 r6 q6 => ?_, wok0⟩
        obtain ⟨acc, e1, e2, q6⟩ := q6
        obtain ⟨hF, vs, h1, h2⟩ := g6.cell a _ e1
        refine ⟨vs, h1, by rw [h2.length]; exact e2, F6, _, (((sm2.trans sm3).trans sm4).trans sm5).trans sm6, g6.put (d := .lst (acc ++ [d])) e1 ⟨vs ++ [y2], upd_same, h2.append (.one r6)⟩, q6⟩
      | false =>
        rw [if_neg Bool.false_ne_true] at q5 ⊢
        exact ⟨F5, M5, ((sm2.trans sm3).trans sm4).trans sm5, g5, q5⟩
  · have e : i = xs.length := by omega
    subst e
    rw [List.drop_length] at q2
    unfold lcR at q2
    exact .inl ⟨(wk _ F2 H2 M2 sm2 g2).2 (Nat.le_refl _), p _ _ _ _ _ (sm1.trans sm2) g2 (.ref a) q2⟩
theorem d_lcM (hc : X.calm = true) (hN : X.N.Nodup) (hi : DI cl X W tg iter ι) (ok : BlkOk X.N X.env.scope scope own)
    (hg : ∀ (s : Shared) (H : Hp) (C : Addr) (cs : List (Str × Addr)) (fp : List Addr), DG cl (X.blk s H scope (compEnvC scope cs C X.env) fp) W0 tg is γ) (ht : ∀ (s : Shared) (H : Hp) (C : Addr) (cs : List (Str × Addr)) (fp : List Addr), DTs cl (X.blk s H scope (compEnvC scope cs C X.env) fp) W0 ifs υ)
    (he : ∀ (s : Shared) (H : Hp) (C : Addr) (cs : List (Str × Addr)) (fp : List Addr), DE cl (X.blk s H scope (compEnvC scope cs C X.env) fp) W0 elt τ) (his : ∀ i ∈ is, i ∈ own.map (·.2) := by decide) (hs : ∀ x, foldedSetIterable iter X.env x = pure x := by intro _; rfl) :
    DE cl X W (.ListComp elt [⟨tg, iter, ifs, 0⟩] scope pos) (dLcM ι γ υ τ (own.map (·.2))) :=
  ⟨pe_imp (pe_lc hc hN hi.pi ok (fun s H C cs fp => (hg s H C cs fp).pg) (fun s H C cs fp => (ht s H C cs fp).pts) (fun s H C cs fp => (he s H C cs fp).pe) hs) fun σ H Q ⟨F, ρ, M, Qd, Xd, g, s, q, p, w⟩ => lcM_lift his g s q p w⟩
theorem ds_setLcM {y : Str} {py spos : Pos} (i : Nat) (hc : X.calm = true) (hN : X.N.Nodup) (hi : DI cl X W tg iter ι) (ok : BlkOk X.N X.env.scope scope own)
    (hg : ∀ (s : Shared) (H : Hp) (C : Addr) (cs : List (Str × Addr)) (fp : List Addr), DG cl (X.blk s H scope (compEnvC scope cs C X.env) fp) W0 tg is γ) (ht : ∀ (s : Shared) (H : Hp) (C : Addr) (cs : List (Str × Addr)) (fp : List Addr), DTs cl (X.blk s H scope (compEnvC scope cs C X.env) fp) W0 ifs υ)
    (he : ∀ (s : Shared) (H : Hp) (C : Addr) (cs : List (Str × Addr)) (fp : List Addr), DE cl (X.blk s H scope (compEnvC scope cs C X.env) fp) W0 elt τ) (hy : X.N[i]? = some y := by rfl) (hyl : X.env.scope.names.lookup y = some .local := by rfl)
    (hsw : swapsWith (.ListComp elt [⟨tg, iter, ifs, 0⟩] scope pos) (some (.Name y py)) spos.line X.env = pure true := by exact sw_true rfl rfl rfl (by decide +kernel)) (his : ∀ i ∈ is, i ∈ own.map (·.2) := by decide) (hs : ∀ x, foldedSetIterable iter X.env x = pure x := by intro _; rfl) :
    DS cl X W (.Assign [.Name y py] (.ListComp elt [⟨tg, iter, ifs, 0⟩] scope pos) spos) (dAsg (dLcM ι γ υ τ (own.map (·.2))) (gN i)) :=
  ⟨ps_imp (ps_setLc hc hN hy hyl hsw hi.pi ok (fun s H C cs fp => (hg s H C cs fp).pg) (fun s H C cs fp => (ht s H C cs fp).pts) (fun s H C cs fp => (he s H C cs fp).pe) hs) fun D σ H ⟨F, ρ, M, E, g, s, q, ok⟩ =>
    lcM_lift his g s q (fun v H' F' d M' sm g' r q' => ok.nx _ _ _ _ _ sm g' ((s.mono sm).set i r) q') ok.ex⟩
end
theorem lcR_run {γ : DTG} {υ : DTT} {τ : DTE} {vs : List Nat} {a : Addr} {R : Mem → Prop} {ρ : DL.Env} (xs : List D) (P : List D → List D → Mem → Prop)
    (step : ∀ (done : List D) (x : D) (rest acc : List D) (M : Mem) (Nx : Mem → Prop), xs = done ++ x :: rest → M a = some (.lst acc) → P done acc M → (∀ acc' M', M' a = some (.lst acc') → P (done ++ [x]) acc' M' → Nx M') →
      γ x (wipeD ρ vs) M (fun ρ2 M2 => υ ρ2 M2 (fun b M3 => if b = true then τ ρ2 M3 (fun d M4 => ∃ acc, M4 a = some (.lst acc) ∧ acc.length < sizeLine ∧ Nx (updM M4 a (.lst (acc ++ [d])))) noX else Nx M3) noX) noX)
    (fin : ∀ acc M, M a = some (.lst acc) → P xs acc M → R M) {M : Mem} (h0 : P [] [] (updM M a (.lst []))) : lcR γ υ τ vs a xs ρ (updM M a (.lst [])) R := by
  have go : ∀ (rest done acc : List D) (M : Mem), xs = done ++ rest → M a = some (.lst acc) → P done acc M → lcR γ υ τ vs a rest ρ M R := by
    intro rest
    induction rest with
    | nil =>
      intro done acc M e ha p
      rw [List.append_nil] at e
      subst e
      exact fin acc M ha p
    | cons x rest ih =>
      intro done acc M e ha p
      exact step done x rest acc M (fun M' => lcR γ υ τ vs a rest ρ M' R) e ha p fun acc' M' ha' p' => ih (done ++ [x]) acc' M' (by rw [e]; simp) ha' p'
  exact go xs [] [] _ rfl updM_same h0
theorem lcR_fn {γ : DTG} {υ : DTT} {τ : DTE} {vs : List Nat} {a : Addr} {R : Mem → Prop} {ρ : DL.Env} {M : Mem} (f : D → Option D) (xs : List D) (hl : xs.length ≤ 16777216)
    (step : ∀ x ∈ xs, ∀ (M1 : Mem) (T : Option D → Mem → Prop), (∀ b, b ≠ a → M1 b = M b) → T (f x) M1 → γ x (wipeD ρ vs) M1 (fun ρ2 M2 => υ ρ2 M2 (fun b M3 => if b = true then τ ρ2 M3 (fun d M4 => T (some d) M4) noX else T none M3) noX) noX)
    (q : R (updM M a (.lst (xs.filterMap f)))) : lcR γ υ τ vs a xs ρ (updM M a (.lst [])) R := by
  refine lcR_run xs (fun done acc M1 => acc = done.filterMap f ∧ M1 = updM M a (.lst acc)) ?_ ?_ ⟨rfl, rfl⟩
  · rintro done x rest acc M1 Nx e ha ⟨rfl, rfl⟩ nx
    have hx : x ∈ xs := by rw [e]; simp
    have hlen : (done.filterMap f).length < sizeLine := by
      have h1 := List.length_filterMap_le f done
      have h2 := congrArg List.length e
      rw [List.length_append, List.length_cons] at h2
      rw [sizeLine_eq]
      omega
    refine step x hx (updM M a (.lst (done.filterMap f))) (fun o M4 => match o with | some d => ∃ acc, M4 a = some (.lst acc) ∧ acc.length < sizeLine ∧ Nx (updM M4 a (.lst (acc ++ [d]))) | none => Nx M4) (fun b hb => updM_ne hb) ?_
    cases ho : f x with
    | none => exact nx _ _ updM_same ⟨by rw [List.filterMap_append]; simp [ho], rfl⟩
    | some d => exact ⟨_, updM_same, hlen, nx _ _ updM_same ⟨by rw [List.filterMap_append]; simp [ho], updM_updM⟩⟩
  · rintro acc M1 ha ⟨rfl, rfl⟩
    exact q
/-! ### a name's list is not changed any more from here on -/
def dGhost (i : Nat) (t : DTS) : DTS := fun E ρ M => ∃ p d, ρ[i]? = some (some (.ref p)) ∧ M p = some d ∧ t E (ρ.set i (some d)) (delM M p)
section
variable {cl : ClW} {X : Cx} {W : WX} {st : Stmt} {t : DTS}
theorem slot_keep {K : PySem.W.Frag} {F : Hp} {σ : St} {ρ : DL.Env} {i : Nat} {d : D} {v : V} (s : Slots K cl F σ ρ) (h : σ[i]? = some (some v)) (r : Rep K cl F v d) : Slots K cl F σ (ρ.set i (some d)) := ⟨by rw [List.length_set]; exact s.len, fun j e q => by
  by_cases z : i = j
  · subst z
    have hi : i < ρ.length := by rw [← s.len]; exact (List.getElem?_eq_some_iff.mp h).1
    rw [List.getElem?_set_self hi] at q
    cases q
    exact ⟨v, h, r⟩
  · rw [List.getElem?_set_ne z] at q
    exact s.get j e q⟩
theorem ds_ghost (i : Nat) (h : DS cl X W st t) : DS cl X W st (dGhost i t) := ⟨ps_imp h.ps fun Dn σ H ⟨F, ρ, M, E, g, s, ⟨p, d, e1, e2, q⟩, ok⟩ => by
  obtain ⟨F', sm, g', r⟩ := g.freeze e2
  obtain ⟨v, h1, h2⟩ := s.get i _ e1
  have hv := h2.toRef
  subst hv
  exact ⟨F', ρ.set i (some d), delM M p, E, g', slot_keep (s.mono sm) h1 r, q, ok.mono sm⟩⟩
end
end DL

set_option Elab.async false
set_option linter.all false
set_option maxRecDepth 100000
set_option maxHeartbeats 4000000
set_option autoImplicit false
namespace DL
open PySem L2

/-! ### enumerate(tuple) -/
theorem meets_enum1 {v : Value} {o : Obj} {H : Heap → Prop} (B : Begins v o H) :
    Meets (Builtin.«enumerate.__new__» ⟨[.type "enumerate", v], []⟩) (fun _ R s => H s.heap ∧
      R (.ok (.ret (.ref (s.heap.push o).objs.size))) { s with heap := (s.heap.push o).push { cls := .type "enumerate", data := .fields #[.none, .bool false, .ref s.heap.objs.size, rawInt 0, .none, .none] } }) :=
  .of_wp fun prog w A R s ⟨h1, h⟩ => by
    obtain ⟨hp, g, d, tk, os⟩ := s
    have sb := sub_enumerate
    have q1 : ∀ {A' : Around} {E : Value → Shared → Prop} {Q : Value → Shared → Prop}, Q (.ref hp.objs.size) ⟨hp.push o, g, d, tk, os⟩ → wpAny (model prog w) A' (pyIter v) Q E ⟨hp, g, d, tk, os⟩ :=
      fun q => B.iter prog w _ _ ⟨hp, g, d, tk, os⟩ _ h1 q
    wp_walk using q1
    refine wpAny_stack_any fun st => wpAny_pure ?_
    split
    · rename_i c _ _ _ _ _
      cases (c == Value.type "enumerate")
      · wp_walk using q1
        exact ⟨_, rfl, h⟩
      · wp_walk using q1
        exact ⟨_, rfl, h⟩
    · wp_walk using q1
      exact ⟨_, rfl, h⟩
section
variable {prog : Program} {w : World} {A : Around} {E : Value → Shared → Prop} {s : Shared}
theorem call_enum1 {v : Value} {o : Obj} {H : Heap → Prop} {Q : Value → Shared → Prop} (B : Begins v o H) (h1 : H s.heap)
    (h : ∀ h', IsEnum h' (s.heap.objs.size + 1) s.heap.objs.size 0 .none → h'.get? s.heap.objs.size = some o → (∀ b o, s.heap.get? b = some o → h'.get? b = some o) → Q (.ref (s.heap.objs.size + 1)) { s with heap := h' }) :
    wpAny (model prog w) A (call (.type "enumerate") [v]) Q E s := by
  refine callType_new F.called_enumerate (by decide) (F.typeCall_enumerate_1 _) (F.newCall_enumerate_1 _) (fun obj => F.args_object_init_2 obj _) F.entry_enumerate_new (meets_enum1 B) ⟨h1, ?_⟩
  have hz : (s.heap.push o).objs.size = s.heap.objs.size + 1 := Heap.size_push ..
  show _ ∧ _
  rw [hz]
  have at1 := Heap.get?_push_size (s.heap.push o) (o := { cls := .type "enumerate", data := .fields #[.none, .bool false, .ref s.heap.objs.size, rawInt 0, .none, .none] }) rfl
  rw [hz] at at1
  exact ⟨⟨_, at1, rfl⟩, h _ at1 (Heap.get?_push_of_some _ (Heap.get?_push_size _ B.free)) fun b o x => Heap.get?_push_of_some _ (Heap.get?_push_of_some _ x)⟩
end
def IteT (K : PySem.W.Frag) (a : Addr) : It :=
  ⟨fun i H => ∃ (xs : List V) (x : V), SqT K H a xs ∧ xs[i]? = some x, fun i H v H' => ∃ T x, v = .ref T ∧ H T = none ∧ H' = upd H T (.tup [.int (i : Nat), x]) ∧ ∀ xs, SqT K H a xs → xs[i]? = some x, fun i H => ∃ xs : List V, SqT K H a xs ∧ xs.length ≤ i⟩
theorem turn_enumT {P : Program} {w : World} {K : PySem.W.Frag} {elts : List Expr} {kk : Nat} {tpos : Pos} (a e it : Addr) :
    Turn P w K (.Tuple elts kk tpos) (IteT K a) [e, it] e (fun i h => (∃ old, IsEnum h e it ((i : Nat) : Int) old) ∧ h.IsTupleIter it a i ∧ e ≠ it) where
  mem := by simp
  obj := fun i h ⟨⟨old, he⟩, ⟨o, ho, hc, hd⟩, _⟩ b hb => by
    rcases List.mem_cons.mp hb with rfl | hb
    · exact ⟨_, he, fun v q => nomatch q⟩
    · rw [List.mem_singleton.mp hb]
      exact ⟨o, ho, fun v q => by rw [hd] at q; cases q⟩
  keep := fun i h h' ⟨⟨old, he⟩, hi, hne⟩ k => ⟨⟨old, k e (by simp) _ he⟩, hi.at fun o q => k it (by simp) o q, hne⟩
  item := by
    intro X hP hw hK hc i pins s σ H E I hf ⟨⟨old, he⟩, hit, hne⟩ ⟨xs, x, hq, hx⟩
    subst hP hw hK
    obtain ⟨its, rv, p, hz⟩ := I.tuple hq
    obtain ⟨u, hu, ru⟩ := rv.get hx
    have hel : e < s.heap.objs.size := Heap.lt_size he
    have hil : it < s.heap.objs.size := by obtain ⟨_, q, _⟩ := hit; exact Heap.lt_size q
    have nai : a ≠ it := fun z => by
      obtain ⟨o1, e1, c1, _⟩ := p
      obtain ⟨o2, e2, c2, _⟩ := hit
      rw [z, e2] at e1
      cases e1
      rw [c2] at c1
      exact absurd c1 (by simp)
    have nae : e ∉ [it, a] := fun hm => by
      rcases List.mem_cons.mp hm with z | hm
      · exact hne z
      · have z := List.mem_singleton.mp hm
        obtain ⟨o1, e1, c1, _⟩ := p
        rw [← z, he] at e1
        cases e1
        exact absurd c1 (by simp)
    have hlt : i < its.toArray.size := by simpa using (List.getElem?_eq_some_iff.mp hu).1
    have hh : X.A.in1.handled = none := I.ok.hd hc
    refine wpAny_pyNext_enum_itemD (Draws.tuple hh it a nai its.toArray) he ⟨hit, p⟩ hlt hne nae fun y h' tk hy ho hst hT hsz hk => ?_
    have hyu : y = u := by
      have : its.toArray[i]? = some u := by simpa using hu
      rw [this] at hy
      exact (Option.some.inj hy).symm
    subst hyu
    refine ⟨_, rfl, wpAny_letOwnedTupleGo_enum (s := { s with heap := h', toks := tk + 1 }) ho fun h'' he' sb => ?_⟩
    have hT2 : h''.get? s.heap.objs.size = some { cls := .type "tuple", data := .seq #[.int i tk, y] } := (sb.2 _ (Nat.ne_of_gt hel)).trans hT
    have new : ObjOk X.prog X.w (upd H s.heap.objs.size (.tup [.int (i : Nat), x])) h'' s.heap.objs.size (.tup [.int (i : Nat), x]) :=
      ⟨by show 2 ≤ sizeLine; decide, [.int i tk, y], .cons ⟨_, rfl⟩ (.cons ru .nil), ⟨_, hT2, rfl, _, rfl⟩⟩
    have I1 : Inv X pins σ (upd H s.heap.objs.size (.tup [.int (i : Nat), x])) { s with heap := h'', toks := tk + 1 } :=
      I.turnedNew (ch := [e, it]) (fun b ob hb q => (sb.2 b (fun z => hb (by simp [z]))).trans (hk b ob (fun z => hb (by simp [z])) (fun z => hb (by simp [z])) q)) hf (Nat.le_refl _) new
    refine ⟨.ref s.heap.objs.size, _, I1, rfl, ⟨_, x, rfl, I.hok.fresh (Nat.le_refl _), rfl, fun ys hy => by rw [I.tuple_inj hy hq]; exact hx⟩, ⟨⟨y, ?_⟩, hst.1.at fun o q => (sb.2 it (Ne.symm hne)).trans q, hne⟩, fun b hb => ?_⟩
    · rw [show ((i + 1 : Nat) : Int) = (i : Int) + 1 by omega]
      exact he'
    · have hlt2 : b < s.heap.objs.size := by
        rcases List.mem_cons.mp hb with rfl | hb
        · exact hel
        · rw [List.mem_singleton.mp hb]; exact hil
      rw [upd_ne (Nat.ne_of_lt hlt2)]
      exact (hf b hb).1
  done := by
    intro X hP hw hK hc i pins s σ H E I hf ⟨⟨old, he⟩, hit, hne⟩ ⟨xs, hq, hx⟩
    subst hP hw hK
    obtain ⟨its, rv, p, hz⟩ := I.tuple hq
    have hl : xs.length = its.length := Paired.length rv
    have hh : X.A.in1.handled = none := I.ok.hd hc
    have D0 : Draws X.prog X.w X.A.in1 it [it, a] i (fun _ _ => True) (fun j h => j = i ∧ h.IsTupleIter it a j ∧ h.IsTuple a its.toArray) := {
      live := fun _ _ ⟨_, st, _⟩ => let ⟨o, ho, _⟩ := st; ⟨o, ho⟩
      frame := fun _ _ _ ⟨e, s1, s2⟩ hk => ⟨e, s1.at fun o e => hk it (by simp) o e, s2.at fun o e => hk a (by simp) o e⟩
      item := fun j s Q E hj ⟨e, _⟩ _ => absurd e (by omega)
      done := fun s Q E ⟨_, s1, s2⟩ hE => wpAny_nextOf_tuple_end hh s1 s2 (by simp; omega) hE }
    obtain ⟨f0, f1, f2, f3, f4, f5⟩ := hf it (by simp)
    exact wpAny_pyNext_enum_endD D0 he ⟨rfl, hit, p⟩ fun h' eb => ⟨rfl, I.turned (t' := s.toks) (fun b o hb q => eb b o hb q) f0 f1 f3 f4 f5⟩
  self := fun A i s Q E ⟨⟨_, he⟩, _⟩ h => wpAny_pyIter_enum he h
def iEnumT (K : PySem.W.Frag) (ta : TA) : TI := fun σ H R => ta σ H fun vs H1 => (∃ a xs, vs = [.ref a] ∧ SqL K H1 a xs ∧ R (Ite K a) H1) ∨ ∃ a xs, vs = [.ref a] ∧ SqT K H1 a xs ∧ R (IteT K a) H1
theorem pi_enumT {X : Cx} {e : Expr} {ta : TA} {p pos tpos : Pos} {elts : List Expr} {kk : Nat} (hg : Gl X "enumerate") (hm : X.mg "enumerate" = none) (ha : PA X [e] ta) (hs : starEach [e] X.env = [(false, eval e X.env)] := by rfl) :
    PI X (.Tuple elts kk tpos) (.Call (.Name "enumerate" p) [e] [] pos) (iEnumT X.K ta) := by
  refine ⟨fun pins s σ H R I h => PyProof.Rows.Call_ (ld_blt I hg hm PyProof.Rows.boot_enumerate (PyProof.Rows.callWith_type1 (thn (ha.run pos pins s σ H _ I h) fun us s1 ⟨vs, H1, I1, r1, q1⟩ => ?_) hs rfl))⟩
  have fps : ∀ b ∈ [s1.heap.objs.size + 1, s1.heap.objs.size], FpOk X pins H1 b := fun b hb => by
    have hle : s1.heap.objs.size ≤ b := by
      rcases List.mem_cons.mp hb with z | hb
      · rw [z]; exact Nat.le_add_right _ _
      · rw [List.mem_singleton.mp hb]; exact Nat.le_refl _
    exact I1.fpOk hle (I1.hok.fresh hle)
  rcases q1 with ⟨a, xs, rfl, hq, q⟩ | ⟨a, xs, rfl, hq, q⟩
  · obtain ⟨u, rfl, ru⟩ := vals1 r1
    obtain rfl : u = Value.ref a := ru
    obtain ⟨its, rv, pl, hz⟩ := I1.list hq
    exact call_enumerate_list pl.isList fun h' e1 e2 hsz hk => wpAny_pyIter_enum e1 ⟨s1.heap.objs.size + 1, [s1.heap.objs.size + 1, s1.heap.objs.size], _, _, H1, rfl, I1.kept (t' := s1.toks) hk, turn_enum a _ _, ⟨⟨.none, e1⟩, e2, Nat.succ_ne_self _⟩, fps, q⟩
  · obtain ⟨u, rfl, ru⟩ := vals1 r1
    obtain rfl : u = Value.ref a := ru
    obtain ⟨its, rv, pl, hz⟩ := I1.tuple hq
    exact call_enum1 (begins_tuple a its.toArray) pl fun h' e1 e2 hk => wpAny_pyIter_enum e1 ⟨s1.heap.objs.size + 1, [s1.heap.objs.size + 1, s1.heap.objs.size], _, _, H1, rfl, I1.kept (t' := s1.toks) hk, turn_enumT a _ _, ⟨⟨.none, e1⟩, ⟨_, e2, rfl, rfl⟩, Nat.succ_ne_self _⟩, fps, q⟩
/-- over a list or a tuple -/
@[simp] def enD : D → Option (List D)
  | .lst xs => some xs
  | .tup xs => some xs
  | _ => none
@[simp] def iEnT (τ : DTE) : DTI := fun ρ M R X => τ ρ M (fun d M1 => ∃ xs, enD d = some xs ∧ R (xs.zipIdx.map fun p => D.tup [.int (p.2 : Nat), p.1]) M1) X
section
variable {cl : ClW} {X : Cx} {W : WX} {a : Expr} {pos : Pos} {τa : DTE}
theorem di_enumT {elts : List Expr} {kk : Nat} {tpos p : Pos} (hg : Gl X "enumerate") (hm : X.mg "enumerate" = none) (ha : DE cl X W a τa) (hs : starEach [a] X.env = [(false, eval a X.env)] := by rfl) :
    DI cl X W (.Tuple elts kk tpos) (.Call (.Name "enumerate" p) [a] [] pos) (iEnT τa) :=
  ⟨pi_imp (pi_enumT hg hm (da_cons (W := W) (cl := cl) ha da_nil hs).pa hs) fun σ H R ⟨F, ρ, M, Rd, Xd, g, s, q, p, w⟩ =>
    ⟨F, ρ, M, fun ds M1 => ∃ d xs, ds = [d] ∧ enD d = some xs ∧ Rd (xs.zipIdx.map fun p => D.tup [.int (p.2 : Nat), p.1]) M1, Xd, g, s, (by
      unfold iEnT at q
      unfold dCons dNil
      have same : (fun d M1 => ∃ xs, enD d = some xs ∧ Rd (xs.zipIdx.map fun p => D.tup [.int (p.2 : Nat), p.1]) M1) = (fun d M1 => ∃ d' xs, [d] = [d'] ∧ enD d' = some xs ∧ Rd (xs.zipIdx.map fun p => D.tup [.int (p.2 : Nat), p.1]) M1) := by
        funext d M1
        simp
      rw [same] at q
      exact q), fun vs H' F' ds M' sm g' r ⟨d, xs, e1, e2, q'⟩ => (by
      subst e1
      obtain ⟨v, ws, rfl, r1, r2⟩ := r.inv
      obtain rfl := r2.inv0
      have item : ∀ (us : List V), Reps X.K cl F' us xs → ∀ (i : Nat) (F2 H2 : Hp) (M2 : Mem), Same F' F2 → Good X.K cl F2 H2 M2 → ∀ d0, (xs.zipIdx.map fun p => D.tup [.int (p.2 : Nat), p.1])[i]? = some d0 →
          ∃ v0, us[i]? = some v0 ∧ ∀ (T : Addr) (x0 : V) (H3 : Hp), H2 T = none → H3 = upd H2 T (.tup [.int (i : Nat), x0]) → x0 = v0 → ∃ F3, Same F2 F3 ∧ Good X.K cl F3 H3 M2 ∧ Rep X.K cl F3 (.ref T) d0 := fun us hu i F2 H2 M2 sm2 g2 d0 hd => by
        rw [List.getElem?_map, List.getElem?_zipIdx] at hd
        cases e3 : xs[i]? with
        | none => rw [e3] at hd; cases hd
        | some d1 =>
          rw [e3] at hd
          cases hd
          obtain ⟨v0, h3, h4⟩ := hu.get e3
          refine ⟨v0, h3, fun T x0 H3 hT eH ex => ?_⟩
          subst eH ex
          have sm3 : Same F2 (upd F2 T (.tup [.int (i : Nat), x0])) := same_new (g2.freshF hT)
          refine ⟨_, sm3, g2.new hT, .tup (SqT1.of upd_same) (.cons ?_ (.one (h4.mono (sm2.trans sm3))))⟩
          simpa using Rep.int (i : Int)
      cases d with
      | lst ys =>
        have ey : ys = xs := by simpa using e2
        subst ey
        obtain ⟨a, us, rfl, h1, h2⟩ := r1.toLst
        refine .inl ⟨a, us, rfl, same_l g'.sub h1, p _ _ F' _ M' sm g' (fun i F2 H2 M2 sm2 g2 => ⟨fun d0 hd => ?_, fun hl => ⟨us, same_l (sm2.trans g2.sub) h1, by rw [h2.length]; simpa using hl⟩⟩) q'⟩
        obtain ⟨v0, h3, h4⟩ := item us h2 i F2 H2 M2 sm2 g2 d0 hd
        refine ⟨⟨us, v0, same_l (sm2.trans g2.sub) h1, h3⟩, fun x H3 ⟨T, x0, ex, hT, eH, hy⟩ => ?_⟩
        subst ex
        have h5 := hy us (same_l (sm2.trans g2.sub) h1)
        rw [h3] at h5
        exact h4 T x0 H3 hT eH (Option.some.inj h5).symm
      | tup ys =>
        have ey : ys = xs := by simpa using e2
        subst ey
        obtain ⟨a, us, rfl, h1, h2⟩ := r1.toTup
        refine .inr ⟨a, us, rfl, same_t g'.sub h1, p _ _ F' _ M' sm g' (fun i F2 H2 M2 sm2 g2 => ⟨fun d0 hd => ?_, fun hl => ⟨us, same_t (sm2.trans g2.sub) h1, by rw [h2.length]; simpa using hl⟩⟩) q'⟩
        obtain ⟨v0, h3, h4⟩ := item us h2 i F2 H2 M2 sm2 g2 d0 hd
        refine ⟨⟨us, v0, same_t (sm2.trans g2.sub) h1, h3⟩, fun x H3 ⟨T, x0, ex, hT, eH, hy⟩ => ?_⟩
        subst ex
        have h5 := hy us (same_t (sm2.trans g2.sub) h1)
        rw [h3] at h5
        exact h4 T x0 H3 hT eH (Option.some.inj h5).symm
      | _ => cases e2), w⟩⟩
end
end DL

set_option Elab.async false
set_option linter.all false
set_option maxRecDepth 100000
set_option maxHeartbeats 4000000
set_option autoImplicit false
namespace DL
open PySem L2

/-! ### isinstance(e, C), e the caught exception with its fields -/
section
variable {P : Program} {w : World} {A : Around} {E : Value → Shared → Prop} {s : Shared} {K : PySem.W.Frag} {x C : Addr} {ox od : Obj}
theorem exc_class {Q : Option Value → Shared → Prop} (c : ExcC K C) (X : K.In s.heap) (I : PySem.W.InstAt s.heap x ox C (some od)) (q : Q (some (.ref C)) { s with toks := s.toks + 1 }) : wpAny (model P w) A (getAttr? (.ref x) "__class__") Q E s := by
  have hc : (PySem.W.clsIn K C).isSome = true := by obtain ⟨cd, e, _⟩ := PySem.W.any_some c.hd; rw [e]; rfl
  obtain ⟨hp, gs, dr, tk, os⟩ := s
  have T0 := I.type (M := model P w)
  have T3 := PySem.W.looks_find (M := model P w) X I (PySem.W.findObj_data hc c.ha c.hn c.ht)
  have inst : PySem.W.Looks (model P w) hp (isInstance (.ref x) (.type "BaseException")) true := T0.andThen (PySem.W.looks_subIn X c.hs)
  have no1 : (onTheHeap (Value.ref C) && Value.builtin "BaseException.__getattribute__" == Value.builtin "object.__getattribute__") = false := by
    have e : (Value.builtin "BaseException.__getattribute__" == Value.builtin "object.__getattribute__") = false := by decide +kernel
    rw [e]; rfl
  have body : wpAny (model P w) A (call (.builtin "BaseException.__getattribute__") [.ref x, .str "__class__" tk]) (fun v s' => v = .ref C ∧ Q (some (.ref C)) s') (fun _ _ => False) ⟨hp, gs, dr, tk + 1, os⟩ := by
    refine wpAny_call (codeAny_call_builtin PySem.F.excAttr_ValueError.ga.plain PySem.F.entry_bexc_ga (@PySem.W.check_slot (model P w) _ _ ⟨hp, gs, dr, tk + 1, os⟩ "BaseException.__getattribute__" "BaseException" "__getattribute__" (.ref x) [.str "__class__" tk] [] _ (by decide +kernel) (by decide +kernel) inst (PySem.F.args_bexc_ga (.ref x) (.str "__class__" tk)) ?_))
    unfold Builtin.«object.__getattribute__»
    refine wpAny_bind (wpAny_of_eq (a := ((Value.ref x : Value), [Value.str "__class__" tk])) (by first | rfl | (simp only [slotArgs]; rfl)) (wpAny_bind (wpAny_pure (wpAny_bind (T0.at (wpAny_bind (T3.at ?_)))))))
    show wpAny _ _ (holding [Value.builtin "object.__class__"] (call (.builtin "getset_descriptor.__get__") [.builtin "object.__class__", .ref x, .ref C]) >>= ret) _ _ _
    exact wpAny_bind (wpAny_holding (wpAny_call (PySem.W.class_get (s := ⟨hp, gs, dr, tk + 1, os⟩) (ox := ox) (od := some od) X I c.hm (wpAny_pure ⟨rfl, q⟩))))
  unfold getAttr? getAttrBy? getAttrBy; refine wpAny_bind (wpAny_mkText (wpAny_bind (wpAny_attempt (wpAny_holding (wpAny_bind (T0.at (wpAny_bind ((PySem.W.looks_findIn (M := model P w) X c.hg).at ?_))))))))
  show wpAny _ _ (if (onTheHeap (Value.ref C) && Value.builtin "BaseException.__getattribute__" == Value.builtin "object.__getattribute__") = true then _ else _) _ _ _
  rw [no1, if_neg Bool.false_ne_true]
  unfold getAttrByItsOwn hookBefore; refine wpAny_bind ?_
  rw [if_pos (show onTheHeap (Value.ref C) = true from rfl)]
  refine (PySem.W.looks_findIn (M := model P w) X c.hk).at (wpAny_bind (wpAny_attempt (wpAny_holding ?_)))
  unfold callGetattribute; rw [show (false && onTheHeap (Value.builtin "BaseException.__getattribute__")) = false from rfl, if_neg Bool.false_ne_true]
  unfold boundAndCalled; rw [PySem.F.excAttr_ValueError.ga.bind (.ref x)]
  refine wpAny_bind (wpAny_pure (wpAny_mono body (fun v s' ⟨e, z⟩ => ?_) fun _ _ e => ?_))
  · subst e
    show wpAny _ _ (handedOut (.ref C)) _ _ _
    rw [PySem.W.handedOut_of (v := .ref C) rfl]
    first | exact wpAny_pure (wpAny_pure z) | exact wpAny_pure z | exact wpAny_pure (wpAny_bind (wpAny_pure (wpAny_pure z)))
  · exact e.elim
theorem kitx_exc (c : ExcC K C) : PySem.W.KitX K (.ref x) (.ref C) (fun h => PySem.W.InstAt h x ox C (some od)) where
  ty := fun _ _ _ I => I.type
  it := fun M h X _ => by
    obtain ⟨cd, hc, _⟩ := PySem.W.any_some c.hd
    unfold PySem.W.clsIn at hc
    split at hc
    · rename_i ho
      intro A' Q' E' s' k q
      exact wpAny_bind (wpAny_loadPart (k _ _ (X _ _ ho)) (wpAny_pure q))
    · cases hc
  ne := fun h tp dd its n sl X htp => by
    obtain ⟨cd, hc, _⟩ := PySem.W.any_some c.hd
    unfold PySem.W.clsIn at hc
    split at hc
    · rename_i ho
      exact beq_false_of_ne fun z => by
        cases z
        have := (X _ _ ho).symm.trans htp
        cases this
    · cases hc
  ca := fun X I k => exc_class c X I k
end
def excCB (K : PySem.W.Frag) (C : Addr) : Bool := xfB K C && tycB K C
theorem excCB_ok {K : PySem.W.Frag} {C : Addr} (h : excCB K C = true) : ExcC K C := by
  obtain ⟨h1, h2⟩ := and2 h
  have x := xfB_ok h1
  obtain ⟨t1, t⟩ := and2 h2
  obtain ⟨t2, t⟩ := and2 t
  obtain ⟨t3, t4⟩ := and2 t
  exact ⟨x.ga, x.gg, x.exC, x.hdC, He.eqO_ok t1, He.eqO_ok t2, beq_iff_eq.mp t3, beq_iff_eq.mp t4⟩
/-- isinstance(e, C): by a table -/
def isxF (tb : List ((Nat × Nat) × Bool)) (x : D) : List D → Option D
  | [.exc a dd c ns ds, .cls k] => (mtT tb c k).map D.bl
  | _ => none
def IsxOk (K : PySem.W.Frag) (cl : Nat → Addr) (tb : List ((Nat × Nat) × Bool)) : Prop := ∀ c k b, mtT tb c k = some b → ExcC K (cl c) ∧ PySem.W.kitOne K (.ref (cl c)) (.ref (cl k)) = some b
def isxB (K : PySem.W.Frag) (cl : Nat → Addr) (tb : List ((Nat × Nat) × Bool)) : Bool := tb.all fun p => excCB K (cl p.1.1) && (PySem.W.kitOne K (.ref (cl p.1.1)) (.ref (cl p.1.2)) == some p.2)
theorem mtT_mem {tb : List ((Nat × Nat) × Bool)} {c k : Nat} {b : Bool} (h : mtT tb c k = some b) : ((c, k), b) ∈ tb := by
  induction tb with
  | nil => cases h
  | cons p r ih =>
    obtain ⟨q, b0⟩ := p
    unfold mtT at h ih
    by_cases hc : (c, k) = q
    · subst hc
      rw [List.lookup, beq_self_eq_true] at h
      cases h
      exact List.mem_cons_self ..
    · rw [List.lookup, beq_false_of_ne hc] at h
      exact List.mem_cons_of_mem _ (ih h)
theorem isxB_ok {K : PySem.W.Frag} {cl : Nat → Addr} {tb : List ((Nat × Nat) × Bool)} (h : isxB K cl tb = true) : IsxOk K cl tb := fun c k b e => by
  obtain ⟨h1, h2⟩ := and2 (List.all_eq_true.mp h _ (mtT_mem e))
  exact ⟨excCB_ok h1, beq_iff_eq.mp h2⟩
section
variable {cl : ClW} {X : Cx} {a : Addr} {oe : Obj} {cls : Value} {d : Option Addr} {pn : List (Addr × Obj)} {x : D} {tb : List ((Nat × Nat) × Bool)}
def rIsx (K : PySem.W.Frag) (C a dd : Addr) : List V → Hp → VK → Prop := fun xs H Q => ∃ (c : Addr) (b : Bool) (fs : List (Str × V)), xs = [.ref a, .ref c] ∧ H dd = some (.xd fs) ∧ PySem.W.kitOne K (.ref C) (.ref c) = some b ∧ Q (.bl b) H
theorem call_isx {C dd : Addr} (c : ExcC X.K C) (hz : Zc (.ref C) (some dd) oe) (hf : ∃ vs, oe.data = .fields vs) : CallR (X.suite a ((a, oe) :: pn)) (.builtin "isinstance") (rIsx X.K C a dd) := by
  intro pins s σ H xs us Q I r ⟨c', b, fs, e1, e2, e3, q⟩
  subst e1
  obtain ⟨u1, u2, rfl, r1, r2⟩ := vals2 r
  obtain rfl : u1 = Value.ref a := r1
  obtain rfl : u2 = Value.ref c' := r2
  obtain ⟨ha, _⟩ := I.pin (a, oe) (List.mem_append_left _ List.mem_cons_self)
  obtain ⟨vs, hd⟩ := hf
  have hx : ObjOk X.prog X.w H s.heap dd (.xd fs) := I.hok dd _ e2
  obtain ⟨mA, hns, hr⟩ := hx
  obtain ⟨od, ho, hl⟩ := lookIn_ns hns
  have J : PySem.W.InstAt s.heap a oe C (some od) := ⟨ha, hz.1, by unfold PySem.W.notCls; rw [hd] <;> rfl, by rw [hz.2]; exact ho⟩
  exact PySem.W.kia_one (kitx_exc c) I.kIn J e3 (fun z => nomatch z) fun tk => ⟨.bl b, H, I.kept (t' := tk) fun _ _ z => z, rfl, q⟩
def isxG (tb : List ((Nat × Nat) × Bool)) (a dd : Addr) (c : Nat) : List D → Option D
  | [.exc a' dd' c' _ _, .cls k] => if a' = a ∧ dd' = dd ∧ c' = c then (mtT tb c k).map D.bl else none
  | _ => none
theorem lc_isx (ok : IsxOk X.K cl tb) {dd : Addr} {c : Nat} : LCall X.K cl (rIsx X.K (cl c) a dd) (isxG tb a dd c) := by
  intro F H M xs ds z Q Qd g r h p q
  generalize e : ds.map (vw M) = es at h
  unfold isxG at h
  split at h
  · rename_i a' dd' c' ns ds' k
    split at h
    · rename_i hh
      obtain ⟨rfl, rfl, rfl⟩ := hh
      obtain ⟨v, u, h1, hv, hw⟩ := reps2 g r e
      cases hm : mtT tb c' k with
      | none => rw [hm] at h; cases h
      | some b =>
        rw [hm] at h
        cases h
        have hu := hw.cls
        subst hu
        rcases hv with hv | ⟨_, _, hv⟩
        · cases hv with
          | exc k1 k2 k3 => exact ⟨_, b, _, h1, g.sub _ _ k1, (ok _ _ _ hm).2, p.val g (.bl b) q⟩
        · exact hv.elim
    · cases h
  · cases h
theorem call_none {v : Value} : CallR X v (fun _ _ _ => False) := fun _ _ _ _ _ _ _ _ _ h => h.elim
/-- isinstance(e, C), x the caught exception -/
def isxX (tb : List ((Nat × Nat) × Bool)) (cs : List Nat) : D → List D → Option D
  | .exc a dd c _ _, ds => if c ∈ cs then isxG tb a dd c ds else none
  | _, _ => none
theorem isx_rule {cs : List Nat} (ok : IsxOk X.K cl tb) (ex : ∀ c ∈ cs, ExcC X.K (cl c)) (hx : XOk cl x a cls d) (hz : Zc cls d oe) (hf : ∃ vs, oe.data = .fields vs) :
    ∃ r, CallR (X.suite a ((a, oe) :: pn)) (.builtin "isinstance") r ∧ LCall X.K cl r (isxX tb cs x) := by
  obtain ⟨dd, c, ns, ds, rfl, rfl, rfl⟩ := hx
  by_cases hc : c ∈ cs
  · have e : isxX tb cs (.exc a dd c ns ds) = isxG tb a dd c := by funext l; simp [isxX, hc]
    rw [e]
    exact ⟨_, call_isx (ex c hc) hz hf, lc_isx ok⟩
  · have e : isxX tb cs (.exc a dd c ns ds) = fun _ => none := by funext l; simp [isxX, hc]
    rw [e]
    exact ⟨fun _ _ _ => False, call_none, fun _ _ _ _ _ _ _ _ _ _ h => by cases h⟩
theorem d_isx {cs : List Nat} {e : Expr} {es : List Expr} {α : DTA} {p pos : Pos} (ok : IsxOk X.K cl tb) (ex : ∀ c ∈ cs, ExcC X.K (cl c)) (hx : XOk cl x a cls d) (hz : Zc cls d oe) (hf : ∃ vs, oe.data = .fields vs) (hg : Gl (X.suite a ((a, oe) :: pn)) "isinstance") (hm : X.mg "isinstance" = none)
    (ha : DA cl (X.suite a ((a, oe) :: pn)) W0 (e :: es) α) (hs : starEach (e :: es) X.env = (false, eval e X.env) :: starEach es X.env := by rfl) (hpl : (backTo pos (starEach es X.env)).any (·.1) = false := by rfl) :
    DE cl (X.suite a ((a, oe) :: pn)) W0 (.Call (.Name "isinstance" p) (e :: es) [] pos) (dCB (isxX tb cs x) α) := by
  obtain ⟨r, h1, h2⟩ := isx_rule (pn := pn) ok ex hx hz hf
  exact d_callB (X := X.suite a ((a, oe) :: pn)) h1 h2 hg hm (by decide +kernel) ha (by decide) (by decide) hs hpl
end
end DL

set_option Elab.async false
set_option linter.all false
set_option maxRecDepth 100000
set_option maxHeartbeats 4000000
set_option autoImplicit false
namespace DL
open PySem L2

/-! ### len(o) by the own __len__ -/
@[simp] def kLen : D → Option D
  | .int i => if 0 ≤ i ∧ i < 2 ^ 62 then some (.int i) else none
  | _ => none
/-- len of a built-in, or of an own object -/
def dLenO (tb : List (Nat × SpD)) (τ : DTE) : DTE := fun ρ M Q X => τ ρ M (fun o M1 => (∃ z, lenF [vw M1 o] = some z ∧ Q z M1) ∨ ∃ c ns ds spd, vw M1 o = .obj c ns ds ∧ tb.lookup c = some spd ∧ spd [o] M1 (fun r M' => ∃ z, kLen r = some z ∧ Q z M') (fun c' ns es M' => X c' ns es ρ M')) X
section
variable {cl : ClW} {X : Cx} {W : WX} {k : Nat} {tb : List (Nat × SpD)} {e : Expr} {τ : DTE} {p pos : Pos}
theorem d_lenO (cp : Cap X W (k + 1)) (hm : ∀ c spd, tb.lookup c = some spd → MethB cl X.prog X.w X.K X.mg X.base k c "__len__" spd) (hg : Gl X "len") (hmg : X.mg "len" = none) (he : DE cl X W e τ)
    (hs : starEach [e] X.env = (false, eval e X.env) :: starEach [] X.env := by rfl) : DE cl X W (.Call (.Name "len" p) [e] [] pos) (dLenO tb τ) := ⟨⟨fun pins s σ H Q I h => by
  obtain ⟨F, ρ, M, Qd, Xd, g, sl, q, p, w⟩ := h
  refine wpAny_Call_Name_kw (ld_blt I hg hmg PySem.boot_len ?_ (by decide) (by decide))
  have arg : DA cl X W [e] (dCons τ dNil) := da_cons he da_nil hs
  refine PyProof.Rows.callWith_builtin1 (thn (arg.pa.run pos pins s σ H (fun vs H1 => ∃ F' M' v o, vs = [v] ∧ Same F F' ∧ Good X.K cl F' H1 M' ∧ Rep X.K cl F' v o ∧ ((∃ z, lenF [vw M' o] = some z ∧ Qd z M') ∨ ∃ c ns ds spd, vw M' o = .obj c ns ds ∧ tb.lookup c = some spd ∧ spd [o] M' (fun r M' => ∃ z, kLen r = some z ∧ Qd z M') (fun c' ns es M' => Xd c' ns es ρ M'))) I
    ⟨F, ρ, M, fun ds M1 => ∃ o, ds = [o] ∧ ((∃ z, lenF [vw M1 o] = some z ∧ Qd z M1) ∨ ∃ c ns ds spd, vw M1 o = .obj c ns ds ∧ tb.lookup c = some spd ∧ spd [o] M1 (fun r M' => ∃ z, kLen r = some z ∧ Qd z M') (fun c' ns es M' => Xd c' ns es ρ M')), Xd, g, sl, ?_, fun vs H' F' ds M' sm g' r ⟨o, eo, qo⟩ => ?_, w⟩) fun us s1 ⟨vs, H1, I1, r1, F1, M1, v, o, ev, sm, g1, ro, qo⟩ => ?_) hs rfl
  · have same : (fun (o : D) (M1 : Mem) => (∃ z, lenF [vw M1 o] = some z ∧ Qd z M1) ∨ ∃ c ns ds spd, vw M1 o = .obj c ns ds ∧ tb.lookup c = some spd ∧ spd [o] M1 (fun r M' => ∃ z, kLen r = some z ∧ Qd z M') (fun c' ns es M' => Xd c' ns es ρ M')) =
        (fun d M1 => ∃ o, [d] = [o] ∧ ((∃ z, lenF [vw M1 o] = some z ∧ Qd z M1) ∨ ∃ c ns ds spd, vw M1 o = .obj c ns ds ∧ tb.lookup c = some spd ∧ spd [o] M1 (fun r M' => ∃ z, kLen r = some z ∧ Qd z M') (fun c' ns es M' => Xd c' ns es ρ M'))) := by
      funext d M1
      simp
    unfold dLenO at q
    unfold dCons dNil
    rw [same] at q
    exact q
  · subst eo
    obtain ⟨v, ws, rfl, ra, rb⟩ := r.inv
    obtain rfl := rb.inv0
    exact ⟨F', M', v, o, rfl, sm, g', ra, qo⟩
  · subst ev
    rcases qo with ⟨z, e1, q1⟩ | ⟨c, ns, ds, spd, e1, e2, q1⟩
    · exact call_len pins s1 σ H1 [v] us Q I1 r1 (lc_len F1 H1 M1 [v] [o] z Q Qd g1 (.one ro) e1 (p.mono sm) q1)
    · obtain ⟨hc, f, fd, ps, mt, hb, G⟩ := hm c spd e2
      obtain ⟨a, dx, fs, rfl, ha⟩ := obj_at g1 ro e1
      obtain ⟨u, rfl, ru⟩ := vals1 r1
      obtain rfl : u = Value.ref a := ru
      obtain ⟨od, J⟩ := inst_at I1 ha
      obtain ⟨m, hF⟩ := I1.fr
      have pk : Post X.K cl F1 (fun v H' => ∃ i : Int, v = .int i ∧ (0 ≤ i ∧ i < 2 ^ 62) ∧ Q (.int i) H') (fun r M' => ∃ z, kLen r = some z ∧ Qd z M') := fun v H' F' d M' sm' g' r ⟨z, e, q⟩ => by
        obtain ⟨i, rfl, hi, rfl⟩ : ∃ i, d = .int i ∧ (0 ≤ i ∧ i < 2 ^ 62) ∧ z = .int i := by
          cases d with
          | int i =>
            by_cases hi : 0 ≤ i ∧ i < 2 ^ 62
            · simp only [kLen] at e
              rw [if_pos hi] at e
              exact ⟨i, rfl, hi, (Option.some.inj e).symm⟩
            · simp only [kLen] at e
              rw [if_neg hi] at e
              cases e
          | _ => simp [kLen] at e
        cases r
        exact ⟨i, rfl, hi, p _ _ _ _ _ (sm.trans sm') g' (.int i) q⟩
      refine PySem.W.len_K hF I1.ok.mod.kin J mt.at_ mt.fn (wpAny_mono (run_gA (us := [.ref a]) (vs := [.ref a]) cp.tk cp.hr.in1 rfl G hb I1 (.cons rfl .nil) (low_call g1 (sl.mono sm) (.one ro) q1 pk (w.mono sm))) (fun r s' ⟨z, H', I', rz, i, ez, hi, qz⟩ => ?_) fun _ _ h => h)
      subst ez
      obtain ⟨t, rfl⟩ := rz
      exact ⟨⟨hi.1, by omega⟩, .int i, H', I'.tok _, ⟨_, rfl⟩, qz⟩⟩⟩
end
def excsB (K : PySem.W.Frag) (cl : Nat → Addr) (cs : List Nat) : Bool := cs.all fun j => excCB K (cl j)
theorem excsB_ok {K : PySem.W.Frag} {cl : Nat → Addr} {cs : List Nat} (h : excsB K cl cs = true) : ∀ j ∈ cs, ExcC K (cl j) := fun j hj => excCB_ok (List.all_eq_true.mp h j hj)
end DL

set_option Elab.async false
set_option linter.all false
set_option maxRecDepth 100000
set_option maxHeartbeats 1000000
set_option autoImplicit false
/-! the source of draws of the laws k31 and up. No program in sight. -/
namespace FL
open PySem L2 DL
def Rn (M : Mem) (r : Addr) : Prop := ∃ a b c : Int, M r = some (.lst [.int a, .int b, .int c]) ∧ 0 ≤ a ∧ 0 ≤ b ∧ b < 2147483629 ∧ 0 ≤ c
structure RTo (M M' : Mem) (r : Addr) : Prop where
  ok : Rn M' r
  keep : ∀ b d, b ≠ r → M b = some d → M' b = some d
theorem Rn.keep {M M' : Mem} {r : Addr} (h : Rn M r) (k : Keep M M') : Rn M' r := by
  obtain ⟨a, b, c, h1, h2⟩ := h
  exact ⟨a, b, c, k _ _ h1, h2⟩
theorem Rn.ne {M : Mem} {r a : Addr} (h : Rn M r) (e : M a = none) : r ≠ a := fun z => by
  obtain ⟨x, y, w, h1, _⟩ := h
  rw [z, e] at h1; cases h1
theorem RTo.refl {M : Mem} {r : Addr} (h : Rn M r) : RTo M M r := ⟨h, fun _ _ _ q => q⟩
theorem RTo.trans {M M1 M2 : Mem} {r : Addr} (h : RTo M M1 r) (k : RTo M1 M2 r) : RTo M M2 r := ⟨k.ok, fun b d hb q => k.keep b d hb (h.keep b d hb q)⟩
theorem RTo.and {M M1 M2 : Mem} {r : Addr} (h : RTo M M1 r) (k : Keep M1 M2) : RTo M M2 r := ⟨h.ok.keep k, fun b d hb q => k b d (h.keep b d hb q)⟩
theorem RTo.of {M M1 : Mem} {r : Addr} (h : Rn M r) (k : Keep M M1) : RTo M M1 r := (RTo.refl h).and k
theorem RTo.keep1 {M M1 : Mem} {r a : Addr} {d : D} (h : RTo M M1 r) (e : M a = some d) (hne : a ≠ r) : M1 a = some d := h.keep a d hne e
theorem RTo.put {M : Mem} {r : Addr} {a b c : Int} (ha : 0 ≤ a) (hb : 0 ≤ b) (hb2 : b < 2147483629) (hc : 0 ≤ c) : RTo M (updM M r (.lst [.int a, .int b, .int c])) r :=
  ⟨⟨a, b, c, updM_same, ha, hb, hb2, hc⟩, fun x d hx q => by rw [updM_ne hx]; exact q⟩
theorem RTo.upd {M M1 : Mem} {r a : Addr} {d : D} (h : RTo M M1 r) (e : M a = none) (hne : a ≠ r) : RTo M (updM M1 a d) r := by
  refine ⟨?_, fun b c hb q => ?_⟩
  · obtain ⟨x, y, z, h1, h2⟩ := h.ok
    exact ⟨x, y, z, by rw [updM_ne (Ne.symm hne)]; exact h1, h2⟩
  · have : b ≠ a := fun w => by rw [w, e] at q; cases q
    rw [updM_ne this]; exact h.keep b c hb q
theorem RTo.del {M M1 : Mem} {r a : Addr} (h : RTo M M1 r) (e : M a = none) (hne : a ≠ r) : RTo M (delM M1 a) r := by
  refine ⟨?_, fun b c hb q => ?_⟩
  · obtain ⟨x, y, z, h1, h2⟩ := h.ok
    exact ⟨x, y, z, by rw [delM_ne (Ne.symm hne)]; exact h1, h2⟩
  · have : b ≠ a := fun w => by rw [w, e] at q; cases q
    rw [delM_ne this]; exact h.keep b c hb q
/-- the script, with a 0 behind, cut -/
theorem cells_int (ns : List Int) (k : Nat) : ∀ x : D, x ∈ cutD (ns.map D.int ++ [D.int 0]) none (some (k : Int)) → ∃ i : Int, x = D.int i := by
  intro x hx
  rw [cutD_to] at hx
  have := List.mem_of_mem_take hx
  simp at this
  rcases this with ⟨a, _, rfl⟩ | rfl
  · exact ⟨a, rfl⟩
  · exact ⟨0, rfl⟩
theorem cells_add (ns : List Int) (h : ns.length ≤ 63) : addD (.lst (ns.map D.int)) (.lst [.int 0]) = some (.lst (ns.map D.int ++ [.int 0])) := addD_lst (by simp; omega)
theorem ix0 {M : Mem} {u : D} {l : List D} : ixA (vw M (.lst (u :: l))) (vw M (.int 0)) = some u := atI_0
theorem ix1 {M : Mem} {u v : D} {l : List D} : ixA (vw M (.lst (u :: v :: l))) (vw M (.int 1)) = some v := atI_1
theorem ix2 {M : Mem} {u v w : D} {l : List D} : ixA (vw M (.lst (u :: v :: w :: l))) (vw M (.int 2)) = some w := atI_2
theorem ix3 {M : Mem} {u v w z : D} {l : List D} : ixA (vw M (.lst (u :: v :: w :: z :: l))) (vw M (.int 3)) = some z := atI_3
end FL

set_option Elab.async false
set_option linter.all false
set_option maxRecDepth 100000
set_option maxHeartbeats 1000000
set_option autoImplicit false
/-! two forests, one behind the other; roots; caught exceptions. No program in sight. -/
namespace FL
open PySem L2 DL

/-- the first name of the second that the first has -/
def clash (rs os : List Row) : Option (List Nat) := ((os.map Row.nm).filter fun x => decide (x ∈ rs.map Row.nm)).head?
theorem clash_none {rs os : List Row} (h : clash rs os = none) : ∀ x ∈ os.map Row.nm, x ∉ rs.map Row.nm := by
  unfold clash at h
  rw [List.head?_eq_none_iff, List.filter_eq_nil_iff] at h
  intro x hx z
  exact h x hx (by simpa using z)
theorem LevOk.append {a b : List Int} (ha : LevOk a) (hb : LevOk b) : LevOk (a ++ b) := by
  intro i l hl
  by_cases hi : i < a.length
  · rw [List.getElem?_append_left hi] at hl
    obtain ⟨h1, h2, h3⟩ := ha i l hl
    refine ⟨h1, h2, fun k hk => ?_⟩
    obtain ⟨m, hm, hle⟩ := h3 k hk
    exact ⟨m, by rw [List.getElem?_append_left (by omega)]; exact hm, hle⟩
  · rw [List.getElem?_append_right (by omega)] at hl
    obtain ⟨h1, h2, h3⟩ := hb _ l hl
    refine ⟨h1, fun z => h2 (by omega), fun k hk => ?_⟩
    by_cases hj : i - a.length = 0
    · have hk2 : k < a.length := by omega
      refine ⟨a[k], by rw [List.getElem?_append_left hk2]; simp [hk2], ?_⟩
      have := (ha k a[k] (by simp [hk2])).1
      have := h2 hj
      omega
    · obtain ⟨m, hm, hle⟩ := h3 (k - a.length) (by omega)
      exact ⟨m, by rw [List.getElem?_append_right (by omega)]; exact hm, hle⟩
theorem RowsOk.append {rs os : List Row} (h : RowsOk rs) (k : RowsOk os) (hc : clash rs os = none) (hl : rs.length + os.length ≤ 60) : RowsOk (rs ++ os) where
  len := by rw [List.length_append]; exact hl
  names := fun x hx => (List.mem_append.mp hx).elim (h.names x) (k.names x)
  vals := fun x hx => (List.mem_append.mp hx).elim (h.vals x) (k.vals x)
  nd := by
    rw [List.map_append, List.nodup_append]
    exact ⟨h.nd, k.nd, fun x hx y hy e => clash_none hc y hy (e ▸ hx)⟩
  lev := by rw [List.map_append]; exact h.lev.append k.lev
theorem spot_mem (rs : List Row) (x : List Nat) : inD (strD x) (.dK (spotsK rs) (places rs.length)) = some (.bl (decide (x ∈ rs.map Row.nm))) := by
  have e : (spotsK rs).any (fun j => decide (j = Sum.inr (S x))) = decide (x ∈ rs.map Row.nm) := by
    rw [Bool.eq_iff_iff, List.any_eq_true]
    constructor
    · rintro ⟨j, hj, hj2⟩
      obtain ⟨r, hr, rfl⟩ := List.mem_map.mp hj
      have e2 : r.nm = x := by simpa using hj2
      simpa using ⟨r, hr, e2⟩
    · intro hx
      obtain ⟨r, hr, e2⟩ := List.mem_map.mp (of_decide_eq_true hx)
      exact ⟨.inr (S r.nm), List.mem_map.mpr ⟨r, hr, rfl⟩, by simp [e2]⟩
  rw [strD, inD_def, inB_dK, keyD_str, Option.map_some, e]
  rfl
/-- what is told of the sum -/
def sumD (rs os : List Row) : D := match clash rs os with
  | some x => .tup [.str "twice", strD x]
  | none => if 60 < rs.length + os.length then .tup [.str "forest", .tup [.int (-1), .str "rows"]] else .tup [.str "rows", .tup ((rs ++ os).map Row.d)]
theorem strOk_of (z : String) (h : PyData.strOk (Str.ofString z) = true) (n : Nat) : plD n (.str z) = true := by simp [plD, h]
theorem clash_mem {rs os : List Row} {x : List Nat} (h : clash rs os = some x) : x ∈ os.map Row.nm := by
  unfold clash at h
  exact (List.mem_filter.mp (List.mem_of_head? h)).1
theorem sumD_pl {rs os : List Row} (h : RowsOk rs) (k : RowsOk os) : plD 3 (sumD rs os) = true := by
  unfold sumD
  split
  · rename_i x hx
    obtain ⟨r, hr, rfl⟩ := List.mem_map.mp (clash_mem hx)
    simp only [plD, plDs, Bool.and_true, Bool.and_eq_true, strD]
    exact ⟨by decide +kernel, (k.names r hr).ok 0⟩
  · split
    · decide +kernel
    · simp only [plD, plDs, Bool.and_true, Bool.and_eq_true]
      refine ⟨by decide +kernel, plDs_map fun x hx => ?_⟩
      rcases List.mem_append.mp hx with hx | hx
      · exact Row_pl (h.names x hx)
      · exact Row_pl (k.names x hx)
theorem sumD_tup (rs os : List Row) : ∃ xs, sumD rs os = .tup xs := by
  unfold sumD
  split
  · exact ⟨_, rfl⟩
  · split
    · exact ⟨_, rfl⟩
    · exact ⟨_, rfl⟩
@[simp] theorem vw_sumD {M : Mem} {rs os : List Row} : vw M (sumD rs os) = sumD rs os := by
  obtain ⟨xs, e⟩ := sumD_tup rs os
  rw [e]; rfl
/-- tuples told alike -/
theorem ne_sum {rs os : List Row} (h : RowsOk rs) (k : RowsOk os) : neD (sumD rs os) (sumD rs os) = some (.bl false) := by
  have hp := sumD_pl h k
  obtain ⟨xs, e⟩ := sumD_tup rs os
  rw [e] at hp ⊢
  rw [neD_tup, eqP_pl hp hp, eqT_refl _ _ hp]
  rfl
/-! ### roots -/
theorem anc_nil {ls : List Int} (L : LevOk ls) : ∀ (i : Nat) (lev : Int), lev ≤ 0 → anc ls i lev = []
  | 0, _, _ => rfl
  | i + 1, lev, h => by
    unfold anc
    have : ¬ (ls.getD i 0 < lev) := by
      by_cases hi : i < ls.length
      · have := (L i ls[i] (by simp [hi])).1
        simp only [List.getD, List.getElem?_eq_getElem hi, Option.getD_some]
        omega
      · have e : ls[i]? = none := List.getElem?_eq_none (by omega)
        simp only [List.getD, e, Option.getD_none]
        omega
    rw [if_neg this]
    exact anc_nil L i lev h
theorem anc_cons {ls : List Int} (L : LevOk ls) : ∀ (i : Nat) (lev : Int), i ≤ ls.length → 0 < i → 0 < lev → anc ls i lev ≠ []
  | 0, _, _, h, _ => absurd h (by omega)
  | i + 1, lev, hi, _, hl => by
    unfold anc
    split
    · simp
    · rename_i hn
      by_cases h0 : i = 0
      · subst h0
        have := (L 0 ls[0] (by simp)).2.1 rfl
        simp only [List.getD, List.getElem?_eq_getElem (show 0 < ls.length by omega), Option.getD_some] at hn
        omega
      · exact anc_cons L i lev (by omega) (by omega) hl
theorem ancs_nil {ls : List Int} (L : LevOk ls) {p : Nat} (hp : p < ls.length) : ancs ls p = [] ↔ ls.getD p 0 = 0 := by
  have hg := L p ls[p] (by simp [hp])
  have e : ls.getD p 0 = ls[p] := by simp [List.getD, hp]
  unfold ancs
  rw [e]
  constructor
  · intro h
    by_cases h0 : 0 < ls[p]
    · by_cases hp0 : p = 0
      · have := hg.2.1 hp0; omega
      · exact absurd h (anc_cons L p _ (by omega) (by omega) h0)
    · have := hg.1; omega
  · intro h
    rw [h]
    exact anc_nil L p 0 (Int.le_refl _)
def rootsD (rs : List Row) : List D := (rs.filter fun r => decide (r.lv = 0)).map fun r => strD r.nm
theorem rootsD_append (rs os : List Row) : rootsD (rs ++ os) = rootsD rs ++ rootsD os := by simp [rootsD]
/-! ### exceptions -/
theorem isx_at {M : Mem} {tb : List ((Nat × Nat) × Bool)} {cs : List Nat} {a dd : Addr} {c k : Nat} {ns : List Str} {ds : List D} {b : Bool} (h : c ∈ cs) (hm : mtT tb c k = some b) :
    isxX tb cs (.exc a dd c ns ds) ([.exc a dd c ns ds, .cls k].map (vw M)) = some (.bl b) := by
  show isxX tb cs (.exc a dd c ns ds) [.exc a dd c ns ds, .cls k] = _
  simp [isxX, isxG, h, hm]
theorem exc_fld {cs : List Nat} {f : Str} {a dd : Addr} {c : Nat} {ns : List Str} {ds : List D} {v : D} (h : c ∈ cs) (hv : lookN f ns ds = some v) : excF cs f (.exc a dd c ns ds) = some v := by simp [excF, h, hv]
/-- the signs of a text -/
def unS : D → List Nat
  | .str z => z.cps.toList
  | _ => []
@[simp] theorem unS_strD (x : List Nat) : unS (strD x) = x := by simp [unS, strD, S]
theorem ix0' {M : Mem} {u : D} {l : List D} : ixA (vw M (.lst (u :: l))) (vw M (.int 0)) = some u := atI_0
theorem ixT0 {M : Mem} {u : D} {l : List D} : ixA (vw M (.tup (u :: l))) (vw M (.int 0)) = some u := atI_0
theorem ixT1 {M : Mem} {u v : D} {l : List D} : ixA (vw M (.tup (u :: v :: l))) (vw M (.int 1)) = some v := atI_1
theorem ixT2 {M : Mem} {u v w : D} {l : List D} : ixA (vw M (.tup (u :: v :: w :: l))) (vw M (.int 2)) = some w := atI_2
theorem ixN_nat {n p : Nat} (h : p < n) : ixN n (p : Int) = some p := by
  unfold ixN
  rw [if_pos (by omega), if_pos (by omega)]
  simp
/-! ### rows with other names -/
def q9nm (i : Nat) : List Nat := 113 :: 57 :: dg i
def q9rows (os : List Row) : List Row := os.zipIdx.map fun p => ⟨q9nm p.2, p.1.va, p.1.lv⟩
theorem q9_len (os : List Row) : (q9rows os).length = os.length := by simp [q9rows]
theorem q9_at {os : List Row} {i : Nat} {x : Row} (h : os[i]? = some x) : (q9rows os)[i]? = some ⟨q9nm i, x.va, x.lv⟩ := by
  simp [q9rows, h]
theorem q9_name {i : Nat} (h : i < 60) : NameOk (q9nm i) := by
  have hd : (∀ e ∈ dg i, 48 ≤ e ∧ e ≤ 57) ∧ (dg i).length ≤ 2 := dg_ok ⟨i, h⟩
  refine ⟨113, 57 :: dg i, rfl, by simp; omega, by decide, fun e he => ?_⟩
  rcases List.mem_cons.mp he with rfl | he
  · decide
  · have := hd.1 e he
    simp [isS]; omega
theorem q9_ok {os : List Row} (h : RowsOk os) : RowsOk (q9rows os) where
  len := by rw [q9_len]; exact h.len
  names := fun x hx => by
    obtain ⟨p, hp, rfl⟩ := List.mem_map.mp hx
    have := List.mem_zipIdx hp
    have := h.len
    exact q9_name (by omega)
  vals := fun x hx => by
    obtain ⟨p, hp, rfl⟩ := List.mem_map.mp hx
    have hm := List.fst_mem_of_mem_zipIdx hp
    exact h.vals p.1 hm
  nd := by
    have e : (q9rows os).map Row.nm = (List.range os.length).map q9nm := by
      refine List.ext_getElem (by simp [q9rows]) fun i h1 h2 => ?_
      simp [q9rows]
    rw [e]
    have hl := h.len
    refine List.pairwise_map.mpr (List.Pairwise.imp_of_mem (R := (· ≠ ·)) (fun {a b} ha hb hab z => hab ?_) List.nodup_range)
    have ha := List.mem_range.mp ha
    have hb := List.mem_range.mp hb
    have := dg_inj ⟨a, by omega⟩ ⟨b, by omega⟩ (by simpa [q9nm] using z)
    exact congrArg Fin.val this
  lev := by
    have e : (q9rows os).map Row.lv = os.map Row.lv := by
      refine List.ext_getElem (by simp [q9rows]) fun i h1 h2 => ?_
      simp [q9rows]
    rw [e]; exact h.lev
/-- one name put anew -/
theorem RowsOk.rename {os : List Row} (h : RowsOk os) {p : Nat} {x : Row} (hx : os[p]? = some x) {n : List Nat} (hn : NameOk n) (hne : ∀ y ∈ os.take p ++ os.drop (p + 1), y.nm ≠ n) : RowsOk (os.set p ⟨n, x.va, x.lv⟩) := by
  have hp := (List.getElem?_eq_some_iff.mp hx).1
  have hxe := (List.getElem?_eq_some_iff.mp hx).2
  refine ⟨by rw [List.length_set]; exact h.len, fun y hy => ?_, fun y hy => ?_, ?_, ?_⟩
  · rcases List.mem_or_eq_of_mem_set hy with hy | rfl
    · exact h.names y hy
    · exact hn
  · rcases List.mem_or_eq_of_mem_set hy with hy | rfl
    · exact h.vals y hy
    · exact h.vals x (List.mem_of_getElem? hx)
  · have e : os.set p ⟨n, x.va, x.lv⟩ = os.take p ++ ⟨n, x.va, x.lv⟩ :: os.drop (p + 1) := List.set_eq_take_append_cons_drop .. |>.trans (by rw [if_pos hp])
    have e2 : os = os.take p ++ x :: os.drop (p + 1) := by
      rw [← hxe]; simp
    have nd := h.nd
    rw [e2, List.map_append, List.map_cons, List.nodup_append] at nd
    obtain ⟨n1, n2, n3⟩ := nd
    obtain ⟨n4, n5⟩ := List.nodup_cons.mp n2
    rw [e, List.map_append, List.map_cons, List.nodup_append]
    refine ⟨n1, List.nodup_cons.mpr ⟨fun z => ?_, n5⟩, fun a ha b hb => ?_⟩
    · obtain ⟨y, hy, ey⟩ := List.mem_map.mp z
      exact hne y (List.mem_append_right _ hy) ey
    · rcases List.mem_cons.mp hb with rfl | hb
      · obtain ⟨y, hy, ey⟩ := List.mem_map.mp ha
        exact fun z => hne y (List.mem_append_left _ hy) (ey.trans z)
      · exact n3 a ha b (List.mem_cons_of_mem _ hb)
  · have e : (os.set p ⟨n, x.va, x.lv⟩).map Row.lv = os.map Row.lv := by
      rw [List.map_set]
      apply List.ext_getElem?
      intro i
      by_cases hi : p = i
      · subst hi
        rw [List.getElem?_set_self (by simpa using hp), List.getElem?_map, hx]; rfl
      · rw [List.getElem?_set_ne hi]
    rw [e]; exact h.lev
/-- the rows told with their places, each with its new name -/
def q9f : D → Option D
  | .tup [.int i, .tup [_, v, l]] => some (.tup [strD (q9nm i.toNat), v, l])
  | _ => none
theorem q9_map (os : List Row) : ((os.map Row.d).zipIdx.map fun p => D.tup [.int (p.2 : Nat), p.1]).filterMap q9f = (q9rows os).map Row.d := by
  rw [enum_rows, List.filterMap_map, q9rows, List.map_map, ← List.filterMap_eq_map]
  rfl
theorem str_dg {i : Nat} (h : i < 60) : strF [.int (i : Nat)] = some (strD (dg i)) := by
  have hlog : (i : Int).natAbs.log2 < 1920 := by
    have h2 : ∀ j : Fin 60, j.val.log2 < 1920 := by decide +kernel
    exact h2 ⟨i, h⟩
  show (if _ then some (D.str _) else none) = _
  rw [if_pos hlog]
  exact congrArg (fun z => some (D.str z)) (S_of _)
theorem q9_add {i : Nat} (h : i < 60) : addD (.str "q9") (strD (dg i)) = some (strD (q9nm i)) := by
  have e : (D.str "q9") = strD [113, 57] := congrArg D.str (S_of "q9")
  have hd : (dg i).length ≤ 2 := (dg_ok ⟨i, h⟩).2
  rw [e, strD_add _ _ (by simp; omega)]
  rfl
end FL

set_option Elab.async false
set_option linter.all false
set_option maxRecDepth 100000
set_option maxHeartbeats 4000000
set_option autoImplicit false
namespace DL
open PySem L2

/-! ### l.index(y), l.clear(), l.insert(i, y), x.join(l) -/
section
variable {K : PySem.W.Frag} {cl : ClW} {F H : Hp} {X : Cx}
def φIndex : D → List D → Mem → DV → Prop := fun o ds M Q => ∃ xs y j z, vw M o = .lst xs ∧ ds = [y] ∧ flatD y = true ∧ xs.all flatD = true ∧ xs[j]? = some z ∧ eqFD z y = true ∧ (∀ m z', m < j → xs[m]? = some z' → eqFD z' y = false) ∧ Q (.int (j : Nat)) M
theorem lm_index : LMt K cl (rIndex K) φIndex := by
  intro F H M x xs d ds Q Qd g rx rs h p
  obtain ⟨ys, y, j, z, hv, rfl, fy, fys, hj, hz, hno, q⟩ := h
  have V := vw_ok g rx
  rw [hv] at V
  obtain ⟨a, vs, rfl, h1, h2⟩ := V.lst g.sub
  obtain ⟨u, ws, rfl, r1, r2⟩ := rs.inv
  obtain rfl := r2.inv0
  obtain ⟨f1, _⟩ := flats_of r1 fy h2 fys
  have fl : ∀ {m : Nat} {e : D}, ys[m]? = some e → flatD e = true := fun {m e} he => List.all_eq_true.mp fys e (List.mem_of_getElem? he)
  obtain ⟨v, h5, h6⟩ := h2.get hj
  refine ⟨a, vs, u, j, v, rfl, rfl, h1, (flat_of (H := F) (.inl r1) fy).1, f1, h5, by rw [eq_of h6 r1 (fl hj) fy]; exact hz, fun m z' hm he => ?_, p _ _ F _ _ (Same.refl F) g (.int _) q⟩
  have hml : m < ys.length := by
    have := (List.getElem?_eq_some_iff.mp he).1
    rw [h2.length] at this; exact this
  have hy : ys[m]? = some ys[m] := List.getElem?_eq_getElem hml
  obtain ⟨v2, h7, h8⟩ := h2.get hy
  rw [h7] at he
  cases he
  rw [eq_of h8 r1 (fl hy) fy]
  exact hno m _ hm hy
def φClear : D → List D → Mem → DV → Prop := fun o ds M Q => ∃ a xs, o = .ref a ∧ ds = [] ∧ M a = some (.lst xs) ∧ Q .non (updM M a (.lst []))
theorem lm_clear : LMt K cl rClear φClear := by
  intro F H M x xs d ds Q Qd g rx rs h p
  obtain ⟨a, ys, rfl, rfl, h1, q⟩ := h
  obtain rfl := rx.toRef
  obtain rfl := rs.inv0
  obtain ⟨hF, vs, h3, h4⟩ := g.cell a _ h1
  exact ⟨a, vs, rfl, rfl, h3, p _ _ F _ _ (Same.refl F) (g.put (d := .lst []) h1 ⟨[], upd_same, .nil⟩) .non q⟩
def φIns : D → List D → Mem → DV → Prop := fun o ds M Q => ∃ a xs i y, o = .ref a ∧ ds = [.int i, y] ∧ M a = some (.lst xs) ∧ xs.length < sizeLine ∧ 0 ≤ i ∧ i < 2 ^ 63 ∧ Q .non (updM M a (.lst (xs.take i.toNat ++ [y] ++ xs.drop i.toNat)))
theorem lm_ins : LMt K cl (fun x vs H Q => ∃ (l : Addr) (xs : List V) (i : Int) (y : V), x = .ref l ∧ vs = [.int i, y] ∧ H l = some (.lst xs) ∧ xs.length < sizeLine ∧ 0 ≤ i ∧ i < 2 ^ 63 ∧ Q .non (upd H l (.lst (xs.take i.toNat ++ [y] ++ xs.drop i.toNat)))) φIns := by
  intro F H M x xs d ds Q Qd g rx rs h p
  obtain ⟨a, ys, i, y, rfl, rfl, h1, h2, i0, i1, q⟩ := h
  obtain rfl := rx.toRef
  obtain ⟨u, ws, rfl, r1, r2⟩ := rs.inv
  obtain ⟨v, ws, rfl, r3, r4⟩ := r2.inv
  obtain rfl := r4.inv0
  obtain rfl := r1.toInt
  obtain ⟨hF, vs, h3, h4⟩ := g.cell a _ h1
  exact ⟨a, vs, i, v, rfl, rfl, h3, by rw [h4.length]; exact h2, i0, i1, p _ _ F _ _ (Same.refl F) (g.put (d := .lst (ys.take i.toNat ++ [y] ++ ys.drop i.toNat)) h1 ⟨_, upd_same, ((h4.take _).append (.one r3)).append (h4.drop _)⟩) .non q⟩
end
/-! ### list(range(n)) -/
@[simp] def dListRg (τ : DTE) : DTE := fun ρ M Q X => τ ρ M (fun d M1 => ∃ n : Int, d = .int n ∧ 0 ≤ n ∧ n ≤ 16777216 ∧ Q (.lst ((List.range n.toNat).map fun (i : Nat) => D.int (i : Int))) M1) X
section
variable {cl : ClW} {X : Cx} {W : WX} {a : Expr} {τ : DTE} {p1 p2 p3 p4 : Pos}
theorem reps_ints {K : PySem.W.Frag} {F : Hp} : ∀ l : List Nat, Reps K cl F (l.map fun (i : Nat) => V.int (0 + (i : Nat))) (l.map fun (i : Nat) => D.int (i : Int))
  | [] => .nil
  | i :: l => by
    refine .cons ?_ (reps_ints l)
    show Rep K cl F (V.int (0 + (i : Int))) (D.int (i : Int))
    rw [Int.zero_add]; exact .int _
theorem d_listRg (hc : X.calm = true) (hg : Gl X "list") (hm : X.mg "list" = none) (hg2 : Gl X "range") (hm2 : X.mg "range" = none) (ha : DE cl X W a τ)
    (n1 : starEach [a] X.env = (false, eval a X.env) :: starEach [] X.env := by rfl) (n2 : starEach [.Call (.Name "range" p1) [a] [] p2] X.env = (false, eval (.Call (.Name "range" p1) [a] [] p2) X.env) :: starEach [] X.env := by rfl) :
    DE cl X W (.Call (.Name "list" p3) [.Call (.Name "range" p1) [a] [] p2] [] p4) (dListRg τ) :=
  ⟨pe_imp (pe_listRg hc hg hm (prg_1 hg2 hm2 ha.pe n1) n2) fun σ H Q ⟨F, ρ, M, Qd, Xd, g, s, t, p, w⟩ => ⟨F, ρ, M, _, Xd, g, s, t, fun v H' F' d M' sm g' r ⟨n, e, h0, h1, q⟩ => by
    subst e
    obtain rfl := r.toInt
    refine ⟨n, rfl, .of_le (by omega) h1 (by omega) h0, fun b hb => ?_⟩
    have e : rgV 0 n = (List.range n.toNat).map fun (i : Nat) => V.int (0 + (i : Nat)) := by unfold rgV; rw [Int.sub_zero]
    rw [e]
    exact (p.mono sm).newL g' (reps_ints _) q hb, w⟩⟩
end
end DL

set_option Elab.async false
set_option linter.all false
set_option maxRecDepth 100000
set_option maxHeartbeats 4000000
set_option autoImplicit false
namespace FL
open PySem L2 DL
/-! ### what lies below a node: how many, how high, how much -/
def vas (rs : List Row) : List Int := rs.map Row.va
def kids (ls : List Int) (p : Nat) : Nat := ((ls.drop (p + 1)).takeWhile fun l => decide (ls.getD p 0 < l)).length
def belowD (rs : List Row) (p : Nat) : List D := (List.range' (p + 1) (kids (lvs rs) p)).map (nmAt rs)
theorem vas_of {rs : List Row} {p : Nat} {x : Row} (h : rs[p]? = some x) : (vas rs).getD p 0 = x.va := by simp [vas, List.getD, h]
theorem takeWhile_len {α : Type} (f : α → Bool) (xs : List α) : (xs.takeWhile f).length ≤ xs.length := (List.takeWhile_prefix f).length_le
theorem kids_le (ls : List Int) (p : Nat) (hp : p < ls.length) : p + 1 + kids ls p ≤ ls.length := by
  have := takeWhile_len (fun l => decide (ls.getD p 0 < l)) (ls.drop (p + 1))
  rw [List.length_drop] at this
  unfold kids
  omega
theorem kids_rows {rs : List Row} {p : Nat} {x : Row} (h : rs[p]? = some x) : (rs.drop (p + 1)).takeWhile (fun r => decide (x.lv < r.lv)) = (rs.drop (p + 1)).take (kids (lvs rs) p) := by
  have e : kids (lvs rs) p = ((rs.drop (p + 1)).takeWhile (fun r => decide (x.lv < r.lv))).length := by
    unfold kids
    rw [lvs_of h]
    unfold lvs
    rw [← List.map_drop, List.takeWhile_map, List.length_map]
    rfl
  rw [e]
  exact (List.prefix_iff_eq_take.mp (List.takeWhile_prefix _))
theorem below_nm {rs : List Row} {p : Nat} {x : Row} (h : rs[p]? = some x) : ((rs.drop (p + 1)).takeWhile (fun r => decide (x.lv < r.lv))).map (fun r => strD r.nm) = belowD rs p := by
  rw [kids_rows h]
  have hp := (List.getElem?_eq_some_iff.mp h).1
  have hk := kids_le (lvs rs) p (by simpa [lvs] using hp)
  have hl : (lvs rs).length = rs.length := by simp [lvs]
  unfold belowD
  refine List.ext_getElem (by simp; omega) fun i h1 h2 => ?_
  simp at h1 h2
  have : p + 1 + i < rs.length := by omega
  simp [nmAt, List.getD, this]
/-- the nodes with nothing below -/
def leafD (rs : List Row) : List D := ((List.range rs.length).filter fun i => decide (kids (lvs rs) i = 0)).map (nmAt rs)
/-- the ancestors of a node of level n are n -/
theorem anc_count {ls : List Int} (L : LevOk ls) : ∀ (i : Nat) (lev : Int), i ≤ ls.length → (i = 0 → lev ≤ 0) → (∀ j, i = j + 1 → lev ≤ ls.getD j 0 + 1) → 0 ≤ lev → ((anc ls i lev).length : Int) = lev
  | 0, lev, _, h0, _, h => by have := h0 rfl; simp [anc]; omega
  | i + 1, lev, hi, _, h1, h => by
    have hl := h1 i rfl
    have hi2 : i < ls.length := by omega
    obtain ⟨a, b, c⟩ := L i _ (List.getElem?_eq_getElem hi2)
    have eg : ls.getD i 0 = ls[i] := by simp [List.getD, hi2]
    have hz : i = 0 → ls.getD i 0 ≤ 0 := fun z => by rw [eg]; have := b z; omega
    have hs : ∀ j, i = j + 1 → ls.getD i 0 ≤ ls.getD j 0 + 1 := fun j z => by
      subst z
      obtain ⟨m, e1, e2⟩ := c j rfl
      rw [eg]
      simp only [List.getD, e1, Option.getD_some]
      omega
    unfold anc
    split
    · rename_i hlt
      have := anc_count L i (ls.getD i 0) (by omega) hz hs (by rw [eg]; exact a)
      simp only [List.length_cons]
      omega
    · rename_i hlt
      exact anc_count L i lev (by omega) (fun z => by have := hz z; omega) (fun j z => by have := hs j z; omega) h
theorem ancs_count {ls : List Int} (L : LevOk ls) {p : Nat} (hp : p < ls.length) : ((ancs ls p).length : Int) = ls.getD p 0 := by
  obtain ⟨a, b, c⟩ := L p _ (List.getElem?_eq_getElem hp)
  have eg : ls.getD p 0 = ls[p] := by simp [List.getD, hp]
  refine anc_count L p _ (by omega) (fun z => ?_) (fun j z => ?_) (by rw [eg]; exact a)
  · rw [eg]; have := b z; omega
  · subst z
    obtain ⟨m, e1, e2⟩ := c j rfl
    rw [eg]
    simp only [List.getD, e1, Option.getD_some]
    omega
theorem names_nm (rs : List Row) : (rs.map fun r => strD r.nm) = (List.range rs.length).map (nmAt rs) := by
  refine List.ext_getElem (by simp) fun i h1 h2 => ?_
  simp at h1 h2
  simp [nmAt, List.getD, h2]
theorem nm_pl {rs : List Row} (h : RowsOk rs) {l : List Nat} (hl : ∀ i ∈ l, i < rs.length) : plDs 0 (l.map (nmAt rs)) = true := plDs_map fun i hi => by
  obtain ⟨z, hz⟩ := row_at (rs := rs) (p := i) (hl i hi)
  rw [nmAt_of hz]
  exact (h.names z (List.mem_of_getElem? hz)).ok 0
theorem below_lt {rs : List Row} {p i : Nat} (hp : p < rs.length) (hi : i ∈ List.range' (p + 1) (kids (lvs rs) p)) : i < rs.length := by
  have hk := kids_le (lvs rs) p (by simpa [lvs] using hp)
  have hl : (lvs rs).length = rs.length := by simp [lvs]
  have := List.mem_range'_1.mp hi
  omega
theorem below_len (rs : List Row) (p : Nat) : (belowD rs p).length = kids (lvs rs) p := by simp [belowD]
/-- the values of a node and of all below -/
def totI (rs : List Row) (p : Nat) : Int := (((vas rs).drop p).take (1 + kids (lvs rs) p)).sum
theorem tot_eq {rs : List Row} {p : Nat} (hp : p < rs.length) : (p :: List.range' (p + 1) (kids (lvs rs) p)).map (fun i => (vas rs).getD i 0) = ((vas rs).drop p).take (1 + kids (lvs rs) p) := by
  have hk := kids_le (lvs rs) p (by simpa [lvs] using hp)
  have hl : (lvs rs).length = rs.length := by simp [lvs]
  have hv : (vas rs).length = rs.length := by simp [vas]
  rw [show p :: List.range' (p + 1) (kids (lvs rs) p) = List.range' p (1 + kids (lvs rs) p) by rw [Nat.add_comm 1, List.range'_succ]]
  refine List.ext_getElem (by simp; omega) fun i h1 h2 => ?_
  simp at h1 h2
  have : p + i < (vas rs).length := by omega
  simp [List.getD, this]
/-- the height of a forest -/
def htI (ls : List Int) : Int := ((0 :: ls.map (· + 1)).max?).getD 0
/-! ### comprehensions over things told by an index; each turn keeps what is there -/
section
variable {α : Type} {γ : DTG} {υ : DTT} {τ : DTE} {vs : List Nat} {a : Addr} {Q : DV} {R : Mem → Prop} {ρ : DL.Env} {M : Mem}
theorem Keep.updN {M M1 : Mem} {a : Addr} {d : D} (h : Keep M M1) (e : M a = none) : Keep M (updM M1 a d) := fun b c hb => by
  have z : b ≠ a := fun z => by rw [z, e] at hb; cases hb
  rw [updM_ne z]; exact h b c hb
theorem Keep.delN {M M1 : Mem} {a : Addr} (h : Keep M M1) (e : M a = none) : Keep M (delM M1 a) := fun b c hb => by
  have z : b ≠ a := fun z => by rw [z, e] at hb; cases hb
  rw [delM_ne z]; exact h b c hb
theorem lcD_ix (g : α → D) (f : α → Option D) (l : List α) (hl : l.length ≤ 16777216) (hM : M a = none)
    (step : ∀ i ∈ l, ∀ (M1 : Mem) (T : Option D → Mem → Prop), Keep M M1 → (∀ M2, Keep M1 M2 → T (f i) M2) → γ (g i) (wipeD ρ vs) M1 (fun ρ2 M2 => υ ρ2 M2 (fun b M3 => if b = true then τ ρ2 M3 (fun d M4 => T (some d) M4) noX else T none M3) noX) noX)
    (q : ∀ M', Keep M M' → Q (.lst (l.filterMap f)) M') : lcD γ υ τ vs a (l.map g) ρ (updM M a (.lst [])) Q := by
  have go : ∀ (r done : List α) (M1 : Mem), l = done ++ r → M1 a = some (.lst (done.filterMap f)) → Keep M M1 → lcD γ υ τ vs a (r.map g) ρ M1 Q := by
    intro r
    induction r with
    | nil =>
      intro done M1 e ha k
      rw [List.append_nil] at e
      subst e
      exact ⟨_, ha, q _ (k.delN hM)⟩
    | cons i r ih =>
      intro done M1 e ha k
      have hi : i ∈ l := by rw [e]; simp
      have e2 : l = (done ++ [i]) ++ r := by rw [e]; simp
      refine step i hi M1 (fun o M4 => match o with
        | some d => ∃ acc, M4 a = some (.lst acc) ∧ acc.length < sizeLine ∧ lcD γ υ τ vs a (r.map g) ρ (updM M4 a (.lst (acc ++ [d]))) Q
        | none => lcD γ υ τ vs a (r.map g) ρ M4 Q) k fun M2 k2 => ?_
      have kk : Keep M M2 := fun b c hb => k2 b c (k b c hb)
      cases hf : f i with
      | some d =>
        have hlen : (done.filterMap f).length < sizeLine := by
          have h1 := List.length_filterMap_le f done
          have h2 := congrArg List.length e
          rw [List.length_append, List.length_cons] at h2
          rw [sizeLine_eq]; omega
        refine ⟨_, k2 _ _ ha, hlen, ih (done ++ [i]) _ e2 ?_ (kk.updN hM)⟩
        rw [updM_same, List.filterMap_append]
        simp [hf]
      | none =>
        refine ih (done ++ [i]) _ e2 ?_ kk
        rw [List.filterMap_append]
        simp [hf]
        exact k2 _ _ ha
  exact go l [] _ rfl updM_same (fun b c hb => by
    have z : b ≠ a := fun z => by rw [z, hM] at hb; cases hb
    rw [updM_ne z]; exact hb)
theorem lcR_ix (g : α → D) (f : α → Option D) (l : List α) (hl : l.length ≤ 16777216) (hM : M a = none)
    (step : ∀ i ∈ l, ∀ (M1 : Mem) (T : Option D → Mem → Prop), Keep M M1 → (∀ M2, Keep M1 M2 → T (f i) M2) → γ (g i) (wipeD ρ vs) M1 (fun ρ2 M2 => υ ρ2 M2 (fun b M3 => if b = true then τ ρ2 M3 (fun d M4 => T (some d) M4) noX else T none M3) noX) noX)
    (q : ∀ M', Keep M M' → M' a = some (.lst (l.filterMap f)) → R M') : lcR γ υ τ vs a (l.map g) ρ (updM M a (.lst [])) R := by
  have go : ∀ (r done : List α) (M1 : Mem), l = done ++ r → M1 a = some (.lst (done.filterMap f)) → Keep M M1 → lcR γ υ τ vs a (r.map g) ρ M1 R := by
    intro r
    induction r with
    | nil =>
      intro done M1 e ha k
      rw [List.append_nil] at e
      subst e
      exact q _ k ha
    | cons i r ih =>
      intro done M1 e ha k
      have hi : i ∈ l := by rw [e]; simp
      have e2 : l = (done ++ [i]) ++ r := by rw [e]; simp
      refine step i hi M1 (fun o M4 => match o with
        | some d => ∃ acc, M4 a = some (.lst acc) ∧ acc.length < sizeLine ∧ lcR γ υ τ vs a (r.map g) ρ (updM M4 a (.lst (acc ++ [d]))) R
        | none => lcR γ υ τ vs a (r.map g) ρ M4 R) k fun M2 k2 => ?_
      have kk : Keep M M2 := fun b c hb => k2 b c (k b c hb)
      cases hf : f i with
      | some d =>
        have hlen : (done.filterMap f).length < sizeLine := by
          have h1 := List.length_filterMap_le f done
          have h2 := congrArg List.length e
          rw [List.length_append, List.length_cons] at h2
          rw [sizeLine_eq]; omega
        refine ⟨_, k2 _ _ ha, hlen, ih (done ++ [i]) _ e2 ?_ (kk.updN hM)⟩
        rw [updM_same, List.filterMap_append]
        simp [hf]
      | none =>
        refine ih (done ++ [i]) _ e2 ?_ kk
        rw [List.filterMap_append]
        simp [hf]
        exact k2 _ _ ha
  exact go l [] _ rfl updM_same (fun b c hb => by
    have z : b ≠ a := fun z => by rw [z, hM] at hb; cases hb
    rw [updM_ne z]; exact hb)
end
theorem cutD_mid {xs : List D} {p n : Nat} (h : p + n ≤ xs.length) : cutD xs (some (p : Int)) (some ((p : Int) + (n : Int))) = (xs.drop p).take n := by
  rw [show (p : Int) + (n : Int) = ((p + n : Nat) : Int) by omega]
  unfold cutD
  rw [sIx_nat, sIx_nat, Nat.min_eq_left (by omega), Nat.min_eq_left (by omega)]
  congr 1
  omega
theorem leaf_eq (rs : List Row) : (List.range rs.length).filterMap (fun i => if kids (lvs rs) i = 0 then some (nmAt rs i) else none) = leafD rs := by
  rw [leafD, ← List.filterMap_eq_filter, List.map_filterMap]
  congr 1
  funext i
  by_cases c : kids (lvs rs) i = 0 <;> simp [c, Option.guard]
theorem RowsOk.empty : RowsOk [] := ⟨by simp, by simp, by simp, by simp, fun i l h => by simp at h⟩
end FL

set_option Elab.async false
set_option linter.all false
set_option maxRecDepth 100000
set_option maxHeartbeats 4000000
set_option autoImplicit false
namespace DL
open PySem L2

/-! ### == and != through references that lie inside -/
mutual
inductive Dv (M : Mem) : D → D → Prop
  | same (d : D) : Dv M d d
  | ref {a : Addr} {ds es : List D} : M a = some (.lst ds) → Dvs M ds es → Dv M (.ref a) (.lst es)
  | lst {ds es : List D} : Dvs M ds es → Dv M (.lst ds) (.lst es)
  | tup {ds es : List D} : Dvs M ds es → Dv M (.tup ds) (.tup es)
inductive Dvs (M : Mem) : List D → List D → Prop
  | nil : Dvs M [] []
  | cons {d e : D} {ds es : List D} : Dv M d e → Dvs M ds es → Dvs M (d :: ds) (e :: es)
end
theorem Dvs.same {M : Mem} : ∀ ds : List D, Dvs M ds ds
  | [] => .nil
  | d :: ds => .cons (.same d) (Dvs.same ds)
theorem Dv.cell {M : Mem} {a : Addr} {ds : List D} (h : M a = some (.lst ds)) : Dv M (.ref a) (.lst ds) := .ref h (Dvs.same ds)
section
variable {K : PySem.W.Frag} {cl : ClW} {F H : Hp} {M : Mem} {X : Cx} {W : WX}
mutual
theorem dp_deep (g : Good K cl F H M) {d e : D} (t : Dv M d e) {v : V} {p : PyData} (r : Rep K cl F v d) (h : toPy e = some p) : Dp K H v p := by
  cases t with
  | same => exact dp_of g.sub d v p r h
  | ref ha ts =>
    rename_i a ds es
    obtain rfl := r.toRef
    obtain ⟨hF, vs, h3, h4⟩ := g.cell a _ ha
    simp only [toPy] at h
    cases q : toPys es with
    | none => rw [q] at h; cases h
    | some ps => rw [q] at h; cases h; exact .lst (SqL.of h3) (dps_deep g ts h4 q)
  | lst ts =>
    rename_i ds es
    obtain ⟨a, vs, rfl, h1, h2⟩ := r.toLst
    simp only [toPy] at h
    cases q : toPys es with
    | none => rw [q] at h; cases h
    | some ps => rw [q] at h; cases h; exact .lst (same_l g.sub h1) (dps_deep g ts h2 q)
  | tup ts =>
    rename_i ds es
    obtain ⟨a, vs, rfl, h1, h2⟩ := r.toTup
    simp only [toPy] at h
    cases q : toPys es with
    | none => rw [q] at h; cases h
    | some ps => rw [q] at h; cases h; exact .tup (same_t g.sub h1) (dps_deep g ts h2 q)
theorem dps_deep (g : Good K cl F H M) {ds es : List D} (t : Dvs M ds es) {vs : List V} {ps : List PyData} (r : Reps K cl F vs ds) (h : toPys es = some ps) : DpAll K H vs ps := by
  cases t with
  | nil =>
    obtain rfl := r.inv0
    simp only [toPys] at h
    cases h
    exact .nil
  | cons t1 t2 =>
    rename_i d e ds es
    obtain ⟨v, ws, rfl, r1, r2⟩ := r.inv
    obtain ⟨p, qs, rfl, h1, h2⟩ := toPys_cons h
    exact .cons (dp_deep g t1 r1 h1) (dps_deep g t2 r2 h2)
end
@[simp] def bDeepEq : DB2 := fun d e _ M Q _ => ∃ d' e' b, Dv M d d' ∧ Dv M e e' ∧ eqP d' e' = some b ∧ Q (.bl b) M
@[simp] def bDeepNe : DB2 := fun d e _ M Q _ => ∃ d' e' b, Dv M d d' ∧ Dv M e e' ∧ eqP d' e' = some b ∧ Q (.bl !b) M
theorem bin_deepEq (hu : X.A.units + 64 < cLine) : BinG cl X W (compareOp .Eq) bDeepEq := fun pins s σ H F ρ M v u x y d e Q Qd Xd I rx ry g sl r1 r2 q p w => by
  obtain ⟨d', e', b, t1, t2, h, q⟩ := q
  obtain ⟨pd, pe, h1, h2, h3, h4, rfl⟩ := eqP_inv h
  exact op_eqD hu pins s σ H x y v u Q I rx ry ⟨pd, pe, dp_deep g t1 r1 h1, dp_deep g t2 r2 h2, h3, h4, p.val g (.bl _) q⟩
theorem bin_deepNe (hu : X.A.units + 64 < cLine) : BinG cl X W (compareOp .NotEq) bDeepNe := fun pins s σ H F ρ M v u x y d e Q Qd Xd I rx ry g sl r1 r2 q p w => by
  obtain ⟨d', e', b, t1, t2, h, q⟩ := q
  obtain ⟨pd, pe, h1, h2, h3, h4, rfl⟩ := eqP_inv h
  exact op_neD hu pins s σ H x y v u Q I rx ry ⟨pd, pe, dp_deep g t1 r1 h1, dp_deep g t2 r2 h2, h3, h4, p.val g (.bl _) q⟩
/-! ### x[::-1] as a list that may change -/
@[simp] def dRevM (τ : DTE) : DTE := fun ρ M Q X => τ ρ M (fun d M1 => ∃ xs, vw M1 d = .lst xs ∧ ∀ a, M1 a = none → Q (.ref a) (updM M1 a (.lst xs.reverse))) X
variable {e : Expr} {τ : DTE} {pos : Pos}
theorem d_revM {k : Nat} {p1 p2 p3 : Pos} (he : DE cl X W e τ) : DE cl X W (.Subscript e (.Slice none none (some (.UnaryOp .USub (.Constant (.int 1) k p1) p2)) p3) pos) (dRevM τ) :=
  ⟨pe_imp (pe_revA he.pe) fun σ H Q ⟨F, ρ, M, Qd, Xd, g, s, t, p, w⟩ => ⟨F, ρ, M, _, Xd, g, s, t, fun v H' F' d M' sm g' r ⟨xs, e1, q⟩ => by
    have hv := vw_ok g' r
    rw [e1] at hv
    obtain ⟨a, vs, rfl, h1, h2⟩ := hv.lst g'.sub
    exact ⟨a, vs, rfl, .inl ⟨h1, fun c hc => p _ _ F' _ _ sm (g'.newM (d := .lst xs.reverse) hc ⟨vs.reverse, upd_same, h2.reverse⟩) (.ref c) (q c (g'.freshM hc))⟩⟩, w⟩⟩
/-! ### x or y by the truth of x -/
def truD : D → Option Bool
  | .bl b => some b
  | .int i => some (i != 0)
  | .non => some false
  | .lst xs => some (!xs.isEmpty)
  | .tup xs => some (!xs.isEmpty)
  | _ => none
@[simp] def dOrT (τa τb : DTE) : DTE := fun ρ M Q X => τa ρ M (fun d M1 => ∃ k, truD (vw M1 d) = some k ∧ if k = true then Q d M1 else τb ρ M1 Q X) X
theorem tru_of {v : V} {d : D} {k : Bool} (s : Same F H) (h : Vw K cl F H v d) (e : truD d = some k) : TruV K v H k := by
  cases d with
  | bl b => cases e; rw [h.bl]; rfl
  | int i => cases e; rw [h.int]; rfl
  | non => cases e; rw [h.non]; rfl
  | lst xs =>
    cases e
    obtain ⟨a, vs, rfl, h1, h2⟩ := h.lst s
    refine .inl ⟨vs, h1, ?_⟩
    cases h2 <;> rfl
  | tup xs =>
    cases e
    obtain ⟨a, vs, rfl, h1, h2⟩ := h.tup s
    refine .inr (.inl ⟨vs, h1, ?_⟩)
    cases h2 <;> rfl
  | _ => cases e
variable {a b : Expr} {τa τb : DTE} {rest : List Expr}
theorem d_orT (ha : DE cl X W a τa) (hb : DE cl X W (.BoolOp .Or (b :: rest) pos) τb) : DE cl X W (.BoolOp .Or (a :: b :: rest) pos) (dOrT τa τb) :=
  ⟨pe_imp (pe_orT ha.pe hb.pe) fun σ H Q ⟨F, ρ, M, Qd, Xd, g, s, t, p, w⟩ => ⟨F, ρ, M, _, Xd, g, s, t, fun v H' F' d M' sm g' r ⟨k, e1, q⟩ => by
    refine ⟨k, tru_of g'.sub (vw_ok g' r) e1, ?_⟩
    cases k with
    | true =>
      simp only [if_true] at q ⊢
      exact p v H' F' d M' sm g' r q
    | false =>
      simp only [Bool.false_eq_true, if_false] at q ⊢
      exact ⟨F', ρ, M', Qd, Xd, g', s.mono sm, q, p.mono sm, w.mono sm⟩, w⟩⟩
end
end DL

set_option Elab.async false
set_option linter.all false
set_option maxRecDepth 100000
set_option maxHeartbeats 4000000
set_option autoImplicit false
namespace FL
open PySem L2 DL
/-! ### a new list handed out -/
def Fr (M : Mem) (xs : List D) (Q : DV) : Prop := ∀ a M', M a = none → M' a = some (.lst xs) → Keep M M' → Q (.ref a) M'
theorem Fr.frz {M : Mem} {xs : List D} {Q : DV} (h : ∀ M', Keep M M' → Q (.lst xs) M') : Fr M xs (fun d M1 => frz d M1 Q) := fun a M' ha h1 k => by
  simp only [DL.frz, h1]
  exact h _ (k.delN ha)
/-! ### who lies above, who lies below -/
theorem anc_iff (ls : List Int) (p : Nat) : ∀ (i : Nat) (lev : Int), p ∈ anc ls i lev ↔ p < i ∧ ls.getD p 0 < lev ∧ ∀ k, p < k → k < i → ls.getD p 0 < ls.getD k 0
  | 0, lev => by simp [anc]
  | i + 1, lev => by
    unfold anc
    split
    · rename_i hlt
      rw [List.mem_cons, anc_iff ls p i]
      constructor
      · rintro (rfl | ⟨h1, h2, h3⟩)
        · exact ⟨by omega, hlt, fun k h1 h2 => by omega⟩
        · refine ⟨by omega, by omega, fun k h4 h5 => ?_⟩
          by_cases e : k = i
          · subst e; exact h2
          · exact h3 k h4 (by omega)
      · rintro ⟨h1, h2, h3⟩
        by_cases e : p = i
        · exact .inl e
        · exact .inr ⟨by omega, h3 i (by omega) (by omega), fun k h4 h5 => h3 k h4 (by omega)⟩
    · rename_i hlt
      rw [anc_iff ls p i]
      constructor
      · rintro ⟨h1, h2, h3⟩
        refine ⟨by omega, h2, fun k h4 h5 => ?_⟩
        by_cases e : k = i
        · subst e; omega
        · exact h3 k h4 (by omega)
      · rintro ⟨h1, h2, h3⟩
        have : p ≠ i := fun e => by subst e; exact hlt h2
        exact ⟨by omega, h2, fun k h4 h5 => h3 k h4 (by omega)⟩
theorem takeWhile_iff {α : Type} (f : α → Bool) : ∀ (xs : List α) (n : Nat), n ≤ xs.length → (n ≤ (xs.takeWhile f).length ↔ ∀ k (h : k < n), ∀ x, xs[k]? = some x → f x = true)
  | [], n, h => by simp at h; subst h; simp
  | x :: xs, 0, _ => by simp
  | x :: xs, n + 1, h => by
    rw [List.takeWhile_cons]
    by_cases c : f x = true
    · rw [if_pos c, List.length_cons]
      have ih := takeWhile_iff f xs n (by simpa using h)
      constructor
      · intro h1 k hk y hy
        cases k with
        | zero => simp at hy; subst hy; exact c
        | succ k => exact ih.mp (by omega) k (by omega) y (by simpa using hy)
      · intro h1
        have := ih.mpr fun k hk y hy => h1 (k + 1) (by omega) y (by simpa using hy)
        omega
    · rw [if_neg c]
      constructor
      · intro h1; simp at h1
      · intro h1; exact absurd (h1 0 (by omega) x rfl) c
theorem kids_iff (ls : List Int) {p j : Nat} (hj : j < ls.length) (hp : p < j) : j ≤ p + kids ls p ↔ ∀ k, p < k → k ≤ j → ls.getD p 0 < ls.getD k 0 := by
  have h := takeWhile_iff (fun l => decide (ls.getD p 0 < l)) (ls.drop (p + 1)) (j - p) (by rw [List.length_drop]; omega)
  have e : (j ≤ p + kids ls p) ↔ (j - p ≤ ((ls.drop (p + 1)).takeWhile fun l => decide (ls.getD p 0 < l)).length) := by unfold kids; omega
  rw [e, h]
  constructor
  · intro h1 k h2 h3
    have hk : k < ls.length := by omega
    have := h1 (k - (p + 1)) (by omega) ls[k] (by rw [List.getElem?_drop, show p + 1 + (k - (p + 1)) = k by omega]; exact List.getElem?_eq_getElem hk)
    have e2 : ls.getD k 0 = ls[k] := by simp [List.getD, hk]
    rw [e2]
    simpa using this
  · intro h1 k h2 x hx
    rw [List.getElem?_drop] at hx
    have := h1 (p + 1 + k) (by omega) (by omega)
    simp only [List.getD, hx, Option.getD_some] at this
    simpa using this
/-- p lies above j just where j lies among those below p -/
theorem above_iff (ls : List Int) {p j : Nat} (hj : j < ls.length) : p ∈ ancs ls j ↔ p < j ∧ j ≤ p + kids ls p := by
  unfold ancs
  rw [anc_iff]
  constructor
  · rintro ⟨h1, h2, h3⟩
    refine ⟨h1, (kids_iff ls hj h1).mpr fun k h4 h5 => ?_⟩
    by_cases e : k = j
    · subst e; exact h2
    · exact h3 k h4 (by omega)
  · rintro ⟨h1, h2⟩
    have := (kids_iff ls hj h1).mp h2
    exact ⟨h1, this j h1 (Nat.le_refl _), fun k h4 h5 => this k h4 (by omega)⟩
theorem filter_span (n a m : Nat) (h : a + m ≤ n) : (List.range n).filter (fun j => decide (a ≤ j ∧ j < a + m)) = List.range' a m := by
  have e : List.range n = List.range' 0 a ++ (List.range' a m ++ List.range' (a + m) (n - (a + m))) := by
    rw [List.range_eq_range', List.range'_append_1, show n = a + (m + (n - (a + m))) by omega, ← List.range'_append_1]
    simp
    omega
  rw [e, List.filter_append, List.filter_append]
  rw [List.filter_eq_nil_iff.mpr, List.filter_eq_self.mpr, List.filter_eq_nil_iff.mpr]
  · simp
  · intro x hx; have := List.mem_range'_1.mp hx; simp; omega
  · intro x hx; have := List.mem_range'_1.mp hx; simp; omega
  · intro x hx; have := List.mem_range'_1.mp hx; simp; omega
/-- all below p -/
theorem below_filter (ls : List Int) {p : Nat} (hp : p < ls.length) : (List.range ls.length).filter (fun j => decide (p ∈ ancs ls j)) = List.range' (p + 1) (kids ls p) := by
  rw [← filter_span ls.length (p + 1) (kids ls p) (kids_le ls p hp)]
  refine List.filter_congr fun j hj => ?_
  have hj2 : j < ls.length := by simpa using hj
  rw [decide_eq_decide, above_iff ls hj2]
  omega
def sibs (ls : List Int) (o : Option Nat) : List Nat := (List.range ls.length).filter fun j => decide ((ancs ls j).head? = o)
/-- the children of p, sought among all below -/
theorem kids_sibs (ls : List Int) {p : Nat} (hp : p < ls.length) : (List.range' (p + 1) (kids ls p)).filter (fun j => decide ((ancs ls j).head? = some p)) = sibs ls (some p) := by
  rw [← below_filter ls hp, List.filter_filter, sibs]
  refine List.filter_congr fun j hj => ?_
  by_cases e : (ancs ls j).head? = some p
  · have : p ∈ ancs ls j := List.mem_of_head? e
    simp [e, this]
  · simp [e]
theorem sib_eq (rs : List Row) (o : Option Nat) : (sibs (lvs rs) o).map (nmAt rs) = (List.range (lvs rs).length).filterMap (fun i => if (ancs (lvs rs) i).head? = o then some (nmAt rs i) else none) := by
  rw [sibs, ← List.filterMap_eq_filter, List.map_filterMap]
  congr 1
  funext i
  by_cases c : (ancs (lvs rs) i).head? = o <;> simp [c, Option.guard]
theorem idx_at {p : Nat} : ∀ {l : List Nat}, p ∈ l → l[l.idxOf p]? = some p ∧ ∀ m j, m < l.idxOf p → l[m]? = some j → j ≠ p
  | [], h => by simp at h
  | x :: l, h => by
    rw [List.idxOf_cons]
    by_cases e : x = p
    · subst e
      simp
    · have e2 : (x == p) = false := beq_false_of_ne e
      rw [e2]
      simp only [cond_false]
      have hl : p ∈ l := by
        rcases List.mem_cons.mp h with rfl | h
        · exact absurd rfl e
        · exact h
      obtain ⟨h1, h2⟩ := idx_at hl
      refine ⟨by rw [List.getElem?_cons_succ]; exact h1, fun m j hm hj => ?_⟩
      cases m with
      | zero => simp at hj; subst hj; exact e
      | succ m => exact h2 m j (by omega) (by simpa using hj)
theorem ancs_bound {ls : List Int} {i j n : Nat} (h : j ∈ ancs ls i) (hi : i ≤ n) : j < n := anc_bound (ls := ls) (i := i) (lev := ls.getD i 0) h hi
theorem ancs_pl {rs : List Row} (h : RowsOk rs) {i : Nat} (hi : i ≤ rs.length) : plDs 0 ((ancs (lvs rs) i).reverse.map (nmAt rs)) = true := nm_pl h fun j hj => ancs_bound (List.mem_reverse.mp hj) hi
theorem sib_gen (ls : List Int) (g : Nat → D) (o : Option Nat) : (List.range ls.length).filterMap (fun i => if (ancs ls i).head? = o then some (g i) else none) = (sibs ls o).map g := by
  rw [sibs, ← List.filterMap_eq_filter, List.map_filterMap]
  congr 1
  funext i
  by_cases c : (ancs ls i).head? = o <;> simp [c, Option.guard]
theorem below_gen (ls : List Int) (g : Nat → D) {p : Nat} (hp : p < ls.length) : (List.range ls.length).filterMap (fun i => if p ∈ ancs ls i then some (g i) else none) = (List.range' (p + 1) (kids ls p)).map g := by
  rw [← below_filter ls hp, ← List.filterMap_eq_filter, List.map_filterMap]
  congr 1
  funext i
  by_cases c : p ∈ ancs ls i <;> simp [c, Option.guard]
theorem eq_opt {M : Mem} (a b : Option Nat) : eqD (vw M (optI a)) (vw M (optI b)) = some (.bl (decide (a = b))) := by
  cases a with
  | none => cases b <;> rfl
  | some i =>
    cases b with
    | none => rfl
    | some j =>
      show eqD (.int i) (.int j) = _
      rw [eqD_int]
      congr 2
      rw [Bool.eq_iff_iff]
      simp
      omega
theorem in_ints (p : Nat) (l : List Nat) : inD (.int (p : Int)) (.lst (l.map intD)) = some (.bl (decide (p ∈ l))) := by
  have f2 : (l.map intD).all flatD = true := by simp [intD]
  rw [inD_def, inB_lst, show flatD (.int (p : Int)) = true from rfl, f2]
  simp only [Bool.and_self, if_true, Option.map_some]
  congr 2
  rw [Bool.eq_iff_iff]
  simp [intD]
  constructor
  · rintro ⟨x, h1, h2⟩
    have : x = p := by omega
    subst this; exact h1
  · exact fun h => ⟨p, h, rfl⟩
theorem par_at {ls : List Int} {i : Nat} (h : i < ls.length) : atI (parD ls) (i : Int) = some (optI (ancs ls i).head?) := atI_get' (by simp [parD, h])
theorem nms_at {rs : List Row} {i : Nat} (h : i < rs.length) : atI ((List.range rs.length).map (nmAt rs)) (i : Int) = some (nmAt rs i) := atI_get' (by simp [h])
end FL

set_option Elab.async false
set_option linter.all false
set_option maxRecDepth 100000
set_option maxHeartbeats 4000000
namespace DL
open PySem L2

/-! ### walking what may change, but does not while it is walked: a guard over the memory -/
abbrev DTIg := DL.Env → Mem → ((Mem → Prop) → List D → Mem → Prop) → DX → Prop
def WalksG (K : PySem.W.Frag) (cl : ClW) (J : It) (F : Hp) (C : Mem → Prop) (xs : List D) : Prop := ∀ i F' H' M', Same F F' → Good K cl F' H' M' → C M' →
  (∀ d, xs[i]? = some d → J.go i H' ∧ ∀ x H3, J.yld i H' x H3 → ∃ F3, Same F' F3 ∧ Good K cl F3 H3 M' ∧ Rep K cl F3 x d) ∧ (xs.length ≤ i → J.stop i H')
structure DIg (cl : ClW) (X : Cx) (W : WX) (tg iter : Expr) (ι : DTIg) : Prop where
  pi : PI X tg iter (fun σ H R => ∃ F ρ M Rd Xd, Good X.K cl F H M ∧ Slots X.K cl F σ ρ ∧ ι ρ M Rd Xd ∧ (∀ J H' F' C xs M', Same F F' → Good X.K cl F' H' M' → WalksG X.K cl J F' C xs → Rd C xs M' → R J H') ∧ WOk X.K cl W F Xd)
def forG (C : Mem → Prop) (γ : DTG) (t : DTS) : List D → DTS
  | [] => fun E ρ M => C M ∧ E.nx ρ M
  | x :: xs => fun E ρ M => C M ∧ γ x ρ M (fun ρ2 M2 => t { E with nx := forG C γ t xs E, ct := forG C γ t xs E, bk := E.nx } ρ2 M2) E.ex
def dForG (ι : DTIg) (γ : DTG) (t : DTS) : DTS := fun E ρ M => ι ρ M (fun C xs M1 => forG C γ t xs E ρ M1) E.ex
/-- a comprehension's turns; R: what is asked of the memory at the end -/
def lcG (C : Mem → Prop) (γ : DTG) (υ : DTT) (τ : DTE) (vs : List Nat) (a : Addr) : List D → DL.Env → Mem → (Mem → Prop) → Prop
  | [] => fun _ M R => C M ∧ R M
  | x :: xs => fun ρ M R => C M ∧ γ x (wipeD ρ vs) M (fun ρ2 M2 => υ ρ2 M2 (fun b M3 => if b = true then τ ρ2 M3 (fun d M4 => ∃ acc, M4 a = some (.lst acc) ∧ acc.length < sizeLine ∧ lcG C γ υ τ vs a xs ρ (updM M4 a (.lst (acc ++ [d]))) R) noX else lcG C γ υ τ vs a xs ρ M3 R) noX) noX
def endF (a : Addr) (Q : DV) : Mem → Prop := fun M => ∃ ds, M a = some (.lst ds) ∧ Q (.lst ds) (delM M a)
def endM (a : Addr) (Q : DV) : Mem → Prop := fun M => Q (.ref a) M
def dLcG (ι : DTIg) (γ : DTG) (υ : DTT) (τ : DTE) (vs : List Nat) : DTE := fun ρ M Q X => ι ρ M (fun C xs M1 => ∀ a, M1 a = none → lcG C γ υ τ vs a xs ρ (updM M1 a (.lst [])) (endF a Q)) X
def dLcGM (ι : DTIg) (γ : DTG) (υ : DTT) (τ : DTE) (vs : List Nat) : DTE := fun ρ M Q X => ι ρ M (fun C xs M1 => ∀ a, M1 a = none → lcG C γ υ τ vs a xs ρ (updM M1 a (.lst [])) (endM a Q)) X
def dcG (C : Mem → Prop) (γ : DTG) (υ : DTT) (τk τv : DTE) (vs : List Nat) (a : Addr) : List D → DL.Env → Mem → DV → Prop
  | [] => fun _ M Q => C M ∧ ∃ ks ds, M a = some (.dK ks ds) ∧ Q (.dK ks ds) (delM M a)
  | x :: xs => fun ρ M Q => C M ∧ γ x (wipeD ρ vs) M (fun ρ2 M2 => υ ρ2 M2 (fun b M3 => if b = true then τk ρ2 M3 (fun kd M4 => τv ρ2 M4 (fun d M5 => ∃ k ks ds, keyD kd = some k ∧ M5 a = some (.dK ks ds) ∧ ks.length < sizeLine ∧ dcG C γ υ τk τv vs a xs ρ (updM M5 a (.dK (putKs k ks) (putVs k d ks ds))) Q) noX) noX else dcG C γ υ τk τv vs a xs ρ M3 Q) noX) noX
def dDcG (ι : DTIg) (γ : DTG) (υ : DTT) (τk τv : DTE) (vs : List Nat) : DTE := fun ρ M Q X => ι ρ M (fun C xs M1 => ∀ a, M1 a = none → dcG C γ υ τk τv vs a xs ρ (updM M1 a (.dK [] [])) Q) X
@[simp] def iSG (τ : DTE) : DTIg := fun ρ M R X => τ ρ M (fun d M1 => ∃ xs, itD (vw M1 d) = some xs ∧ R (fun M => itD (vw M d) = some xs) xs M1) X
@[simp] def iEnG (τ : DTE) : DTIg := fun ρ M R X => τ ρ M (fun d M1 => ∃ xs, enD (vw M1 d) = some xs ∧ R (fun M => enD (vw M d) = some xs) (xs.zipIdx.map fun p => D.tup [.int (p.2 : Nat), p.1]) M1) X
/-- without a guard -/
@[simp] def iG (ι : DTI) : DTIg := fun ρ M R X => ι ρ M (fun xs M1 => R (fun _ => True) xs M1) X
section
variable {K : PySem.W.Frag} {cl : ClW} {F H : Hp} {M : Mem}
theorem cellL (g : Good K cl F H M) {a : Addr} {xs : List D} (e : itD (vw M (.ref a)) = some xs ∨ enD (vw M (.ref a)) = some xs) : M a = some (.lst xs) ∧ ∃ vs, H a = some (.lst vs) ∧ Reps K cl F vs xs := by
  have hv : vw M (.ref a) = (M a).getD (.ref a) := rfl
  cases hM : M a with
  | none => rw [hv, hM] at e; rcases e with e | e <;> cases e
  | some c =>
    rw [hv, hM] at e
    obtain ⟨_, h2⟩ := g.cell a c hM
    cases c with
    | lst ds =>
      have : ds = xs := by rcases e with e | e <;> exact Option.some.inj e
      subst this
      exact ⟨rfl, h2⟩
    | tup ds => exact h2.elim
    | str ds => exact h2.elim
    | byt ds => exact h2.elim
    | _ => rcases e with e | e <;> cases e
end
section
variable {cl : ClW} {X : Cx} {W : WX} {e : Expr} {τ : DTE}
theorem di_g {tg : Expr} {ι : DTI} (h : DI cl X W tg e ι) : DIg cl X W tg e (iG ι) := ⟨pi_imp h.pi fun σ H R ⟨F, ρ, M, Rd, Xd, g, s, q, p, w⟩ =>
  ⟨F, ρ, M, _, Xd, g, s, q, fun J H' F' xs M' sm g' wk q' => p J H' F' _ xs M' sm g' (fun i F2 H2 M2 sm2 g2 _ => wk i F2 H2 M2 sm2 g2) q', w⟩⟩
theorem di_seqG {tg : Expr} (h : DE cl X W e τ) : DIg cl X W tg e (iSG τ) := ⟨pi_imp (pi_seqV h.pe) fun σ H R ⟨F, ρ, M, Rd, Xd, g, s, q, p, w⟩ =>
  ⟨F, ρ, M, _, Xd, g, s, q, fun v H' F' d M' sm g' r ⟨xs, e1, q'⟩ => (by
    cases d with
    | ref a =>
      obtain rfl := r.toRef
      obtain ⟨_, vs, h1, h2⟩ := cellL g' (.inl e1)
      refine .inl ⟨a, rfl, ⟨vs, SqL.of h1⟩, p _ _ F' _ xs M' sm g' (fun i F2 H2 M2 sm2 g2 hC => ?_) q'⟩
      obtain ⟨_, vs, h1, h2⟩ := cellL g2 (.inl hC)
      refine ⟨fun d hd => ?_, fun hl => ⟨vs, SqL.of h1, by rw [h2.length]; exact hl⟩⟩
      obtain ⟨v, hv, rv⟩ := h2.get hd
      refine ⟨⟨vs, v, SqL.of h1, hv⟩, fun x H3 ⟨e1, e2⟩ => ?_⟩
      subst e1
      have := e2 vs (SqL.of h1)
      rw [hv] at this
      cases this
      exact ⟨F2, Same.refl F2, g2, rv⟩
    | lst ds =>
      cases e1
      obtain ⟨a, vs, rfl, h1, h2⟩ := r.toLst
      refine .inl ⟨a, rfl, ⟨vs, same_l g'.sub h1⟩, p _ _ F' _ xs M' sm g' (fun i F2 H2 M2 sm2 g2 _ => ⟨fun d hd => ?_, fun hl => ⟨vs, same_l (sm2.trans g2.sub) h1, by rw [h2.length]; exact hl⟩⟩) q'⟩
      obtain ⟨v, hv, rv⟩ := h2.get hd
      refine ⟨⟨vs, v, same_l (sm2.trans g2.sub) h1, hv⟩, fun x H3 ⟨e1, e2⟩ => ?_⟩
      subst e1
      have := e2 vs (same_l (sm2.trans g2.sub) h1)
      rw [hv] at this
      cases this
      exact ⟨F2, Same.refl F2, g2, rv.mono sm2⟩
    | tup ds =>
      cases e1
      obtain ⟨a, vs, rfl, h1, h2⟩ := r.toTup
      refine .inr (.inl ⟨a, rfl, ⟨vs, same_t g'.sub h1⟩, p _ _ F' _ xs M' sm g' (fun i F2 H2 M2 sm2 g2 _ => ⟨fun d hd => ?_, fun hl => ⟨vs, same_t (sm2.trans g2.sub) h1, by rw [h2.length]; exact hl⟩⟩) q'⟩)
      obtain ⟨v, hv, rv⟩ := h2.get hd
      refine ⟨⟨vs, v, same_t (sm2.trans g2.sub) h1, hv⟩, fun x H3 ⟨e1, e2⟩ => ?_⟩
      subst e1
      have := e2 vs (same_t (sm2.trans g2.sub) h1)
      rw [hv] at this
      cases this
      exact ⟨F2, Same.refl F2, g2, rv.mono sm2⟩
    | str z =>
      cases e1
      obtain rfl := r.toStr
      refine .inr (.inr (.inl ⟨z, rfl, p _ _ F' _ _ M' sm g' (fun i F2 H2 M2 sm2 g2 _ => ⟨fun d hd => ?_, fun hl => ?_⟩) q'⟩))
      · rw [List.getElem?_map] at hd
        obtain ⟨c, hc, rfl⟩ := Option.map_eq_some_iff.mp hd
        have hc' : z.cps[i]? = some c := by simpa using hc
        refine ⟨(Array.getElem?_eq_some_iff.mp hc').1, fun x H3 ⟨e1, c2, e2, e3⟩ => ?_⟩
        subst e1 e3
        rw [hc'] at e2
        cases e2
        exact ⟨F2, Same.refl F2, g2, .str _⟩
      · show z.cps.size ≤ i
        simpa using hl
    | byt z =>
      cases e1
      obtain rfl := r.toByt
      refine .inr (.inr (.inr ⟨z, rfl, p _ _ F' _ _ M' sm g' (fun i F2 H2 M2 sm2 g2 _ => ⟨fun d hd => ?_, fun hl => ?_⟩) q'⟩))
      · rw [List.getElem?_map] at hd
        obtain ⟨c, hc, rfl⟩ := Option.map_eq_some_iff.mp hd
        have hc' : z[i]? = some c := by simpa using hc
        refine ⟨(Array.getElem?_eq_some_iff.mp hc').1, fun x H3 ⟨e1, c2, e2, e3⟩ => ?_⟩
        subst e1 e3
        rw [hc'] at e2
        cases e2
        exact ⟨F2, Same.refl F2, g2, .int _⟩
      · show z.size ≤ i
        simpa using hl
    | _ => cases e1), w⟩⟩
variable {elt tg iter kx vx : Expr} {ifs : List Expr} {scope : Scope} {own : List (Str × Nat)} {pos : Pos} {ι : DTIg} {is : List Nat} {γ : DTG} {υ : DTT} {τk τv : DTE} {sts : List Stmt} {t : DTS}
theorem ds_forG (hp : PassesOwn (model X.prog X.w) X.A X.env X.xe) (hc : X.calm = true) (hi : DIg cl X W tg iter ι) (hg : DG cl X W tg is γ) (hb : DSs cl X W sts t) (hs : ∀ x, foldedSetIterable iter X.env x = pure x := by intro _; rfl) :
    DS cl X W (.For tg iter sts [] pos) (dForG ι γ t) := ⟨ps_imp (ps_for hp hc hi.pi hg.pg hb.pss hs) fun D σ H ⟨F, ρ, M, E, g, s, q, ok⟩ => by
  refine ⟨F, ρ, M, _, E.ex, g, s, q, fun J H1 F1 C xs M1 sm1 g1 wk q1 => ?_, ok.ex⟩
  refine ⟨fun i m σ H => m = xs.length - i ∧ i ≤ xs.length ∧ ∃ F' ρ M, Same F1 F' ∧ Good X.K cl F' H M ∧ Slots X.K cl F' σ ρ ∧ forG C γ t (xs.drop i) E ρ M, ⟨xs.length, by simp, Nat.zero_le _, F1, ρ, M1, Same.refl F1, g1, s.mono sm1, by simpa using q1⟩, ?_⟩
  rintro i m σ2 H2 ⟨rfl, hi, F2, ρ2, M2, sm2, g2, s2, q2⟩
  have ok2 := ok.mono (sm1.trans sm2)
  by_cases hlt : i < xs.length
  · rw [List.drop_eq_getElem_cons hlt] at q2
    unfold forG at q2
    obtain ⟨hC, q2⟩ := q2
    obtain ⟨go, yl⟩ := (wk i F2 H2 M2 sm2 g2 hC).1 xs[i] (by simp [hlt])
    refine .inr ⟨go, fun σ' H' => ∃ F' ρ' M', Same F1 F' ∧ Good X.K cl F' H' M' ∧ Slots X.K cl F' σ' ρ' ∧ forG C γ t (xs.drop (i + 1)) E ρ' M', fun σ' H' n => ⟨xs.length - (i + 1), by omega, rfl, hlt, n⟩, fun x H3 y => ?_⟩
    obtain ⟨F3, sm3, g3, r3⟩ := yl x H3 y
    refine ⟨F3, ρ2, M2, xs[i], _, E.ex, g3, s2.mono sm3, r3, q2, fun σ4 H4 F4 ρ4 M4 sm4 g4 s4 _ q4 => ?_, ok2.ex.mono sm3⟩
    have ok4 := ok2.mono (sm3.trans sm4)
    exact ⟨F4, ρ4, M4, _, g4, s4, q4, ⟨fun σ' H' F' ρ' M' sm' g' s' q' => ⟨F', ρ', M', ((sm2.trans sm3).trans sm4).trans sm', g', s', q'⟩, ok4.rt, ok4.nx, fun σ' H' F' ρ' M' sm' g' s' q' => ⟨F', ρ', M', ((sm2.trans sm3).trans sm4).trans sm', g', s', q'⟩, ok4.ex⟩⟩
  · have e : i = xs.length := by omega
    subst e
    rw [List.drop_length] at q2
    exact .inl ⟨(wk _ F2 H2 M2 sm2 g2 q2.1).2 (Nat.le_refl _), ok2.nx _ _ F2 ρ2 M2 (Same.refl F2) g2 s2 q2.2⟩⟩
theorem lcG_lift {K : PySem.W.Frag} (his : ∀ i ∈ is, i ∈ own.map (·.2)) {σ : St} {H : Hp} {Q : VK} {F : Hp} {ρ : DL.Env} {M : Mem} {Xd : DX} (R : Addr → Mem → Prop) (g : Good K cl F H M) (s : Slots K cl F σ ρ)
    (q : ι ρ M (fun C xs M1 => ∀ a, M1 a = none → lcG C γ υ τ (own.map (·.2)) a xs ρ (updM M1 a (.lst [])) (R a)) Xd) (p : ∀ a H' F' M', Same F F' → Good K cl F' H' M' → R a M' → Q (.ref a) H') (w : WOk K cl W F Xd) :
    tLc (fun σ H R => ∃ F ρ M Rd Xd, Good K cl F H M ∧ Slots K cl F σ ρ ∧ ι ρ M Rd Xd ∧ (∀ J H' F' C xs M', Same F F' → Good K cl F' H' M' → WalksG K cl J F' C xs → Rd C xs M' → R J H') ∧ WOk K cl W F Xd)
      (fun v σ H Q => ∃ F ρ M d Qd Xd, Good K cl F H M ∧ Slots K cl F σ ρ ∧ Rep K cl F v d ∧ γ d ρ M Qd Xd ∧ (∀ σ' H' F' ρ' M', Same F F' → Good K cl F' H' M' → Slots K cl F' σ' ρ' → (∀ vs : List Nat, (∀ i ∈ is, i ∈ vs) → wipe σ' vs = wipe σ vs) → Qd ρ' M' → Q σ' H') ∧ WOk K cl W0 F Xd)
      (lowT K cl W0 υ) (lowE K cl W0 τ) (own.map (·.2)) σ H Q := by
  refine ⟨F, ρ, M, _, Xd, g, s, q, fun J H1 F1 C xs M1 sm1 g1 wk q1 a hD => ?_, w⟩
  refine ⟨fun i m H => m = xs.length - i ∧ i ≤ xs.length ∧ ∃ F' M, Same F1 F' ∧ Good K cl F' H M ∧ lcG C γ υ τ (own.map (·.2)) a (xs.drop i) ρ M (R a),
    ⟨xs.length, by simp, Nat.zero_le _, F1, updM M1 a (.lst []), Same.refl F1, g1.newM (d := .lst []) hD ⟨[], upd_same, .nil⟩, by simpa using q1 a (g1.freshM hD)⟩, ?_⟩
  rintro i m H2 ⟨rfl, hi, F2, M2, sm2, g2, q2⟩
  by_cases hlt : i < xs.length
  · rw [List.drop_eq_getElem_cons hlt] at q2
    unfold lcG at q2
    obtain ⟨hC, q2⟩ := q2
    obtain ⟨go, yl⟩ := (wk i F2 H2 M2 sm2 g2 hC).1 xs[i] (by simp [hlt])
    refine .inr ⟨go, fun H' => ∃ F' M', Same F1 F' ∧ Good K cl F' H' M' ∧ lcG C γ υ τ (own.map (·.2)) a (xs.drop (i + 1)) ρ M' (R a), fun H' n => ⟨xs.length - (i + 1), by omega, rfl, hlt, n⟩, fun x H3 y => ?_⟩
    obtain ⟨F3, sm3, g3, r3⟩ := yl x H3 y
    refine ⟨F3, wipeD ρ (own.map (·.2)), M2, xs[i], _, noX, g3, (s.mono ((sm1.trans sm2).trans sm3)).wipe _, r3, q2, fun σ4 H4 F4 ρ4 M4 sm4 g4 s4 w4 q4 => ⟨?_, ?_⟩, wok0⟩
    · rw [w4 _ his]
      exact wipe_idem _ _ _ fun _ h => h
    · refine ⟨F4, ρ4, M4, _, noX, g4, s4, q4, fun k H5 F5 M5 sm5 g5 q5 => ?_, wok0⟩
      cases k with
      | true =>
        rw [if_pos rfl] at q5 ⊢
        refine ⟨F5, ρ4, M5, _, noX, g5, s4.mono sm5, q5, fun y2 H6 F6 d M6 sm6 g6 r6 q6 => ?_, wok0⟩
        obtain ⟨acc, e1, e2, q6⟩ := q6
        obtain ⟨hF, vs, h1, h2⟩ := g6.cell a _ e1
        refine ⟨vs, h1, by rw [h2.length]; exact e2, F6, _, (((sm2.trans sm3).trans sm4).trans sm5).trans sm6, g6.put (d := .lst (acc ++ [d])) e1 ⟨vs ++ [y2], upd_same, h2.append (.one r6)⟩, q6⟩
      | false =>
        rw [if_neg Bool.false_ne_true] at q5 ⊢
        exact ⟨F5, M5, ((sm2.trans sm3).trans sm4).trans sm5, g5, q5⟩
  · have e : i = xs.length := by omega
    subst e
    rw [List.drop_length] at q2
    unfold lcG at q2
    exact .inl ⟨(wk _ F2 H2 M2 sm2 g2 q2.1).2 (Nat.le_refl _), p _ _ _ _ (sm1.trans sm2) g2 q2.2⟩
theorem endF_ok {K : PySem.W.Frag} {F : Hp} {Q : VK} {Qd : DV} (p : Post K cl F Q Qd) : ∀ a H' F' M', Same F F' → Good K cl F' H' M' → endF a Qd M' → Q (.ref a) H' := fun a H' F' M' sm g ⟨ds, e1, q⟩ => by
  obtain ⟨F3, sm3, g3, r3⟩ := g.freeze e1
  exact p _ _ _ _ _ (sm.trans sm3) g3 r3 q
theorem endM_ok {K : PySem.W.Frag} {F : Hp} {Q : VK} {Qd : DV} (p : Post K cl F Q Qd) : ∀ a H' F' M', Same F F' → Good K cl F' H' M' → endM a Qd M' → Q (.ref a) H' := fun a H' F' M' sm g q => p _ _ _ _ _ sm g (.ref a) q
theorem d_lcG (hc : X.calm = true) (hN : X.N.Nodup) (hi : DIg cl X W tg iter ι) (ok : BlkOk X.N X.env.scope scope own)
    (hg : ∀ (s : Shared) (H : Hp) (C : Addr) (cs : List (Str × Addr)) (fp : List Addr), DG cl (X.blk s H scope (compEnvC scope cs C X.env) fp) W0 tg is γ) (ht : ∀ (s : Shared) (H : Hp) (C : Addr) (cs : List (Str × Addr)) (fp : List Addr), DTs cl (X.blk s H scope (compEnvC scope cs C X.env) fp) W0 ifs υ)
    (he : ∀ (s : Shared) (H : Hp) (C : Addr) (cs : List (Str × Addr)) (fp : List Addr), DE cl (X.blk s H scope (compEnvC scope cs C X.env) fp) W0 elt τ) (his : ∀ i ∈ is, i ∈ own.map (·.2) := by decide) (hs : ∀ x, foldedSetIterable iter X.env x = pure x := by intro _; rfl) :
    DE cl X W (.ListComp elt [⟨tg, iter, ifs, 0⟩] scope pos) (dLcG ι γ υ τ (own.map (·.2))) :=
  ⟨pe_imp (pe_lc hc hN hi.pi ok (fun s H C cs fp => (hg s H C cs fp).pg) (fun s H C cs fp => (ht s H C cs fp).pts) (fun s H C cs fp => (he s H C cs fp).pe) hs) fun σ H Q ⟨F, ρ, M, Qd, Xd, g, s, q, p, w⟩ => lcG_lift his (fun a => endF a Qd) g s q (endF_ok p) w⟩
theorem d_lcGM (hc : X.calm = true) (hN : X.N.Nodup) (hi : DIg cl X W tg iter ι) (ok : BlkOk X.N X.env.scope scope own)
    (hg : ∀ (s : Shared) (H : Hp) (C : Addr) (cs : List (Str × Addr)) (fp : List Addr), DG cl (X.blk s H scope (compEnvC scope cs C X.env) fp) W0 tg is γ) (ht : ∀ (s : Shared) (H : Hp) (C : Addr) (cs : List (Str × Addr)) (fp : List Addr), DTs cl (X.blk s H scope (compEnvC scope cs C X.env) fp) W0 ifs υ)
    (he : ∀ (s : Shared) (H : Hp) (C : Addr) (cs : List (Str × Addr)) (fp : List Addr), DE cl (X.blk s H scope (compEnvC scope cs C X.env) fp) W0 elt τ) (his : ∀ i ∈ is, i ∈ own.map (·.2) := by decide) (hs : ∀ x, foldedSetIterable iter X.env x = pure x := by intro _; rfl) :
    DE cl X W (.ListComp elt [⟨tg, iter, ifs, 0⟩] scope pos) (dLcGM ι γ υ τ (own.map (·.2))) :=
  ⟨pe_imp (pe_lc hc hN hi.pi ok (fun s H C cs fp => (hg s H C cs fp).pg) (fun s H C cs fp => (ht s H C cs fp).pts) (fun s H C cs fp => (he s H C cs fp).pe) hs) fun σ H Q ⟨F, ρ, M, Qd, Xd, g, s, q, p, w⟩ => lcG_lift his (fun a => endM a Qd) g s q (endM_ok p) w⟩
theorem ds_setLcG {y : Str} {py spos : Pos} (i : Nat) (hc : X.calm = true) (hN : X.N.Nodup) (hi : DIg cl X W tg iter ι) (ok : BlkOk X.N X.env.scope scope own)
    (hg : ∀ (s : Shared) (H : Hp) (C : Addr) (cs : List (Str × Addr)) (fp : List Addr), DG cl (X.blk s H scope (compEnvC scope cs C X.env) fp) W0 tg is γ) (ht : ∀ (s : Shared) (H : Hp) (C : Addr) (cs : List (Str × Addr)) (fp : List Addr), DTs cl (X.blk s H scope (compEnvC scope cs C X.env) fp) W0 ifs υ)
    (he : ∀ (s : Shared) (H : Hp) (C : Addr) (cs : List (Str × Addr)) (fp : List Addr), DE cl (X.blk s H scope (compEnvC scope cs C X.env) fp) W0 elt τ) (hy : X.N[i]? = some y := by rfl) (hyl : X.env.scope.names.lookup y = some .local := by rfl)
    (hsw : swapsWith (.ListComp elt [⟨tg, iter, ifs, 0⟩] scope pos) (some (.Name y py)) spos.line X.env = pure true := by exact sw_true rfl rfl rfl (by decide +kernel)) (his : ∀ i ∈ is, i ∈ own.map (·.2) := by decide) (hs : ∀ x, foldedSetIterable iter X.env x = pure x := by intro _; rfl) :
    DS cl X W (.Assign [.Name y py] (.ListComp elt [⟨tg, iter, ifs, 0⟩] scope pos) spos) (dAsg (dLcG ι γ υ τ (own.map (·.2))) (gN i)) :=
  ⟨ps_imp (ps_setLc hc hN hy hyl hsw hi.pi ok (fun s H C cs fp => (hg s H C cs fp).pg) (fun s H C cs fp => (ht s H C cs fp).pts) (fun s H C cs fp => (he s H C cs fp).pe) hs) fun D σ H ⟨F, ρ, M, E, g, s, q, ok⟩ =>
    lcG_lift his (fun a => endF a _) g s q (endF_ok (fun v H' F' d M' sm g' r q' => ok.nx _ _ _ _ _ sm g' ((s.mono sm).set i r) q')) ok.ex⟩
theorem ds_setLcGM {y : Str} {py spos : Pos} (i : Nat) (hc : X.calm = true) (hN : X.N.Nodup) (hi : DIg cl X W tg iter ι) (ok : BlkOk X.N X.env.scope scope own)
    (hg : ∀ (s : Shared) (H : Hp) (C : Addr) (cs : List (Str × Addr)) (fp : List Addr), DG cl (X.blk s H scope (compEnvC scope cs C X.env) fp) W0 tg is γ) (ht : ∀ (s : Shared) (H : Hp) (C : Addr) (cs : List (Str × Addr)) (fp : List Addr), DTs cl (X.blk s H scope (compEnvC scope cs C X.env) fp) W0 ifs υ)
    (he : ∀ (s : Shared) (H : Hp) (C : Addr) (cs : List (Str × Addr)) (fp : List Addr), DE cl (X.blk s H scope (compEnvC scope cs C X.env) fp) W0 elt τ) (hy : X.N[i]? = some y := by rfl) (hyl : X.env.scope.names.lookup y = some .local := by rfl)
    (hsw : swapsWith (.ListComp elt [⟨tg, iter, ifs, 0⟩] scope pos) (some (.Name y py)) spos.line X.env = pure true := by exact sw_true rfl rfl rfl (by decide +kernel)) (his : ∀ i ∈ is, i ∈ own.map (·.2) := by decide) (hs : ∀ x, foldedSetIterable iter X.env x = pure x := by intro _; rfl) :
    DS cl X W (.Assign [.Name y py] (.ListComp elt [⟨tg, iter, ifs, 0⟩] scope pos) spos) (dAsg (dLcGM ι γ υ τ (own.map (·.2))) (gN i)) :=
  ⟨ps_imp (ps_setLc hc hN hy hyl hsw hi.pi ok (fun s H C cs fp => (hg s H C cs fp).pg) (fun s H C cs fp => (ht s H C cs fp).pts) (fun s H C cs fp => (he s H C cs fp).pe) hs) fun D σ H ⟨F, ρ, M, E, g, s, q, ok⟩ =>
    lcG_lift his (fun a => endM a _) g s q (endM_ok (fun v H' F' d M' sm g' r q' => ok.nx _ _ _ _ _ sm g' ((s.mono sm).set i r) q')) ok.ex⟩
theorem dcG_lift {K : PySem.W.Frag} (his : ∀ i ∈ is, i ∈ own.map (·.2)) {σ : St} {H : Hp} {Q : VK} {F : Hp} {ρ : DL.Env} {M : Mem} {Qd : DV} {Xd : DX} (g : Good K cl F H M) (s : Slots K cl F σ ρ) (q : dDcG ι γ υ τk τv (own.map (·.2)) ρ M Qd Xd) (p : Post K cl F Q Qd) (w : WOk K cl W F Xd) :
    tDc (fun σ H R => ∃ F ρ M Rd Xd, Good K cl F H M ∧ Slots K cl F σ ρ ∧ ι ρ M Rd Xd ∧ (∀ J H' F' C xs M', Same F F' → Good K cl F' H' M' → WalksG K cl J F' C xs → Rd C xs M' → R J H') ∧ WOk K cl W F Xd)
      (fun v σ H Q => ∃ F ρ M d Qd Xd, Good K cl F H M ∧ Slots K cl F σ ρ ∧ Rep K cl F v d ∧ γ d ρ M Qd Xd ∧ (∀ σ' H' F' ρ' M', Same F F' → Good K cl F' H' M' → Slots K cl F' σ' ρ' → (∀ vs : List Nat, (∀ i ∈ is, i ∈ vs) → wipe σ' vs = wipe σ vs) → Qd ρ' M' → Q σ' H') ∧ WOk K cl W0 F Xd)
      (lowT K cl W0 υ) (lowE K cl W0 τk) (lowE K cl W0 τv) (own.map (·.2)) σ H Q := by
  refine ⟨F, ρ, M, _, Xd, g, s, q, fun J H1 F1 C xs M1 sm1 g1 wk q1 a hD => ?_, w⟩
  refine ⟨fun i m H => m = xs.length - i ∧ i ≤ xs.length ∧ ∃ F' M, Same F1 F' ∧ Good K cl F' H M ∧ dcG C γ υ τk τv (own.map (·.2)) a (xs.drop i) ρ M Qd,
    ⟨xs.length, by simp, Nat.zero_le _, F1, updM M1 a (.dK [] []), Same.refl F1, g1.newM (d := .dK [] []) hD ⟨[], upd_same, rfl, .nil⟩, by simpa using q1 a (g1.freshM hD)⟩, ?_⟩
  rintro i m H2 ⟨rfl, hi, F2, M2, sm2, g2, q2⟩
  by_cases hlt : i < xs.length
  · rw [List.drop_eq_getElem_cons hlt] at q2
    unfold dcG at q2
    obtain ⟨hC, q2⟩ := q2
    obtain ⟨go, yl⟩ := (wk i F2 H2 M2 sm2 g2 hC).1 xs[i] (by simp [hlt])
    refine .inr ⟨go, fun H' => ∃ F' M', Same F1 F' ∧ Good K cl F' H' M' ∧ dcG C γ υ τk τv (own.map (·.2)) a (xs.drop (i + 1)) ρ M' Qd, fun H' n => ⟨xs.length - (i + 1), by omega, rfl, hlt, n⟩, fun x H3 y => ?_⟩
    obtain ⟨F3, sm3, g3, r3⟩ := yl x H3 y
    refine ⟨F3, wipeD ρ (own.map (·.2)), M2, xs[i], _, noX, g3, (s.mono ((sm1.trans sm2).trans sm3)).wipe _, r3, q2, fun σ4 H4 F4 ρ4 M4 sm4 g4 s4 w4 q4 => ⟨?_, ?_⟩, wok0⟩
    · rw [w4 _ his]
      exact wipe_idem _ _ _ fun _ h => h
    · refine ⟨F4, ρ4, M4, _, noX, g4, s4, q4, fun k H5 F5 M5 sm5 g5 q5 => ?_, wok0⟩
      cases k with
      | true =>
        rw [if_pos rfl] at q5 ⊢
        refine ⟨F5, ρ4, M5, _, noX, g5, s4.mono sm5, q5, fun y2 H6 F6 d M6 sm6 g6 r6 q6 => ?_, wok0⟩
        refine ⟨F6, ρ4, M6, _, noX, g6, s4.mono (sm5.trans sm6), q6, fun y3 H7 F7 d3 M7 sm7 g7 r7 q7 => ?_, wok0⟩
        obtain ⟨k, ks, ds, e0, e1, e2, q7⟩ := q7
        obtain ⟨hF, us, h1, h2, h3⟩ := g7.cell a _ e1
        obtain ⟨z1, z2⟩ := putK_zip k y3 ks us h2
        have hl : (ks.zip us).length < sizeLine := by rw [List.length_zip, ← h2, Nat.min_self]; exact e2
        refine ⟨ks.zip us, k, key_rep (.inl r6) e0 (H := H7), h1, hl, F7, _, ((((sm2.trans sm3).trans sm4).trans sm5).trans sm6).trans sm7, g7.put (d := .dK (putKs k ks) (putVs k d3 ks ds)) e1 ⟨putVs k y3 ks us, ?_, z2, reps_putVs r7 ks h3⟩, q7⟩
        rw [upd_same, z1]
      | false =>
        rw [if_neg Bool.false_ne_true] at q5 ⊢
        exact ⟨F5, M5, ((sm2.trans sm3).trans sm4).trans sm5, g5, q5⟩
  · have e : i = xs.length := by omega
    subst e
    rw [List.drop_length] at q2
    obtain ⟨hC, ks, ds, e1, q2⟩ := q2
    obtain ⟨F3, sm3, g3, r3⟩ := g2.freeze e1
    exact .inl ⟨(wk _ F2 H2 M2 sm2 g2 hC).2 (Nat.le_refl _), p _ _ _ _ _ ((sm1.trans sm2).trans sm3) g3 r3 q2⟩
theorem d_dcG (hc : X.calm = true) (hN : X.N.Nodup) (hi : DIg cl X W tg iter ι) (ok : BlkOk X.N X.env.scope scope own)
    (hg : ∀ (s : Shared) (H : Hp) (C : Addr) (cs : List (Str × Addr)) (fp : List Addr), DG cl (X.blk s H scope (compEnvC scope cs C X.env) fp) W0 tg is γ) (ht : ∀ (s : Shared) (H : Hp) (C : Addr) (cs : List (Str × Addr)) (fp : List Addr), DTs cl (X.blk s H scope (compEnvC scope cs C X.env) fp) W0 ifs υ)
    (hk : ∀ (s : Shared) (H : Hp) (C : Addr) (cs : List (Str × Addr)) (fp : List Addr), DE cl (X.blk s H scope (compEnvC scope cs C X.env) fp) W0 kx τk)
    (he : ∀ (s : Shared) (H : Hp) (C : Addr) (cs : List (Str × Addr)) (fp : List Addr), DE cl (X.blk s H scope (compEnvC scope cs C X.env) fp) W0 vx τv) (his : ∀ i ∈ is, i ∈ own.map (·.2) := by decide) (hs : ∀ x, foldedSetIterable iter X.env x = pure x := by intro _; rfl) :
    DE cl X W (.DictComp kx vx [⟨tg, iter, ifs, 0⟩] scope pos) (dDcG ι γ υ τk τv (own.map (·.2))) :=
  ⟨pe_imp (pe_dc hc hN hi.pi ok (fun s H C cs fp => (hg s H C cs fp).pg) (fun s H C cs fp => (ht s H C cs fp).pts) (fun s H C cs fp => (hk s H C cs fp).pe) (fun s H C cs fp => (he s H C cs fp).pe) hs) fun σ H Q ⟨F, ρ, M, Qd, Xd, g, s, q, p, w⟩ => dcG_lift his g s q p w⟩
theorem di_enumG {a : Expr} {τa : DTE} {elts : List Expr} {kk : Nat} {tpos p : Pos} (hg : Gl X "enumerate") (hm : X.mg "enumerate" = none) (ha : DE cl X W a τa) (hs : starEach [a] X.env = [(false, eval a X.env)] := by rfl) :
    DIg cl X W (.Tuple elts kk tpos) (.Call (.Name "enumerate" p) [a] [] pos) (iEnG τa) :=
  ⟨pi_imp (pi_enumT hg hm (da_cons (W := W) (cl := cl) ha da_nil hs).pa hs) fun σ H R ⟨F, ρ, M, Rd, Xd, g, s, q, p, w⟩ =>
    ⟨F, ρ, M, fun ds M1 => ∃ d xs, ds = [d] ∧ enD (vw M1 d) = some xs ∧ Rd (fun M => enD (vw M d) = some xs) (xs.zipIdx.map fun p => D.tup [.int (p.2 : Nat), p.1]) M1, Xd, g, s, (by
      unfold iEnG at q
      unfold dCons dNil
      have same : (fun d M1 => ∃ xs, enD (vw M1 d) = some xs ∧ Rd (fun M => enD (vw M d) = some xs) (xs.zipIdx.map fun p => D.tup [.int (p.2 : Nat), p.1]) M1) = (fun d0 M1 => ∃ d xs, [d0] = [d] ∧ enD (vw M1 d) = some xs ∧ Rd (fun M => enD (vw M d) = some xs) (xs.zipIdx.map fun p => D.tup [.int (p.2 : Nat), p.1]) M1) := by
        funext d M1
        simp
      rw [same] at q
      exact q), fun vs H' F' ds M' sm g' r ⟨d, xs, e1, e2, q'⟩ => (by
      subst e1
      obtain ⟨v, ws, rfl, r1, r2⟩ := r.inv
      obtain rfl := r2.inv0
      have item : ∀ (us : List V) (i : Nat) (F2 H2 : Hp) (M2 : Mem), Reps X.K cl F2 us xs → Good X.K cl F2 H2 M2 → ∀ d0, (xs.zipIdx.map fun p => D.tup [.int (p.2 : Nat), p.1])[i]? = some d0 →
          ∃ v0, us[i]? = some v0 ∧ ∀ (T : Addr) (x0 : V) (H3 : Hp), H2 T = none → H3 = upd H2 T (.tup [.int (i : Nat), x0]) → x0 = v0 → ∃ F3, Same F2 F3 ∧ Good X.K cl F3 H3 M2 ∧ Rep X.K cl F3 (.ref T) d0 := fun us i F2 H2 M2 hu g2 d0 hd => by
        rw [List.getElem?_map, List.getElem?_zipIdx] at hd
        cases e3 : xs[i]? with
        | none => rw [e3] at hd; cases hd
        | some d1 =>
          rw [e3] at hd
          cases hd
          obtain ⟨v0, h3, h4⟩ := hu.get e3
          refine ⟨v0, h3, fun T x0 H3 hT eH ex => ?_⟩
          subst eH ex
          have sm3 : Same F2 (upd F2 T (.tup [.int (i : Nat), x0])) := same_new (g2.freshF hT)
          refine ⟨_, sm3, g2.new hT, .tup (SqT1.of upd_same) (.cons ?_ (.one (h4.mono sm3)))⟩
          simpa using Rep.int (i : Int)
      cases d with
      | ref b =>
        obtain rfl := r1.toRef
        obtain ⟨_, us, h1, h2⟩ := cellL g' (.inr e2)
        refine .inl ⟨b, us, rfl, SqL.of h1, p _ _ F' _ _ M' sm g' (fun i F2 H2 M2 sm2 g2 hC => ?_) q'⟩
        obtain ⟨_, us, h1, h2⟩ := cellL g2 (.inr hC)
        refine ⟨fun d0 hd => ?_, fun hl => ⟨us, SqL.of h1, by rw [h2.length]; simpa using hl⟩⟩
        obtain ⟨v0, h3, h4⟩ := item us i F2 H2 M2 h2 g2 d0 hd
        refine ⟨⟨us, v0, SqL.of h1, h3⟩, fun x H3 ⟨T, x0, ex, hT, eH, hy⟩ => ?_⟩
        subst ex
        have h5 := hy us (SqL.of h1)
        rw [h3] at h5
        exact h4 T x0 H3 hT eH (Option.some.inj h5).symm
      | lst ys =>
        have ey : ys = xs := by simpa using e2
        subst ey
        obtain ⟨a, us, rfl, h1, h2⟩ := r1.toLst
        refine .inl ⟨a, us, rfl, same_l g'.sub h1, p _ _ F' _ _ M' sm g' (fun i F2 H2 M2 sm2 g2 _ => ⟨fun d0 hd => ?_, fun hl => ⟨us, same_l (sm2.trans g2.sub) h1, by rw [h2.length]; simpa using hl⟩⟩) q'⟩
        obtain ⟨v0, h3, h4⟩ := item us i F2 H2 M2 (h2.mono sm2) g2 d0 hd
        refine ⟨⟨us, v0, same_l (sm2.trans g2.sub) h1, h3⟩, fun x H3 ⟨T, x0, ex, hT, eH, hy⟩ => ?_⟩
        subst ex
        have h5 := hy us (same_l (sm2.trans g2.sub) h1)
        rw [h3] at h5
        exact h4 T x0 H3 hT eH (Option.some.inj h5).symm
      | tup ys =>
        have ey : ys = xs := by simpa using e2
        subst ey
        obtain ⟨a, us, rfl, h1, h2⟩ := r1.toTup
        refine .inr ⟨a, us, rfl, same_t g'.sub h1, p _ _ F' _ _ M' sm g' (fun i F2 H2 M2 sm2 g2 _ => ⟨fun d0 hd => ?_, fun hl => ⟨us, same_t (sm2.trans g2.sub) h1, by rw [h2.length]; simpa using hl⟩⟩) q'⟩
        obtain ⟨v0, h3, h4⟩ := item us i F2 H2 M2 (h2.mono sm2) g2 d0 hd
        refine ⟨⟨us, v0, same_t (sm2.trans g2.sub) h1, h3⟩, fun x H3 ⟨T, x0, ex, hT, eH, hy⟩ => ?_⟩
        subst ex
        have h5 := hy us (same_t (sm2.trans g2.sub) h1)
        rw [h3] at h5
        exact h4 T x0 H3 hT eH (Option.some.inj h5).symm
      | _ => cases e2), w⟩⟩
end
/-! ### walking them: an invariant over what is done -/
theorem forG_run {C : Mem → Prop} {γ : DTG} {t : DTS} {E : DEnds} (xs : List D) (P : List D → DL.Env → Mem → Prop)
    (step : ∀ (done : List D) (x : D) (rest : List D) (ρ : DL.Env) (M : Mem) (Nx : DL.Env → Mem → Prop), xs = done ++ x :: rest → P done ρ M → (∀ ρ' M', P (done ++ [x]) ρ' M' → Nx ρ' M') → C M ∧ γ x ρ M (fun ρ2 M2 => t { E with nx := Nx, ct := Nx, bk := E.nx } ρ2 M2) E.ex)
    (fin : ∀ ρ M, P xs ρ M → C M ∧ E.nx ρ M) {ρ : DL.Env} {M : Mem} (h0 : P [] ρ M) : forG C γ t xs E ρ M := by
  have go : ∀ (rest done : List D) (ρ : DL.Env) (M : Mem), xs = done ++ rest → P done ρ M → forG C γ t rest E ρ M := by
    intro rest
    induction rest with
    | nil => intro done ρ M e p; rw [List.append_nil] at e; subst e; exact fin ρ M p
    | cons x rest ih => intro done ρ M e p; exact step done x rest ρ M _ e p fun ρ' M' p' => ih (done ++ [x]) ρ' M' (by rw [e, List.append_assoc]; rfl) p'
  exact go xs [] ρ M rfl h0
theorem lcG_run {C : Mem → Prop} {γ : DTG} {υ : DTT} {τ : DTE} {vs : List Nat} {a : Addr} {R : Mem → Prop} {ρ : DL.Env} (xs : List D) (P : List D → List D → Mem → Prop)
    (step : ∀ (done : List D) (x : D) (rest acc : List D) (M : Mem) (Nx : Mem → Prop), xs = done ++ x :: rest → M a = some (.lst acc) → P done acc M → (∀ acc' M', M' a = some (.lst acc') → P (done ++ [x]) acc' M' → Nx M') →
      C M ∧ γ x (wipeD ρ vs) M (fun ρ2 M2 => υ ρ2 M2 (fun b M3 => if b = true then τ ρ2 M3 (fun d M4 => ∃ acc, M4 a = some (.lst acc) ∧ acc.length < sizeLine ∧ Nx (updM M4 a (.lst (acc ++ [d])))) noX else Nx M3) noX) noX)
    (fin : ∀ acc M, M a = some (.lst acc) → P xs acc M → C M ∧ R M) {M : Mem} (h0 : P [] [] (updM M a (.lst []))) : lcG C γ υ τ vs a xs ρ (updM M a (.lst [])) R := by
  have go : ∀ (rest done acc : List D) (M : Mem), xs = done ++ rest → M a = some (.lst acc) → P done acc M → lcG C γ υ τ vs a rest ρ M R := by
    intro rest
    induction rest with
    | nil => intro done acc M e ha p; rw [List.append_nil] at e; subst e; exact fin acc M ha p
    | cons x rest ih => intro done acc M e ha p; exact step done x rest acc M _ e ha p fun acc' M' ha' p' => ih (done ++ [x]) acc' M' (by rw [e, List.append_assoc]; rfl) ha' p'
  exact go xs [] [] _ rfl updM_same h0
end DL

set_option Elab.async false
set_option linter.all false
set_option maxRecDepth 100000
set_option maxHeartbeats 4000000
namespace DL
open PySem L2
open PyProof.Rows (Compare_chain isTrue_chain chain_link chain_last test_link test_last ite_tt ite_ff)

/-! ### isinstance(e, ValueError), e the caught exception -/
section
variable {cl : ClW} {X : Cx} {a : Addr} {oe : Obj} {cls : Value} {d : Option Addr} {pn : List (Addr × Obj)} {x : D}
def rIsxT (K : PySem.W.Frag) (C a dd : Addr) : List V → Hp → VK → Prop := fun xs H Q => ∃ (n : String) (b : Bool) (fs : List (Str × V)), xs = [.ref a, .ty n] ∧ H dd = some (.xd fs) ∧ PySem.W.kitOne K (.ref C) (.type n) = some b ∧ Q (.bl b) H
theorem call_isxT {C dd : Addr} (c : ExcC X.K C) (hz : Zc (.ref C) (some dd) oe) (hf : ∃ vs, oe.data = .fields vs) : CallR (X.suite a ((a, oe) :: pn)) (.builtin "isinstance") (rIsxT X.K C a dd) := by
  intro pins s σ H xs us Q I r ⟨n, b, fs, e1, e2, e3, q⟩
  subst e1
  obtain ⟨u1, u2, rfl, r1, r2⟩ := vals2 r
  obtain rfl : u1 = Value.ref a := r1
  obtain rfl : u2 = Value.type n := r2
  obtain ⟨ha, _⟩ := I.pin (a, oe) (List.mem_append_left _ List.mem_cons_self)
  obtain ⟨vs, hd⟩ := hf
  have hx : ObjOk X.prog X.w H s.heap dd (.xd fs) := I.hok dd _ e2
  obtain ⟨mA, hns, hr⟩ := hx
  obtain ⟨od, ho, hl⟩ := lookIn_ns hns
  have J : PySem.W.InstAt s.heap a oe C (some od) := ⟨ha, hz.1, by unfold PySem.W.notCls; rw [hd] <;> rfl, by rw [hz.2]; exact ho⟩
  exact PySem.W.kia_one (kitx_exc c) I.kIn J e3 (fun z => nomatch z) fun tk => ⟨.bl b, H, I.kept (t' := tk) fun _ _ z => z, rfl, q⟩
def UtOk (K : PySem.W.Frag) (cl : Nat → Addr) (ut : List (Nat × String)) : Prop := ∀ p ∈ ut, ExcC K (cl p.1) ∧ PySem.W.kitOne K (.ref (cl p.1)) (.type p.2) = some true
def utB (K : PySem.W.Frag) (cl : Nat → Addr) (ut : List (Nat × String)) : Bool := ut.all fun p => excCB K (cl p.1) && (PySem.W.kitOne K (.ref (cl p.1)) (.type p.2) == some true)
theorem utB_ok {K : PySem.W.Frag} {cl : Nat → Addr} {ut : List (Nat × String)} (h : utB K cl ut = true) : UtOk K cl ut := fun p hp => by
  obtain ⟨h1, h2⟩ := and2 (List.all_eq_true.mp h _ hp)
  exact ⟨excCB_ok h1, beq_iff_eq.mp h2⟩
def isxTG (ut : List (Nat × String)) (a dd : Addr) (c : Nat) : List D → Option D
  | [.exc a' dd' c' _ _, .ty n] => if a' = a ∧ dd' = dd ∧ c' = c ∧ (c, n) ∈ ut then some (.bl true) else none
  | _ => none
theorem Vw.ty {K : PySem.W.Frag} {F H : Hp} {v : V} {n : String} (h : Vw K cl F H v (.ty n)) : v = .ty n := by
  rcases h with h | ⟨_, _, h⟩
  · exact h.toTy
  · exact h.elim
theorem lc_isxT {ut : List (Nat × String)} (ok : UtOk X.K cl ut) {dd : Addr} {c : Nat} : LCall X.K cl (rIsxT X.K (cl c) a dd) (isxTG ut a dd c) := by
  intro F H M xs ds z Q Qd g r h p q
  generalize e : ds.map (vw M) = es at h
  unfold isxTG at h
  split at h
  · rename_i a' dd' c' ns ds' n
    split at h
    · rename_i hh
      obtain ⟨rfl, rfl, rfl, hm⟩ := hh
      obtain ⟨v, u, h1, hv, hw⟩ := reps2 g r e
      cases h
      have hu := hw.ty
      subst hu
      rcases hv with hv | ⟨_, _, hv⟩
      · cases hv with
        | exc k1 k2 k3 => exact ⟨_, true, _, h1, g.sub _ _ k1, (ok _ hm).2, p.val g (.bl true) q⟩
      · exact hv.elim
    · cases h
  · cases h
/-- isinstance(e, T), T a built-in class, x the caught exception -/
def isxT' (ut : List (Nat × String)) : D → List D → Option D
  | .exc a dd c _ _, ds => if c ∈ ut.map (·.1) then isxTG ut a dd c ds else none
  | _, _ => none
theorem d_isxT {ut : List (Nat × String)} {e : Expr} {es : List Expr} {α : DTA} {p pos : Pos} (ok : UtOk X.K cl ut) (hx : XOk cl x a cls d) (hz : Zc cls d oe) (hf : ∃ vs, oe.data = .fields vs) (hg : Gl (X.suite a ((a, oe) :: pn)) "isinstance") (hm : X.mg "isinstance" = none)
    (ha : DA cl (X.suite a ((a, oe) :: pn)) W0 (e :: es) α) (hs : starEach (e :: es) X.env = (false, eval e X.env) :: starEach es X.env := by rfl) (hpl : (backTo pos (starEach es X.env)).any (·.1) = false := by rfl) :
    DE cl (X.suite a ((a, oe) :: pn)) W0 (.Call (.Name "isinstance" p) (e :: es) [] pos) (dCB (isxT' ut x) α) := by
  have hr : ∃ r, CallR (X.suite a ((a, oe) :: pn)) (.builtin "isinstance") r ∧ LCall X.K cl r (isxT' ut x) := by
    obtain ⟨dd, c, ns, ds, rfl, rfl, rfl⟩ := hx
    by_cases hc : c ∈ ut.map (·.1)
    · have e : isxT' ut (.exc a dd c ns ds) = isxTG ut a dd c := by funext l; simp only [isxT', if_pos hc]
      rw [e]
      obtain ⟨q, hq, rfl⟩ := List.mem_map.mp hc
      exact ⟨_, call_isxT (ok q hq).1 hz hf, lc_isxT ok⟩
    · have e : isxT' ut (.exc a dd c ns ds) = fun _ => none := by funext l; simp only [isxT', if_neg hc]
      rw [e]
      exact ⟨fun _ _ _ => False, call_none, fun _ _ _ _ _ _ _ _ _ _ h => by cases h⟩
  obtain ⟨r, h1, h2⟩ := hr
  exact d_callB (X := X.suite a ((a, oe) :: pn)) h1 h2 hg hm (by decide +kernel) ha (by decide) (by decide) hs hpl
theorem isxT_at {M : Mem} {ut : List (Nat × String)} {a dd : Addr} {c : Nat} {n : String} {ns : List Str} {ds : List D} (h : (c, n) ∈ ut) :
    isxT' ut (.exc a dd c ns ds) (List.map (vw M) [.exc a dd c ns ds, .ty n]) = some (.bl true) := by
  have h2 : c ∈ ut.map (·.1) := List.mem_map.mpr ⟨_, h, rfl⟩
  have e : List.map (vw M) [.exc a dd c ns ds, .ty n] = [.exc a dd c ns ds, .ty n] := rfl
  rw [e]
  simp only [isxT', if_pos h2]
  unfold isxTG
  exact if_pos ⟨rfl, rfl, rfl, h⟩
end

/-! ### a list times a number -/
section
variable {cl : ClW} {X : Cx} {W : WX} {pos : Pos} {a b : Expr} {τa τb : DTE}
theorem Reps.rep {K : PySem.W.Frag} {F : Hp} {vs : List V} {ds : List D} (h : Reps K cl F vs ds) : ∀ n : Nat, Reps K cl F (List.replicate n vs).flatten (List.replicate n ds).flatten
  | 0 => .nil
  | n + 1 => by
    rw [List.replicate_succ, List.replicate_succ, List.flatten_cons, List.flatten_cons]
    exact h.append (Reps.rep h n)
theorem Good.drop {K : PySem.W.Frag} {F H : Hp} {M : Mem} (g : Good K cl F H M) (p : Addr) : Good K cl F H (delM M p) := ⟨g.sub, fun a d e => by
  by_cases h : a = p
  · subst h; rw [delM_same] at e; cases e
  · rw [delM_ne h] at e; exact g.cell a d e, g.tab, g.noT⟩
/-- l * k, l a list that may change; it stays -/
def bRep : DB2 := fun d e _ M Q _ => ∃ p xs k, d = .ref p ∧ M p = some (.lst xs) ∧ e = .int k ∧ -(2 ^ 63) ≤ k ∧ k < 2 ^ 63 ∧ xs.length * k.toNat ≤ sizeLine ∧ Q (.lst (List.replicate k.toNat xs).flatten) M
/-- [..] * k: the list written is forgotten -/
def bRepD : DB2 := fun d e _ M Q _ => ∃ p xs k, d = .ref p ∧ M p = some (.lst xs) ∧ e = .int k ∧ -(2 ^ 63) ≤ k ∧ k < 2 ^ 63 ∧ xs.length * k.toNat ≤ sizeLine ∧ Q (.lst (List.replicate k.toNat xs).flatten) (delM M p)
theorem bin_rep : BinG cl X W (binaryOp .Mult) bRep := by
  intro pins s σ H F ρ M v u x y d e Q Qd Xd I rx ry g sl r1 r2 h p w
  obtain ⟨b, xs, k, rfl, hM, rfl, k1, k2, hl, q⟩ := h
  obtain rfl := r1.toRef
  obtain rfl := r2.toInt
  obtain ⟨hF, vs, h1, h2⟩ := g.cell b _ hM
  exact op_rep pins s σ H _ _ v u Q I rx ry ⟨b, k, vs, rfl, rfl, h1, k1, k2, by rw [h2.length]; exact hl, fun c hc => p.newL g (h2.rep _) q hc⟩
theorem bin_repD : BinG cl X W (binaryOp .Mult) bRepD := by
  intro pins s σ H F ρ M v u x y d e Q Qd Xd I rx ry g sl r1 r2 h p w
  obtain ⟨b, xs, k, rfl, hM, rfl, k1, k2, hl, q⟩ := h
  obtain rfl := r1.toRef
  obtain rfl := r2.toInt
  obtain ⟨hF, vs, h1, h2⟩ := g.cell b _ hM
  exact op_rep pins s σ H _ _ v u Q I rx ry ⟨b, k, vs, rfl, rfl, h1, k1, k2, by rw [h2.length]; exact hl, fun c hc => p.newL (g.drop b) (h2.rep _) q hc⟩
end

/-! ### a chain of three comparisons -/
section
variable {X : Cx} {a b c d : Expr} {ta tb tc td : TE} {pos : Pos}
def tChain3 (r r' r'' : R2) (ta tb tc td : TE) : TE := fun σ H Q => ta σ H fun x H1 => tb σ H1 fun y H2 => r x y H2 fun z H3 => ∃ k, z = .bl k ∧
  (if k = true then tc σ H3 fun w' H4 => r' y w' H4 fun z H5 => ∃ k, z = .bl k ∧ (if k = true then td σ H5 fun u' H6 => r'' w' u' H6 Q else Q (.bl false) H5) else Q (.bl false) H3)
theorem pe_chain3 {op op' op'' : CmpOp} {r r' r'' : R2} (ho : OpR X (compareOp op) r) (ho' : OpR X (compareOp op') r') (ho'' : OpR X (compareOp op'') r'') (ha : PE X a ta) (hb : PE X b tb) (hc : PE X c tc) (hd : PE X d td)
    (hm : lastMarks [op, op', op''] [b, c, d] = false := by with_unfolding_all rfl) : PE X (.Compare a [op, op', op''] [b, c, d] pos) (tChain3 r r' r'' ta tb tc td) := by
  refine ⟨fun pins s σ H Q I h => ?_⟩
  refine Compare_chain (thn (ha.run pins s σ H _ I h) fun v s1 ⟨x, H1, I1, r1, q1⟩ => chain_link (thn (hb.run pins s1 σ H1 _ I1 q1) fun u s2 ⟨y, H2, I2, r2, q2⟩ =>
    thn (ho pins s2 σ H2 x y v u _ I2 r1 r2 q2) fun d s3 ⟨z, H3, I3, r3, k, e, q3⟩ => ?_)) hm
  subst e
  cases r3
  refine wpAny_truthy_bool ?_
  cases k with
  | false => exact ite_ff ⟨.bl false, H3, I3, rfl, q3⟩
  | true =>
    refine ite_tt (chain_link (thn (hc.run pins s3 σ H3 _ I3 q3) fun w' s4 ⟨z', H4, I4, r4, q4⟩ => thn (ho' pins s4 σ H4 y z' u w' _ I4 r2 r4 q4) fun d' s5 ⟨z2, H5, I5, r5, k2, e2, q5⟩ => ?_))
    subst e2
    cases r5
    refine wpAny_truthy_bool ?_
    cases k2 with
    | false => exact ite_ff ⟨.bl false, H5, I5, rfl, q5⟩
    | true => exact ite_tt (chain_last (thn (hd.run pins s5 σ H5 _ I5 q5) fun u' s6 ⟨z3, H6, I6, r6, q6⟩ => ho'' pins s6 σ H6 z' z3 w' u' Q I6 r4 r6 q6))
theorem pt_chain3 {op op' op'' : CmpOp} {r r' r'' : R2} (ho : OpR X (compareOp op) r) (ho' : OpR X (compareOp op') r') (ho'' : OpR X (compareOp op'') r'') (ha : PE X a ta) (hb : PE X b tb) (hc : PE X c tc) (hd : PE X d td)
    (hm : lastMarks [op, op', op''] [b, c, d] = false := by with_unfolding_all rfl) : PT X (.Compare a [op, op', op''] [b, c, d] pos) (tTest (tChain3 r r' r'' ta tb tc td)) := by
  refine ⟨fun pins s σ H Q I h => ?_⟩
  refine isTrue_chain (thn (ha.run pins s σ H _ I h) fun v s1 ⟨x, H1, I1, r1, q1⟩ => test_link (thn (hb.run pins s1 σ H1 _ I1 q1) fun u s2 ⟨y, H2, I2, r2, q2⟩ =>
    thn (ho pins s2 σ H2 x y v u _ I2 r1 r2 q2) fun d s3 ⟨z, H3, I3, r3, k, e, q3⟩ => ?_)) hm
  subst e
  cases r3
  refine wpAny_truthy_bool ?_
  cases k with
  | false =>
    obtain ⟨k', e', q'⟩ := q3
    cases e'
    exact ite_ff ⟨H3, I3, q'⟩
  | true =>
    refine ite_tt (test_link (thn (hc.run pins s3 σ H3 _ I3 q3) fun w' s4 ⟨z', H4, I4, r4, q4⟩ => thn (ho' pins s4 σ H4 y z' u w' _ I4 r2 r4 q4) fun d' s5 ⟨z2, H5, I5, r5, k2, e2, q5⟩ => ?_))
    subst e2
    cases r5
    refine wpAny_truthy_bool ?_
    cases k2 with
    | false =>
      obtain ⟨k', e', q'⟩ := q5
      cases e'
      exact ite_ff ⟨H5, I5, q'⟩
    | true =>
      refine ite_tt (test_last (thn (hd.run pins s5 σ H5 _ I5 q5) fun u' s6 ⟨z3, H6, I6, r6, q6⟩ => thn (ho'' pins s6 σ H6 z' z3 w' u' _ I6 r4 r6 q6) fun d'' s7 ⟨z4, H7, I7, r7, k3, e3, q7⟩ => ?_))
      subst e3
      cases r7
      exact wpAny_truthy_bool ⟨H7, I7, q7⟩
end
section
variable {cl : ClW} {X : Cx} {W : WX} {a b c d : Expr} {τa τb τc τd : DTE} {pos : Pos}
@[simp] def dChain3 (f f' f'' : D → D → Option D) (τa τb τc τd : DTE) : DTE := fun ρ M Q X => τa ρ M (fun d M1 => τb ρ M1 (fun e M2 => ∃ k, f (vw M2 d) (vw M2 e) = some (.bl k) ∧
  if k = true then τc ρ M2 (fun h M3 => ∃ k, f' (vw M3 e) (vw M3 h) = some (.bl k) ∧ if k = true then τd ρ M3 (fun j M4 => ∃ z, f'' (vw M4 h) (vw M4 j) = some z ∧ Q z M4) X else Q (.bl false) M3) X else Q (.bl false) M2) X) X
theorem chain3_low {K : PySem.W.Frag} {r r' r'' : R2} {f f' f'' : D → D → Option D} (hf : LOp K cl r f) (hf' : LOp K cl r' f') (hf'' : LOp K cl r'' f'') {σ : St} {H : Hp} {Q : VK} {F : Hp} {ρ : DL.Env} {M : Mem} {Qd : DV} {Xd : DX} (g : Good K cl F H M) (s : Slots K cl F σ ρ)
    (t : dChain3 f f' f'' τa τb τc τd ρ M Qd Xd) (p : Post K cl F Q Qd) (w : WOk K cl W F Xd) : tChain3 r r' r'' (lowE K cl W τa) (lowE K cl W τb) (lowE K cl W τc) (lowE K cl W τd) σ H Q := by
  refine ⟨F, ρ, M, _, Xd, g, s, t, fun v H' F' d M' sm g' r1 q => ⟨F', ρ, M', _, Xd, g', s.mono sm, q, fun u H2 F2 e M2 sm2 g2 r2 q2 => ?_, w.mono sm⟩, w⟩
  obtain ⟨k, e1, e2⟩ := q2
  refine hf F2 H2 M2 v u _ _ (.bl k) _ (fun z M3 => z = .bl k ∧ M3 = M2) g2 (vw_ok g2 (r1.mono sm2)) (vw_ok g2 r2) e1 ?_ ⟨rfl, rfl⟩
  intro z H3 F3 dz M3 sm3 g3 r3 ⟨h3, h4⟩
  subst h3 h4
  refine ⟨k, r3.toBl, ?_⟩
  cases k with
  | false =>
    rw [if_neg Bool.false_ne_true] at e2 ⊢
    exact p _ _ _ _ _ ((sm.trans sm2).trans sm3) g3 (.bl false) e2
  | true =>
    rw [if_pos rfl] at e2 ⊢
    refine ⟨F3, ρ, M3, _, Xd, g3, s.mono ((sm.trans sm2).trans sm3), e2, fun y H4 F4 h M4 sm4 g4 r4 ⟨k, h5, h6⟩ => ?_, w.mono ((sm.trans sm2).trans sm3)⟩
    refine hf' F4 H4 M4 u y _ _ (.bl k) _ (fun z M5 => z = .bl k ∧ M5 = M4) g4 (vw_ok g4 (r2.mono (sm3.trans sm4))) (vw_ok g4 r4) h5 ?_ ⟨rfl, rfl⟩
    intro z H5 F5 dz M5 sm5 g5 r5 ⟨h7, h8⟩
    subst h7 h8
    refine ⟨k, r5.toBl, ?_⟩
    have sm15 := (((sm.trans sm2).trans sm3).trans sm4).trans sm5
    cases k with
    | false =>
      rw [if_neg Bool.false_ne_true] at h6 ⊢
      exact p _ _ _ _ _ sm15 g5 (.bl false) h6
    | true =>
      rw [if_pos rfl] at h6 ⊢
      refine ⟨F5, ρ, M5, _, Xd, g5, s.mono sm15, h6, fun y2 H6 F6 j M6 sm6 g6 r6 ⟨z6, h7, h8⟩ => ?_, w.mono sm15⟩
      exact hf'' F6 H6 M6 y y2 _ _ z6 _ _ g6 (vw_ok g6 (r4.mono (sm5.trans sm6))) (vw_ok g6 r6) h7 (p.mono (sm15.trans sm6)) h8
theorem d_chain3 {op op' op'' : CmpOp} {r r' r'' : R2} {f f' f'' : D → D → Option D} (ho : OpR X (compareOp op) r) (ho' : OpR X (compareOp op') r') (ho'' : OpR X (compareOp op'') r'') (hf : LOp X.K cl r f) (hf' : LOp X.K cl r' f') (hf'' : LOp X.K cl r'' f'') (ha : DE cl X W a τa) (hb : DE cl X W b τb) (hc : DE cl X W c τc) (hd : DE cl X W d τd)
    (hm : lastMarks [op, op', op''] [b, c, d] = false := by with_unfolding_all rfl) : DE cl X W (.Compare a [op, op', op''] [b, c, d] pos) (dChain3 f f' f'' τa τb τc τd) :=
  ⟨pe_imp (pe_chain3 ho ho' ho'' ha.pe hb.pe hc.pe hd.pe hm) fun σ H Q ⟨F, ρ, M, Qd, Xd, g, s, t, p, w⟩ => chain3_low hf hf' hf'' g s t p w⟩
theorem d_tchain3 {op op' op'' : CmpOp} {r r' r'' : R2} {f f' f'' : D → D → Option D} (ho : OpR X (compareOp op) r) (ho' : OpR X (compareOp op') r') (ho'' : OpR X (compareOp op'') r'') (hf : LOp X.K cl r f) (hf' : LOp X.K cl r' f') (hf'' : LOp X.K cl r'' f'') (ha : DE cl X W a τa) (hb : DE cl X W b τb) (hc : DE cl X W c τc) (hd : DE cl X W d τd)
    (hm : lastMarks [op, op', op''] [b, c, d] = false := by with_unfolding_all rfl) : DT cl X W (.Compare a [op, op', op''] [b, c, d] pos) (dTest (dChain3 f f' f'' τa τb τc τd)) :=
  ⟨pt_imp (pt_chain3 ho ho' ho'' ha.pe hb.pe hc.pe hd.pe hm) fun σ H Q ⟨F, ρ, M, Qd, Xd, g, s, t, p, w⟩ => chain3_low hf hf' hf'' g s t (PostT.test p) w⟩
end
end DL

set_option Elab.async false
set_option linter.all false
set_option maxRecDepth 100000
set_option maxHeartbeats 4000000
namespace DL
open PySem L2
open PySem.SeqAt
/-! ### == of any plain data, dicts among them -/
section
open AutoSeq1 (wpAny_loadPart')
variable {prog : Program} {w : World}
/-- the answers of pairs -/
inductive EqL (prog : Program) (w : World) (A : Around) (s : Shared) : List (Value × Value) → List Bool → Prop
  | nil : EqL prog w A s [] []
  | cons {p : Value × Value} {b : Bool} {ps : List (Value × Value)} {bs : List Bool} : EqP prog w A s p.1 p.2 b → EqL prog w A s ps bs → EqL prog w A s (p :: ps) (b :: bs)
/-- tuples, pair by pair -/
theorem tup_eq_pairs (l b : Addr) (us vs : Array Value) (n m : Nat) (dd de : Option Addr) (sl sm : Array (Option Value)) (bs : List Bool) :
    MeetsIn prog w (Builtin.«tuple.__eq__» ⟨[.ref l, .ref b], []⟩)
      (fun A R s => s.heap.get? l = some { cls := .type "tuple", dict := dd, data := .seq us n, slots := sl } ∧ s.heap.get? b = some { cls := .type "tuple", dict := de, data := .seq vs m, slots := sm } ∧
        EqL prog w A.in1 s (us.toList.zip vs.toList) bs ∧ R (.ok (.ret (.bool (bs.all id && us.size == vs.size)))) s) :=
  .of_wp fun A R s0 h => by
    obtain ⟨h0, g0, d0, t0, o0⟩ := s0
    obtain ⟨hl, hb, he, hR⟩ := h
    have sub := AutoSeq1.sub_tuple_tuple
    wp_walk using wpAny_loadPart' hl, wpAny_loadPart' hb, wpAny_forIn_list _ (fun rest st s1 => st.1 = none ∧ s1 = ⟨h0, g0, d0, t0, o0⟩ ∧ ∃ cs, EqL prog w A.in1 ⟨h0, g0, d0, t0, o0⟩ rest cs ∧ R (.ok (.ret (.bool (cs.all id && us.size == vs.size)))) ⟨h0, g0, d0, t0, o0⟩) _
    case turn =>
      rintro ⟨y, x⟩ rest st s1 ⟨e1, rfl, cs, ep, er⟩
      cases ep with
      | @cons _ c _ cs hp ep =>
        rw [List.all_cons] at er
        refine wpAny_bind (hp _ _ ?_)
        cases c with
        | true => wp_walk; exact ⟨rfl, rfl, cs, ep, by simpa using er⟩
        | false => wp_walk; exact ⟨_, rfl, by simpa using er⟩
    case fin =>
      rintro ⟨x1, x2⟩ s1 ⟨e1, rfl, cs, ep, er⟩
      simp only at e1
      subst e1
      cases ep
      wp_walk
      exact ⟨_, rfl, by simpa [Builtin.Tuple.tupleCompareSizes] using er⟩
    case h => exact ⟨rfl, rfl, bs, he, hR⟩
/-- richCompare tells b -/
def RcP (prog : Program) (w : World) (A : Around) (s : Shared) (v u : Value) (k : Bool) : Prop := ∀ (E Q : Value → Shared → Prop), Q (.bool k) s → wpAny (model prog w) A (richCompare .Eq v u) Q E s
theorem RcP.of {A : Around} {s : Shared} {v u : Value} {k : Bool} (h : RcAt A s v u k) : RcP prog w A s v u k := fun E Q q => h prog w E Q q
theorem rcp_tups {A : Around} {s : Shared} {l b : Addr} {us vs : Array Value} (bs : List Bool) (hl : s.heap.IsTuple l us) (hb : s.heap.IsTuple b vs) (hu : A.units < cLine)
    (he : EqL prog w A.in1 s (us.toList.zip vs.toList) bs) : RcP prog w A s (.ref l) (.ref b) (bs.all id && us.size == vs.size) := fun E Q q => by
  obtain ⟨⟨c1, d1, x1, s1⟩, ho, hc, n, hd⟩ := id hl
  obtain ⟨⟨c2, d2, x2, s2⟩, ho2, hc2, n2, hd2⟩ := id hb
  simp only at hc hd hc2 hd2
  subst hc hd hc2 hd2
  exact wpAny_richCompare_same_room (op := .Eq) ⟨_, ho, rfl⟩ ⟨_, ho2, rfl⟩ PySem.F.slot_tuple_eq (call_meetsIn PySem.F.slot_tuple_eq ⟨_, ho, rfl⟩ PySem.F.entry_tuple_eq (PySem.F.args_tuple_eq_2 _ _) (tup_eq_pairs l b us vs n n2 d1 d2 s1 s2 bs)
    ⟨ho, ho2, he, show Value.bool _ ≠ Value.notImplemented ∧ Q (.bool _) s from ⟨(fun z => nomatch z), q⟩⟩) hu
/-- a dict beside what is none -/
theorem dict_no {A : Around} {s : Shared} {K : Type} [DecidableEq K] {knd : KeyKind prog w K} {a : Addr} {ka : List (K × Value)} {v : Value} {T : String} {E Q : Value → Shared → Prop} (da : s.heap.DictOf knd a ka) (hv : s.TypeIs v T) (hs : isSubtype (.type T) (.type "dict") = pure false) (q : Q .notImplemented s) :
    wpAny (model prog w) A (call (.builtin "dict.__eq__") [.ref a, v]) Q E s := by
  refine wpAny_call_entry PySem.F.slot_dict_eq da.typeIs PySem.F.entry_dict_eq ?_ (PySem.F.args_dict_eq_2 _ _)
  show wpAny _ _ (Builtin.Dict.dictSlotArgs "__eq__" ⟨[.ref a, v], []⟩ >>= _) _ _ s
  unfold Builtin.Dict.dictSlotArgs
  refine wpAny_bind (wpAny_bind (wpAny_notOrdered_dict da.typeIs ?_))
  refine wpAny_pure (wpAny_bind (wpAny_isInstance (T := T) hv hs ?_))
  simp only [Bool.not_false, if_true]
  exact wpAny_bind (wpAny_rule (wpAny_pure ⟨_, rfl, q⟩))
theorem int_no_dict (i : Int) (u : Tok) (l : Addr) (es : Array DictEntry) (ep : Nat) (dd : Option Addr) (sl : Array (Option Value)) :
    Meets (Builtin.«int.__eq__» ⟨[.int i u, .ref l], []⟩) (fun _ R s => s.heap.get? l = some { cls := .type "dict", dict := dd, data := .dict es ep, slots := sl } ∧ R (.ok (.ret .notImplemented)) s) :=
  .of_wp fun prog w A R s q => by obtain ⟨h0, g0, d0, t0, o0⟩ := s; obtain ⟨hl, q⟩ := q; wp_walk using wpAny_loadPart' hl, wpAny_load hl; exact ⟨_, rfl, q⟩
theorem bool_no_dict (i : Bool) (l : Addr) (es : Array DictEntry) (ep : Nat) (dd : Option Addr) (sl : Array (Option Value)) :
    Meets (Builtin.«int.__eq__» ⟨[.bool i, .ref l], []⟩) (fun _ R s => s.heap.get? l = some { cls := .type "dict", dict := dd, data := .dict es ep, slots := sl } ∧ R (.ok (.ret .notImplemented)) s) :=
  .of_wp fun prog w A R s q => by obtain ⟨h0, g0, d0, t0, o0⟩ := s; obtain ⟨hl, q⟩ := q; wp_walk using wpAny_loadPart' hl, wpAny_load hl; exact ⟨_, rfl, q⟩
theorem str_no_dict (i : Str) (u : Tok) (l : Addr) (es : Array DictEntry) (ep : Nat) (dd : Option Addr) (sl : Array (Option Value)) :
    Meets (Builtin.«str.__eq__» ⟨[.str i u, .ref l], []⟩) (fun _ R s => s.heap.get? l = some { cls := .type "dict", dict := dd, data := .dict es ep, slots := sl } ∧ R (.ok (.ret .notImplemented)) s) :=
  .of_wp fun prog w A R s q => by obtain ⟨h0, g0, d0, t0, o0⟩ := s; obtain ⟨hl, q⟩ := q; wp_walk using wpAny_loadPart' hl, wpAny_load hl; exact ⟨_, rfl, q⟩
theorem list_no_dict (b : Addr) (us : Array Value) (n : Nat) (db : Option Addr) (sb : Array (Option Value)) (l : Addr) (es : Array DictEntry) (ep : Nat) (dd : Option Addr) (sl : Array (Option Value)) :
    Meets (Builtin.«list.__eq__» ⟨[.ref b, .ref l], []⟩) (fun _ R s => s.heap.get? b = some { cls := .type "list", dict := db, data := .seq us n, slots := sb } ∧ s.heap.get? l = some { cls := .type "dict", dict := dd, data := .dict es ep, slots := sl } ∧ R (.ok (.ret .notImplemented)) s) :=
  .of_wp fun prog w A R s q => by obtain ⟨h0, g0, d0, t0, o0⟩ := s; obtain ⟨hb, hl, q⟩ := q; have f := PySem.F.sub_dict_list; wp_walk using wpAny_loadPart' hb, wpAny_loadPart' hl, wpAny_load hl; exact ⟨_, rfl, q⟩
theorem tup_no_dict (b : Addr) (us : Array Value) (n : Nat) (db : Option Addr) (sb : Array (Option Value)) (l : Addr) (es : Array DictEntry) (ep : Nat) (dd : Option Addr) (sl : Array (Option Value)) :
    Meets (Builtin.«tuple.__eq__» ⟨[.ref b, .ref l], []⟩) (fun _ R s => s.heap.get? b = some { cls := .type "tuple", dict := db, data := .seq us n, slots := sb } ∧ s.heap.get? l = some { cls := .type "dict", dict := dd, data := .dict es ep, slots := sl } ∧ R (.ok (.ret .notImplemented)) s) :=
  .of_wp fun prog w A R s q => by obtain ⟨h0, g0, d0, t0, o0⟩ := s; obtain ⟨hb, hl, q⟩ := q; have f := PySem.F.sub_dict_tuple; wp_walk using wpAny_loadPart' hb, wpAny_loadPart' hl, wpAny_load hl; exact ⟨_, rfl, q⟩
/-- a value that is no dict, beside the dict at a -/
def NoDict (prog : Program) (w : World) (s : Shared) (a : Addr) (v : Value) : Prop := ∃ T id, s.TypeIs v T ∧ (Value.type "dict" != Value.type T) = true ∧ (Value.type T != Value.type "dict") = true ∧ isSubtype (.type T) (.type "dict") = pure false ∧ isSubtype (.type "dict") (.type T) = pure false ∧
  Slot T (cmpInfo .Eq).2.1 id ∧ Slot T (cmpInfo .Eq).2.2 id ∧ (∀ A (E Q : Value → Shared → Prop), Q .notImplemented s → wpAny (model prog w) A (call (.builtin id) [v, .ref a]) Q E s) ∧
  (∀ A E (R : Bool → Shared → Prop), R false s → wpAny (model prog w) A (isSame (.ref a) v) R E s) ∧ (∀ A E (R : Bool → Shared → Prop), R false s → wpAny (model prog w) A (isSame v (.ref a)) R E s)
section
variable {K : Type} [DecidableEq K] {knd : KeyKind prog w K} {a : Addr} {ka : List (K × Value)} {A : Around} {s : Shared} {v : Value}
theorem rcp_dict_no (da : s.heap.DictOf knd a ka) (nd : NoDict prog w s a v) (hu : A.units < cLine) : RcP prog w A s (.ref a) v false := fun E Q q => by
  obtain ⟨T, id, h1, h2, h3, h4, h5, h6, h7, h8, h9, h10⟩ := nd
  exact rc_eq_decline_or (k := false) da.typeIs h1 h2 h4 PySem.F.slot_dict_eq h7 (fun _ z => dict_no da h1 h4 z) (fun _ z => h8 _ _ _ z) (fun _ z => h9 _ _ _ z) (.inr hu) q
theorem rcp_no_dict (da : s.heap.DictOf knd a ka) (nd : NoDict prog w s a v) (hu : A.units < cLine) : RcP prog w A s v (.ref a) false := fun E Q q => by
  obtain ⟨T, id, h1, h2, h3, h4, h5, h6, h7, h8, h9, h10⟩ := nd
  exact rc_eq_decline_or (k := false) h1 da.typeIs h3 h5 h6 PySem.F.slot_dict_eq_refl (fun _ z => h8 _ _ _ z) (fun _ z => dict_no da h1 h4 z) (fun _ z => h10 _ _ _ z) (.inr hu) q
theorem dict_obj (da : s.heap.DictOf knd a ka) : ∃ es ep, s.heap.get? a = some { cls := .type "dict", dict := none, data := .dict es ep, slots := #[] } := by
  obtain ⟨⟨c, d, x, sl⟩, es, ep, ho, ⟨hc, hd, hs⟩, hx, _⟩ := da
  simp only at hc hd hs hx
  subst hc hd hs hx
  exact ⟨es, ep, ho⟩
theorem nd_none (da : s.heap.DictOf knd a ka) : NoDict prog w s a .none :=
  ⟨"NoneType", _, rfl, by decide, by decide, PySem.F.sub_NoneType_dict, PySem.F.sub_dict_NoneType, PySem.F.slot_NoneType_eq, PySem.F.slot_NoneType_eq_refl, fun A E Q q => call_gives PySem.F.slot_NoneType_eq rfl PySem.F.entry_NoneType_eq (PySem.F.args_NoneType_eq_2 _ _) (NoneType___eq___none_ref_0 a) q,
    fun A E R r => wpAny_of_eq (rfl : isSame (.ref a) .none = pure false) r, fun A E R r => wpAny_of_eq (rfl : isSame .none (.ref a) = pure false) r⟩
theorem nd_bool (da : s.heap.DictOf knd a ka) (b : Bool) : NoDict prog w s a (.bool b) := by
  obtain ⟨es, ep, ho⟩ := dict_obj da
  exact ⟨"bool", _, rfl, by decide, by decide, PySem.F.sub_bool_dict, PySem.F.sub_dict_bool, PySem.F.slot_bool_eq, PySem.F.slot_bool_eq_refl, fun A E Q q => call_meets PySem.F.slot_bool_eq rfl PySem.F.entry_int_eq (PySem.F.args_int_eq_2 _ _) (bool_no_dict b a es ep _ _) ⟨ho, q⟩,
    fun A E R r => wpAny_of_eq (rfl : isSame (.ref a) (.bool b) = pure false) r, fun A E R r => wpAny_of_eq (rfl : isSame (.bool b) (.ref a) = pure false) r⟩
theorem nd_int (da : s.heap.DictOf knd a ka) (i : Int) (t : Tok) : NoDict prog w s a (.int i t) := by
  obtain ⟨es, ep, ho⟩ := dict_obj da
  exact ⟨"int", _, rfl, by decide, by decide, PySem.F.sub_int_dict, PySem.F.sub_dict_int, PySem.F.slot_int_eq, PySem.F.slot_int_eq_refl, fun A E Q q => call_meets PySem.F.slot_int_eq rfl PySem.F.entry_int_eq (PySem.F.args_int_eq_2 _ _) (int_no_dict i t a es ep _ _) ⟨ho, q⟩,
    fun A E R r => wpAny_of_eq (rfl : isSame (.ref a) (.int i t) = pure false) r, fun A E R r => wpAny_of_eq (rfl : isSame (.int i t) (.ref a) = pure false) r⟩
theorem nd_str (da : s.heap.DictOf knd a ka) (i : Str) (t : Tok) : NoDict prog w s a (.str i t) := by
  obtain ⟨es, ep, ho⟩ := dict_obj da
  exact ⟨"str", _, rfl, by decide, by decide, PySem.F.sub_str_dict, PySem.F.sub_dict_str, PySem.F.slot_str_eq, PySem.F.slot_str_eq_refl, fun A E Q q => call_meets PySem.F.slot_str_eq rfl PySem.F.entry_str_eq (PySem.F.args_str_eq_2 _ _) (str_no_dict i t a es ep _ _) ⟨ho, q⟩,
    fun A E R r => wpAny_of_eq (rfl : isSame (.ref a) (.str i t) = pure false) r, fun A E R r => wpAny_of_eq (rfl : isSame (.str i t) (.ref a) = pure false) r⟩
theorem nd_list (da : s.heap.DictOf knd a ka) {b : Addr} {us : Array Value} (hl : s.heap.IsList b us) : NoDict prog w s a (.ref b) := by
  obtain ⟨es, ep, ho⟩ := dict_obj da
  obtain ⟨⟨c1, d1, x1, s1⟩, hb, hc, n, hd⟩ := id hl
  simp only at hc hd
  subst hc hd
  have ne : a ≠ b := fun z => by subst z; rw [ho] at hb; exact absurd (congrArg (Option.map Obj.cls) hb) (by simp)
  exact ⟨"list", _, ⟨_, hb, rfl⟩, by decide, by decide, PySem.F.sub_list_dict, PySem.F.sub_dict_list, PySem.F.slot_list_eq, PySem.F.slot_list_eq_refl, fun A E Q q => call_meets PySem.F.slot_list_eq ⟨_, hb, rfl⟩ PySem.F.entry_list_eq (PySem.F.args_list_eq_2 _ _) (list_no_dict b us n _ _ a es ep _ _) ⟨hb, ho, q⟩,
    fun A E R r => wpAny_isSame_ref_other' ne ho hb (by simp) r, fun A E R r => wpAny_isSame_ref_other' ne.symm hb ho (by simp) r⟩
theorem nd_tup (da : s.heap.DictOf knd a ka) {b : Addr} {us : Array Value} (hl : s.heap.IsTuple b us) : NoDict prog w s a (.ref b) := by
  obtain ⟨es, ep, ho⟩ := dict_obj da
  obtain ⟨⟨c1, d1, x1, s1⟩, hb, hc, n, hd⟩ := id hl
  simp only at hc hd
  subst hc hd
  have ne : a ≠ b := fun z => by subst z; rw [ho] at hb; exact absurd (congrArg (Option.map Obj.cls) hb) (by simp)
  exact ⟨"tuple", _, ⟨_, hb, rfl⟩, by decide, by decide, PySem.F.sub_tuple_dict, PySem.F.sub_dict_tuple, PySem.F.slot_tuple_eq, PySem.F.slot_tuple_eq_refl, fun A E Q q => call_meets PySem.F.slot_tuple_eq ⟨_, hb, rfl⟩ PySem.F.entry_tuple_eq (PySem.F.args_tuple_eq_2 _ _) (tup_no_dict b us n _ _ a es ep _ _) ⟨hb, ho, q⟩,
    fun A E R r => wpAny_isSame_ref_other ne ho hb (by simp) r, fun A E R r => wpAny_isSame_ref_other' ne.symm hb ho (by simp) r⟩
end
end
/-! the answer, by the data -/
mutual
def eqX : D → D → Bool
  | .non, .non => true
  | .bl a, .bl b => a == b
  | .bl a, .int j => (if a then 1 else 0) == j
  | .int i, .bl b => i == (if b then 1 else 0)
  | .int i, .int j => i == j
  | .str x, .str y => x == y
  | .lst xs, .lst ys => eqXs xs ys
  | .tup xs, .tup ys => eqXs xs ys
  | .dK ks ds, .dK ls es => ks.length == ls.length && eqKs ks ds ls es
  | _, _ => false
def eqXs : List D → List D → Bool
  | [], [] => true
  | x :: xs, y :: ys => eqX x y && eqXs xs ys
  | _, _ => false
def eqKs : List Key → List D → List Key → List D → Bool
  | k :: ks, d :: ds, ls, es => (match atK k ls es with
    | some e => eqX d e
    | none => false) && eqKs ks ds ls es
  | _, _, _, _ => true
end
mutual
def plX : Nat → D → Bool
  | _, .non => true
  | _, .bl _ => true
  | _, .int _ => true
  | _, .str _ => true
  | n + 1, .lst xs => plXs n xs
  | n + 1, .tup xs => plXs n xs
  | n + 1, .dK ks ds => decide ks.Nodup && ks.length == ds.length && plXs n ds
  | _, _ => false
def plXs : Nat → List D → Bool
  | _, [] => true
  | n, x :: xs => plX n x && plXs n xs
end
theorem plXs_all {n : Nat} : ∀ {ds : List D}, plXs n ds = true ↔ ∀ d ∈ ds, plX n d = true
  | [] => by simp [plXs]
  | d :: ds => by simp [plXs, plXs_all (ds := ds)]
theorem atK_self {ks : List Key} (nd : ks.Nodup) : ∀ {ds : List D}, ks.length = ds.length → ∀ (i : Nat) (k : Key) (d : D), ks[i]? = some k → ds[i]? = some d → atK k ks ds = some d := by
  induction ks with
  | nil => intro ds _ i k d h; simp at h
  | cons j ks ih =>
    intro ds hl i k d h1 h2
    cases ds with
    | nil => simp at hl
    | cons d0 ds =>
      cases i with
      | zero =>
        simp at h1 h2
        subst h1 h2
        simp [atK]
      | succ i =>
        simp at h1 h2
        have hm : k ∈ ks := List.mem_of_getElem? h1
        have hne : j ≠ k := fun z => by subst z; exact (List.nodup_cons.mp nd).1 hm
        have := ih (List.nodup_cons.mp nd).2 (by simpa using hl) i k d h1 h2
        simp [atK, hne, this]
mutual
theorem eqX_refl : ∀ (n : Nat) (d : D), plX n d = true → eqX d d = true
  | _, .non, _ => by simp [eqX]
  | _, .bl _, _ => by simp [eqX]
  | _, .int _, _ => by simp [eqX]
  | _, .str _, _ => by simp [eqX]
  | n + 1, .lst xs, h => by simp only [eqX]; exact eqXs_refl n xs (by simpa [plX] using h)
  | n + 1, .tup xs, h => by simp only [eqX]; exact eqXs_refl n xs (by simpa [plX] using h)
  | n + 1, .dK ks ds, h => by
    simp only [plX, Bool.and_eq_true, decide_eq_true_eq, beq_iff_eq] at h
    simp only [eqX, beq_self_eq_true, Bool.true_and]
    exact eqKs_refl n ds ks ds ks 0 h.2 (by simp) (by simp) h.1.1 h.1.2
  | 0, .lst _, h => by simp [plX] at h
  | 0, .tup _, h => by simp [plX] at h
  | 0, .dK _ _, h => by simp [plX] at h
  | _, .byt _, h => by simp [plX] at h
  | _, .ty _, h => by simp [plX] at h
  | _, .ref _, h => by simp [plX] at h
  | _, .dT _ _, h => by simp [plX] at h
  | _, .obj _ _ _, h => by simp [plX] at h
  | _, .cls _, h => by simp [plX] at h
  | _, .exc _ _ _ _ _, h => by simp [plX] at h
  | _, .xob _ _ _, h => by simp [plX] at h
  | _, .thk _ _ _ _ _, h => by simp [plX] at h
theorem eqXs_refl : ∀ (n : Nat) (ds : List D), plXs n ds = true → eqXs ds ds = true
  | _, [], _ => by simp [eqXs]
  | n, d :: ds, h => by
    simp only [plXs, Bool.and_eq_true] at h
    simp only [eqXs, Bool.and_eq_true]
    exact ⟨eqX_refl n d h.1, eqXs_refl n ds h.2⟩
theorem eqKs_refl : ∀ (n : Nat) (ds : List D) (ks : List Key) (es : List D) (ls : List Key) (i : Nat), plXs n ds = true → ds = es.drop i → ks = ls.drop i → ls.Nodup → ls.length = es.length → eqKs ks ds ls es = true
  | _, [], ks, es, ls, i, _, _, _, _, _ => by cases ks <;> simp [eqKs]
  | n, d :: ds, [], es, ls, i, _, _, _, _, _ => by simp [eqKs]
  | n, d :: ds, k :: ks, es, ls, i, h, h1, h2, nd, hl => by
    simp only [plXs, Bool.and_eq_true] at h
    have e1 : es[i]? = some d := by have := congrArg List.head? h1; simpa [List.head?_drop] using this.symm
    have e2 : ls[i]? = some k := by have := congrArg List.head? h2; simpa [List.head?_drop] using this.symm
    have e3 := atK_self nd hl i k d e2 e1
    simp only [eqKs, e3, Bool.and_eq_true]
    exact ⟨eqX_refl n d h.1, eqKs_refl n ds ks es ls (i + 1) h.2 (by have := congrArg List.tail h1; simpa [List.tail_drop] using this) (by have := congrArg List.tail h2; simpa [List.tail_drop] using this) nd hl⟩
end
section
variable {X : Cx} {pins : List (Addr × Obj)} {σ : St} {H : Hp} {s : Shared} {cl : ClW}
/-- how plain data stands in the heap -/
inductive Side (X : Cx) (cl : ClW) (H : Hp) (s : Shared) : D → Value → Prop
  | non : Side X cl H s .non .none
  | bl (b : Bool) : Side X cl H s (.bl b) (.bool b)
  | int (i : Int) (t : Tok) : Side X cl H s (.int i) (.int i t)
  | str (x : Str) (t : Tok) : Side X cl H s (.str x) (.str x t)
  | lst {a : Addr} {us : List Value} {vs : List V} {ds : List D} : s.heap.IsList a us.toArray → Vals vs us → Reps X.K cl H vs ds → Side X cl H s (.lst ds) (.ref a)
  | tup {a : Addr} {us : List Value} {vs : List V} {ds : List D} : s.heap.IsTuple a us.toArray → Vals vs us → Reps X.K cl H vs ds → Side X cl H s (.tup ds) (.ref a)
  | dK {a : Addr} {ks : List Key} {us : List (Key × Value)} {vs : List V} {ds : List D} : (a == sysModules) = false → s.heap.DictOf (mixKind X.prog X.w) a us → KV (ks.zip vs) us → ks.length = vs.length → Reps X.K cl H vs ds → Side X cl H s (.dK ks ds) (.ref a)
theorem side_of (I : Inv X pins σ H s) {n : Nat} {d : D} {x : V} {v : Value} (r : Rep X.K cl H x d) (p : plX n d = true) (rv : RelV x v) : Side X cl H s d v := by
  cases r with
  | non => cases (show v = Value.none from rv); exact .non
  | bl b => cases (show v = Value.bool b from rv); exact .bl b
  | int i => obtain ⟨t, rfl⟩ := rv; exact .int i t
  | str x => obtain ⟨t, rfl⟩ := rv; exact .str x t
  | lst h1 h2 =>
    cases (show v = Value.ref _ from rv)
    obtain ⟨us, r1, p1, _⟩ := I.list h1
    exact .lst p1.isList r1 h2
  | tup h1 h2 =>
    cases (show v = Value.ref _ from rv)
    obtain ⟨us, r1, p1, _⟩ := I.tuple h1.sq
    exact .tup p1 r1 h2
  | dK h1 h2 h3 =>
    cases (show v = Value.ref _ from rv)
    obtain ⟨_, y, us, r1, dd⟩ := (show ObjOk X.prog X.w H s.heap _ (.dK _) from I.hok _ _ h1)
    exact .dK y dd r1 h2 h3
  | _ => simp [plX] at p
theorem eqP_of_rcP {A : Around} {v u : Value} {k : Bool} {d : D} (hd : Side X cl H s d v) (h : RcP X.prog X.w A s v u k) (hs : v = u → k = true) : EqP X.prog X.w A s v u k := fun E Q q => by
  unfold eqBool
  refine wpAny_holding (wpAny_ite_split (fun e => ?_) (fun _ => ?_))
  · have := hs (eq_of_beq e)
    subst this
    exact wpAny_bind (wpAny_rule (wpAny_pure q))
  · cases hd <;> exact wpAny_bind (h E _ (wpAny_truthy_bool q))
/-- bools of pairs of data -/
def eqZ : List D → List D → List Bool
  | x :: xs, y :: ys => eqX x y :: eqZ xs ys
  | _, _ => []
theorem eqXs_Z : ∀ xs ys : List D, eqXs xs ys = ((eqZ xs ys).all id && xs.length == ys.length)
  | [], [] => by simp [eqXs, eqZ]
  | [], _ :: _ => by simp [eqXs, eqZ]
  | _ :: _, [] => by simp [eqXs, eqZ]
  | x :: xs, y :: ys => by
    simp only [eqXs, eqZ, List.all_cons, id, List.length_cons]
    rw [eqXs_Z xs ys, Bool.and_assoc]
    congr 1
    congr 1
    rw [Bool.eq_iff_iff]
    simp
theorem eqZ_at : ∀ (xs ys : List D) (j : Nat), j < xs.length → j < ys.length → (eqZ xs ys)[j]? = some (eqX (xs.getD j .non) (ys.getD j .non))
  | [], _, j, h, _ => by simp at h
  | _ :: _, [], j, _, h => by simp at h
  | x :: xs, y :: ys, 0, _, _ => by simp [eqZ]
  | x :: xs, y :: ys, j + 1, h1, h2 => by simpa [eqZ] using eqZ_at xs ys j (by simpa using h1) (by simpa using h2)
theorem eqZ_len : ∀ (xs ys : List D), xs.length = ys.length → (eqZ xs ys).length = xs.length
  | [], [], _ => rfl
  | [], _ :: _, h => by simp at h
  | _ :: _, [], h => by simp at h
  | x :: xs, y :: ys, h => by simp [eqZ, eqZ_len xs ys (by simpa using h)]
theorem range_all (bs : List Bool) (e : Nat → Bool) (n : Nat) (hn : bs.length = n) (h : ∀ j < n, bs[j]? = some (e j)) : (List.range n).all e = bs.all id := by
  have : bs = (List.range n).map e := by
    refine List.ext_getElem? fun j => ?_
    by_cases hj : j < n
    · rw [h j hj]; simp [hj]
    · simp [hj]; omega
  rw [this, List.all_map]
  rfl
theorem vals_at {vs : List V} {us : List Value} (r : Vals vs us) {j : Nat} {v : V} (h : vs[j]? = some v) : ∃ u, us[j]? = some u ∧ RelV v u := by
  induction r generalizing j with
  | nil => simp at h
  | cons a b ih =>
    cases j with
    | zero => simp at h; subst h; exact ⟨_, rfl, a⟩
    | succ j => obtain ⟨u, h1, h2⟩ := ih (by simpa using h); exact ⟨u, by simpa using h1, h2⟩
def unV : Value → Option V
  | .none => some .non
  | .bool b => some (.bl b)
  | .int i _ => some (.int i)
  | .str x _ => some (.str x)
  | .bytes b _ => some (.byt b)
  | .float b _ => some (.flt b)
  | .ref a => some (.ref a)
  | .type n => some (.ty n)
  | _ => none
theorem unV_of {x : V} {v : Value} (h : RelV x v) : unV v = some x := by
  cases x <;> simp only [RelV] at h <;> first | (subst h; rfl) | (obtain ⟨t, rfl⟩ := h; rfl)
theorem relV_inj {x y : V} {v : Value} (h : RelV x v) (k : RelV y v) : x = y := Option.some.inj ((unV_of h).symm.trans (unV_of k))
theorem vals_inj {vs ws : List V} {us : List Value} (h : Vals vs us) (k : Vals ws us) : vs = ws := by
  induction h generalizing ws with
  | nil => cases k; rfl
  | cons a b ih =>
    cases k with
    | cons c d => rw [relV_inj a c, ih d]
theorem dict_ne_list {a b : Addr} {ka : List (Key × Value)} {us : Array Value} (da : s.heap.DictOf (mixKind X.prog X.w) a ka) (hl : s.heap.IsList b us) : a ≠ b := fun z => by
  obtain ⟨es, ep, ho⟩ := dict_obj da
  obtain ⟨o, hb, hc, n, hd⟩ := hl
  subst z
  rw [ho] at hb
  cases hb
  exact absurd hc (by simp)
theorem dict_ne_tup {a b : Addr} {ka : List (Key × Value)} {us : Array Value} (da : s.heap.DictOf (mixKind X.prog X.w) a ka) (hl : s.heap.IsTuple b us) : a ≠ b := fun z => by
  obtain ⟨es, ep, ho⟩ := dict_obj da
  obtain ⟨o, hb, hc, n, hd⟩ := hl
  subst z
  rw [ho] at hb
  cases hb
  exact absurd hc (by simp)
theorem list_same {a : Addr} {us vs : List Value} (h : s.heap.IsList a us.toArray) (k : s.heap.IsList a vs.toArray) : us = vs := by
  obtain ⟨o, h1, _, n, h2⟩ := h
  obtain ⟨o2, k1, _, m, k2⟩ := k
  rw [h1] at k1
  cases k1
  rw [h2] at k2
  cases k2
  rfl
theorem tup_same {a : Addr} {us vs : List Value} (h : s.heap.IsTuple a us.toArray) (k : s.heap.IsTuple a vs.toArray) : us = vs := by
  obtain ⟨o, h1, _, n, h2⟩ := h
  obtain ⟨o2, k1, _, m, k2⟩ := k
  rw [h1] at k1
  cases k1
  rw [h2] at k2
  cases k2
  rfl
theorem pairs_inj {es : List DictEntry} {us vs : List (Key × Value)} (h : Pairs (mixKind X.prog X.w) es us) (k : Pairs (mixKind X.prog X.w) es vs) : us = vs := by
  induction h generalizing vs with
  | nil => cases k; rfl
  | cons a b c ih =>
    cases k with
    | cons a' b' c' => rw [ih c', Prod.ext ((mixKind X.prog X.w).inj _ _ _ a a') (b.symm.trans b')]
theorem kv_same {a : Addr} {us vs : List (Key × Value)} (h : s.heap.DictOf (mixKind X.prog X.w) a us) (k : s.heap.DictOf (mixKind X.prog X.w) a vs) : us = vs := by
  obtain ⟨o, es, ep, h1, _, h2, _, h3, _⟩ := h
  obtain ⟨o2, es2, ep2, k1, _, k2, _, k3, _⟩ := k
  rw [h1] at k1
  cases k1
  rw [h2] at k2
  cases k2
  exact pairs_inj h3 k3
theorem kv_inj {ks ls : List Key} {vs ws : List V} {us : List (Key × Value)} (h : KV (ks.zip vs) us) (hl : ks.length = vs.length) (k : KV (ls.zip ws) us) (kl : ls.length = ws.length) : ks = ls ∧ vs = ws := by
  induction us generalizing ks ls vs ws with
  | nil =>
    have e1 : (ks.zip vs).length = 0 := by rw [KV.length h]; rfl
    have e2 : (ls.zip ws).length = 0 := by rw [KV.length k]; rfl
    rw [List.length_zip] at e1 e2
    have a1 : ks = [] := List.length_eq_zero_iff.mp (by omega)
    have a2 : vs = [] := List.length_eq_zero_iff.mp (by omega)
    have a3 : ls = [] := List.length_eq_zero_iff.mp (by omega)
    have a4 : ws = [] := List.length_eq_zero_iff.mp (by omega)
    simp [a1, a2, a3, a4]
  | cons u us ih =>
    match ks, vs, ls, ws, h, k, hl, kl with
    | k1 :: ks, v1 :: vs, l1 :: ls, w1 :: ws, .cons a b, .cons c d, hl, kl =>
      obtain ⟨e1, e2⟩ := ih (ks := ks) (vs := vs) (ls := ls) (ws := ws) b (by simpa using hl) d (by simpa using kl)
      have e3 : k1 = l1 := a.1.trans c.1.symm
      have e4 : v1 = w1 := relV_inj a.2 c.2
      simp [e1, e2, e3, e4]
theorem kv_vals {ks : List Key} {vs : List V} {us : List (Key × Value)} (h : KV (ks.zip vs) us) (hl : ks.length = vs.length) : ∃ ws, Vals vs ws := by
  induction us generalizing ks vs with
  | nil =>
    have e1 : (ks.zip vs).length = 0 := by rw [KV.length h]; rfl
    rw [List.length_zip] at e1
    have a2 : vs = [] := List.length_eq_zero_iff.mp (by omega)
    exact ⟨[], by rw [a2]; exact .nil⟩
  | cons u us ih =>
    match ks, vs, h, hl with
    | k1 :: ks, v1 :: vs, .cons a b, hl =>
      obtain ⟨ws, h⟩ := ih (ks := ks) (vs := vs) b (by simpa using hl)
      exact ⟨u.2 :: ws, .cons a.2 h⟩
theorem side_reps (I : Inv X pins σ H s) {n : Nat} (ih : ∀ (d e : D) (v : Value), Side X cl H s d v → Side X cl H s e v → plX n d = true → plX n e = true → d = e) : ∀ {vs : List V} {us : List Value} {ds es : List D}, Vals vs us → Reps X.K cl H vs ds → Reps X.K cl H vs es → plXs n ds = true → plXs n es = true → ds = es
  | [], _, _, _, _, r, q, _, _ => by cases r; cases q; rfl
  | v :: vs, _, _, _, .cons a b, .cons r1 r2, .cons q1 q2, h, k => by
    simp only [plXs, Bool.and_eq_true] at h k
    rw [ih _ _ _ (side_of I r1 h.1 a) (side_of I q1 k.1 a) h.1 k.1, side_reps I ih b r2 q2 h.2 k.2]
theorem side_inj (I : Inv X pins σ H s) : ∀ (n : Nat) (d e : D) (v : Value), Side X cl H s d v → Side X cl H s e v → plX n d = true → plX n e = true → d = e
  | n, _, _, _, .non, .non, _, _ => rfl
  | n, _, _, _, .bl _, .bl _, _, _ => rfl
  | n, _, _, _, .int _ _, .int _ _, _, _ => rfl
  | n, _, _, _, .str _ _, .str _ _, _, _ => rfl
  | n + 1, _, _, _, .lst h1 h2 h3, .lst k1 k2 k3, p, q => by
    have e := list_same h1 k1
    subst e
    have e := vals_inj h2 k2
    subst e
    rw [side_reps I (side_inj I n) h2 h3 k3 (by simpa [plX] using p) (by simpa [plX] using q)]
  | n + 1, _, _, _, .tup h1 h2 h3, .tup k1 k2 k3, p, q => by
    have e := tup_same h1 k1
    subst e
    have e := vals_inj h2 k2
    subst e
    rw [side_reps I (side_inj I n) h2 h3 k3 (by simpa [plX] using p) (by simpa [plX] using q)]
  | n + 1, _, _, _, .dK h0 h1 h2 h3 h4, .dK k0 k1 k2 k3 k4, p, q => by
    have e := kv_same h1 k1
    subst e
    obtain ⟨rfl, rfl⟩ := kv_inj h2 h3 k2 k3
    simp only [plX, Bool.and_eq_true] at p q
    obtain ⟨us, hv⟩ : ∃ us, Vals _ us := kv_vals h2 h3
    rw [side_reps I (side_inj I n) hv h4 k4 p.2 q.2]
  | n, _, _, _, .lst h1 _ _, .tup k1 _ _, _, _ => absurd rfl (ne_of_list_tuple h1 k1)
  | n, _, _, _, .tup h1 _ _, .lst k1 _ _, _, _ => absurd rfl (ne_of_list_tuple k1 h1)
  | n, _, _, _, .lst h1 _ _, .dK _ k1 _ _ _, _, _ => absurd rfl (dict_ne_list k1 h1)
  | n, _, _, _, .dK _ h1 _ _ _, .lst k1 _ _, _, _ => absurd rfl (dict_ne_list h1 k1)
  | n, _, _, _, .tup h1 _ _, .dK _ k1 _ _ _, _, _ => absurd rfl (dict_ne_tup k1 h1)
  | n, _, _, _, .dK _ h1 _ _ _, .tup k1 _ _, _, _ => absurd rfl (dict_ne_tup h1 k1)
  | 0, _, _, _, .lst _ _ _, .lst _ _ _, p, _ => by simp [plX] at p
  | 0, _, _, _, .tup _ _ _, .tup _ _ _, p, _ => by simp [plX] at p
  | 0, _, _, _, .dK _ _ _ _ _, .dK _ _ _ _ _, p, _ => by simp [plX] at p
theorem eqX_at {A : Around} (I : Inv X pins σ H s) {n : Nat} {d e : D} {v u : Value} (h : RcP X.prog X.w A s v u (eqX d e)) (sd : Side X cl H s d v) (se : Side X cl H s e u) (pd : plX n d = true) (pe : plX n e = true) : EqP X.prog X.w A s v u (eqX d e) :=
  eqP_of_rcP sd h fun z => by
    subst z
    rw [side_inj I n d e _ sd se pd pe]
    exact eqX_refl n e pe
theorem atK_mem {β : Type} [DecidableEq β] {k : β} {e : D} : ∀ {ls : List β} {es : List D}, atK k ls es = some e → e ∈ es
  | [], _, h => by simp [atK] at h
  | _ :: _, [], h => by simp [atK] at h
  | l :: ls, x :: es, h => by
    by_cases c : l = k
    · simp [atK, c] at h; simp [h]
    · simp [atK, c] at h; exact List.mem_cons_of_mem _ (atK_mem h)
theorem keq_hits {A : Around} {n : Nat} (I : Inv X pins σ H s) (ih : ∀ (d e : D) (v u : Value), Side X cl H s d v → Side X cl H s e u → plX n d = true → plX n e = true → EqP X.prog X.w A s v u (eqX d e)) {ls : List Key} {ws : List V} {ub : List (Key × Value)} {es : List D} (rb : KV (ls.zip ws) ub) (rl : ls.length = ws.length) (re : Reps X.K cl H ws es) (pe : plXs n es = true) :
    ∀ {ks : List Key} {vs : List V} {ua : List (Key × Value)} {ds : List D}, KV (ks.zip vs) ua → ks.length = vs.length → Reps X.K cl H vs ds → plXs n ds = true → PySem.W.KeqHitsP X.prog X.w A s ub ua (eqKs ks ds ls es)
  | [], [], _, _, .nil, _, rd, _ => by cases rd; simp only [eqKs]; exact .nil
  | k :: ks, v :: vs, (k', u) :: ua, d :: ds, .cons a b, hl, .cons r1 r2, pd => by
    simp only [plXs, Bool.and_eq_true] at pd
    have rest := keq_hits I ih rb rl re pe b (by simpa using hl) r2 pd.2
    have rv := rb.val k
    rw [valV_zip] at rv
    obtain ⟨e0, ru⟩ : k = k' ∧ RelV v u := a
    subst e0
    simp only [eqKs]
    cases hm : atK k ls es with
    | none =>
      have e1 : (atK k ls ws).isSome = (atK k ls es).isSome := by rw [atK_some k ls ws rl, atK_some k ls es (rl.trans re.length)]
      rw [hm] at e1
      cases hw : atK k ls ws with
      | some x => rw [hw] at e1; cases e1
      | none =>
        rw [hw] at rv
        cases hu : valueAt ub k with
        | some x => rw [hu] at rv; exact rv.elim
        | none => simp only [Bool.false_and]; exact .miss hu
    | some e =>
      obtain ⟨w', hw, re'⟩ := reps_atK re hm
      rw [hw] at rv
      have pe' : plX n e = true := plXs_all.mp pe e (atK_mem hm)
      cases hu : valueAt ub k with
      | none => rw [hu] at rv; exact rv.elim
      | some y =>
        rw [hu] at rv
        exact .hit hu (ih d e u y (side_of I r1 pd.1 ru) (side_of I re' pe' rv) pd.1 pe') rest
theorem eqL_of {A : Around} {n : Nat} (I : Inv X pins σ H s) (ih : ∀ (d e : D) (v u : Value), Side X cl H s d v → Side X cl H s e u → plX n d = true → plX n e = true → EqP X.prog X.w A s v u (eqX d e)) :
    ∀ {vs ws : List V} {us ts : List Value} {ds es : List D}, Vals vs us → Reps X.K cl H vs ds → Vals ws ts → Reps X.K cl H ws es → plXs n ds = true → plXs n es = true → EqL X.prog X.w A s (us.zip ts) (eqZ ds es)
  | _, _, _, _, _, _, .nil, .nil, _, _, _, _ => by simp only [eqZ, List.zip_nil_left]; exact .nil
  | _, _, _, _, _, _, .cons _ _, .cons _ _, .nil, .nil, _, _ => by simp only [eqZ, List.zip_nil_right]; exact .nil
  | _, _, _, _, _, _, .cons a b, .cons r1 r2, .cons c d, .cons q1 q2, p, q => by
    simp only [plXs, Bool.and_eq_true] at p q
    simp only [eqZ, List.zip_cons_cons]
    exact .cons (ih _ _ _ _ (side_of I r1 p.1 a) (side_of I q1 q.1 c) p.1 q.1) (eqL_of I ih b r2 d q2 p.2 q.2)
theorem eqL_at {prog : Program} {w : World} {A : Around} {s : Shared} {ps : List (Value × Value)} {bs : List Bool} (h : EqL prog w A s ps bs) : ∀ (j : Nat) (p : Value × Value), ps[j]? = some p → ∃ b, bs[j]? = some b ∧ EqP prog w A s p.1 p.2 b := by
  induction h with
  | nil => intro j p e; simp at e
  | cons a b ih =>
    intro j p e
    cases j with
    | zero => simp at e; subst e; exact ⟨_, rfl, a⟩
    | succ j => simpa using ih j p (by simpa using e)
theorem rc_flat {A : Around} {d e : D} {v u : Value} (sd : Side X cl H s d v) (se : Side X cl H s e u) (pd : plX 0 d = true) (pe : plX 0 e = true) : RcP X.prog X.w A s v u (eqX d e) := by
  cases sd with
  | non =>
    cases se with
    | non => simp only [eqX]; exact .of .none_none
    | bl bb => simp only [eqX]; exact .of (.none_bool bb)
    | int bi bt => simp only [eqX]; exact .of (.none_int bi bt)
    | str bx bt => simp only [eqX]; exact .of (.none_str bx bt)
    | lst => simp [plX] at pe
    | tup => simp [plX] at pe
    | dK => simp [plX] at pe
  | bl pb =>
    cases se with
    | non => simp only [eqX]; exact .of (.bool_none pb)
    | bl bb => simp only [eqX]; exact .of (.bool_bool pb bb)
    | int bi bt => simp only [eqX]; exact .of (.bool_int pb bi bt)
    | str bx bt => simp only [eqX]; exact .of (.bool_str pb bx bt)
    | lst => simp [plX] at pe
    | tup => simp [plX] at pe
    | dK => simp [plX] at pe
  | int pi pt =>
    cases se with
    | non => simp only [eqX]; exact .of (.int_none pi pt)
    | bl bb => simp only [eqX]; exact .of (.int_bool pi pt bb)
    | int bi bt => simp only [eqX]; exact .of (.int_int pi pt bi bt)
    | str bx bt => simp only [eqX]; exact .of (.int_str pi pt bx bt)
    | lst => simp [plX] at pe
    | tup => simp [plX] at pe
    | dK => simp [plX] at pe
  | str px pt =>
    cases se with
    | non => simp only [eqX]; exact .of (.str_none px pt)
    | bl bb => simp only [eqX]; exact .of (.str_bool px pt bb)
    | int bi bt => simp only [eqX]; exact .of (.str_int px pt bi bt)
    | str bx bt => simp only [eqX]; exact .of (.str_str px pt bx bt)
    | lst => simp [plX] at pe
    | tup => simp [plX] at pe
    | dK => simp [plX] at pe
  | lst => simp [plX] at pd
  | tup => simp [plX] at pd
  | dK => simp [plX] at pd
theorem rc_lsts {A : Around} {n : Nat} (I : Inv X pins σ H s) (ihE : ∀ (d e : D) (v u : Value), Side X cl H s d v → Side X cl H s e u → plX n d = true → plX n e = true → EqP X.prog X.w A.in1 s v u (eqX d e)) {a b : Addr} {us ts : List Value} {vs ws : List V} {ds es : List D}
    (h1 : s.heap.IsList a us.toArray) (h2 : Vals vs us) (h3 : Reps X.K cl H vs ds) (k1 : s.heap.IsList b ts.toArray) (k2 : Vals ws ts) (k3 : Reps X.K cl H ws es) (p : plXs n ds = true) (q : plXs n es = true) (hA : A.units < cLine) : RcP X.prog X.w A s (.ref a) (.ref b) (eqXs ds es) := by
  have l1 := h2.length
  have l2 := k2.length
  have l3 := h3.length
  have l4 := k3.length
  rw [eqXs_Z]
  by_cases hl : ds.length = es.length
  · have L := eqL_of I ihE h2 h3 k2 k3 p q
    have hz := eqZ_len ds es hl
    intro E Q r
    refine SeqAt.rcP_lists (e := fun j => eqX (ds.getD j .non) (es.getD j .non)) h1 k1 (by simp; omega) hA (fun j j1 j2 => ?_) E Q ?_
    · simp at j1 j2
      obtain ⟨b', e1, e2⟩ := eqL_at L j (us[j], ts[j]) (by simp [List.getElem?_zip_eq_some, j1, j2])
      rw [eqZ_at ds es j (by omega) (by omega)] at e1
      cases e1
      simpa using e2
    · rw [range_all (eqZ ds es) _ us.toArray.size (by simp; omega) (fun j hj => eqZ_at ds es j (by simp at hj; omega) (by simp at hj; omega))]
      simpa [hl] using r
  · have e : ((eqZ ds es).all id && ds.length == es.length) = false := by simp [hl]
    rw [e]
    exact .of (.lists_lengths h1 k1 (by simp; omega) hA)
theorem rcX (I : Inv X pins σ H s) : ∀ (n : Nat) (A : Around), A.units + n < cLine → ∀ (d e : D) (v u : Value), Side X cl H s d v → Side X cl H s e u → plX n d = true → plX n e = true → RcP X.prog X.w A s v u (eqX d e) := by
  intro n
  induction n with
  | zero =>
    intro A hu d e v u sd se pd pe
    exact rc_flat sd se pd pe
  | succ n ih =>
    intro A hu d e v u sd se pd pe
    have hA : A.units < cLine := by omega
    have ihE : ∀ (d e : D) (v u : Value), Side X cl H s d v → Side X cl H s e u → plX n d = true → plX n e = true → EqP X.prog X.w A.in1 s v u (eqX d e) := fun d e v u sd se pd pe => eqX_at I (ih A.in1 (by show A.units + 1 + n < cLine; omega) d e v u sd se pd pe) sd se pd pe
    cases sd with
    | non =>
      cases se with
      | non => exact rc_flat (cl := cl) (H := H) (.non) (.non) rfl rfl
      | bl bb => exact rc_flat (cl := cl) (H := H) (.non) (.bl bb) rfl rfl
      | int bi bt => exact rc_flat (cl := cl) (H := H) (.non) (.int bi bt) rfl rfl
      | str bx bt => exact rc_flat (cl := cl) (H := H) (.non) (.str bx bt) rfl rfl
      | lst h1 h2 h3 => simp only [eqX]; exact .of (.none_list h1 hA)
      | tup h1 h2 h3 => simp only [eqX]; exact .of (.none_tuple h1 hA)
      | dK h0 h1 h2 h3 h4 => simp only [eqX]; exact rcp_no_dict h1 (nd_none h1) hA
    | bl pb =>
      cases se with
      | non => exact rc_flat (cl := cl) (H := H) (.bl pb) (.non) rfl rfl
      | bl bb => exact rc_flat (cl := cl) (H := H) (.bl pb) (.bl bb) rfl rfl
      | int bi bt => exact rc_flat (cl := cl) (H := H) (.bl pb) (.int bi bt) rfl rfl
      | str bx bt => exact rc_flat (cl := cl) (H := H) (.bl pb) (.str bx bt) rfl rfl
      | lst h1 h2 h3 => simp only [eqX]; exact .of (.bool_list pb h1 hA)
      | tup h1 h2 h3 => simp only [eqX]; exact .of (.bool_tuple pb h1 hA)
      | dK h0 h1 h2 h3 h4 => simp only [eqX]; exact rcp_no_dict h1 (nd_bool h1 pb) hA
    | int pi pt =>
      cases se with
      | non => exact rc_flat (cl := cl) (H := H) (.int pi pt) (.non) rfl rfl
      | bl bb => exact rc_flat (cl := cl) (H := H) (.int pi pt) (.bl bb) rfl rfl
      | int bi bt => exact rc_flat (cl := cl) (H := H) (.int pi pt) (.int bi bt) rfl rfl
      | str bx bt => exact rc_flat (cl := cl) (H := H) (.int pi pt) (.str bx bt) rfl rfl
      | lst h1 h2 h3 => simp only [eqX]; exact .of (.int_list pi pt h1 hA)
      | tup h1 h2 h3 => simp only [eqX]; exact .of (.int_tuple pi pt h1 hA)
      | dK h0 h1 h2 h3 h4 => simp only [eqX]; exact rcp_no_dict h1 (nd_int h1 pi pt) hA
    | str px pt =>
      cases se with
      | non => exact rc_flat (cl := cl) (H := H) (.str px pt) (.non) rfl rfl
      | bl bb => exact rc_flat (cl := cl) (H := H) (.str px pt) (.bl bb) rfl rfl
      | int bi bt => exact rc_flat (cl := cl) (H := H) (.str px pt) (.int bi bt) rfl rfl
      | str bx bt => exact rc_flat (cl := cl) (H := H) (.str px pt) (.str bx bt) rfl rfl
      | lst h1 h2 h3 => simp only [eqX]; exact .of (.str_list px pt h1 hA)
      | tup h1 h2 h3 => simp only [eqX]; exact .of (.str_tuple px pt h1 hA)
      | dK h0 h1 h2 h3 h4 => simp only [eqX]; exact rcp_no_dict h1 (nd_str h1 px pt) hA
    | lst h1 h2 h3 =>
      cases se with
      | non => simp only [eqX]; exact .of (.list_none h1 hA)
      | bl bb => simp only [eqX]; exact .of (.list_bool bb h1 hA)
      | int bi bt => simp only [eqX]; exact .of (.list_int bi bt h1 hA)
      | str bx bt => simp only [eqX]; exact .of (.list_str bx bt h1 hA)
      | lst k1 k2 k3 =>
        simp only [eqX]
        have p := by simpa [plX] using pd
        have q := by simpa [plX] using pe
        exact rc_lsts I ihE h1 h2 h3 k1 k2 k3 p q hA
      | tup k1 k2 k3 => simp only [eqX]; exact .of (.list_tuple h1 k1 hA)
      | dK k0 k1 k2 k3 k4 => simp only [eqX]; exact rcp_no_dict k1 (nd_list k1 h1) hA
    | tup h1 h2 h3 =>
      cases se with
      | non => simp only [eqX]; exact .of (.tuple_none h1 hA)
      | bl bb => simp only [eqX]; exact .of (.tuple_bool bb h1 hA)
      | int bi bt => simp only [eqX]; exact .of (.tuple_int bi bt h1 hA)
      | str bx bt => simp only [eqX]; exact .of (.tuple_str bx bt h1 hA)
      | lst k1 k2 k3 => simp only [eqX]; exact .of (.tuple_list h1 k1 hA)
      | tup k1 k2 k3 =>
        simp only [eqX]
        have p := by simpa [plX] using pd
        have q := by simpa [plX] using pe
        have r := rcp_tups (A := A) (eqZ _ _) h1 k1 hA (eqL_of I ihE h2 h3 k2 k3 p q)
        rw [eqXs_Z]
        have l1 := h2.length
        have l2 := k2.length
        have l3 := h3.length
        have l4 := k3.length
        simp only [List.size_toArray] at r
        rw [← l1, ← l2, l3, l4] at r
        exact r
      | dK k0 k1 k2 k3 k4 => simp only [eqX]; exact rcp_no_dict k1 (nd_tup k1 h1) hA
    | dK h0 h1 h2 h3 h4 =>
      cases se with
      | non => simp only [eqX]; exact rcp_dict_no h1 (nd_none h1) hA
      | bl bb => simp only [eqX]; exact rcp_dict_no h1 (nd_bool h1 bb) hA
      | int bi bt => simp only [eqX]; exact rcp_dict_no h1 (nd_int h1 bi bt) hA
      | str bx bt => simp only [eqX]; exact rcp_dict_no h1 (nd_str h1 bx bt) hA
      | lst k1 k2 k3 => simp only [eqX]; exact rcp_dict_no h1 (nd_list h1 k1) hA
      | tup k1 k2 k3 => simp only [eqX]; exact rcp_dict_no h1 (nd_tup h1 k1) hA
      | dK k0 k1 k2 k3 k4 =>
        simp only [eqX]
        simp only [plX, Bool.and_eq_true] at pd pe
        have e1 := KV.length h2
        have e2 := KV.length k2
        rw [List.length_zip, ← h3, Nat.min_self] at e1
        rw [List.length_zip, ← k3, Nat.min_self] at e2
        rw [e1, e2]
        exact fun E Q q => PySem.W.rcP_dicts h0 k0 h1 k1 hA (fun _ => keq_hits I ihE k2 k3 k4 pe.2 h2 h3 h4 pd.2) E Q q
end
end DL

set_option Elab.async false
set_option linter.all false
set_option maxRecDepth 100000
set_option maxHeartbeats 4000000
namespace DL
open PySem L2
open PySem.SeqAt
section
open AutoSeq1 (wpAny_loadPart')
open MeetsSeq MeetsSeq2 MeetsSeq3 SeqRoads2
variable {prog : Program} {w : World}
/-- list != list, from the place i on -/
theorem lst_ne_turns (l b : Addr) (us vs : Array Value) (n m : Nat) (da db : Option Addr) (sa sb : Array (Option Value)) (hz : us.size = vs.size) (k : Nat) : ∀ (i : Nat) (bs : List Bool), us.size - i = k →
    MeetsIn prog w (Builtin.«list.__eq__.loop» ⟨[.ref l, .ref b, rawInt i, rawInt 3], []⟩)
      (fun A R s => s.heap.get? l = some { cls := .type "list", dict := da, data := .seq us n, slots := sa } ∧ s.heap.get? b = some { cls := .type "list", dict := db, data := .seq vs m, slots := sb } ∧
        EqL prog w A.in1 s ((us.toList.zip vs.toList).drop i) bs ∧ R (.ok (.ret (.bool (!bs.all id)))) s) := by
  have hlen : (us.toList.zip vs.toList).length = us.size := by simp [hz]
  induction k with
  | zero =>
    intro i bs hk A R s0 q
    obtain ⟨h0, g0, d0, t0, o0⟩ := s0
    obtain ⟨ga, gb, he, q⟩ := q
    rw [List.drop_of_length_le (by omega)] at he
    cases he
    have na : us[((i : Nat) : Int).toNat]? = none := by simp; omega
    have nb : vs[((i : Nat) : Int).toNat]? = none := by simp; omega
    wp_walk using wpAny_loadPart' ga, wpAny_loadPart' gb
    rw [na, nb]
    wp_walk using wpAny_loadPart' ga, wpAny_loadPart' gb
    show R (.ok (.ret (.bool (us.size != vs.size)))) _
    simpa [hz] using q
  | succ k ih =>
    intro i bs hk A R s0 q
    obtain ⟨h0, g0, d0, t0, o0⟩ := s0
    obtain ⟨ga, gb, he, q⟩ := q
    have ia : i < us.size := by omega
    have ib : i < vs.size := by omega
    rw [List.drop_eq_getElem_cons (by omega)] at he
    cases he with
    | @cons _ c _ cs hp he =>
      have na : us[((i : Nat) : Int).toNat]? = some us[i] := by simp [ia]
      have nb : vs[((i : Nat) : Int).toNat]? = some vs[i] := by simp [ib]
      have nx : ((i : Int) + 1) = ((i + 1 : Nat) : Int) := by simp
      have hp' : EqP prog w A.in1 ⟨h0, g0, d0, t0, o0⟩ us[i] vs[i] c := by simpa using hp
      wp_walk using wpAny_loadPart' ga, wpAny_loadPart' gb
      rw [na, nb]
      refine wpAny_bind (hp' _ _ ?_)
      cases c with
      | true =>
        wp_walk
        rw [nx]
        refine ⟨plainId_quiet plain_eq_loop _, codeAny_builtin entry_eq_loop ?_⟩
        rw [Around.under_plainId plain_eq_loop _]
        exact ih (i + 1) cs (by omega) A R _ ⟨ga, gb, he, by simpa using q⟩
      | false =>
        wp_walk using wpAny_loadPart' ga, wpAny_loadPart' gb
        rw [na, nb]
        wp_walk
        simpa using q
theorem lst_ne (l b : Addr) (us vs : Array Value) (n m : Nat) (da db : Option Addr) (sa sb : Array (Option Value)) (hz : us.size = vs.size) (bs : List Bool) :
    MeetsIn prog w (Builtin.«list.__ne__» ⟨[.ref l, .ref b], []⟩)
      (fun A R s => s.heap.get? l = some { cls := .type "list", dict := da, data := .seq us n, slots := sa } ∧ s.heap.get? b = some { cls := .type "list", dict := db, data := .seq vs m, slots := sb } ∧
        EqL prog w A.in1 s (us.toList.zip vs.toList) bs ∧ R (.ok (.ret (.bool (!bs.all id)))) s) := by
  intro A R s0 q
  obtain ⟨h0, g0, d0, t0, o0⟩ := s0
  obtain ⟨ga, gb, he, q⟩ := q
  have sub := AutoSeq1.sub_list_list
  have same : ¬ (us.size != vs.size) = true := by simp [hz]
  wp_walk using wpAny_loadPart' ga, wpAny_loadPart' gb
  refine ⟨plainId_quiet plain_eq_loop _, codeAny_builtin entry_eq_loop ?_⟩
  rw [Around.under_plainId plain_eq_loop _]
  exact lst_ne_turns l b us vs n m da db sa sb hz _ 0 bs rfl A R _ ⟨ga, gb, he, q⟩
end
section
variable {X : Cx} {pins : List (Addr × Obj)} {σ : St} {H : Hp} {s : Shared} {cl : ClW}
theorem rcn_lsts {A : Around} {n : Nat} (I : Inv X pins σ H s) (ihE : ∀ (d e : D) (v u : Value), Side X cl H s d v → Side X cl H s e u → plX n d = true → plX n e = true → EqP X.prog X.w A.in1 s v u (eqX d e)) {a b : Addr} {us ts : List Value} {vs ws : List V} {ds es : List D}
    (h1 : s.heap.IsList a us.toArray) (h2 : Vals vs us) (h3 : Reps X.K cl H vs ds) (k1 : s.heap.IsList b ts.toArray) (k2 : Vals ws ts) (k3 : Reps X.K cl H ws es) (p : plXs n ds = true) (q : plXs n es = true) (hA : A.units < cLine) (E Q : Value → Shared → Prop) (r : Q (.bool (!eqXs ds es)) s) :
    wpAny (model X.prog X.w) A (richCompare .NotEq (.ref a) (.ref b)) Q E s := by
  have l1 := h2.length
  have l2 := k2.length
  have l3 := h3.length
  have l4 := k3.length
  rw [eqXs_Z] at r
  by_cases hl : ds.length = es.length
  · have L := eqL_of I ihE h2 h3 k2 k3 p q
    obtain ⟨⟨c1, d1, x1, s1⟩, ho, hc, m1, hd⟩ := id h1
    obtain ⟨⟨c2, d2, x2, s2⟩, ho2, hc2, m2, hd2⟩ := id k1
    simp only at hc hd hc2 hd2
    subst hc hd hc2 hd2
    refine wpAny_richCompare_same_room (op := .NotEq) ⟨_, ho, rfl⟩ ⟨_, ho2, rfl⟩ PySem.F.slot_list_ne (call_meetsIn PySem.F.slot_list_ne ⟨_, ho, rfl⟩ PySem.F.entry_list_ne (PySem.F.args_list_ne_2 _ _) (lst_ne a b us.toArray ts.toArray m1 m2 d1 d2 s1 s2 (by simp; omega) (eqZ ds es))
      ⟨ho, ho2, L, show Value.bool _ ≠ Value.notImplemented ∧ Q (.bool _) s from ⟨(fun z => nomatch z), ?_⟩⟩) hA
    simpa [hl] using r
  · have e : (!((eqZ ds es).all id && ds.length == es.length)) = true := by simp [hl]
    rw [e] at r
    exact RcNeAt.lists_lengths h1 k1 (by simp; omega) hA _ _ E Q r
end
/-! the operations -/
section
variable {K : PySem.W.Frag} {cl : ClW} {F H : Hp} {M : Mem} {X : Cx} {W : WX}
mutual
theorem rep_deep (g : Good K cl F H M) {d e : D} (t : Dv M d e) {v : V} (r : Rep K cl F v d) : Rep K cl H v e := by
  cases t with
  | same => exact r.mono g.sub
  | ref ha ts =>
    obtain rfl := r.toRef
    obtain ⟨hF, vs, h3, h4⟩ := g.cell _ _ ha
    exact .lst (SqL.of h3) (reps_deep g ts h4)
  | lst ts =>
    obtain ⟨a, vs, rfl, h1, h2⟩ := r.toLst
    exact .lst (same_l g.sub h1) (reps_deep g ts h2)
  | tup ts =>
    obtain ⟨a, vs, rfl, h1, h2⟩ := r.toTup1
    exact .tup (h1.mono g.sub) (reps_deep g ts h2)
theorem reps_deep (g : Good K cl F H M) {ds es : List D} (t : Dvs M ds es) {vs : List V} (r : Reps K cl F vs ds) : Reps K cl H vs es := by
  cases t with
  | nil =>
    obtain rfl := r.inv0
    exact .nil
  | cons t1 t2 =>
    obtain ⟨v, ws, rfl, r1, r2⟩ := r.inv
    exact .cons (rep_deep g t1 r1) (reps_deep g t2 r2)
end
/-- x == y of any plain data, through references -/
@[simp] def bEqX : DB2 := fun d e _ M Q _ => ∃ d' e' n, Dv M d d' ∧ Dv M e e' ∧ n ≤ 60 ∧ plX n d' = true ∧ plX n e' = true ∧ Q (.bl (eqX d' e')) M
theorem bin_eqX (hu : X.A.units + 64 < cLine) : BinG cl X W (compareOp .Eq) bEqX := fun pins s σ H F ρ M v u x y d e Q Qd Xd I rx ry g sl r1 r2 q p w => by
  obtain ⟨d', e', n, t1, t2, hn, p1, p2, q⟩ := q
  exact rcX I n X.A (by omega) d' e' v u (side_of I (rep_deep g t1 r1) p1 rx) (side_of I (rep_deep g t2 r2) p2 ry) p1 p2 _ _ ⟨.bl _, H, I, rfl, p.val g (.bl _) q⟩
/-- x != y of two lists of any plain data -/
@[simp] def bNeX : DB2 := fun d e _ M Q _ => ∃ xs ys n, Dv M d (.lst xs) ∧ Dv M e (.lst ys) ∧ n ≤ 60 ∧ plXs n xs = true ∧ plXs n ys = true ∧ Q (.bl (!eqXs xs ys)) M
theorem bin_neX (hu : X.A.units + 64 < cLine) : BinG cl X W (compareOp .NotEq) bNeX := fun pins s σ H F ρ M v u x y d e Q Qd Xd I rx ry g sl r1 r2 q p w => by
  obtain ⟨xs, ys, n, t1, t2, hn, p1, p2, q⟩ := q
  have p1' : plX (n + 1) (.lst xs) = true := by simpa [plX] using p1
  have p2' : plX (n + 1) (.lst ys) = true := by simpa [plX] using p2
  have s1 := side_of I (rep_deep g t1 r1) p1' rx
  have s2 := side_of I (rep_deep g t2 r2) p2' ry
  cases s1 with
  | lst h1 h2 h3 =>
    cases s2 with
    | lst k1 k2 k3 =>
      exact rcn_lsts I (A := X.A) (n := n) (fun d e v u sd se pd pe => eqX_at I (rcX I n X.A.in1 (by show X.A.units + 1 + n < cLine; omega) d e v u sd se pd pe) sd se pd pe) h1 h2 h3 k1 k2 k3 p1 p2 (by omega) _ _ ⟨.bl _, H, I, rfl, p.val g (.bl _) q⟩
end
end DL

set_option Elab.async false
set_option linter.all false
set_option maxRecDepth 100000
set_option maxHeartbeats 4000000
namespace DL
open PySem L2
/-! ### isinstance(o, T), o of an own class, T built in: no -/
def IoOk (K : PySem.W.Frag) (cl : Nat → Addr) (cs : List Nat) : Prop := ∀ c ∈ cs, TyC K (cl c) ∧ ∀ n ∈ tyNames, PySem.W.kitOne K (.ref (cl c)) (.type n) = some false
def ioB (K : PySem.W.Frag) (cl : Nat → Addr) (cs : List Nat) : Bool := cs.all fun c => tyNames.all fun n => PySem.W.kitOne K (.ref (cl c)) (.type n) == some false
theorem ioB_ok {K : PySem.W.Frag} {cl : Nat → Addr} {cs : List Nat} (h : ioB K cl cs = true) (t : ∀ c ∈ cs, TyC K (cl c)) : IoOk K cl cs := fun c hc => ⟨t c hc, fun n hn => beq_iff_eq.mp (List.all_eq_true.mp (List.all_eq_true.mp h c hc) n hn)⟩
def isiO (cs : List Nat) : List D → Option D
  | [.obj c _ _, .ty n] => if c ∈ cs ∧ n ∈ tyNames then some (.bl false) else none
  | ds => isiF ds
theorem lc_isiO {K : PySem.W.Frag} {cl : ClW} {cs : List Nat} (ok : IoOk K cl cs) : LCall K cl (fun xs H Q => rIsi K xs H Q ∨ rIsiT K xs H Q ∨ rIsiK K xs H Q) (isiO cs) := by
  intro F H M xs ds z Q Qd g r h p q
  generalize e : ds.map (vw M) = es at h
  unfold isiO at h
  split at h
  · rename_i c ns ds' n
    split at h
    · rename_i hh
      cases h
      obtain ⟨x, y, h1, hv, hw⟩ := reps2 g r e
      obtain ⟨a, dx, vs, rfl, k1, k2, k3⟩ := hv.obj g.sub
      have t := (ok c hh.1).1
      have hy := hw.ty
      subst hy
      exact .inl ⟨_, _, _, _, false, h1, .ty n, .base (.ins k1 t.cls t.ha t.hn t.htk t.hm), (ok c hh.1).2 n hh.2, p.val g (.bl false) q⟩
    · cases h
  · subst e
    exact lc_isi F H M xs ds z Q Qd g r h p q
theorem isiO_obj {cs : List Nat} {c : Nat} {ns : List Str} {ds : List D} {n : String} (h : c ∈ cs) (hn : n ∈ tyNames) : isiO cs [.obj c ns ds, .ty n] = some (.bl false) := by
  simp only [isiO, if_pos (And.intro h hn)]
theorem isiO_ty {cs : List Nat} {d : D} {n m : String} (h : tyName d = some m) : isiO cs [d, .ty n] = isiF [d, .ty n] := by
  cases d <;> first | rfl | cases h
end DL

set_option Elab.async false
set_option linter.all false
set_option maxRecDepth 100000
set_option maxHeartbeats 4000000
namespace FL
open PySem L2 DL

/-! rows of anything: what is a row, a name, a value, a level. No program in sight. -/
def seqs : D → Option (List D)
  | .lst xs => some xs
  | .tup xs => some xs
  | _ => none
theorem seqs_it {d : D} {xs : List D} (h : seqs d = some xs) : itD d = some xs := by cases d <;> first | exact h | cases h
theorem seqs_en {d : D} {xs : List D} (h : seqs d = some xs) : enD d = some xs := by cases d <;> first | exact h | cases h
theorem seqs_ix {d : D} {xs : List D} (h : seqs d = some xs) (k : Int) : ixA d (.int k) = atI xs k := by cases d <;> first | (cases h; rfl) | cases h
theorem seqs_len {d : D} {xs : List D} (h : seqs d = some xs) : lenF [d] = some (.int xs.length) := by cases d <;> first | (cases h; rfl) | cases h
theorem seqs_tup {d : D} {xs : List D} (h : seqs d = some xs) : tupF [d] = some (.tup xs) := by cases d <;> first | (cases h; rfl) | cases h
theorem seqs_lst {d : D} {xs : List D} (h : seqs d = some xs) : lstF [d] = some (.lst xs) := by cases d <;> first | (cases h; rfl) | cases h
theorem seqs_ty {d : D} {xs : List D} (h : seqs d = some xs) : ∃ n, tyName d = some n ∧ (n == "list" || n == "tuple") = true := by
  cases d <;> first | exact ⟨_, rfl, by decide⟩ | cases h
theorem seqs_no {d : D} {n : String} (h : seqs d = none) (t : tyName d = some n) : (n == "list" || n == "tuple") = false := by
  cases d <;> first | (cases t; decide) | (cases t; done) | (cases h; done)
theorem seqs_sl {d : D} {xs : List D} (h : seqs d = some xs) (lo hi : Option Int) : ∃ e, slD d lo hi = some e ∧ seqs e = some (cutD xs lo hi) ∧ ∀ M, vw M e = e := by
  cases d <;> first | (cases h; exact ⟨_, rfl, rfl, fun _ => rfl⟩) | cases h
theorem seqs_or {d : D} {xs : List D} (h : seqs d = some xs) : d = .lst xs ∨ d = .tup xs := by cases d <;> first | (cases h; simp) | cases h
def nameC : List Nat → Bool
  | [] => false
  | c :: r => decide (r.length ≤ 7) && (isL c && r.all isS)
theorem nameC_iff {cs : List Nat} : nameC cs = true ↔ NameOk cs := by
  cases cs with
  | nil => simp [nameC, NameOk]
  | cons c r =>
    simp only [nameC, Bool.and_eq_true, decide_eq_true_eq, List.all_eq_true, NameOk]
    constructor
    · rintro ⟨h1, h2, h3⟩; exact ⟨c, r, rfl, h1, h2, h3⟩
    · rintro ⟨c', r', e, h1, h2, h3⟩; cases e; exact ⟨h1, h2, h3⟩
def nameB : D → Bool
  | .str z => nameC z.cps.toList
  | _ => false
def valB : D → Bool
  | .int i => decide (-(10 ^ 30) ≤ i) && decide (i ≤ 10 ^ 30)
  | _ => false
def levB (m : Int) : D → Bool
  | .int l => decide (0 ≤ l) && decide (l ≤ m)
  | _ => false
def hd3 (y : D) : D := match seqs y with
  | some [n, _, _] => n
  | _ => .non
def lv3 (y : D) : Int := match seqs y with
  | some [_, _, .int l] => l
  | _ => 0
def mostAt (ys : List D) (p : Nat) : Int := if p = 0 then 0 else lv3 (ys.getD (p - 1) .non) + 1
/-- the word for a row at p -/
def wordOf (ys : List D) (p : Nat) (r : D) : Option String := match seqs r with
  | some [n, v, l] => if nameB n = true then if valB v = true then if levB (mostAt ys p) l = true then if ((ys.take p).any fun y => eqFD (hd3 y) n) = true then some "twice" else none else some "level" else some "value" else some "name"
  | _ => some "row"
def wordAt (ys : List D) (p : Nat) : Option String := wordOf ys p (ys.getD p .non)
theorem wordOf_3 {ys : List D} {p : Nat} {r n v l : D} (h : seqs r = some [n, v, l]) : wordOf ys p r = if nameB n = true then if valB v = true then if levB (mostAt ys p) l = true then if ((ys.take p).any fun y => eqFD (hd3 y) n) = true then some "twice" else none else some "level" else some "value" else some "name" := by
  unfold wordOf; rw [h]
theorem wordOf_no {ys : List D} {p : Nat} {r : D} (h : seqs r = none) : wordOf ys p r = some "row" := by unfold wordOf; rw [h]
theorem wordOf_n3 {ys : List D} {p : Nat} {r : D} {l : List D} (h : seqs r = some l) (h3 : l.length ≠ 3) : wordOf ys p r = some "row" := by
  unfold wordOf
  rw [h]
  split
  · rename_i e; cases e; exact absurd rfl h3
  · rfl
def wordD : Option String → D
  | some w => .str w
  | none => .non
/-- plain data: a built-in kind, texts of a fair length -/
structure Pl (d : D) : Prop where
  ty : ∃ n, tyName d = some n
  st : ∀ z, d = .str z → z.length ≤ 1000 ∧ ∀ c ∈ z.cps.toList, c < 1114112
structure PlRow (y : D) : Prop where
  pl : Pl y
  it : ∀ l, seqs y = some l → ∀ c ∈ l, Pl c
theorem Pl.vw {d : D} (h : Pl d) (M : Mem) : DL.vw M d = d := by
  obtain ⟨n, hn⟩ := h.ty
  cases d <;> first | rfl | cases hn
/-- the first fault -/
def faultOf (ys : List D) : Option (Nat × String) := (List.range ys.length).findSome? fun p => (wordAt ys p).map fun w => (p, w)
def dueOf (y : D) : Option (Int × String) := match seqs y with
  | some xs => if 60 < xs.length then some (-1, "rows") else (faultOf xs).map fun q => ((q.1 : Int), q.2)
  | none => some (-1, "rows")
def dueD : Option (Int × String) → D
  | some (p, w) => .tup [.int p, .str w]
  | none => .non
/-- a right row, taken apart -/
theorem word_none {ys : List D} {p : Nat} (h : wordAt ys p = none) : ∃ (nm : List Nat) (va lv : Int), seqs (ys.getD p .non) = some [strD nm, .int va, .int lv] ∧ NameOk nm ∧ -(10 ^ 30) ≤ va ∧ va ≤ 10 ^ 30 ∧ 0 ≤ lv ∧ lv ≤ mostAt ys p ∧ ∀ y ∈ ys.take p, eqFD (hd3 y) (strD nm) = false := by
  unfold wordAt wordOf at h
  split at h
  · rename_i n v l hs
    by_cases h1 : nameB n = true
    · rw [if_pos h1] at h
      by_cases h2 : valB v = true
      · rw [if_pos h2] at h
        by_cases h3 : levB (mostAt ys p) l = true
        · rw [if_pos h3] at h
          by_cases h4 : ((ys.take p).any fun y => eqFD (hd3 y) n) = true
          · rw [if_pos h4] at h; cases h
          · cases n with
            | str z =>
              cases v with
              | int va =>
                cases l with
                | int lv =>
                  simp only [valB, levB, Bool.and_eq_true, decide_eq_true_eq] at h2 h3
                  have e : D.str z = strD z.cps.toList := congrArg D.str (S_of z)
                  refine ⟨z.cps.toList, va, lv, by rw [hs, e], nameC_iff.mp h1, h2.1, h2.2, h3.1, h3.2, fun y hy => ?_⟩
                  rw [← e]
                  cases hq : eqFD (hd3 y) (.str z) with
                  | false => rfl
                  | true => exact absurd (List.any_eq_true.mpr ⟨y, hy, hq⟩) h4
                | _ => simp [levB] at h3
              | _ => simp [valB] at h2
            | _ => simp [nameB] at h1
        · rw [if_neg h3] at h; cases h
      · rw [if_neg h2] at h; cases h
    · rw [if_neg h1] at h; cases h
  · cases h
def rowOf (y : D) : Row := match seqs y with
  | some [.str z, .int va, .int lv] => ⟨z.cps.toList, va, lv⟩
  | _ => ⟨[], 0, 0⟩
theorem rowOf_eq {y : D} {nm : List Nat} {va lv : Int} (h : seqs y = some [strD nm, .int va, .int lv]) : rowOf y = ⟨nm, va, lv⟩ := by
  unfold rowOf
  unfold strD S at h
  rw [h]
theorem hd3_eq {y n v l : D} (h : seqs y = some [n, v, l]) : hd3 y = n := by unfold hd3; rw [h]
theorem lv3_eq {y n v : D} {l : Int} (h : seqs y = some [n, v, .int l]) : lv3 y = l := by unfold lv3; rw [h]
/-- rows without a fault are those of a forest -/
theorem rows_fine {ys : List D} (hl : ys.length ≤ 60) (h : ∀ p < ys.length, wordAt ys p = none) : RowsOk (ys.map rowOf) ∧ ∀ y ∈ ys, seqs y = some [strD (rowOf y).nm, .int (rowOf y).va, .int (rowOf y).lv] := by
  have at_ : ∀ p (hp : p < ys.length), ∃ (nm : List Nat) (va lv : Int), seqs ys[p] = some [strD nm, .int va, .int lv] ∧ NameOk nm ∧ -(10 ^ 30) ≤ va ∧ va ≤ 10 ^ 30 ∧ 0 ≤ lv ∧ lv ≤ mostAt ys p ∧ ∀ y ∈ ys.take p, eqFD (hd3 y) (strD nm) = false := fun p hp => by
    have := word_none (h p hp)
    simpa [List.getD, hp] using this
  refine ⟨⟨by simpa using hl, ?_, ?_, ?_, ?_⟩, ?_⟩
  · intro x hx
    obtain ⟨y, hy, rfl⟩ := List.mem_map.mp hx
    obtain ⟨p, hp, rfl⟩ := List.getElem_of_mem hy
    obtain ⟨nm, va, lv, h1, h2, _⟩ := at_ p hp
    rw [rowOf_eq h1]; exact h2
  · intro x hx
    obtain ⟨y, hy, rfl⟩ := List.mem_map.mp hx
    obtain ⟨p, hp, rfl⟩ := List.getElem_of_mem hy
    obtain ⟨nm, va, lv, h1, h2, h3, h4, _⟩ := at_ p hp
    rw [rowOf_eq h1]; exact ⟨h3, h4⟩
  · rw [List.map_map, List.nodup_iff_pairwise_ne, List.pairwise_iff_getElem]
    intro i j hi hj hij
    simp only [List.length_map] at hi hj
    obtain ⟨nm, va, lv, h1, _⟩ := at_ i hi
    obtain ⟨nm', va', lv', k1, _, _, _, _, _, k⟩ := at_ j hj
    simp only [List.getElem_map, Function.comp_apply, rowOf_eq h1, rowOf_eq k1]
    have hm : ys[i] ∈ ys.take j := List.mem_take_iff_getElem.mpr ⟨i, by omega, rfl⟩
    have := k _ hm
    rw [hd3_eq h1] at this
    intro e
    subst e
    simp [strD] at this
  · intro i l e
    rw [List.map_map, List.getElem?_map] at e
    by_cases hi : i < ys.length
    · rw [List.getElem?_eq_getElem hi] at e
      obtain ⟨nm, va, lv, h1, _, _, _, h5, h6, _⟩ := at_ i hi
      simp only [Option.map_some, Function.comp_apply, rowOf_eq h1, Option.some.injEq] at e
      subst e
      refine ⟨h5, fun z => ?_, fun k z => ?_⟩
      · subst z; simp [mostAt] at h6; omega
      · subst z
        obtain ⟨nm', va', lv', k1, _⟩ := at_ k (by omega)
        refine ⟨lv', ?_, ?_⟩
        · rw [List.map_map, List.getElem?_map, List.getElem?_eq_getElem (by omega)]
          simp [rowOf_eq k1]
        · have e2 : ys.getD k .non = ys[k] := by simp [List.getD, show k < ys.length by omega]
          simp [mostAt, lv3_eq (y := ys[k]) k1, show k < ys.length by omega] at h6
          exact h6
    · rw [List.getElem?_eq_none (by omega)] at e; cases e
  · intro y hy
    obtain ⟨p, hp, rfl⟩ := List.getElem_of_mem hy
    obtain ⟨nm, va, lv, h1, _⟩ := at_ p hp
    rw [rowOf_eq h1]; exact h1
theorem fault_none {ys : List D} : faultOf ys = none ↔ ∀ p < ys.length, wordAt ys p = none := by
  unfold faultOf
  rw [List.findSome?_eq_none_iff]
  simp
theorem fault_at {ys : List D} {p : Nat} {w : String} (hp : p < ys.length) (h : ∀ q < p, wordAt ys q = none) (hw : wordAt ys p = some w) : faultOf ys = some (p, w) := by
  unfold faultOf
  obtain ⟨r, e⟩ : ∃ r, List.range ys.length = List.range p ++ p :: r := by
    refine ⟨List.range' (p + 1) (ys.length - p - 1), ?_⟩
    have e1 : ys.length = p + (1 + (ys.length - p - 1)) := by omega
    conv => lhs; rw [e1]
    rw [List.range_eq_range', List.range_eq_range', List.range'_append_1.symm, List.range'_append_1.symm]
    simp
  rw [e, List.findSome?_append]
  have : (List.range p).findSome? (fun p => (wordAt ys p).map fun w => (p, w)) = none := by
    rw [List.findSome?_eq_none_iff]
    intro q hq
    rw [h q (by simpa using hq)]; rfl
  rw [this]
  simp [hw]
/-- the fault of what is handed in, read through the memory -/
def dueM (M : Mem) (d : D) : Option (Int × String) := match seqs (vw M d) with
  | some xs => if 60 < xs.length then some (-1, "rows") else (faultOf (xs.map (vw M))).map fun q => ((q.1 : Int), q.2)
  | none => some (-1, "rows")
def rowsM (M : Mem) (d : D) : List Row := match seqs (vw M d) with
  | some xs => (xs.map (vw M)).map rowOf
  | none => []
theorem dueM_no {M : Mem} {d : D} (h : seqs (vw M d) = none) : dueM M d = some (-1, "rows") := by unfold dueM; rw [h]
theorem dueM_long {M : Mem} {d : D} {xs : List D} (h : seqs (vw M d) = some xs) (hl : 60 < xs.length) : dueM M d = some (-1, "rows") := by unfold dueM; rw [h]; simp only [if_pos hl]
theorem dueM_row {M : Mem} {d : D} {xs : List D} (h : seqs (vw M d) = some xs) (hl : xs.length ≤ 60) {p : Nat} {w : String} (hp : p < xs.length) (h1 : ∀ q < p, wordAt (xs.map (vw M)) q = none) (hw : wordAt (xs.map (vw M)) p = some w) : dueM M d = some ((p : Int), w) := by
  unfold dueM
  rw [h]
  simp only [if_neg (show ¬ 60 < xs.length by omega), fault_at (ys := xs.map (vw M)) (by simpa using hp) h1 hw]
  rfl
theorem dueM_none {M : Mem} {d : D} {xs : List D} (h : seqs (vw M d) = some xs) (hl : xs.length ≤ 60) (h1 : ∀ q < xs.length, wordAt (xs.map (vw M)) q = none) : dueM M d = none := by
  unfold dueM
  rw [h]
  simp only [if_neg (show ¬ 60 < xs.length by omega), (fault_none (ys := xs.map (vw M))).mpr (fun p hp => h1 p (by simpa using hp))]
  rfl
theorem rowsM_eq {M : Mem} {d : D} {xs : List D} (h : seqs (vw M d) = some xs) : rowsM M d = (xs.map (vw M)).map rowOf := by unfold rowsM; rw [h]
/-- what is handed in is plain, as far as it is looked at -/
structure Handed (M : Mem) (d : D) : Prop where
  ty : ∃ n, tyName (vw M d) = some n
  rows : ∀ xs, seqs (vw M d) = some xs → xs.length ≤ 60 → ∀ y ∈ xs, PlRow (vw M y)
/-! ### comprehensions under a guard, by a function -/
theorem lcG_fn {C : Mem → Prop} {γ : DTG} {υ : DTT} {τ : DTE} {vs : List Nat} {a : Addr} {Q : DV} {ρ : DL.Env} {M : Mem} (f : D → Option D) (xs : List D) (hl : xs.length ≤ 16777216) (hM : M a = none) (hC : ∀ M1, (∀ b, b ≠ a → M1 b = M b) → C M1)
    (step : ∀ x ∈ xs, ∀ (M1 : Mem) (T : Option D → Mem → Prop), (∀ b, b ≠ a → M1 b = M b) → T (f x) M1 → γ x (wipeD ρ vs) M1 (fun ρ2 M2 => υ ρ2 M2 (fun b M3 => if b = true then τ ρ2 M3 (fun d M4 => T (some d) M4) noX else T none M3) noX) noX)
    (q : Q (.lst (xs.filterMap f)) M) : lcG C γ υ τ vs a xs ρ (updM M a (.lst [])) (endF a Q) := by
  have far : ∀ (d : D) b, b ≠ a → updM M a d b = M b := fun d b hb => updM_ne hb
  refine lcG_run xs (fun done acc M1 => acc = done.filterMap f ∧ M1 = updM M a (.lst acc)) ?_ ?_ ⟨rfl, rfl⟩
  · rintro done x rest acc M1 Nx e ha ⟨rfl, rfl⟩ nx
    have hx : x ∈ xs := by rw [e]; simp
    have hlen : (done.filterMap f).length < sizeLine := by
      have h1 := List.length_filterMap_le f done
      have h2 : done.length < xs.length := by rw [e]; simp
      rw [size_line]; omega
    refine ⟨hC _ (far _), step x hx _ (fun o M' => match o with
      | some d => ∃ acc, M' a = some (.lst acc) ∧ acc.length < sizeLine ∧ Nx (updM M' a (.lst (acc ++ [d])))
      | none => Nx M') (far _) ?_⟩
    cases hf : f x with
    | none => exact nx _ _ updM_same ⟨by simp [hf], by simp [hf]⟩
    | some d => exact ⟨_, updM_same, hlen, nx _ _ updM_same ⟨by simp [hf], by simp [hf, updM_updM]⟩⟩
  · rintro acc M1 ha ⟨rfl, rfl⟩
    exact ⟨hC _ (far _), _, updM_same, by rw [delM_updM hM]; exact q⟩
theorem dcG_fn {C : Mem → Prop} {γ : DTG} {υ : DTT} {τk τv : DTE} {vs : List Nat} {a : Addr} {Q : DV} {ρ : DL.Env} {M : Mem} (kf vf : D → D) (kk : D → Key) (xs : List D) (hl : xs.length ≤ 16777216) (hM : M a = none) (hC : ∀ M1, (∀ b, b ≠ a → M1 b = M b) → C M1) (hnd : (xs.map kk).Nodup) (hk : ∀ x ∈ xs, keyD (kf x) = some (kk x))
    (step : ∀ x ∈ xs, ∀ (M1 : Mem) (T : D → D → Mem → Prop) (N : Mem → Prop), (∀ b, b ≠ a → M1 b = M b) → T (kf x) (vf x) M1 → γ x (wipeD ρ vs) M1 (fun ρ2 M2 => υ ρ2 M2 (fun b M3 => if b = true then τk ρ2 M3 (fun kd M4 => τv ρ2 M4 (fun d M5 => T kd d M5) noX) noX else N M3) noX) noX)
    (q : Q (.dK (xs.map kk) (xs.map vf)) M) : dcG C γ υ τk τv vs a xs ρ (updM M a (.dK [] [])) Q := by
  have far : ∀ (d : D) b, b ≠ a → updM M a d b = M b := fun d b hb => updM_ne hb
  have go : ∀ (rest done : List D), xs = done ++ rest → dcG C γ υ τk τv vs a rest ρ (updM M a (.dK (done.map kk) (done.map vf))) Q := by
    intro rest
    induction rest with
    | nil =>
      intro done e
      rw [List.append_nil] at e
      subst e
      exact ⟨hC _ (far _), _, _, updM_same, by rw [delM_updM hM]; exact q⟩
    | cons x rest ih =>
      intro done e
      have hx : x ∈ xs := by rw [e]; simp
      refine ⟨hC _ (far _), step x hx _ (fun kd d M5 => ∃ k ks ds, keyD kd = some k ∧ M5 a = some (.dK ks ds) ∧ ks.length < sizeLine ∧ dcG C γ υ τk τv vs a rest ρ (updM M5 a (.dK (putKs k ks) (putVs k d ks ds))) Q) _ (far _) ?_⟩
      have hnk : ((done.map kk).any fun j => decide (j = kk x)) = false := by
        rw [e, List.map_append, List.map_cons] at hnd
        have h3 := (List.nodup_append.mp hnd).2.2
        rw [List.any_eq_false]
        intro z hz
        have := h3 z hz (kk x) (by simp)
        simpa using this
      refine ⟨kk x, _, _, hk x hx, updM_same, ?_, ?_⟩
      · have h2 : done.length < xs.length := by rw [e]; simp
        simp; omega
      · have h5 := ih (done ++ [x]) (by rw [e, List.append_assoc]; rfl)
        rw [updM_updM]
        unfold putKs putVs
        rw [hnk]
        simpa using h5
  exact go xs [] rfl
theorem vw_obj' {M : Mem} {x : Addr} {c : Nat} {ns : List Str} {ds : List D} {o y : D} {l : List D} (hx : M x = some (.obj c ns ds)) (h : seqs (vw M y) = some l) : vw (updM M x o) y = vw M y := by
  cases y with
  | ref b =>
    have hb : b ≠ x := fun z => by
      subst z
      rw [vw_ref hx] at h; cases h
    show (updM M x o b).getD _ = (M b).getD _
    rw [updM_ne hb]
  | _ => rfl
/-! ### plain parts -/
mutual
theorem plX_mono : ∀ (n m : Nat) (d : D), plX n d = true → n ≤ m → plX m d = true
  | _, m, .non, _, _ => by cases m <;> simp [plX]
  | _, m, .bl _, _, _ => by cases m <;> simp [plX]
  | _, m, .int _, _, _ => by cases m <;> simp [plX]
  | _, m, .str _, _, _ => by cases m <;> simp [plX]
  | n + 1, m + 1, .lst xs, h, l => by simp only [plX] at h ⊢; exact plXs_mono n m xs h (by omega)
  | n + 1, m + 1, .tup xs, h, l => by simp only [plX] at h ⊢; exact plXs_mono n m xs h (by omega)
  | n + 1, m + 1, .dK ks ds, h, l => by
    simp only [plX, Bool.and_eq_true] at h ⊢
    exact ⟨h.1, plXs_mono n m ds h.2 (by omega)⟩
  | n + 1, 0, .lst _, _, l => by omega
  | n + 1, 0, .tup _, _, l => by omega
  | n + 1, 0, .dK _ _, _, l => by omega
  | 0, _, .lst _, h, _ => by simp [plX] at h
  | 0, _, .tup _, h, _ => by simp [plX] at h
  | 0, _, .dK _ _, h, _ => by simp [plX] at h
  | _, _, .byt _, h, _ => by simp [plX] at h
  | _, _, .ty _, h, _ => by simp [plX] at h
  | _, _, .ref _, h, _ => by simp [plX] at h
  | _, _, .dT _ _, h, _ => by simp [plX] at h
  | _, _, .obj _ _ _, h, _ => by simp [plX] at h
  | _, _, .cls _, h, _ => by simp [plX] at h
  | _, _, .exc _ _ _ _ _, h, _ => by simp [plX] at h
theorem plXs_mono : ∀ (n m : Nat) (ds : List D), plXs n ds = true → n ≤ m → plXs m ds = true
  | _, _, [], _, _ => by simp [plXs]
  | n, m, d :: ds, h, l => by
    simp only [plXs, Bool.and_eq_true] at h ⊢
    exact ⟨plX_mono n m d h.1 l, plXs_mono n m ds h.2 l⟩
end
theorem pl_of {d : D} {n : String} (h : tyName d = some n) (hs : ∀ z, d ≠ .str z) : Pl d := ⟨⟨n, h⟩, fun z e => absurd e (hs z)⟩
theorem pl_lit (z : String) (h1 : (Str.ofString z).length ≤ 1000) (h2 : (Str.ofString z).cps.toList.all (fun c => decide (c < 1114112)) = true) : Pl (.str z) := ⟨⟨_, rfl⟩, fun w e => by
  cases e
  exact ⟨h1, fun c hc => by simpa using List.all_eq_true.mp h2 c hc⟩⟩
theorem pl_name {x : List Nat} (h : NameOk x) (k : List Nat) (hk : k.length ≤ 10) (hk2 : ∀ c ∈ k, c < 1114112) : Pl (strD (x ++ k)) := ⟨⟨_, rfl⟩, fun w e => by
  cases e
  have := h.len
  refine ⟨by simp; omega, fun c hc => ?_⟩
  simp [S] at hc
  rcases hc with hc | hc
  · exact isS_lt (h.all c hc)
  · exact hk2 c hc⟩
theorem pl_nm {x : List Nat} (h : NameOk x) : Pl (strD x) := by simpa using pl_name h [] (by simp) (by simp)
/-- a part of a row: plain, not deep -/
def OddC (c : D) : Prop := Pl c ∧ plX 1 c = true
def OddR (y : D) : Prop := PlRow y ∧ plX 3 y = true
theorem oddC_flat {c : D} (h : Pl c) (f : plX 0 c = true) : OddC c := ⟨h, plX_mono 0 1 c f (by omega)⟩
theorem oddR_tup {l : List D} (h : ∀ c ∈ l, OddC c) : OddR (.tup l) := ⟨⟨pl_of rfl (by simp), fun l' e c hc => by cases e; exact (h c hc).1⟩, by
  simp only [plX]
  exact plXs_all.mpr fun d hd => plX_mono 1 2 d (h d hd).2 (by omega)⟩
theorem oddR_lst {l : List D} (h : ∀ c ∈ l, OddC c) : OddR (.lst l) := ⟨⟨pl_of rfl (by simp), fun l' e c hc => by cases e; exact (h c hc).1⟩, by
  simp only [plX]
  exact plXs_all.mpr fun d hd => plX_mono 1 2 d (h d hd).2 (by omega)⟩
theorem oddR_flat {c : D} (h : Pl c) (f : plX 0 c = true) (hs : seqs c = none) : OddR c := ⟨⟨h, fun l e => by rw [hs] at e; cases e⟩, plX_mono 0 3 c f (by omega)⟩
theorem oddC_int (i : Int) : OddC (.int i) := oddC_flat (pl_of rfl (by simp)) rfl
theorem oddC_nm {x : List Nat} (h : NameOk x) : OddC (strD x) := oddC_flat (pl_nm h) rfl
theorem dueM_keep {M M' : Mem} {d : D} (k : Keep M M') (h1 : ∀ a, d = .ref a → (M a).isSome) (h2 : ∀ xs, seqs (vw M d) = some xs → ∀ y ∈ xs, ∀ a, y = .ref a → (M a).isSome) : dueM M' d = dueM M d ∧ rowsM M' d = rowsM M d := by
  have hv := k.vw h1
  cases hs : seqs (vw M d) with
  | none => rw [dueM_no hs, dueM_no (by rw [hv]; exact hs)]; simp [rowsM, hv, hs]
  | some xs =>
    have e : xs.map (vw M') = xs.map (vw M) := List.map_congr_left fun y hy => k.vw (h2 xs hs y hy)
    unfold dueM rowsM
    rw [hv, hs]
    constructor <;> simp only [e]
theorem handed_keep {M M' : Mem} {d : D} (h : Handed M d) (k : Keep M M') (h1 : ∀ a, d = .ref a → (M a).isSome) (h2 : ∀ xs, seqs (vw M d) = some xs → ∀ y ∈ xs, ∀ a, y = .ref a → (M a).isSome) : Handed M' d := by
  have hv := k.vw h1
  refine ⟨by rw [hv]; exact h.ty, fun xs hs hl y hy => ?_⟩
  rw [hv] at hs
  rw [k.vw (h2 xs hs y hy)]
  exact h.rows xs hs hl y hy
/-- one way of several, taken by a number in a slot -/
theorem way_ret {E : DEnds} {ρ : DL.Env} {M : Mem} {i : Nat} {way k : Int} {τ : DTE} {u : DTS} (h8 : ρ[i]? = some (some (.int way))) (ha : way = k → τ ρ M E.rt E.ex) (hb : way ≠ k → u E ρ M) : dSeq (dIf (dTest (dOp eqD (dVar i) (dC (.int k)))) (dRet τ) dNext) u E ρ M := by
  refine ⟨_, h8, .bl (way == k), rfl, _, rfl, ?_⟩
  by_cases e : way = k
  · subst e
    rw [beq_self_eq_true]
    exact ha rfl
  · rw [beq_false_of_ne e]
    exact hb e
end FL

set_option Elab.async false
set_option linter.all false
set_option maxRecDepth 100000
set_option maxHeartbeats 4000000
namespace DL
open PySem L2
/-! ### a text times a number -/
def repS (x : Str) (n : Nat) : Str := ⟨((List.replicate n x.cps.toList).flatten).toArray⟩
theorem fold_app (x : Array Nat) : ∀ (n : Nat) (acc : Array Nat), (List.replicate n x).foldl (· ++ ·) acc = acc ++ ((List.replicate n x.toList).flatten).toArray
  | 0, acc => by simp
  | n + 1, acc => by
    rw [List.replicate_succ, List.foldl_cons, fold_app x n, List.replicate_succ, List.flatten_cons, Array.append_assoc]
    congr 1
    apply Array.ext'
    simp
def rMulS : R2 := fun x y H Q => ∃ z n, x = .str z ∧ y = .int n ∧ 0 ≤ n ∧ n ≤ 1000 ∧ z.length ≤ 1000 ∧ Q (.str (repS z n.toNat)) H
section
variable {X : Cx} {cl : ClW}
theorem op_mulS : OpR X (binaryOp .Mult) rMulS := by
  intro pins s σ H x y v u Q I rx ry h
  obtain ⟨z, n, rfl, rfl, n0, n1, hl, q⟩ := h
  obtain ⟨t, rfl⟩ := rx
  obtain ⟨t2, rfl⟩ := ry
  have hm : z.length * n.toNat ≤ 1000 * 1000 := Nat.mul_le_mul hl (by omega)
  refine P.mul_str ?_ (fun h1 _ => ?_) (fun _ _ => ?_) ?_
  · rw [decide_eq_false (by omega), decide_eq_false (by omega)]; rfl
  · have hn : 0 < n := by omega
    intro hc
    have h3 := Int.ediv_lt_iff_lt_mul hn |>.mp hc
    have : (z.length : Int) * n ≤ 1000 * 1000 := by
      have e : (n : Int) = (n.toNat : Int) := by omega
      rw [e]; exact_mod_cast hm
    omega
  · unfold Builtin.Str.tooLong
    exact decide_eq_false (by rw [sizeLine_eq]; omega)
  · by_cases h1 : n < 1
    · have e : n = 0 := by omega
      subst e
      rw [if_pos h1]
      refine ⟨by decide, ?_⟩
      exact ⟨.str (repS z 0), H, I.kept (t' := s.toks + 1) fun _ _ e => e, ⟨s.toks, rfl⟩, q⟩
    · rw [if_neg h1]
      by_cases h2 : (n == 1 || z.length == 0) = true
      · rw [if_pos h2]
        have e : repS z n.toNat = z := by
          rw [Bool.or_eq_true] at h2
          rcases h2 with h2 | h2
          · have : n = 1 := by simpa using h2
            subst this
            simp [repS]
          · have : z.cps.size = 0 := by simpa [Str.length] using h2
            have e2 : z.cps = #[] := Array.eq_empty_of_size_eq_zero this
            obtain ⟨c⟩ := z
            simp only at e2
            subst e2
            simp [repS]
        rw [e] at q
        exact ⟨.str z, H, I, ⟨t, rfl⟩, q⟩
      · rw [if_neg h2]
        have e : (⟨(List.replicate n.toNat z.cps).foldl (· ++ ·) #[]⟩ : Str) = repS z n.toNat := by rw [fold_app]; simp [repS]
        rw [e]
        refine ⟨?_, ⟨.str (repS z n.toNat), H, I.kept (t' := s.toks + 1) fun _ _ e => e, ⟨s.toks, rfl⟩, q⟩⟩
        have e3 : (repS z n.toNat).length = n.toNat * z.length := by simp [repS, Str.length]
        rw [e3, size_line, Nat.mul_comm]
        omega
def mulSD : D → D → Option D
  | .str z, .int n => if 0 ≤ n ∧ n ≤ 1000 ∧ z.length ≤ 1000 then some (.str (repS z n.toNat)) else none
  | _, _ => none
theorem lop_mulS {K : PySem.W.Frag} : LOp K cl rMulS mulSD := by
  intro F H M x y d e z Q Qd g hx hy h p q
  cases d with
  | str w =>
    cases e with
    | int n =>
      simp only [mulSD] at h
      split at h
      · rename_i hh
        cases h
        obtain rfl := hx.str
        obtain rfl := hy.int
        exact ⟨w, n, rfl, rfl, hh.1, hh.2.1, hh.2.2, p.val g (.str _) q⟩
      · cases h
    | _ => cases h
  | _ => cases h
end
/-! ### {k: v, ..} with different keys -/
def dPairs : List (DTE × DTE) → DL.Env → Mem → (List (D × D) → Mem → Prop) → DX → Prop
  | [] => fun _ M Q _ => Q [] M
  | (τk, τv) :: r => fun ρ M Q X => τk ρ M (fun d M1 => τv ρ M1 (fun e M2 => dPairs r ρ M2 (fun ps M3 => Q ((d, e) :: ps) M3) X) X) X
def dDisp (prs : List (DTE × DTE)) : DTE := fun ρ M Q X => ∀ p, M p = none → dPairs prs ρ (updM M p (.dK [] [])) (fun ps M2 => ∃ (ks : List Key) (ds : List D), ps.map (fun q => keyD q.1) = ks.map some ∧ ps.map (·.2) = ds ∧ ks.Nodup ∧ ks.length ≤ 15 ∧ M2 p = some (.dK [] []) ∧ Q (.dK ks ds) (delM M2 p)) X
section
variable {X : Cx} {cl : ClW} {W : WX} {pos : Pos}
structure DPs (cl : ClW) (X : Cx) (W : WX) (pos : Pos) (keys : List (Option Expr)) (values : List Expr) (prs : List (DTE × DTE)) : Prop where
  pps : PPs X pos keys values (prs.map fun q => (lowE X.K cl W q.1, lowE X.K cl W q.2))
theorem dps_nil : DPs cl X W pos [] [] [] := ⟨pps_nil⟩
theorem dps_cons {k v : Expr} {ks : List (Option Expr)} {vs : List Expr} {τk τv : DTE} {prs : List (DTE × DTE)} (hk : DE cl X W k τk) (hv : DE cl X W v τv) (hr : DPs cl X W pos ks vs prs) : DPs cl X W pos (some k :: ks) (v :: vs) ((τk, τv) :: prs) := ⟨pps_cons hk.pe hv.pe hr.pps⟩
inductive Pairs2 (K : PySem.W.Frag) (cl : ClW) (F : Hp) : List (V × V) → List (D × D) → Prop
  | nil : Pairs2 K cl F [] []
  | cons {x y : V} {d e : D} {ps : List (V × V)} {qs : List (D × D)} : Rep K cl F x d → Rep K cl F y e → Pairs2 K cl F ps qs → Pairs2 K cl F ((x, y) :: ps) ((d, e) :: qs)
theorem pairs_low {K : PySem.W.Frag} {σ : St} : ∀ (prs : List (DTE × DTE)) {F H : Hp} {ρ : DL.Env} {M : Mem} {Q : List (V × V) → Hp → Prop} {Qd : List (D × D) → Mem → Prop} {Xd : DX}, Good K cl F H M → Slots K cl F σ ρ → dPairs prs ρ M Qd Xd →
    (∀ ps qs H' F' M', Same F F' → Good K cl F' H' M' → Pairs2 K cl F' ps qs → Qd qs M' → Q ps H') → WOk K cl W F Xd → tPairs (prs.map fun q => (lowE K cl W q.1, lowE K cl W q.2)) σ H Q
  | [], F, H, ρ, M, Q, Qd, Xd, g, s, q, p, w => p [] [] H F M (Same.refl F) g .nil q
  | (τk, τv) :: prs, F, H, ρ, M, Q, Qd, Xd, g, s, q, p, w => by
    refine ⟨F, ρ, M, _, Xd, g, s, q, fun v H1 F1 d M1 sm1 g1 r1 q1 => ?_, w⟩
    refine ⟨F1, ρ, M1, _, Xd, g1, s.mono sm1, q1, fun u H2 F2 e M2 sm2 g2 r2 q2 => ?_, w.mono sm1⟩
    exact pairs_low prs g2 (s.mono (sm1.trans sm2)) q2 (fun ps qs H3 F3 M3 sm3 g3 r3 q3 => p _ _ H3 F3 M3 ((sm1.trans sm2).trans sm3) g3 (.cons (r1.mono (sm2.trans sm3)) (r2.mono sm3) r3) q3) (w.mono (sm1.trans sm2))
theorem pairs2_split {K : PySem.W.Frag} {F H : Hp} : ∀ {ps : List (V × V)} {qs : List (D × D)} {ks : List Key}, Pairs2 K cl F ps qs → qs.map (fun q => keyD q.1) = ks.map some → ∃ vs, ps = (ks.zip vs).map (fun kv => (L2.kV kv.1, kv.2)) ∧ ks.length = vs.length ∧ Reps K cl F vs (qs.map (·.2))
  | _, _, [], .nil, _ => ⟨[], rfl, rfl, .nil⟩
  | _, _, k :: ks, .nil, e => by cases e
  | _, _, [], .cons _ _ _, e => by cases e
  | _, _, k :: ks, .cons r1 r2 r, e => by
    simp only [List.map_cons, List.cons.injEq] at e
    obtain ⟨vs, h1, h2, h3⟩ := pairs2_split (H := H) r e.2
    have hk := key_rep (H := H) (.inl r1) e.1
    exact ⟨_ :: vs, by rw [h1, hk]; rfl, by simp [h2], .cons r2 h3⟩
theorem merge_nd : ∀ (more acc : List (Key × V)), ((acc ++ more).map (·.1)).Nodup → mergeK acc more = acc ++ more
  | [], acc, _ => by simp [mergeK]
  | (k, v) :: more, acc, h => by
    have hk : (acc.any fun kv => decide (kv.1 = k)) = false := by
      rw [List.any_eq_false]
      intro q hq
      rw [List.map_append, List.nodup_append] at h
      have := h.2.2 q.1 (List.mem_map_of_mem hq) k (by simp)
      simpa using this
    have e : putK acc k v = acc ++ [(k, v)] := by unfold putK; rw [hk]; simp
    show mergeK (putK acc k v) more = _
    rw [e, merge_nd more (acc ++ [(k, v)]) (by simpa using h)]
    simp
theorem d_disp {keys : List (Option Expr)} {values : List Expr} {prs : List (DTE × DTE)} (h : DPs cl X W pos keys values prs) (hall : keys.all (·.isSome) = true := by rfl) (hl : keys.length = values.length := by rfl) (h0 : keys ≠ [] := by simp) (h15 : keys.length ≤ 15 := by simp) : DE cl X W (.Dict keys values pos) (dDisp prs) :=
  ⟨pe_imp (pe_disp h.pps hall hl h0 h15) fun σ H Q ⟨F, ρ, M, Qd, Xd, g, s, q, p, w⟩ a ha => by
    have g1 : Good X.K cl F (upd H a (.dK [])) (updM M a (.dK [] [])) := g.newM (d := .dK [] []) ha ⟨[], upd_same, rfl, .nil⟩
    refine pairs_low prs g1 s (q a (g.freshM ha)) (fun ps qs H2 F2 M2 sm2 g2 r2 q2 => ?_) w
    obtain ⟨ks, ds, e1, e2, nd, l15, hM, q2⟩ := q2
    subst e2
    obtain ⟨hF, vs0, hH, _, _⟩ := g2.cell a _ hM
    obtain ⟨vs, rfl, hlen, rv⟩ := pairs2_split (H := H2) r2 e1
    have hz : (ks.zip vs).length ≤ 15 := by rw [List.length_zip]; omega
    refine ⟨by simpa using hH, ks.zip vs, rfl, hz, ?_⟩
    have nd2 : ((([] : List (Key × V)) ++ ks.zip vs).map (·.1)).Nodup := by
      have : (ks.zip vs).map (·.1) = ks := List.map_fst_zip (by omega)
      simpa [this] using nd
    rw [merge_nd _ _ nd2, List.nil_append]
    have g3 := g2.put (o := .dK (ks.zip vs)) (d := .dK ks (qs.map (·.2))) hM ⟨vs, upd_same, hlen, rv⟩
    obtain ⟨F4, sm4, g4, r4⟩ := g3.freeze updM_same
    refine p _ _ F4 _ _ (sm2.trans sm4) g4 r4 ?_
    have e : delM (updM M2 a (.dK ks (qs.map (·.2)))) a = delM M2 a := by
      funext b
      by_cases hb : b = a
      · subst hb; rw [delM_same, delM_same]
      · rw [delM_ne hb, delM_ne hb, updM_ne hb]
    rw [e]; exact q2⟩
end
end DL

set_option Elab.async false
set_option linter.all false
set_option maxRecDepth 100000
set_option maxHeartbeats 4000000
namespace DL
open PySem L2

/-! ### comprehensions of two walks -/
def lc2G (C : Mem → Prop) (γ : DTG) (υ : DTT) (ι1 : DTIg) (γ1 : DTG) (υ1 : DTT) (τ : DTE) (vs vs1 : List Nat) (a : Addr) : List D → DL.Env → Mem → (Mem → Prop) → Prop
  | [] => fun _ M R => C M ∧ R M
  | x :: xs => fun ρ M R => C M ∧ γ x (wipeD ρ vs) M (fun ρ2 M2 => υ ρ2 M2 (fun b M3 => if b = true then ι1 ρ2 M3 (fun C1 ys M4 => lcG C1 γ1 υ1 τ vs1 a ys ρ2 M4 (fun M5 => lc2G C γ υ ι1 γ1 υ1 τ vs vs1 a xs ρ M5 R)) noX else lc2G C γ υ ι1 γ1 υ1 τ vs vs1 a xs ρ M3 R) noX) noX
def dLc2 (ι : DTIg) (γ : DTG) (υ : DTT) (ι1 : DTIg) (γ1 : DTG) (υ1 : DTT) (τ : DTE) (vs vs1 : List Nat) : DTE := fun ρ M Q X => ι ρ M (fun C xs M1 => ∀ a, M1 a = none → lc2G C γ υ ι1 γ1 υ1 τ vs vs1 a xs ρ (updM M1 a (.lst [])) (endF a Q)) X
def dLc2M (ι : DTIg) (γ : DTG) (υ : DTT) (ι1 : DTIg) (γ1 : DTG) (υ1 : DTT) (τ : DTE) (vs vs1 : List Nat) : DTE := fun ρ M Q X => ι ρ M (fun C xs M1 => ∀ a, M1 a = none → lc2G C γ υ ι1 γ1 υ1 τ vs vs1 a xs ρ (updM M1 a (.lst [])) (endM a Q)) X
section
variable {cl : ClW} {X : Cx} {W : WX} {elt tg iter tg1 iter1 : Expr} {ifs ifs1 : List Expr} {scope : Scope} {own : List (Str × Nat)} {vs1 : List Nat} {pos : Pos} {ι ι1 : DTIg} {is is1 : List Nat} {γ γ1 : DTG} {υ υ1 : DTT} {τ : DTE}
/-- the inner walk -/
theorem lcG_in {K : PySem.W.Frag} (his : ∀ i ∈ is1, i ∈ vs1) {σ : St} {a : Addr} {J : It} {H : Hp} {F : Hp} {C : Mem → Prop} {xs : List D} {ρ : DL.Env} {M : Mem} {R : Mem → Prop} {Nx : Hp → Prop} (g : Good K cl F H M) (s : Slots K cl F σ ρ) (wk : WalksG K cl J F C xs)
    (q : lcG C γ1 υ1 τ vs1 a xs ρ M R) (p : ∀ H' F' M', Same F F' → Good K cl F' H' M' → R M' → Nx H') :
    ∃ W1 : Nat → Nat → Hp → Prop, (∃ m, W1 0 m H) ∧ ∀ j k H, W1 j k H →
      (J.stop j H ∧ Nx H) ∨ (J.go j H ∧ ∃ Nx1 : Hp → Prop, (∀ H', Nx1 H' → ∃ k', k' < k ∧ W1 (j + 1) k' H') ∧ ∀ x H', J.yld j H x H' →
        (fun v σ H Q => ∃ F ρ M d Qd Xd, Good K cl F H M ∧ Slots K cl F σ ρ ∧ Rep K cl F v d ∧ γ1 d ρ M Qd Xd ∧ (∀ σ' H' F' ρ' M', Same F F' → Good K cl F' H' M' → Slots K cl F' σ' ρ' → (∀ vs : List Nat, (∀ i ∈ is1, i ∈ vs) → wipe σ' vs = wipe σ vs) → Qd ρ' M' → Q σ' H') ∧ WOk K cl W0 F Xd : TG) x (wipe σ vs1) H' fun σ3 H5 => wipe σ3 vs1 = wipe σ vs1 ∧ lowT K cl W0 υ1 σ3 H5 fun b H6 =>
        if b = true then lowE K cl W0 τ σ3 H6 fun y H7 => ∃ acc, H7 a = some (.lst acc) ∧ acc.length < sizeLine ∧ Nx1 (upd H7 a (.lst (acc ++ [y]))) else Nx1 H6) := by
  refine ⟨fun i m H => m = xs.length - i ∧ i ≤ xs.length ∧ ∃ F' M, Same F F' ∧ Good K cl F' H M ∧ lcG C γ1 υ1 τ vs1 a (xs.drop i) ρ M R, ⟨xs.length, by simp, Nat.zero_le _, F, M, Same.refl F, g, by simpa using q⟩, ?_⟩
  rintro i m H2 ⟨rfl, hi, F2, M2, sm2, g2, q2⟩
  by_cases hlt : i < xs.length
  · rw [List.drop_eq_getElem_cons hlt] at q2
    unfold lcG at q2
    obtain ⟨hC, q2⟩ := q2
    obtain ⟨go, yl⟩ := (wk i F2 H2 M2 sm2 g2 hC).1 xs[i] (by simp [hlt])
    refine .inr ⟨go, fun H' => ∃ F' M', Same F F' ∧ Good K cl F' H' M' ∧ lcG C γ1 υ1 τ vs1 a (xs.drop (i + 1)) ρ M' R, fun H' n => ⟨xs.length - (i + 1), by omega, rfl, hlt, n⟩, fun x H3 y => ?_⟩
    obtain ⟨F3, sm3, g3, r3⟩ := yl x H3 y
    refine ⟨F3, wipeD ρ vs1, M2, xs[i], _, noX, g3, (s.mono (sm2.trans sm3)).wipe _, r3, q2, fun σ4 H4 F4 ρ4 M4 sm4 g4 s4 w4 q4 => ⟨?_, ?_⟩, wok0⟩
    · rw [w4 _ his]
      exact wipe_idem _ _ _ fun _ h => h
    · refine ⟨F4, ρ4, M4, _, noX, g4, s4, q4, fun k H5 F5 M5 sm5 g5 q5 => ?_, wok0⟩
      cases k with
      | true =>
        rw [if_pos rfl] at q5 ⊢
        refine ⟨F5, ρ4, M5, _, noX, g5, s4.mono sm5, q5, fun y2 H6 F6 d M6 sm6 g6 r6 q6 => ?_, wok0⟩
        obtain ⟨acc, e1, e2, q6⟩ := q6
        obtain ⟨hF, vs, h1, h2⟩ := g6.cell a _ e1
        refine ⟨vs, h1, by rw [h2.length]; exact e2, F6, _, (((sm2.trans sm3).trans sm4).trans sm5).trans sm6, g6.put (d := .lst (acc ++ [d])) e1 ⟨vs ++ [y2], upd_same, h2.append (.one r6)⟩, q6⟩
      | false =>
        rw [if_neg Bool.false_ne_true] at q5 ⊢
        exact ⟨F5, M5, ((sm2.trans sm3).trans sm4).trans sm5, g5, q5⟩
  · have e : i = xs.length := by omega
    subst e
    rw [List.drop_length] at q2
    unfold lcG at q2
    exact .inl ⟨(wk _ F2 H2 M2 sm2 g2 q2.1).2 (Nat.le_refl _), p _ _ _ sm2 g2 q2.2⟩
theorem lc2_lift {K : PySem.W.Frag} (his : ∀ i ∈ is, i ∈ own.map (·.2)) (his1 : ∀ i ∈ is1, i ∈ vs1) {σ : St} {H : Hp} {Q : VK} {F : Hp} {ρ : DL.Env} {M : Mem} {Xd : DX} (R : Addr → Mem → Prop) (g : Good K cl F H M) (s : Slots K cl F σ ρ)
    (q : ι ρ M (fun C xs M1 => ∀ a, M1 a = none → lc2G C γ υ ι1 γ1 υ1 τ (own.map (·.2)) vs1 a xs ρ (updM M1 a (.lst [])) (R a)) Xd) (p : ∀ a H' F' M', Same F F' → Good K cl F' H' M' → R a M' → Q (.ref a) H') (w : WOk K cl W F Xd) :
    tLc2 (fun σ H R => ∃ F ρ M Rd Xd, Good K cl F H M ∧ Slots K cl F σ ρ ∧ ι ρ M Rd Xd ∧ (∀ J H' F' C xs M', Same F F' → Good K cl F' H' M' → WalksG K cl J F' C xs → Rd C xs M' → R J H') ∧ WOk K cl W F Xd)
      (fun v σ H Q => ∃ F ρ M d Qd Xd, Good K cl F H M ∧ Slots K cl F σ ρ ∧ Rep K cl F v d ∧ γ d ρ M Qd Xd ∧ (∀ σ' H' F' ρ' M', Same F F' → Good K cl F' H' M' → Slots K cl F' σ' ρ' → (∀ vs : List Nat, (∀ i ∈ is, i ∈ vs) → wipe σ' vs = wipe σ vs) → Qd ρ' M' → Q σ' H') ∧ WOk K cl W0 F Xd)
      (lowT K cl W0 υ)
      (fun σ H R => ∃ F ρ M Rd Xd, Good K cl F H M ∧ Slots K cl F σ ρ ∧ ι1 ρ M Rd Xd ∧ (∀ J H' F' C xs M', Same F F' → Good K cl F' H' M' → WalksG K cl J F' C xs → Rd C xs M' → R J H') ∧ WOk K cl W0 F Xd)
      (fun v σ H Q => ∃ F ρ M d Qd Xd, Good K cl F H M ∧ Slots K cl F σ ρ ∧ Rep K cl F v d ∧ γ1 d ρ M Qd Xd ∧ (∀ σ' H' F' ρ' M', Same F F' → Good K cl F' H' M' → Slots K cl F' σ' ρ' → (∀ vs : List Nat, (∀ i ∈ is1, i ∈ vs) → wipe σ' vs = wipe σ vs) → Qd ρ' M' → Q σ' H') ∧ WOk K cl W0 F Xd)
      (lowT K cl W0 υ1) (lowE K cl W0 τ) (own.map (·.2)) vs1 σ H Q := by
  refine ⟨F, ρ, M, _, Xd, g, s, q, fun J H1 F1 C xs M1 sm1 g1 wk q1 a hD => ?_, w⟩
  refine ⟨fun i m H => m = xs.length - i ∧ i ≤ xs.length ∧ ∃ F' M, Same F1 F' ∧ Good K cl F' H M ∧ lc2G C γ υ ι1 γ1 υ1 τ (own.map (·.2)) vs1 a (xs.drop i) ρ M (R a),
    ⟨xs.length, by simp, Nat.zero_le _, F1, updM M1 a (.lst []), Same.refl F1, g1.newM (d := .lst []) hD ⟨[], upd_same, .nil⟩, by simpa using q1 a (g1.freshM hD)⟩, ?_⟩
  rintro i m H2 ⟨rfl, hi, F2, M2, sm2, g2, q2⟩
  by_cases hlt : i < xs.length
  · rw [List.drop_eq_getElem_cons hlt] at q2
    unfold lc2G at q2
    obtain ⟨hC, q2⟩ := q2
    obtain ⟨go, yl⟩ := (wk i F2 H2 M2 sm2 g2 hC).1 xs[i] (by simp [hlt])
    refine .inr ⟨go, fun H' => ∃ F' M', Same F1 F' ∧ Good K cl F' H' M' ∧ lc2G C γ υ ι1 γ1 υ1 τ (own.map (·.2)) vs1 a (xs.drop (i + 1)) ρ M' (R a), fun H' n => ⟨xs.length - (i + 1), by omega, rfl, hlt, n⟩, fun x H3 y => ?_⟩
    obtain ⟨F3, sm3, g3, r3⟩ := yl x H3 y
    refine ⟨F3, wipeD ρ (own.map (·.2)), M2, xs[i], _, noX, g3, (s.mono ((sm1.trans sm2).trans sm3)).wipe _, r3, q2, fun σ4 H4 F4 ρ4 M4 sm4 g4 s4 w4 q4 => ⟨?_, ?_⟩, wok0⟩
    · rw [w4 _ his]
      exact wipe_idem _ _ _ fun _ h => h
    · refine ⟨F4, ρ4, M4, _, noX, g4, s4, q4, fun k H5 F5 M5 sm5 g5 q5 => ?_, wok0⟩
      cases k with
      | true =>
        rw [if_pos rfl] at q5 ⊢
        refine ⟨F5, ρ4, M5, _, noX, g5, s4.mono sm5, q5, fun J1 H6 F6 C1 ys M6 sm6 g6 wk6 q6 => ?_, wok0⟩
        exact lcG_in his1 g6 ((s4.mono sm5).mono sm6) wk6 q6 fun H' F' M' sm' g' r' => ⟨F', M', ((((sm2.trans sm3).trans sm4).trans sm5).trans sm6).trans sm', g', r'⟩
      | false =>
        rw [if_neg Bool.false_ne_true] at q5 ⊢
        exact ⟨F5, M5, ((sm2.trans sm3).trans sm4).trans sm5, g5, q5⟩
  · have e : i = xs.length := by omega
    subst e
    rw [List.drop_length] at q2
    unfold lc2G at q2
    exact .inl ⟨(wk _ F2 H2 M2 sm2 g2 q2.1).2 (Nat.le_refl _), p _ _ _ _ (sm1.trans sm2) g2 q2.2⟩
theorem d_lc2 (vs1 : List Nat) (hc : X.calm = true) (hN : X.N.Nodup) (hi : DIg cl X W tg iter ι) (ok : BlkOk X.N X.env.scope scope own)
    (hg : ∀ (s : Shared) (H : Hp) (C : Addr) (cs : List (Str × Addr)) (fp : List Addr), DG cl (X.blk s H scope (compEnvC scope cs C X.env) fp) W0 tg is γ) (ht : ∀ (s : Shared) (H : Hp) (C : Addr) (cs : List (Str × Addr)) (fp : List Addr), DTs cl (X.blk s H scope (compEnvC scope cs C X.env) fp) W0 ifs υ)
    (hi1 : ∀ (s : Shared) (H : Hp) (C : Addr) (cs : List (Str × Addr)) (fp : List Addr), DIg cl (X.blk s H scope (compEnvC scope cs C X.env) fp) W0 tg1 iter1 ι1)
    (hg1 : ∀ (s : Shared) (H : Hp) (C : Addr) (cs : List (Str × Addr)) (fp : List Addr), DG cl (X.blk s H scope (compEnvC scope cs C X.env) fp) W0 tg1 is1 γ1) (ht1 : ∀ (s : Shared) (H : Hp) (C : Addr) (cs : List (Str × Addr)) (fp : List Addr), DTs cl (X.blk s H scope (compEnvC scope cs C X.env) fp) W0 ifs1 υ1)
    (he : ∀ (s : Shared) (H : Hp) (C : Addr) (cs : List (Str × Addr)) (fp : List Addr), DE cl (X.blk s H scope (compEnvC scope cs C X.env) fp) W0 elt τ) (hv : ∀ i ∈ vs1, i ∈ own.map (·.2) := by decide) (his : ∀ i ∈ is, i ∈ own.map (·.2) := by decide) (his1 : ∀ i ∈ is1, i ∈ vs1 := by decide) (hs : ∀ x, foldedSetIterable iter X.env x = pure x := by intro _; rfl) (hs1 : ∀ env x, foldedSetIterable iter1 env x = pure x := by intro _ _; rfl) :
    DE cl X W (.ListComp elt [⟨tg, iter, ifs, 0⟩, ⟨tg1, iter1, ifs1, 0⟩] scope pos) (dLc2 ι γ υ ι1 γ1 υ1 τ (own.map (·.2)) vs1) :=
  ⟨pe_imp (pe_lc2 hc hN hi.pi ok hv (fun s H C cs fp => (hg s H C cs fp).pg) (fun s H C cs fp => (ht s H C cs fp).pts) (fun s H C cs fp => (hi1 s H C cs fp).pi) (fun s H C cs fp => (hg1 s H C cs fp).pg) (fun s H C cs fp => (ht1 s H C cs fp).pts) (fun s H C cs fp => (he s H C cs fp).pe) hs hs1) fun σ H Q ⟨F, ρ, M, Qd, Xd, g, s, q, p, w⟩ => lc2_lift his his1 (fun a => endF a Qd) g s q (endF_ok p) w⟩
theorem ds_setLc2 {y : Str} {py spos : Pos} (i : Nat) (vs1 : List Nat) (hc : X.calm = true) (hN : X.N.Nodup) (hi : DIg cl X W tg iter ι) (ok : BlkOk X.N X.env.scope scope own)
    (hg : ∀ (s : Shared) (H : Hp) (C : Addr) (cs : List (Str × Addr)) (fp : List Addr), DG cl (X.blk s H scope (compEnvC scope cs C X.env) fp) W0 tg is γ) (ht : ∀ (s : Shared) (H : Hp) (C : Addr) (cs : List (Str × Addr)) (fp : List Addr), DTs cl (X.blk s H scope (compEnvC scope cs C X.env) fp) W0 ifs υ)
    (hi1 : ∀ (s : Shared) (H : Hp) (C : Addr) (cs : List (Str × Addr)) (fp : List Addr), DIg cl (X.blk s H scope (compEnvC scope cs C X.env) fp) W0 tg1 iter1 ι1)
    (hg1 : ∀ (s : Shared) (H : Hp) (C : Addr) (cs : List (Str × Addr)) (fp : List Addr), DG cl (X.blk s H scope (compEnvC scope cs C X.env) fp) W0 tg1 is1 γ1) (ht1 : ∀ (s : Shared) (H : Hp) (C : Addr) (cs : List (Str × Addr)) (fp : List Addr), DTs cl (X.blk s H scope (compEnvC scope cs C X.env) fp) W0 ifs1 υ1)
    (he : ∀ (s : Shared) (H : Hp) (C : Addr) (cs : List (Str × Addr)) (fp : List Addr), DE cl (X.blk s H scope (compEnvC scope cs C X.env) fp) W0 elt τ) (hy : X.N[i]? = some y := by rfl) (hyl : X.env.scope.names.lookup y = some .local := by rfl)
    (hsw : swapsWith (.ListComp elt [⟨tg, iter, ifs, 0⟩, ⟨tg1, iter1, ifs1, 0⟩] scope pos) (some (.Name y py)) spos.line X.env = pure true := by exact sw_true rfl rfl rfl (by decide +kernel)) (hv : ∀ i ∈ vs1, i ∈ own.map (·.2) := by decide) (his : ∀ i ∈ is, i ∈ own.map (·.2) := by decide) (his1 : ∀ i ∈ is1, i ∈ vs1 := by decide) (hs : ∀ x, foldedSetIterable iter X.env x = pure x := by intro _; rfl) (hs1 : ∀ env x, foldedSetIterable iter1 env x = pure x := by intro _ _; rfl) :
    DS cl X W (.Assign [.Name y py] (.ListComp elt [⟨tg, iter, ifs, 0⟩, ⟨tg1, iter1, ifs1, 0⟩] scope pos) spos) (dAsg (dLc2 ι γ υ ι1 γ1 υ1 τ (own.map (·.2)) vs1) (gN i)) :=
  ⟨ps_imp (ps_setLc2 hc hN hy hyl hsw hi.pi ok hv (fun s H C cs fp => (hg s H C cs fp).pg) (fun s H C cs fp => (ht s H C cs fp).pts) (fun s H C cs fp => (hi1 s H C cs fp).pi) (fun s H C cs fp => (hg1 s H C cs fp).pg) (fun s H C cs fp => (ht1 s H C cs fp).pts) (fun s H C cs fp => (he s H C cs fp).pe) hs hs1) fun D σ H ⟨F, ρ, M, E, g, s, q, ok⟩ =>
    lc2_lift his his1 (fun a => endF a _) g s q (endF_ok (fun v H' F' d M' sm g' r q' => ok.nx _ _ _ _ _ sm g' ((s.mono sm).set i r) q')) ok.ex⟩
theorem d_lc2M (vs1 : List Nat) (hc : X.calm = true) (hN : X.N.Nodup) (hi : DIg cl X W tg iter ι) (ok : BlkOk X.N X.env.scope scope own)
    (hg : ∀ (s : Shared) (H : Hp) (C : Addr) (cs : List (Str × Addr)) (fp : List Addr), DG cl (X.blk s H scope (compEnvC scope cs C X.env) fp) W0 tg is γ) (ht : ∀ (s : Shared) (H : Hp) (C : Addr) (cs : List (Str × Addr)) (fp : List Addr), DTs cl (X.blk s H scope (compEnvC scope cs C X.env) fp) W0 ifs υ)
    (hi1 : ∀ (s : Shared) (H : Hp) (C : Addr) (cs : List (Str × Addr)) (fp : List Addr), DIg cl (X.blk s H scope (compEnvC scope cs C X.env) fp) W0 tg1 iter1 ι1)
    (hg1 : ∀ (s : Shared) (H : Hp) (C : Addr) (cs : List (Str × Addr)) (fp : List Addr), DG cl (X.blk s H scope (compEnvC scope cs C X.env) fp) W0 tg1 is1 γ1) (ht1 : ∀ (s : Shared) (H : Hp) (C : Addr) (cs : List (Str × Addr)) (fp : List Addr), DTs cl (X.blk s H scope (compEnvC scope cs C X.env) fp) W0 ifs1 υ1)
    (he : ∀ (s : Shared) (H : Hp) (C : Addr) (cs : List (Str × Addr)) (fp : List Addr), DE cl (X.blk s H scope (compEnvC scope cs C X.env) fp) W0 elt τ) (hv : ∀ i ∈ vs1, i ∈ own.map (·.2) := by decide) (his : ∀ i ∈ is, i ∈ own.map (·.2) := by decide) (his1 : ∀ i ∈ is1, i ∈ vs1 := by decide) (hs : ∀ x, foldedSetIterable iter X.env x = pure x := by intro _; rfl) (hs1 : ∀ env x, foldedSetIterable iter1 env x = pure x := by intro _ _; rfl) :
    DE cl X W (.ListComp elt [⟨tg, iter, ifs, 0⟩, ⟨tg1, iter1, ifs1, 0⟩] scope pos) (dLc2M ι γ υ ι1 γ1 υ1 τ (own.map (·.2)) vs1) :=
  ⟨pe_imp (pe_lc2 hc hN hi.pi ok hv (fun s H C cs fp => (hg s H C cs fp).pg) (fun s H C cs fp => (ht s H C cs fp).pts) (fun s H C cs fp => (hi1 s H C cs fp).pi) (fun s H C cs fp => (hg1 s H C cs fp).pg) (fun s H C cs fp => (ht1 s H C cs fp).pts) (fun s H C cs fp => (he s H C cs fp).pe) hs hs1) fun σ H Q ⟨F, ρ, M, Qd, Xd, g, s, q, p, w⟩ => lc2_lift his his1 (fun a => endM a Qd) g s q (endM_ok p) w⟩
theorem ds_setLc2M {y : Str} {py spos : Pos} (i : Nat) (vs1 : List Nat) (hc : X.calm = true) (hN : X.N.Nodup) (hi : DIg cl X W tg iter ι) (ok : BlkOk X.N X.env.scope scope own)
    (hg : ∀ (s : Shared) (H : Hp) (C : Addr) (cs : List (Str × Addr)) (fp : List Addr), DG cl (X.blk s H scope (compEnvC scope cs C X.env) fp) W0 tg is γ) (ht : ∀ (s : Shared) (H : Hp) (C : Addr) (cs : List (Str × Addr)) (fp : List Addr), DTs cl (X.blk s H scope (compEnvC scope cs C X.env) fp) W0 ifs υ)
    (hi1 : ∀ (s : Shared) (H : Hp) (C : Addr) (cs : List (Str × Addr)) (fp : List Addr), DIg cl (X.blk s H scope (compEnvC scope cs C X.env) fp) W0 tg1 iter1 ι1)
    (hg1 : ∀ (s : Shared) (H : Hp) (C : Addr) (cs : List (Str × Addr)) (fp : List Addr), DG cl (X.blk s H scope (compEnvC scope cs C X.env) fp) W0 tg1 is1 γ1) (ht1 : ∀ (s : Shared) (H : Hp) (C : Addr) (cs : List (Str × Addr)) (fp : List Addr), DTs cl (X.blk s H scope (compEnvC scope cs C X.env) fp) W0 ifs1 υ1)
    (he : ∀ (s : Shared) (H : Hp) (C : Addr) (cs : List (Str × Addr)) (fp : List Addr), DE cl (X.blk s H scope (compEnvC scope cs C X.env) fp) W0 elt τ) (hy : X.N[i]? = some y := by rfl) (hyl : X.env.scope.names.lookup y = some .local := by rfl)
    (hsw : swapsWith (.ListComp elt [⟨tg, iter, ifs, 0⟩, ⟨tg1, iter1, ifs1, 0⟩] scope pos) (some (.Name y py)) spos.line X.env = pure true := by exact sw_true rfl rfl rfl (by decide +kernel)) (hv : ∀ i ∈ vs1, i ∈ own.map (·.2) := by decide) (his : ∀ i ∈ is, i ∈ own.map (·.2) := by decide) (his1 : ∀ i ∈ is1, i ∈ vs1 := by decide) (hs : ∀ x, foldedSetIterable iter X.env x = pure x := by intro _; rfl) (hs1 : ∀ env x, foldedSetIterable iter1 env x = pure x := by intro _ _; rfl) :
    DS cl X W (.Assign [.Name y py] (.ListComp elt [⟨tg, iter, ifs, 0⟩, ⟨tg1, iter1, ifs1, 0⟩] scope pos) spos) (dAsg (dLc2M ι γ υ ι1 γ1 υ1 τ (own.map (·.2)) vs1) (gN i)) :=
  ⟨ps_imp (ps_setLc2 hc hN hy hyl hsw hi.pi ok hv (fun s H C cs fp => (hg s H C cs fp).pg) (fun s H C cs fp => (ht s H C cs fp).pts) (fun s H C cs fp => (hi1 s H C cs fp).pi) (fun s H C cs fp => (hg1 s H C cs fp).pg) (fun s H C cs fp => (ht1 s H C cs fp).pts) (fun s H C cs fp => (he s H C cs fp).pe) hs hs1) fun D σ H ⟨F, ρ, M, E, g, s, q, ok⟩ =>
    lc2_lift his his1 (fun a => endM a _) g s q (endM_ok (fun v H' F' d M' sm g' r q' => ok.nx _ _ _ _ _ sm g' ((s.mono sm).set i r) q')) ok.ex⟩
end
end DL

set_option Elab.async false
set_option linter.all false
set_option maxRecDepth 100000
set_option maxHeartbeats 4000000
namespace DL
open PySem L2

/-! ### bytes in order -/
def cmpX (k : Int → Int → Bool) (f : Ordering → Bool) : D → D → Option D
  | .byt x, .byt y => some (.bl (f (Builtin.Bytes.order x.toList y.toList)))
  | d, e => cmpD k d e
section
variable {K : PySem.W.Frag} {cl : ClW}
theorem lop_cmpX (k : Int → Int → Bool) (f : Ordering → Bool) : LOp K cl (fun x y H Q => rI0 (fun i j => .bl (k i j)) x y H Q ∨ rBytB f x y H Q) (cmpX k f) := by
  intro F H M x y d e z Q Qd g hx hy h p q
  unfold cmpX at h
  split at h
  · cases h
    obtain rfl := hx.byt; obtain rfl := hy.byt
    exact .inr ⟨_, _, rfl, rfl, p.val g (.bl _) q⟩
  · exact .inl (lop_cmp k F H M x y d e z Q Qd g hx hy h p q)
end
section
variable {X : Cx}
theorem op_ltX : OpR X (compareOp .Lt) (fun x y H Q => rI0 (fun i j => .bl (decide (i < j))) x y H Q ∨ rBytB (· == .lt) x y H Q) := op_lt.or op_lt_byt
theorem op_leX : OpR X (compareOp .LtE) (fun x y H Q => rI0 (fun i j => .bl (decide (i ≤ j))) x y H Q ∨ rBytB (· != .gt) x y H Q) := op_le.or op_le_byt
theorem op_gtX : OpR X (compareOp .Gt) (fun x y H Q => rI0 (fun i j => .bl (decide (j < i))) x y H Q ∨ rBytB (· == .gt) x y H Q) := op_gt.or op_gt_byt
theorem op_geX : OpR X (compareOp .GtE) (fun x y H Q => rI0 (fun i j => .bl (decide (j ≤ i))) x y H Q ∨ rBytB (· != .lt) x y H Q) := op_ge.or op_ge_byt
end
abbrev ltX := cmpX (fun i j => decide (i < j)) (· == .lt)
abbrev leX := cmpX (fun i j => decide (i ≤ j)) (· != .gt)
abbrev gtX := cmpX (fun i j => decide (j < i)) (· == .gt)
abbrev geX := cmpX (fun i j => decide (j ≤ i)) (· != .lt)
/-! ### bytes(..) of numbers -/
def is8 (ns : List Int) : Bool := ns.all fun n => decide (0 ≤ n) && decide (n < 256)
theorem is8_iff {ns : List Int} : is8 ns = true ↔ ∀ n ∈ ns, 0 ≤ n ∧ n < 256 := by simp [is8, List.all_eq_true]
def bytesF : List D → Option D
  | [.lst xs] => (intsOf xs).bind fun ns => if is8 ns = true then some (.byt (byteArr ns)) else none
  | [.tup xs] => (intsOf xs).bind fun ns => if is8 ns = true then some (.byt (byteArr ns)) else none
  | [.byt b] => some (.byt b)
  | _ => none
theorem intsSome {xs : List D} {z : D} {f : List Int → D} (h : ((intsOf xs).bind fun ns => if is8 ns = true then some (f ns) else none) = some z) : ∃ ns, xs = ns.map D.int ∧ (∀ n ∈ ns, 0 ≤ n ∧ n < 256) ∧ z = f ns := by
  cases e : intsOf xs with
  | none => rw [e] at h; cases h
  | some ns =>
    rw [e] at h
    simp only [Option.bind_some] at h
    by_cases k : is8 ns = true
    · rw [if_pos k] at h
      cases h
      exact ⟨ns, intsOf_eq e, is8_iff.mp k, rfl⟩
    · rw [if_neg k] at h; cases h
section
variable {K : PySem.W.Frag} {cl : ClW} {X : Cx}
def rBytes (K : PySem.W.Frag) : List V → Hp → VK → Prop := fun xs H Q => r1 (kByts K) xs H Q ∨ ∃ p ns, xs = [.ref p] ∧ SqT K H p (ns.map V.int) ∧ B8 ns ∧ Q (.byt (byteArr ns)) H
theorem call_bytesA (hc : X.calm = true) : CallR X (.type "bytes") (rBytes X.K) := by
  intro pins s σ H xs us Q I r h
  rcases h with h | h
  · exact call_r1 (rl_bytes hc) pins s σ H xs us Q I r h
  · exact call_bytes_tup hc pins s σ H xs us Q I r h
theorem lc_bytes : LCall K cl (rBytes K) bytesF := by
  intro F H M xs ds z Q Qd g r h p q
  generalize e : ds.map (vw M) = es at h
  unfold bytesF at h
  split at h
  · obtain ⟨x, rfl, hv⟩ := reps1 g r e
    obtain ⟨a, vs, rfl, h1, h2⟩ := hv.lst g.sub
    obtain ⟨ns, rfl, h8, rfl⟩ := intsSome (f := fun ns => D.byt (byteArr ns)) h
    rw [h2.ints] at h1
    exact .inl (.inr ⟨a, ns, rfl, h1, h8, p.val g (.byt _) q⟩)
  · obtain ⟨x, rfl, hv⟩ := reps1 g r e
    obtain ⟨a, vs, rfl, h1, h2⟩ := hv.tup g.sub
    obtain ⟨ns, rfl, h8, rfl⟩ := intsSome (f := fun ns => D.byt (byteArr ns)) h
    rw [h2.ints] at h1
    exact .inr ⟨a, ns, rfl, h1, h8, p.val g (.byt _) q⟩
  · cases h
    obtain ⟨x, rfl, hv⟩ := reps1 g r e
    obtain rfl := hv.byt
    exact .inl (.inl ⟨_, rfl, p.val g (.byt _) q⟩)
  · cases h
/-! ### slices of bytes -/
def slB : D → Option Int → Option Int → Option D
  | .byt b, lo, hi => if b.size ≤ 16777216 then some (.byt (PySem.W.KBy.picked b lo hi)) else none
  | _, _, _ => none
theorem d_sliceB {W : WX} {e : Expr} {τ : DTE} {lo hi : Option Expr} {τl τh : DTO} {p2 pos : Pos} (he : DE cl X W e τ) (hl : DO cl X W lo τl) (hu : DO cl X W hi τh) : DE cl X W (.Subscript e (.Slice lo hi none p2) pos) (dSl slB τ τl τh) :=
  ⟨pe_imp (pe_slice sl_byt he.pe hl.po hu.po) fun σ H Q ⟨F, ρ, M, Qd, Xd, g, s, t, p, w⟩ =>
    ⟨F, ρ, M, _, Xd, g, s, t, fun v H1 F1 d M1 sm1 g1 r1 q1 => ⟨F1, ρ, M1, _, Xd, g1, s.mono sm1, q1, fun l H2 F2 M2 sm2 g2 q2 => ⟨F2, ρ, M2, _, Xd, g2, s.mono (sm1.trans sm2), q2, fun h H3 F3 M3 sm3 g3 q3 => (by
      obtain ⟨z, e1, e2⟩ := q3
      have hv := vw_ok g3 (r1.mono (sm2.trans sm3))
      have p' := p.mono ((sm1.trans sm2).trans sm3)
      cases hd : vw M3 d with
      | byt b =>
        rw [hd] at hv e1
        simp only [slB] at e1
        split at e1
        · cases e1
          obtain rfl := hv.byt
          exact ⟨b, rfl, by assumption, p'.val g3 (.byt _) e2⟩
        · cases e1
      | _ => rw [hd] at e1; cases e1), w.mono (sm1.trans sm2)⟩, w.mono sm1⟩, w⟩⟩
/-! ### an item of bytes, counted from either end -/
def rIxB : R2 := fun x y H Q => ∃ (b : Array UInt8) (i : Int) (k : Nat) (c : UInt8), x = .byt b ∧ y = .int i ∧ b.size ≤ 16777216 ∧ seqIndex? i b.size = some k ∧ b[k]? = some c ∧ Q (.int (c.toNat : Nat)) H
theorem ix_byt : IxR X rIxB := by
  intro value slice pins s σ H x y v u Q I rx ry h hs
  obtain ⟨b, i, k, c, rfl, rfl, hz, hk, hc, q⟩ := h
  obtain ⟨t, rfl⟩ := rx
  obtain ⟨t', rfl⟩ := ry
  refine PyProof.Rows.tail_any (PySem.W.typeIs_bytes s b t) PySem.W.FB.slot_bytes_getitem.lookup (PySem.getItem_gives (PySem.W.typeIs_bytes s _ t) (by decide) PySem.W.FB.slot_bytes_getitem PySem.W.FB.entry_bytes_getitem (PySem.W.FB.args_bytes_getitem_2 _ _) (PySem.W.gives_bytes_getitem _ i t t' c ?_ ?_) ⟨.int (c.toNat : Nat), H, I.tok _, ⟨_, rfl⟩, q⟩) hs
  · unfold seqIndex? at hk
    simp only [Builtin.Bytes.fitsIndex, Bool.and_eq_true, decide_eq_true_eq]
    dsimp only at hk
    split at hk <;> split at hk <;> simp_all <;> omega
  · rw [hk]; simpa using hc
def ixB : D → D → Option D
  | .byt b, .int i => if b.size ≤ 16777216 then (seqIndex? i b.size).bind fun k => (b[k]?).map fun c => .int (c.toNat : Nat) else none
  | _, _ => none
theorem lixB : LOp K cl rIxB ixB := by
  intro F H M x y d e z Q Qd g hx hy h p q
  unfold ixB at h
  split at h
  · rename_i b i
    obtain rfl := hx.byt; obtain rfl := hy.int
    split at h
    · cases e1 : seqIndex? i b.size with
      | none => rw [e1] at h; cases h
      | some k =>
        rw [e1] at h
        simp only [Option.bind_some] at h
        cases e2 : b[k]? with
        | none => rw [e2] at h; cases h
        | some c =>
          rw [e2] at h
          cases h
          exact ⟨b, i, k, c, rfl, rfl, by assumption, e1, e2, p.val g (.int _) q⟩
    · cases h
  · cases h
theorem d_ixB {W : WX} {a b : Expr} {pos : Pos} {τa τb : DTE} (ha : DE cl X W a τa) (hb : DE cl X W b τb) (hs : PlainIx b := by exact fun _ _ => rfl) : DE cl X W (.Subscript a b pos) (dOp ixB τa τb) :=
  ⟨pe_imp (pe_ix ix_byt ha.pe hb.pe hs) fun σ H Q ⟨F, ρ, M, Qd, Xd, g, s, t, p, w⟩ =>
    ⟨F, ρ, M, _, Xd, g, s, t, fun v H' F' d M' sm g' r' q => ⟨F', ρ, M', _, Xd, g', s.mono sm, q, fun u H2 F2 e M2 sm2 g2 r2 q2 => by
      obtain ⟨z, e1, e2⟩ := q2
      exact lixB F2 H2 M2 v u _ _ z Q Qd g2 (vw_ok g2 (r'.mono sm2)) (vw_ok g2 r2) e1 (p.mono (sm.trans sm2)) e2, w.mono sm⟩, w⟩⟩
end
end DL

set_option Elab.async false
set_option linter.all false
set_option maxRecDepth 100000
set_option maxHeartbeats 4000000
set_option autoImplicit false
namespace FL
open PySem L2 DL

/-! ### levels that rise by at most one behind a level m -/
def Lad : Int → List Int → Prop
  | _, [] => True
  | m, l :: r => 0 ≤ l ∧ l ≤ m + 1 ∧ Lad l r
def lastL : Int → List Int → Int
  | m, [] => m
  | _, l :: r => lastL l r
theorem Lad.mono {m n : Int} {ls : List Int} (h : Lad m ls) (k : m ≤ n) : Lad n ls := by
  cases ls with
  | nil => trivial
  | cons l r => exact ⟨h.1, by have := h.2.1; omega, h.2.2⟩
theorem lad_append (a b : List Int) : ∀ m, Lad m (a ++ b) ↔ Lad m a ∧ Lad (lastL m a) b := by
  induction a with
  | nil => intro m; simp [Lad, lastL]
  | cons l r ih => intro m; simp only [List.cons_append, Lad, lastL, ih l]; constructor <;> (intro h; simp_all)
theorem lastL_append (a b : List Int) : ∀ m, lastL m (a ++ b) = lastL (lastL m a) b := by
  induction a with
  | nil => intro m; rfl
  | cons l r ih => intro m; exact ih l
theorem lastL_ge (ls : List Int) : ∀ (m k : Int), k ≤ m → (∀ l ∈ ls, k ≤ l) → k ≤ lastL m ls := by
  induction ls with
  | nil => intro m k h _; exact h
  | cons l r ih => intro m k _ h; exact ih l k (h l (by simp)) fun x hx => h x (by simp [hx])
theorem Lad.nonneg {ls : List Int} : ∀ {m : Int}, Lad m ls → ∀ l ∈ ls, 0 ≤ l := by
  induction ls with
  | nil => intro m _ l h; simp at h
  | cons x r ih =>
    intro m h l hl
    rcases List.mem_cons.mp hl with e | e
    · rw [e]; exact h.1
    · exact ih h.2.2 l e
theorem Lad.shift {ls : List Int} (c : Int) : ∀ {m : Int}, Lad m ls → (∀ l ∈ ls, 0 ≤ l + c) → Lad (m + c) (ls.map (· + c)) := by
  induction ls with
  | nil => intro m _ _; trivial
  | cons x r ih =>
    intro m h hc
    exact ⟨hc x (by simp), by have := h.2.1; show x + c ≤ m + c + 1; omega, ih h.2.2 fun l hl => hc l (by simp [hl])⟩
theorem LevOk.lad {ls : List Int} (h : LevOk ls) : Lad (-1) ls := by
  have key : ∀ (r a : List Int), ls = a ++ r → Lad (lastL (-1) a) r := by
    intro r
    induction r with
    | nil => intro a _; trivial
    | cons x r ih =>
      intro a e
      have hx : ls[a.length]? = some x := by rw [e]; simp
      obtain ⟨h0, h1, h2⟩ := h a.length x hx
      have hn := ih (a ++ [x]) (by rw [e]; simp)
      rw [lastL_append] at hn
      refine ⟨h0, ?_, hn⟩
      rcases List.eq_nil_or_concat a with rfl | ⟨a', y, rfl⟩
      · have := h1 rfl; show x ≤ -1 + 1; omega
      · obtain ⟨m, hm, hl⟩ := h2 a'.length (by simp)
        rw [e] at hm
        have em : m = y := by simpa using hm.symm
        rw [List.concat_eq_append, lastL_append]
        show x ≤ y + 1
        omega
  exact key ls [] rfl
theorem Lad.lev {ls : List Int} (h : Lad (-1) ls) : LevOk ls := by
  have key : ∀ (r a : List Int), LevOk a → Lad (lastL (-1) a) r → LevOk (a ++ r) := by
    intro r
    induction r with
    | nil => intro a ha _; simpa using ha
    | cons x r ih =>
      intro a ha hr
      have := ih (a ++ [x]) (ha.snoc hr.1 (fun e => by subst e; have := hr.1; have := hr.2.1; simp [lastL] at this; omega) fun m hm => by
        rcases List.eq_nil_or_concat a with rfl | ⟨a', y, rfl⟩
        · simp at hm
        · have e : y = m := by simpa using hm
          have h2 := hr.2.1
          rw [List.concat_eq_append, lastL_append] at h2
          have h2 : x ≤ y + 1 := h2
          omega) (by rw [lastL_append]; exact hr.2.2)
      simpa using this
  simpa using key ls [] (fun i l h => by simp at h) h
theorem lev_iff {ls : List Int} : LevOk ls ↔ Lad (-1) ls := ⟨LevOk.lad, Lad.lev⟩

/-! ### rows raised, blocks and their pieces -/
def up (c : Int) (r : Row) : Row := ⟨r.nm, r.va, r.lv + c⟩
theorem up_nm (c : Int) (rs : List Row) : (rs.map (up c)).map Row.nm = rs.map Row.nm := by simp [up]
theorem up_lvs (c : Int) (rs : List Row) : lvs (rs.map (up c)) = (lvs rs).map (· + c) := by simp [lvs, up]
theorem up_up (a b : Int) (rs : List Row) : (rs.map (up a)).map (up b) = rs.map (up (a + b)) := by simp [up, Function.comp_def, Int.add_assoc]
theorem up_zero (rs : List Row) : rs.map (up 0) = rs := by
  have e : up 0 = id := by funext r; simp [up]
  rw [e]; simp
/-- the pieces of a block: each begins with a row of level k -/
def pieces (k : Int) : List Row → List (List Row)
  | [] => []
  | r :: rest => (r :: rest.takeWhile fun x => decide (k < x.lv)) :: pieces k (rest.dropWhile fun x => decide (k < x.lv))
termination_by l => l.length
decreasing_by simp; exact Nat.lt_succ_of_le (List.dropWhile_sublist _).length_le
theorem pieces_nil (k : Int) : pieces k [] = [] := by unfold pieces; rfl
theorem pieces_cons (k : Int) (r : Row) (rest : List Row) : pieces k (r :: rest) = (r :: rest.takeWhile fun x => decide (k < x.lv)) :: pieces k (rest.dropWhile fun x => decide (k < x.lv)) := by
  rw [pieces]
theorem pieces_flat (k : Int) : ∀ b : List Row, (pieces k b).flatten = b := by
  intro b
  induction h : b.length using Nat.strongRecOn generalizing b with
  | _ n ih =>
    cases b with
    | nil => simp [pieces_nil]
    | cons r rest =>
      rw [pieces_cons]
      have hl : (rest.dropWhile fun x => decide (k < x.lv)).length < n := by
        rw [← h]; simp; exact Nat.lt_succ_of_le (List.dropWhile_sublist _).length_le
      simp only [List.flatten_cons, ih _ hl _ rfl, List.cons_append, List.takeWhile_append_dropWhile]

/-! ### the subtrees of the children are the pieces of the block -/
def subT (rs : List Row) (p : Nat) : List Row := (rs.drop p).take (1 + kids (lvs rs) p)
theorem drop_tw {α : Type} (f : α → Bool) (l : List α) : l.dropWhile f = l.drop (l.takeWhile f).length := by
  induction l with
  | nil => rfl
  | cons x r ih =>
    cases e : f x with
    | true => rw [List.dropWhile_cons_of_pos e, List.takeWhile_cons_of_pos e, List.length_cons, List.drop_succ_cons]; exact ih
    | false => simp [e]
theorem tw_take {α : Type} (f : α → Bool) (l : List α) (m : Nat) (h : (l.takeWhile f).length ≤ m) : (l.take m).takeWhile f = l.takeWhile f := by
  induction l generalizing m with
  | nil => simp
  | cons x r ih =>
    cases m with
    | zero =>
      cases e : f x with
      | true => rw [List.takeWhile_cons_of_pos e] at h; simp at h
      | false => simp [e]
    | succ m =>
      cases e : f x with
      | true =>
        rw [List.takeWhile_cons_of_pos e] at h
        rw [List.take_succ_cons, List.takeWhile_cons_of_pos e, List.takeWhile_cons_of_pos e, ih m (by simpa using h)]
      | false => simp [e]
theorem lvs_get {rs : List Row} {j : Nat} (h : j < rs.length) : (lvs rs)[j]? = some ((lvs rs).getD j 0) := by simp [lvs, List.getD, h]
theorem lv_at {rs : List Row} {j : Nat} (h : j < rs.length) : (lvs rs).getD j 0 = rs[j].lv := by simp [lvs, List.getD, h]
theorem kids_lt {rs : List Row} {p j : Nat} (hj : j < rs.length) (h1 : p < j) (h2 : j ≤ p + kids (lvs rs) p) : (lvs rs).getD p 0 < (lvs rs).getD j 0 :=
  ((kids_iff (lvs rs) (by simpa [lvs] using hj) h1).mp h2) j h1 (Nat.le_refl _)
theorem kids_end {rs : List Row} {p : Nat} (h : p + 1 + kids (lvs rs) p < rs.length) : (lvs rs).getD (p + 1 + kids (lvs rs) p) 0 ≤ (lvs rs).getD p 0 := by
  have hl : (lvs rs).length = rs.length := by simp [lvs]
  rcases Int.lt_or_le ((lvs rs).getD p 0) ((lvs rs).getD (p + 1 + kids (lvs rs) p) 0) with hc | hc
  · have := (kids_iff (lvs rs) (p := p) (j := p + 1 + kids (lvs rs) p) (by omega) (by omega)).mpr fun k h1 h2 => by
      rcases Nat.lt_or_ge k (p + 1 + kids (lvs rs) p) with z | z
      · exact kids_lt (by omega) h1 (by omega)
      · have : k = p + 1 + kids (lvs rs) p := by omega
        rw [this]; exact hc
    omega
  · exact hc
theorem pieces_ix (rs : List Row) (k : Int) : ∀ (n i : Nat), i + n ≤ rs.length → (∀ j, i ≤ j → j < i + n → k ≤ (lvs rs).getD j 0) → (0 < n → (lvs rs).getD i 0 = k) → (i + n < rs.length → (lvs rs).getD (i + n) 0 < k) →
    ((List.range' i n).filter fun j => decide ((lvs rs).getD j 0 = k)).map (subT rs) = pieces k ((rs.drop i).take n) := by
  intro n
  induction n using Nat.strongRecOn with
  | _ n ih =>
    intro i hn hge h0 hend
    cases n with
    | zero => simp [pieces_nil]
    | succ m =>
      have hi : i < rs.length := by omega
      have hl : (lvs rs).length = rs.length := by simp [lvs]
      have hk := h0 (by omega)
      have hb := kids_le (lvs rs) i (by omega)
      have htm : kids (lvs rs) i ≤ m := by
        rcases Nat.lt_or_ge m (kids (lvs rs) i) with z | z
        · have h1 := kids_lt (rs := rs) (p := i) (j := i + 1 + m) (by omega) (by omega) (by omega)
          have h2 := hend (by omega)
          rw [show i + (m + 1) = i + 1 + m by omega] at h2
          omega
        · exact z
      have hx : rs[i]? = some rs[i] := by simp [hi]
      have hkl : rs[i].lv = k := by rw [← lv_at hi]; exact hk
      have htw := kids_rows hx
      rw [hkl] at htw
      have hlen : ((rs.drop (i + 1)).takeWhile fun x => decide (k < x.lv)).length = kids (lvs rs) i := by
        rw [htw]; simp; omega
      have hdrop : (rs.drop i).take (m + 1) = rs[i] :: (rs.drop (i + 1)).take m := by
        rw [List.drop_eq_getElem_cons hi, List.take_succ_cons]
      have htw2 : ((rs.drop (i + 1)).take m).takeWhile (fun x => decide (k < x.lv)) = (rs.drop (i + 1)).take (kids (lvs rs) i) := by
        rw [tw_take _ _ _ (by omega), htw]
      rw [hdrop, pieces_cons, drop_tw, htw2]
      have e3 : (((rs.drop (i + 1)).take m).drop ((rs.drop (i + 1)).take (kids (lvs rs) i)).length) = (rs.drop (i + 1 + kids (lvs rs) i)).take (m - kids (lvs rs) i) := by
        have : ((rs.drop (i + 1)).take (kids (lvs rs) i)).length = kids (lvs rs) i := by simp; omega
        rw [this, List.drop_take, List.drop_drop]
      rw [e3]
      have er : List.range' i (m + 1) = i :: (List.range' (i + 1) (kids (lvs rs) i) ++ List.range' (i + 1 + kids (lvs rs) i) (m - kids (lvs rs) i)) := by
        rw [List.range'_append_1, List.range'_succ]
        congr 2
        omega
      have ef : (List.range' (i + 1) (kids (lvs rs) i)).filter (fun j => decide ((lvs rs).getD j 0 = k)) = [] := by
        rw [List.filter_eq_nil_iff]
        intro j hj
        have hj2 := List.mem_range'_1.mp hj
        have := kids_lt (rs := rs) (p := i) (j := j) (by omega) (by omega) (by omega)
        simp only [decide_eq_true_eq]
        omega
      rw [er, List.filter_cons, if_pos (by simp only [decide_eq_true_eq]; exact hk), List.filter_append, ef, List.nil_append, List.map_cons]
      have e1 : subT rs i = rs[i] :: (rs.drop (i + 1)).take (kids (lvs rs) i) := by
        unfold subT
        rw [List.drop_eq_getElem_cons hi, Nat.add_comm 1, List.take_succ_cons]
      rw [e1]
      congr 1
      refine ih (m - kids (lvs rs) i) (by omega) (i + 1 + kids (lvs rs) i) (by omega) (fun j h1 h2 => hge j (by omega) (by omega)) (fun hp => ?_) fun hp => ?_
      · have h1 := kids_end (rs := rs) (p := i) (by omega)
        have h2 := hge (i + 1 + kids (lvs rs) i) (by omega) (by omega)
        omega
      · have := hend (by omega)
        rw [show i + 1 + kids (lvs rs) i + (m - kids (lvs rs) i) = i + (m + 1) by omega]
        exact this
/-- the rows below a node, or all -/
def blk (rs : List Row) : Option Nat → List Row
  | none => rs
  | some p => (rs.drop (p + 1)).take (kids (lvs rs) p)
def blv (rs : List Row) : Option Nat → Int
  | none => 0
  | some p => (lvs rs).getD p 0 + 1
theorem ancs_cons {ls : List Int} {j q : Nat} {r : List Nat} (h : ancs ls j = q :: r) : r = ancs ls q := anc_step ls j _ q r h
theorem head_iff {ls : List Int} (L : LevOk ls) {p j : Nat} (hj : j < ls.length) (h : p ∈ ancs ls j) : (ancs ls j).head? = some p ↔ ls.getD j 0 = ls.getD p 0 + 1 := by
  cases e : ancs ls j with
  | nil => rw [e] at h; simp at h
  | cons q r =>
    have hr := ancs_cons e
    have hq : q < j := ancs_lt e
    have c1 := ancs_count L hj
    have c2 := ancs_count L (p := q) (by omega)
    rw [e, hr] at c1
    simp only [List.length_cons] at c1
    rw [e, hr] at h
    simp only [List.head?_cons, Option.some.injEq]
    constructor
    · rintro rfl; omega
    · intro hh
      rcases List.mem_cons.mp h with z | z
      · exact z.symm
      · have := (anc_iff ls p q (ls.getD q 0)).mp z
        omega
theorem sibs_pieces {rs : List Row} (h : RowsOk rs) (o : Option Nat) (ho : ∀ p, o = some p → p < rs.length) : (sibs (lvs rs) o).map (subT rs) = pieces (blv rs o) (blk rs o) := by
  have hl : (lvs rs).length = rs.length := by simp [lvs]
  have L : LevOk (lvs rs) := h.lev
  cases o with
  | none =>
    have e : sibs (lvs rs) none = (List.range' 0 rs.length).filter fun j => decide ((lvs rs).getD j 0 = 0) := by
      unfold sibs
      rw [hl, List.range_eq_range']
      apply List.filter_congr
      intro j hj
      have hj2 : j < rs.length := by simpa using hj
      have := ancs_nil L (p := j) (by omega)
      congr 1
      rw [← this]
      simp
    have := pieces_ix rs 0 rs.length 0 (by omega) (fun j _ hj => by
      have := (L j ((lvs rs).getD j 0) (lvs_get (by omega))).1
      exact this) (fun hp => (L 0 ((lvs rs).getD 0 0) (lvs_get (by omega))).2.1 rfl) (by omega)
    rw [e, this]
    simp [blk, blv]
  | some p =>
    have hp := ho p rfl
    have hb := kids_le (lvs rs) p (by omega)
    have e : sibs (lvs rs) (some p) = (List.range' (p + 1) (kids (lvs rs) p)).filter fun j => decide ((lvs rs).getD j 0 = (lvs rs).getD p 0 + 1) := by
      rw [← kids_sibs (lvs rs) (by omega)]
      apply List.filter_congr
      intro j hj
      have hj2 := List.mem_range'_1.mp hj
      have := head_iff L (p := p) (j := j) (by omega) ((above_iff (lvs rs) (by omega)).mpr (by omega))
      exact decide_eq_decide.mpr this
    rw [e]
    refine pieces_ix rs _ _ _ (by omega) (fun j h1 h2 => ?_) (fun hk => ?_) fun hk => ?_
    · have := kids_lt (rs := rs) (p := p) (j := j) (by omega) (by omega) (by omega); omega
    · have h1 := kids_lt (rs := rs) (p := p) (j := p + 1) (by omega) (by omega) (by omega)
      obtain ⟨m, hm, h2⟩ := (L (p + 1) ((lvs rs).getD (p + 1) 0) (lvs_get (by omega))).2.2 p rfl
      have : (lvs rs).getD p 0 = m := by rw [List.getD, hm]; rfl
      omega
    · have := kids_end (rs := rs) (p := p) hk; omega
end FL

set_option Elab.async false
set_option linter.all false
set_option maxRecDepth 100000
set_option maxHeartbeats 4000000
set_option autoImplicit false
namespace FL
open PySem L2 DL

/-! ### what deeds make of rows -/
def RV (r : Row) : Prop := NameOk r.nm ∧ -(10 ^ 30) ≤ r.va ∧ r.va ≤ 10 ^ 30
theorem RV.up {r : Row} (c : Int) (h : RV r) : RV (FL.up c r) := h
theorem RowsOk.rv {rs : List Row} (h : RowsOk rs) : ∀ r ∈ rs, RV r := fun r hr => ⟨h.names r hr, h.vals r hr⟩
theorem rowsOk_of {rs : List Row} (h1 : rs.length ≤ 60) (h2 : ∀ r ∈ rs, RV r) (h3 : (rs.map Row.nm).Nodup) (h4 : Lad (-1) (lvs rs)) : RowsOk rs :=
  ⟨h1, fun r hr => (h2 r hr).1, fun r hr => (h2 r hr).2, h3, h4.lev⟩
theorem RowsOk.lad {rs : List Row} (h : RowsOk rs) : Lad (-1) (lvs rs) := LevOk.lad h.lev
theorem lvs_app (a b : List Row) : lvs (a ++ b) = lvs a ++ lvs b := by simp [lvs]
def treesR (rs : List Row) (o : Option Nat) : List (List Row) := (sibs (lvs rs) o).map fun c => (subT rs c).map (up (-((lvs rs).getD c 0)))
def withT (rs : List Row) : Option Nat → List (List Row) → List Row
  | none, ts => ts.flatten
  | some p, ts => rs.take (p + 1) ++ ts.flatten.map (up ((lvs rs).getD p 0 + 1)) ++ rs.drop (p + 1 + kids (lvs rs) p)
def cutR (rs : List Row) (p : Nat) : List Row := rs.take p ++ rs.drop (p + 1 + kids (lvs rs) p)
def liftR (rs : List Row) (p : Nat) : List Row := rs.take p ++ ((rs.drop (p + 1)).take (kids (lvs rs) p)).map (up (-1)) ++ rs.drop (p + 1 + kids (lvs rs) p)
def subR (rs : List Row) (p : Nat) : List Row := (subT rs p).map (up (-((lvs rs).getD p 0)))
def putR (rs : List Row) (o : Option Nat) (rank : Nat) (t : List Row) : List Row := withT rs o ((treesR rs o).take rank ++ [t] ++ (treesR rs o).drop rank)
def wrapR (rs : List Row) (o : Option Nat) (nm : List Nat) (va : Int) (f l : Nat) : List Row :=
  withT rs o ((treesR rs o).take f ++ [⟨nm, va, 0⟩ :: (((treesR rs o).drop f).take (l - f)).flatten.map (up 1)] ++ (treesR rs o).drop l)
def revR (rs : List Row) (o : Option Nat) : List Row := withT rs o (treesR rs o).reverse
def setR (rs : List Row) (nm : List Nat) (va : Int) : List Row := rs.map fun r => if r.nm = nm then ⟨r.nm, va, r.lv⟩ else r
/-- a tree, or several: levels from 0 on -/
structure TrOk (t : List Row) : Prop where
  lad : Lad (-1) (lvs t)
  rv : ∀ r ∈ t, RV r
theorem Lad.neg1 {m : Int} {ls : List Int} (h : Lad m ls) (hm : -1 ≤ m) : -1 ≤ lastL m ls := by
  refine lastL_ge ls m (-1) hm fun l hl => ?_
  have := h.nonneg l hl
  omega
theorem flat_ok {ts : List (List Row)} (h : ∀ t ∈ ts, TrOk t) : TrOk ts.flatten := by
  constructor
  · have : ∀ m : Int, -1 ≤ m → Lad m (lvs ts.flatten) := by
      induction ts with
      | nil => intro m _; trivial
      | cons t r ih =>
        intro m hm
        rw [List.flatten_cons, lvs_app, lad_append]
        have h1 := ((h t (by simp)).lad).mono hm
        exact ⟨h1, ih (fun t ht => h t (by simp [ht])) _ (h1.neg1 hm)⟩
    exact this (-1) (by omega)
  · intro r hr
    obtain ⟨t, ht, hrt⟩ := List.mem_flatten.mp hr
    exact (h t ht).rv r hrt
theorem getD_mem {ls : List Int} {j : Nat} (h : j < ls.length) : ls.getD j 0 ∈ ls := by
  rw [List.getD, List.getElem?_eq_getElem h]; exact List.getElem_mem h
section
variable {rs : List Row}
theorem lastL_take (ls : List Int) : ∀ (p : Nat) (m : Int), p < ls.length → lastL m (ls.take (p + 1)) = ls.getD p 0 := by
  induction ls with
  | nil => intro p m h; simp at h
  | cons x r ih =>
    intro p m h
    cases p with
    | zero => simp [lastL]
    | succ p => rw [List.take_succ_cons]; show lastL x (r.take (p + 1)) = _; rw [ih p x (by simpa using h)]; simp [List.getD]
theorem split3 {p : Nat} (hp : p < rs.length) : rs = rs.take (p + 1) ++ (rs.drop (p + 1)).take (kids (lvs rs) p) ++ rs.drop (p + 1 + kids (lvs rs) p) := by
  rw [List.append_assoc, ← List.drop_drop (i := kids (lvs rs) p) (j := p + 1), List.take_append_drop, List.take_append_drop]
theorem blk_gt {p : Nat} (hp : p < rs.length) : ∀ l ∈ lvs ((rs.drop (p + 1)).take (kids (lvs rs) p)), (lvs rs).getD p 0 + 1 ≤ l := by
  intro l hl
  have hll : (lvs rs).length = rs.length := by simp [lvs]
  have hb := kids_le (lvs rs) p (by omega)
  rw [lvs, List.mem_map] at hl
  obtain ⟨r, hr, rfl⟩ := hl
  obtain ⟨i, hi, rfl⟩ := List.getElem_of_mem hr
  have hi2 : i < kids (lvs rs) p := by have := hi; simp at this; omega
  have := kids_lt (rs := rs) (p := p) (j := p + 1 + i) (by omega) (by omega) (by omega)
  rw [lv_at (j := p + 1 + i) (by omega)] at this
  simp only [List.getElem_take, List.getElem_drop]
  omega
theorem tail_le {p : Nat} (hp : p < rs.length) {m : Int} (h : Lad m (lvs (rs.drop (p + 1 + kids (lvs rs) p)))) {n : Int} (hn : (lvs rs).getD p 0 ≤ n + 1) : Lad n (lvs (rs.drop (p + 1 + kids (lvs rs) p))) := by
  cases e : rs.drop (p + 1 + kids (lvs rs) p) with
  | nil => trivial
  | cons x r =>
    rw [e] at h
    have hlt : p + 1 + kids (lvs rs) p < rs.length := by
      have : (rs.drop (p + 1 + kids (lvs rs) p)).length = (x :: r).length := by rw [e]
      simp at this
      omega
    have h2 := kids_end (rs := rs) (p := p) hlt
    rw [lv_at hlt] at h2
    have : rs[p + 1 + kids (lvs rs) p] = x := by
      have h3 := List.drop_eq_getElem_cons hlt
      rw [e] at h3
      exact (List.cons.inj h3).1.symm
    rw [this] at h2
    exact ⟨h.1, by show x.lv ≤ n + 1; omega, h.2.2⟩
theorem withT_ok (h : RowsOk rs) {o : Option Nat} (ho : ∀ p, o = some p → p < rs.length) {ts : List (List Row)} (ht : ∀ t ∈ ts, TrOk t) : TrOk (withT rs o ts) := by
  cases o with
  | none => exact flat_ok ht
  | some p =>
    have hp := ho p rfl
    have hl : (lvs rs).length = rs.length := by simp [lvs]
    have F := flat_ok ht
    have L := h.lad
    rw [split3 hp] at L
    rw [lvs_app, lvs_app, lad_append, lad_append] at L
    have e1 : lastL (-1) (lvs (rs.take (p + 1))) = (lvs rs).getD p 0 := by
      have := lastL_take (lvs rs) p (-1) (by omega)
      rw [← this]; simp [lvs]
    have hpl : 0 ≤ (lvs rs).getD p 0 := h.lad.nonneg _ (getD_mem (by omega))
    constructor
    · unfold withT
      rw [lvs_app, lvs_app, lad_append, lad_append, e1]
      have s : Lad ((lvs rs).getD p 0) (lvs (ts.flatten.map (up ((lvs rs).getD p 0 + 1)))) := by
        rw [up_lvs]
        have := F.lad.shift ((lvs rs).getD p 0 + 1) fun l hl => by have := F.lad.nonneg l hl; omega
        rwa [show (-1 : Int) + ((lvs rs).getD p 0 + 1) = (lvs rs).getD p 0 by omega] at this
      refine ⟨⟨L.1.1, s⟩, tail_le hp L.2 ?_⟩
      rw [lastL_append, e1]
      have := lastL_ge (lvs (ts.flatten.map (up ((lvs rs).getD p 0 + 1)))) ((lvs rs).getD p 0) ((lvs rs).getD p 0) (by omega) fun l hl => by
        rw [up_lvs] at hl
        obtain ⟨x, hx, rfl⟩ := List.mem_map.mp hl
        have := F.lad.nonneg x hx
        show _ ≤ x + _
        omega
      omega
    · intro r hr
      unfold withT at hr
      rcases List.mem_append.mp hr with hr | hr
      · rcases List.mem_append.mp hr with hr | hr
        · exact h.rv r (List.mem_of_mem_take hr)
        · obtain ⟨x, hx, rfl⟩ := List.mem_map.mp hr
          exact (F.rv x hx).up _
      · exact h.rv r (List.mem_of_mem_drop hr)
theorem lad_drop (h : RowsOk rs) (p n : Nat) (hp : p + n ≤ rs.length) : Lad (lastL (-1) (lvs (rs.take p))) (lvs ((rs.drop p).take n)) := by
  have L := h.lad
  have e : rs = rs.take p ++ ((rs.drop p).take n ++ (rs.drop p).drop n) := by rw [List.take_append_drop, List.take_append_drop]
  rw [e, lvs_app, lvs_app, lad_append, lad_append] at L
  exact L.2.1
theorem subT_ge {p : Nat} (hp : p < rs.length) : ∀ l ∈ lvs (subT rs p), (lvs rs).getD p 0 ≤ l := by
  intro l hl
  have e1 : subT rs p = rs[p] :: (rs.drop (p + 1)).take (kids (lvs rs) p) := by
    unfold subT
    rw [List.drop_eq_getElem_cons hp, Nat.add_comm 1, List.take_succ_cons]
  rw [e1] at hl
  simp only [lvs, List.map_cons, List.mem_cons] at hl
  rcases hl with hl | hl
  · rw [hl, lv_at hp]; omega
  · have := blk_gt hp l hl; omega
theorem subR_ok (h : RowsOk rs) {p : Nat} (hp : p < rs.length) : TrOk (subR rs p) := by
  have hl : (lvs rs).length = rs.length := by simp [lvs]
  have hb := kids_le (lvs rs) p (by omega)
  constructor
  · have L := lad_drop h p (1 + kids (lvs rs) p) (by omega)
    unfold subR
    rw [up_lvs]
    have e1 : subT rs p = rs[p] :: (rs.drop (p + 1)).take (kids (lvs rs) p) := by
      unfold subT
      rw [List.drop_eq_getElem_cons hp, Nat.add_comm 1, List.take_succ_cons]
    have L' : Lad ((lvs rs).getD p 0 - 1) (lvs (subT rs p)) := by
      have L2 : Lad (lastL (-1) (lvs (rs.take p))) (lvs (subT rs p)) := L
      rw [e1] at L2 ⊢
      exact ⟨L2.1, by rw [lv_at hp]; show rs[p].lv ≤ _; omega, L2.2.2⟩
    have := L'.shift (-((lvs rs).getD p 0)) fun l hl => by have := subT_ge hp l hl; omega
    rwa [show (lvs rs).getD p 0 - 1 + -((lvs rs).getD p 0) = -1 by omega] at this
  · intro r hr
    obtain ⟨x, hx, rfl⟩ := List.mem_map.mp hr
    exact (h.rv x (List.mem_of_mem_drop (List.mem_of_mem_take hx))).up _
theorem sibs_lt {o : Option Nat} {c : Nat} (h : c ∈ sibs (lvs rs) o) : c < rs.length := by
  have := (List.mem_filter.mp h).1
  simpa [lvs] using this
theorem trees_ok (h : RowsOk rs) (o : Option Nat) : ∀ t ∈ treesR rs o, TrOk t := by
  intro t ht
  obtain ⟨c, hc, rfl⟩ := List.mem_map.mp ht
  exact subR_ok h (sibs_lt hc)
theorem trees_len (o : Option Nat) : (treesR rs o).length = (sibs (lvs rs) o).length := by simp [treesR]
/-- the names of all children's subtrees are those of the block -/
theorem trees_names (h : RowsOk rs) {o : Option Nat} (ho : ∀ p, o = some p → p < rs.length) : (treesR rs o).flatten.map Row.nm = (blk rs o).map Row.nm := by
  have e := sibs_pieces h o ho
  have f := pieces_flat (blv rs o) (blk rs o)
  rw [← e] at f
  conv => rhs; rw [← f]
  unfold treesR
  generalize sibs (lvs rs) o = l
  induction l with
  | nil => rfl
  | cons c l ih => simp only [List.map_cons, List.flatten_cons, List.map_append, ih]; congr 1; simp [up]
theorem withT_names {o : Option Nat} (ho : ∀ p, o = some p → p < rs.length) : ∃ A B : List (List Nat), rs.map Row.nm = A ++ (blk rs o).map Row.nm ++ B ∧ ∀ ts, (withT rs o ts).map Row.nm = A ++ ts.flatten.map Row.nm ++ B := by
  cases o with
  | none => exact ⟨[], [], by simp [blk], fun ts => by simp [withT]⟩
  | some p =>
    refine ⟨(rs.take (p + 1)).map Row.nm, (rs.drop (p + 1 + kids (lvs rs) p)).map Row.nm, ?_, fun ts => ?_⟩
    · conv => lhs; rw [split3 (ho p rfl)]
      simp only [List.map_append, blk]
    · simp only [withT, List.map_append, up_nm]
/-- names of a new row of trees: those of all rows, and some -/
theorem withT_perm (h : RowsOk rs) {o : Option Nat} (ho : ∀ p, o = some p → p < rs.length) {ts : List (List Row)} {ns : List (List Nat)} (hp : List.Perm (ts.flatten.map Row.nm) (ns ++ (treesR rs o).flatten.map Row.nm)) : List.Perm ((withT rs o ts).map Row.nm) (ns ++ rs.map Row.nm) := by
  obtain ⟨A, B, h1, h2⟩ := withT_names (rs := rs) ho
  rw [h1, h2 ts, ← trees_names h ho]
  refine ((List.Perm.append_left A hp).append_right B).trans ?_
  rw [← List.append_assoc A, ← List.append_assoc ns, ← List.append_assoc ns]
  exact ((List.perm_append_comm (l₁ := A) (l₂ := ns)).append_right _).append_right B
theorem rows_of_perm {rs' : List Row} {ns : List (List Nat)} (h : RowsOk rs) (t : TrOk rs') (hp : List.Perm (rs'.map Row.nm) (ns ++ rs.map Row.nm)) (hn : ns.Nodup) (hd : ∀ x ∈ ns, x ∉ rs.map Row.nm) (hl : ns.length + rs.length ≤ 60) : RowsOk rs' := by
  refine rowsOk_of ?_ t.rv ?_ t.lad
  · have := hp.length_eq; simp at this; omega
  · rw [hp.nodup_iff, List.nodup_append]
    exact ⟨hn, h.nd, fun a ha b hb e => hd a ha (e ▸ hb)⟩
theorem put_ok (h : RowsOk rs) {o : Option Nat} (ho : ∀ p, o = some p → p < rs.length) {rank : Nat} {t : List Row} (ht : TrOk t) (hn : (t.map Row.nm).Nodup) (hd : ∀ x ∈ t.map Row.nm, x ∉ rs.map Row.nm) (hl : t.length + rs.length ≤ 60) :
    RowsOk (putR rs o rank t) ∧ List.Perm ((putR rs o rank t).map Row.nm) (t.map Row.nm ++ rs.map Row.nm) := by
  have p : List.Perm ((putR rs o rank t).map Row.nm) (t.map Row.nm ++ rs.map Row.nm) := by
    refine withT_perm h ho ?_
    rw [List.flatten_append, List.flatten_append, List.map_append, List.map_append, List.flatten_singleton]
    conv => rhs; rw [← List.take_append_drop rank (treesR rs o), List.flatten_append, List.map_append, ← List.append_assoc]
    exact (List.perm_append_comm).append_right _
  refine ⟨rows_of_perm h (withT_ok h ho fun u hu => ?_) p hn hd (by simpa using hl), p⟩
  rcases List.mem_append.mp hu with hu | hu
  · rcases List.mem_append.mp hu with hu | hu
    · exact trees_ok h o u (List.mem_of_mem_take hu)
    · rw [List.mem_singleton.mp hu]; exact ht
  · exact trees_ok h o u (List.mem_of_mem_drop hu)
theorem new_ok {nm : List Nat} {va : Int} (h1 : NameOk nm) (h2 : -(10 ^ 30) ≤ va ∧ va ≤ 10 ^ 30) : TrOk [⟨nm, va, 0⟩] :=
  ⟨⟨Int.le_refl _, by show (0 : Int) ≤ -1 + 1; omega, trivial⟩, fun r hr => by rw [List.mem_singleton.mp hr]; exact ⟨h1, h2⟩⟩
theorem rev_ok (h : RowsOk rs) {o : Option Nat} (ho : ∀ p, o = some p → p < rs.length) : RowsOk (revR rs o) ∧ List.Perm ((revR rs o).map Row.nm) (rs.map Row.nm) := by
  have p : List.Perm ((revR rs o).map Row.nm) ([] ++ rs.map Row.nm) := by
    refine withT_perm h ho ?_
    exact ((List.reverse_perm (treesR rs o)).flatten).map Row.nm
  exact ⟨rows_of_perm h (withT_ok h ho fun u hu => trees_ok h o u (List.mem_reverse.mp hu)) p (by simp) (by simp) (by have := h.len; simpa using this), p⟩
theorem wrap_ok (h : RowsOk rs) {o : Option Nat} (ho : ∀ p, o = some p → p < rs.length) {nm : List Nat} {va : Int} (h1 : NameOk nm) (h2 : -(10 ^ 30) ≤ va ∧ va ≤ 10 ^ 30) (hd : nm ∉ rs.map Row.nm) {f l : Nat} (hfl : f ≤ l) (hl : rs.length < 60) :
    RowsOk (wrapR rs o nm va f l) ∧ List.Perm ((wrapR rs o nm va f l).map Row.nm) (nm :: rs.map Row.nm) := by
  have p : List.Perm ((wrapR rs o nm va f l).map Row.nm) ([nm] ++ rs.map Row.nm) := by
    refine withT_perm h ho ?_
    rw [List.flatten_append, List.flatten_append, List.map_append, List.map_append, List.flatten_singleton, List.map_cons, up_nm]
    have e : treesR rs o = (treesR rs o).take f ++ (((treesR rs o).drop f).take (l - f) ++ (treesR rs o).drop l) := by
      have : (treesR rs o).drop l = ((treesR rs o).drop f).drop (l - f) := by rw [List.drop_drop]; congr 1; omega
      rw [this, List.take_append_drop, List.take_append_drop]
    conv => rhs; rw [e, List.flatten_append, List.flatten_append, List.map_append, List.map_append, ← List.append_assoc]
    rw [List.append_assoc, List.append_assoc]
    simp only [List.cons_append, List.nil_append]
    exact List.perm_middle
  refine ⟨rows_of_perm h (withT_ok h ho fun u hu => ?_) p (by simp) (by simpa using hd) (by simp; omega), p⟩
  rcases List.mem_append.mp hu with hu | hu
  · rcases List.mem_append.mp hu with hu | hu
    · exact trees_ok h o u (List.mem_of_mem_take hu)
    · rw [List.mem_singleton.mp hu]
      have F : TrOk (((treesR rs o).drop f).take (l - f)).flatten := flat_ok fun t ht => trees_ok h o t (List.mem_of_mem_drop (List.mem_of_mem_take ht))
      constructor
      · refine ⟨Int.le_refl _, by show (0 : Int) ≤ -1 + 1; omega, ?_⟩
        have := F.lad.shift 1 fun x hx => by have := F.lad.nonneg x hx; omega
        rw [← up_lvs] at this
        exact this
      · intro r hr
        rcases List.mem_cons.mp hr with e | hr
        · rw [e]; exact ⟨h1, h2⟩
        · obtain ⟨x, hx, rfl⟩ := List.mem_map.mp hr
          exact (F.rv x hx).up _
  · exact trees_ok h o u (List.mem_of_mem_drop hu)
theorem sub_ok {rs' : List Row} (h : RowsOk rs) (t : TrOk rs') (hs : List.Sublist (rs'.map Row.nm) (rs.map Row.nm)) : RowsOk rs' := by
  refine rowsOk_of ?_ t.rv (hs.nodup h.nd) t.lad
  have := hs.length_le
  have := h.len
  simp_all
  omega
theorem cut_ok (h : RowsOk rs) {p : Nat} (hp : p < rs.length) : RowsOk (cutR rs p) := by
  have hl : (lvs rs).length = rs.length := by simp [lvs]
  have hb := kids_le (lvs rs) p (by omega)
  refine sub_ok h ⟨?_, fun r hr => ?_⟩ ?_
  · have L := h.lad
    rw [split3 hp, lvs_app, lvs_app, lad_append, lad_append] at L
    have L1 : Lad (-1) (lvs (rs.take p)) ∧ (lvs rs).getD p 0 ≤ lastL (-1) (lvs (rs.take p)) + 1 := by
      have L := h.lad
      have e : rs = rs.take p ++ rs[p] :: rs.drop (p + 1) := by rw [List.getElem_cons_drop, List.take_append_drop]
      rw [e, lvs_app, lad_append] at L
      exact ⟨L.1, by rw [lv_at hp]; exact L.2.2.1⟩
    unfold cutR
    rw [lvs_app, lad_append]
    exact ⟨L1.1, tail_le hp L.2 L1.2⟩
  · rcases List.mem_append.mp hr with hr | hr
    · exact h.rv r (List.mem_of_mem_take hr)
    · exact h.rv r (List.mem_of_mem_drop hr)
  · refine List.Sublist.map _ ?_
    unfold cutR
    conv => rhs; rw [← List.take_append_drop p rs]
    refine List.Sublist.append (List.Sublist.refl _) ?_
    rw [show p + 1 + kids (lvs rs) p = p + (1 + kids (lvs rs) p) by omega, ← List.drop_drop]
    exact List.drop_sublist _ _
theorem lift_ok (h : RowsOk rs) {p : Nat} (hp : p < rs.length) : RowsOk (liftR rs p) := by
  have hl : (lvs rs).length = rs.length := by simp [lvs]
  have hb := kids_le (lvs rs) p (by omega)
  have L := h.lad
  rw [split3 hp, lvs_app, lvs_app, lad_append, lad_append] at L
  have e1 : lastL (-1) (lvs (rs.take (p + 1))) = (lvs rs).getD p 0 := by
    have := lastL_take (lvs rs) p (-1) (by omega)
    rw [← this]; simp [lvs]
  have hpl : 0 ≤ (lvs rs).getD p 0 := h.lad.nonneg _ (getD_mem (by omega))
  have L1 : Lad (-1) (lvs (rs.take p)) ∧ (lvs rs).getD p 0 ≤ lastL (-1) (lvs (rs.take p)) + 1 := by
    have L := h.lad
    have e : rs = rs.take p ++ rs[p] :: rs.drop (p + 1) := by rw [List.getElem_cons_drop, List.take_append_drop]
    rw [e, lvs_app, lad_append] at L
    exact ⟨L.1, by rw [lv_at hp]; exact L.2.2.1⟩
  rw [e1] at L
  have hg := blk_gt hp
  have s := L.1.2.shift (-1) fun l hl => by have := hg l hl; omega
  rw [← up_lvs] at s
  refine sub_ok h ⟨?_, fun r hr => ?_⟩ ?_
  · unfold liftR
    rw [lvs_app, lvs_app, lad_append, lad_append]
    refine ⟨⟨L1.1, s.mono (by omega)⟩, tail_le hp L.2 ?_⟩
    rw [lastL_append]
    have := lastL_ge (lvs (((rs.drop (p + 1)).take (kids (lvs rs) p)).map (up (-1)))) (lastL (-1) (lvs (rs.take p))) ((lvs rs).getD p 0 - 1) (by omega) fun l hl => by
      rw [up_lvs] at hl
      obtain ⟨x, hx, rfl⟩ := List.mem_map.mp hl
      have := hg x hx
      show _ ≤ x + -1
      omega
    omega
  · rcases List.mem_append.mp hr with hr | hr
    · rcases List.mem_append.mp hr with hr | hr
      · exact h.rv r (List.mem_of_mem_take hr)
      · obtain ⟨x, hx, rfl⟩ := List.mem_map.mp hr
        exact (h.rv x (List.mem_of_mem_drop (List.mem_of_mem_take hx))).up _
    · exact h.rv r (List.mem_of_mem_drop hr)
  · unfold liftR
    rw [List.map_append, List.map_append, up_nm, ← List.map_append, ← List.map_append]
    refine List.Sublist.map _ ?_
    conv => rhs; rw [← List.take_append_drop p rs, List.drop_eq_getElem_cons hp]
    rw [List.append_assoc]
    refine List.Sublist.append (List.Sublist.refl _) ?_
    rw [← List.drop_drop (i := kids (lvs rs) p) (j := p + 1), List.take_append_drop]
    exact List.sublist_cons_self _ _
theorem set_ok (h : RowsOk rs) {nm : List Nat} {va : Int} (h2 : -(10 ^ 30) ≤ va ∧ va ≤ 10 ^ 30) : RowsOk (setR rs nm va) := by
  have e1 : (setR rs nm va).map Row.nm = rs.map Row.nm := by
    unfold setR; rw [List.map_map]; apply List.map_congr_left; intro r _; simp only [Function.comp]; split <;> rfl
  have e2 : (setR rs nm va).map Row.lv = rs.map Row.lv := by
    unfold setR; rw [List.map_map]; apply List.map_congr_left; intro r _; simp only [Function.comp]; split <;> rfl
  refine ⟨by simp [setR, h.len], fun r hr => ?_, fun r hr => ?_, by rw [e1]; exact h.nd, by rw [e2]; exact h.lev⟩
  · obtain ⟨x, hx, rfl⟩ := List.mem_map.mp hr
    split <;> exact h.names x hx
  · obtain ⟨x, hx, rfl⟩ := List.mem_map.mp hr
    split
    · exact h2
    · exact h.vals x hx
end
end FL

set_option Elab.async false
set_option linter.all false
set_option maxRecDepth 100000
set_option maxHeartbeats 4000000
set_option autoImplicit false
namespace DL
open PySem L2

/-! ### a tuple of texts that stands at the top of the program -/
def strsB : List Value → List Str → Bool
  | [], [] => true
  | .str z _ :: r, y :: ys => decide (z = y) && strsB r ys
  | _, _ => false
theorem strsB_ok : ∀ (us : List Value) (zs : List Str), strsB us zs = true → Vals (zs.map V.str) us
  | [], [], _ => .nil
  | u :: r, [], h => by cases u <;> cases h
  | [], y :: ys, h => by cases h
  | u :: r, y :: ys, h => by
    cases u with
    | str z t =>
      obtain ⟨h1, h2⟩ := He.ba h
      have e : z = y := of_decide_eq_true h1
      subst e
      exact .cons ⟨t, rfl⟩ (strsB_ok r ys h2)
    | _ => cases h
def tupB (K : PySem.W.Frag) (a : Addr) (zs : List Str) : Bool := match K.lookup a with
  | some o => match o.cls, o.data with
    | .type n, .seq its _ => decide (n = "tuple") && (decide (its.size ≤ 1000) && strsB its.toList zs)
    | _, _ => false
  | none => false
def TupK (K : PySem.W.Frag) (a : Addr) (zs : List Str) : Prop := ∃ (o : Obj) (its : Array Value) (n : Nat), K.lookup a = some o ∧ o.cls = .type "tuple" ∧ o.data = .seq its n ∧ its.size ≤ sizeLine ∧ Vals (zs.map V.str) its.toList
theorem tupB_ok {K : PySem.W.Frag} {a : Addr} {zs : List Str} (h : tupB K a zs = true) : TupK K a zs := by
  unfold tupB at h
  split at h
  · rename_i o ho
    split at h
    · rename_i n its m hc hd
      obtain ⟨h1, h2⟩ := He.ba h
      obtain ⟨h3, h4⟩ := He.ba h2
      have e : n = "tuple" := of_decide_eq_true h1
      subst e
      exact ⟨o, its, m, ho, hc, hd, Nat.le_trans (of_decide_eq_true h3) (by decide), strsB_ok _ _ h4⟩
    · cases h
  · cases h
theorem reps_strs {K : PySem.W.Frag} {cl : ClW} {F : Hp} : ∀ zs : List Str, Reps K cl F (zs.map V.str) (zs.map D.str)
  | [] => .nil
  | z :: zs => .cons (.str z) (reps_strs zs)
section
variable {cl : ClW} {X : Cx} {W : WX} {x : Str} {pos : Pos}
theorem d_globT {a : Addr} {zs : List Str} (hg : Gl X x) (hm : X.mg x = some (.ref a)) (ht : TupK X.K a zs) (hd : (x == ("__debug__" : Str)) = false := by decide) : DE cl X W (.Name x pos) (dC (.tup (zs.map D.str))) := by
  obtain ⟨o, its, n, h1, h2, h3, h4, h5⟩ := ht
  exact d_c (v := .ref a) (pe_glob hg hm rfl hd) fun F => .tup (.inr ⟨o, its, n, h1, h2, h3, h4, h5⟩) (reps_strs zs)
end
end DL

set_option Elab.async false
set_option linter.all false
set_option maxRecDepth 100000
set_option maxHeartbeats 4000000
set_option autoImplicit false
namespace FL
open PySem L2 DL

/-! ### [y for x in l for y in h(x)] -/
theorem wipeD_length (ρ : DL.Env) : ∀ vs : List Nat, (wipeD ρ vs).length = ρ.length
  | [] => rfl
  | v :: vs => by simp [wipeD_length ρ vs]
theorem updM_self {M : Mem} {a : Addr} {d : D} (h : M a = some d) : updM M a d = M := by
  funext b
  by_cases e : b = a
  · rw [e, updM_same, h]
  · rw [updM_ne e]
theorem lc_all {j : Nat} {vs1 : List Nat} {a : Addr} {ρ : DL.Env} (hj : j < ρ.length) : ∀ (ys acc : List D) (M : Mem) (R : Mem → Prop), M a = some (.lst acc) → acc.length + ys.length ≤ 16777216 → R (updM M a (.lst (acc ++ ys))) →
    lcG (fun _ => True) (gN j) dYes (dVar j) vs1 a ys ρ M R := by
  intro ys
  induction ys with
  | nil => intro acc M R h _ q; rw [List.append_nil, updM_self h] at q; exact ⟨trivial, q⟩
  | cons y ys ih =>
    intro acc M R h hl q
    simp only [List.length_cons] at hl
    refine ⟨trivial, ?_⟩
    simp only [gN, dYes, dVar, if_true]
    refine ⟨y, by rw [List.getElem?_set_self (by rw [wipeD_length]; exact hj)], acc, h, by rw [size_line]; omega, ih _ _ R updM_same (by simp; omega) ?_⟩
    rw [updM_updM, List.append_assoc]
    exact q
theorem lc2_flat {α : Type} {ι1 : DTIg} {i j : Nat} {vs vs1 : List Nat} {a : Addr} {ρ : DL.Env} {M : Mem} {Q : DV} (g : α → D) (h : α → List D) (l : List α) (hM : M a = none) (hj : j < ρ.length) (hl : (l.map h).flatten.length ≤ 16777216)
    (step : ∀ x ∈ l, ∀ (M1 : Mem) (R : (Mem → Prop) → List D → Mem → Prop), Keep M M1 → (∀ M2, Keep M1 M2 → R (fun _ => True) (h x) M2) → ι1 ((wipeD ρ vs).set i (some (g x))) M1 R noX)
    (q : ∀ M', Keep M M' → Q (.lst (l.map h).flatten) M') : lc2G (fun _ => True) (gN i) dYes ι1 (gN j) dYes (dVar j) vs vs1 a (l.map g) ρ (updM M a (.lst [])) (endF a Q) := by
  have go : ∀ (r done : List α) (M1 : Mem), l = done ++ r → M1 a = some (.lst (done.map h).flatten) → Keep M M1 → lc2G (fun _ => True) (gN i) dYes ι1 (gN j) dYes (dVar j) vs vs1 a (r.map g) ρ M1 (endF a Q) := by
    intro r
    induction r with
    | nil =>
      intro done M1 e ha k
      rw [List.append_nil] at e
      subst e
      exact ⟨trivial, _, ha, q _ (k.delN hM)⟩
    | cons x r ih =>
      intro done M1 e ha k
      have hx : x ∈ l := by rw [e]; simp
      have e2 : l = (done ++ [x]) ++ r := by rw [e]; simp
      refine ⟨trivial, ?_⟩
      simp only [gN, dYes, if_true]
      refine step x hx M1 _ k fun M2 k2 => ?_
      have kk : Keep M M2 := fun b c hb => k2 b c (k b c hb)
      refine lc_all (by rw [List.length_set, wipeD_length]; exact hj) _ _ _ _ (k2 _ _ ha) ?_ ?_
      · have h2 : (l.map h).flatten.length = (done.map h).flatten.length + (h x).length + (r.map h).flatten.length := by rw [e]; simp [Nat.add_assoc]
        omega
      · refine ih (done ++ [x]) _ e2 ?_ (kk.updN hM)
        rw [updM_same]
        simp
  exact go l [] _ rfl (by rw [updM_same]; rfl) (fun b c hb => by
    have z : b ≠ a := fun z => by rw [z, hM] at hb; cases hb
    rw [updM_ne z]; exact hb)

/-! ### names of nodes -/
def hasN (rs : List Row) : D → Bool
  | .str z => decide (z.cps.toList ∈ rs.map Row.nm)
  | _ => false
def nmOf : D → List Nat
  | .str z => z.cps.toList
  | _ => []
def ixOf (rs : List Row) (d : D) : Nat := (rs.map Row.nm).idxOf (nmOf d)
theorem hasN_ix {rs : List Row} {d : D} (h : hasN rs d = true) : ixOf rs d < rs.length ∧ d = nmAt rs (ixOf rs d) := by
  cases d with
  | str z =>
    have hm : z.cps.toList ∈ rs.map Row.nm := of_decide_eq_true h
    have hlt := List.idxOf_lt_length_of_mem hm
    have hg := List.getElem_idxOf hlt
    refine ⟨by simpa [ixOf, nmOf] using hlt, ?_⟩
    show D.str z = strD ((rs.map Row.nm).getD ((rs.map Row.nm).idxOf z.cps.toList) [])
    rw [List.getD, List.getElem?_eq_getElem hlt, hg]
    show D.str z = D.str (S z.cps.toList)
    rw [← S_of]
  | _ => cases h
theorem hasN_at {rs : List Row} {p : Nat} (hp : p < rs.length) : hasN rs (nmAt rs p) = true := by
  obtain ⟨x, hx⟩ := row_at hp
  rw [nmAt_of hx]
  exact decide_eq_true (List.mem_map_of_mem (List.mem_of_getElem? hx))
theorem ixOf_at {rs : List Row} (h : RowsOk rs) {p : Nat} (hp : p < rs.length) : ixOf rs (nmAt rs p) = p := by
  obtain ⟨h1, h2⟩ := hasN_ix (hasN_at hp)
  exact ((nm_inj h hp h1).mp h2).symm
theorem hasN_str {rs : List Row} (x : List Nat) : hasN rs (strD x) = decide (x ∈ rs.map Row.nm) := rfl
theorem spot_has {rs : List Row} (z : Str) : inD (.str z) (.dK (spotsK rs) (places rs.length)) = some (.bl (hasN rs (.str z))) := by
  have := spot_mem rs z.cps.toList
  rw [strD, ← S_of] at this
  exact this
/-- a parent: None or a node's name -/
def parOk (rs : List Row) : D → Bool
  | .non => true
  | d => hasN rs d
def parO (rs : List Row) : D → Option Nat
  | .non => none
  | d => some (ixOf rs d)
theorem parO_lt {rs : List Row} {d : D} (h : parOk rs d = true) : ∀ p, parO rs d = some p → p < rs.length := by
  intro p e
  cases d with
  | non => cases e
  | str z => cases e; exact (hasN_ix (d := .str z) h).1
  | _ => cases h
theorem par_cases {rs : List Row} {d : D} (h : parOk rs d = true) : (d = .non ∧ parO rs d = none) ∨ (∃ p, p < rs.length ∧ d = nmAt rs p ∧ parO rs d = some p ∧ (isNonD d .non = some (.bl false))) := by
  cases d with
  | non => exact .inl ⟨rfl, rfl⟩
  | str z => exact .inr ⟨_, (hasN_ix (d := .str z) h).1, (hasN_ix (d := .str z) h).2, rfl, rfl⟩
  | _ => cases h
theorem roots_sibs {rs : List Row} (h : RowsOk rs) : rootsD rs = (sibs (lvs rs) none).map (nmAt rs) := by
  have hl : (lvs rs).length = rs.length := by simp [lvs]
  have L : LevOk (lvs rs) := h.lev
  unfold rootsD sibs
  have e : (List.range (lvs rs).length).filter (fun j => decide ((ancs (lvs rs) j).head? = none)) = (List.range rs.length).filter fun j => decide ((lvs rs).getD j 0 = 0) := by
    rw [hl]
    apply List.filter_congr
    intro j hj
    have hj2 : j < rs.length := by simpa using hj
    have := ancs_nil L (p := j) (by omega)
    congr 1
    rw [← this]
    simp
  rw [e]
  have key : ∀ n, n ≤ rs.length → ((rs.take n).filter fun r => decide (r.lv = 0)).map (fun r => strD r.nm) = ((List.range n).filter fun j => decide ((lvs rs).getD j 0 = 0)).map (nmAt rs) := by
    intro n
    induction n with
    | zero => intro _; simp
    | succ n ih =>
      intro hn
      obtain ⟨x, hx⟩ := row_at (rs := rs) (p := n) (by omega)
      rw [List.take_succ, hx, List.range_succ, List.filter_append, List.filter_append, List.map_append, List.map_append, ih (by omega)]
      congr 1
      have := lvs_of hx
      simp only [Option.toList_some, List.filter_cons, List.filter_nil, this]
      split <;> simp [nmAt_of hx]
  have := key rs.length (Nat.le_refl _)
  rwa [List.take_length] at this
end FL

set_option Elab.async false
set_option linter.all false
set_option maxRecDepth 100000
set_option maxHeartbeats 4000000
set_option autoImplicit false
namespace DL
open PySem L2 PySem.SeqAt

/-! ### x in l, x a list, a tuple or a dict, l a list of texts -/
section
variable {A : Around} {s : Shared}
theorem dict_no2 {prog : Program} {w : World} {a : Addr} {v : Value} {T : String} {E Q : Value → Shared → Prop} (ha : s.TypeIs (.ref a) "dict") (hv : s.TypeIs v T) (hs : isSubtype (.type T) (.type "dict") = pure false) (q : Q .notImplemented s) :
    wpAny (model prog w) A (call (.builtin "dict.__eq__") [.ref a, v]) Q E s := by
  refine wpAny_call_entry PySem.F.slot_dict_eq ha PySem.F.entry_dict_eq ?_ (PySem.F.args_dict_eq_2 _ _)
  show wpAny _ _ (Builtin.Dict.dictSlotArgs "__eq__" ⟨[.ref a, v], []⟩ >>= _) _ _ s
  unfold Builtin.Dict.dictSlotArgs
  refine wpAny_bind (wpAny_bind (wpAny_notOrdered_dict ha ?_))
  refine wpAny_pure (wpAny_bind (wpAny_isInstance (T := T) hv hs ?_))
  simp only [Bool.not_false, if_true]
  exact wpAny_bind (wpAny_rule (wpAny_pure ⟨_, rfl, q⟩))
theorem eqAt_str_dict {a : Addr} {es : Array DictEntry} {ep : Nat} (i : Str) (t : Tok) (ho : s.heap.get? a = some { cls := .type "dict", dict := none, data := .dict es ep, slots := #[] }) (hu : A.units < cLine) : EqAt A s (.str i t) (.ref a) false := fun prog w E Q h => by
  unfold eqBool
  refine wpAny_holding ?_
  refine wpAny_ite_split (fun hab => absurd (eq_of_beq hab) nofun) (fun _ => ?_)
  refine wpAny_bind (rc_eq_decline_or (k := false) (typeIs_str s i t) ⟨_, ho, rfl⟩ (by decide) PySem.F.sub_dict_str PySem.F.slot_str_eq PySem.F.slot_dict_eq_refl ?_ ?_ ?_ (.inr hu) (wpAny_truthy_bool h))
  · exact fun _ hq => call_meets PySem.F.slot_str_eq (typeIs_str s i t) PySem.F.entry_str_eq (PySem.F.args_str_eq_2 _ _) (str_no_dict i t a es ep _ _) ⟨ho, hq⟩
  · exact fun _ hq => dict_no2 ⟨_, ho, rfl⟩ (typeIs_str s i t) PySem.F.sub_str_dict hq
  · exact fun _ hq => wpAny_of_eq (rfl : isSame (.str i t) (.ref a) = pure false) hq
end
/-- whether something is a list, a tuple or a dict -/
def bulky : D → Bool
  | .lst _ => true
  | .tup _ => true
  | .dK _ _ => true
  | _ => false
@[simp] def bInX (neg : Bool) : DB2 := fun d e _ M Q _ => ∃ (d' : D) (n : Nat) (zs : List Str), Dv M d d' ∧ plX n d' = true ∧ bulky d' = true ∧ vw M e = .lst (zs.map D.str) ∧ Q (.bl neg) M
section
variable {cl : ClW} {X : Cx} {W : WX} {pins : List (Addr × Obj)} {σ : St} {H : Hp} {s : Shared}
theorem reps_str {K : PySem.W.Frag} {F : Hp} : ∀ {vs : List V} {zs : List Str}, Reps K cl F vs (zs.map D.str) → vs = zs.map V.str
  | _, [], h => h.inv0
  | _, z :: zs, h => by
    obtain ⟨v, ws, rfl, a, b⟩ := h.inv
    rw [a.toStr, reps_str b]; rfl
theorem eq_bulky {d : D} {v : Value} {i : Str} {t : Tok} {A : Around} (sd : Side X cl H s d v) (hb : bulky d = true) (hu : A.units < cLine) : EqAt A s (.str i t) v false := by
  cases sd with
  | lst h1 h2 h3 => exact EqAt.str_list i t h1 hu
  | tup h1 h2 h3 => exact EqAt.str_tuple i t h1 hu
  | dK h0 h1 h2 h3 h4 =>
    obtain ⟨es, ep, ho⟩ := dict_obj h1
    exact eqAt_str_dict i t ho hu
  | _ => cases hb
theorem in_bulky {F : Hp} {M : Mem} {e : D} {y : V} {zs : List Str} (I : Inv X pins σ H s) (g : Good X.K cl F H M) (r2 : Rep X.K cl F y e) (he : vw M e = .lst (zs.map D.str)) : ∃ p, y = .ref p ∧ SqL X.K H p (zs.map V.str) := by
  have hv := vw_ok g r2
  rw [he] at hv
  rcases hv with h | ⟨a, rfl, vs, h1, h2⟩
  · obtain ⟨a, vs, rfl, h1, h2⟩ := h.toLst
    rw [reps_str h2] at h1
    exact ⟨a, rfl, same_l g.sub h1⟩
  · rw [reps_str h2] at h1
    exact ⟨a, rfl, SqL.of h1⟩
theorem str_item {zs : List Str} {us : List Value} (r : Vals (zs.map V.str) us) : ∀ u ∈ us, ∃ i t, u = .str i t := by
  induction zs generalizing us with
  | nil => cases r; intro u hu; cases hu
  | cons z zs ih =>
    cases r with
    | cons r1 r2 =>
      intro u hu
      rcases List.mem_cons.mp hu with rfl | hu
      · obtain ⟨t, rfl⟩ := r1; exact ⟨_, _, rfl⟩
      · exact ih r2 u hu
theorem bin_inX (hu : X.A.units + 64 < cLine) : BinG cl X W (compareOp .In) (bInX false) := fun pins s σ H F ρ M v u x y d e Q Qd Xd I rx ry g sl r1 r2 q p w => by
  obtain ⟨d', n, zs, t1, p1, hb, he, q⟩ := q
  obtain ⟨a, rfl, hq⟩ := in_bulky I g r2 he
  cases ry
  obtain ⟨its, r, pl, hz⟩ := I.list hq
  have sd := side_of I (rep_deep g t1 r1) p1 rx
  refine in_listAt (fun _ => false) pl.isList (fun w hw => ?_) ⟨.bl _, H, I, rfl, ?_⟩
  · obtain ⟨i, t, rfl⟩ := str_item r w (by simpa using hw)
    exact eq_bulky sd hb (by show X.A.units + 1 < cLine; omega)
  · have : its.toArray.any (fun _ => false) = false := by simp
    rw [this]
    exact p.val g (.bl _) q
theorem bin_ninX (hu : X.A.units + 64 < cLine) : BinG cl X W (compareOp .NotIn) (bInX true) := fun pins s σ H F ρ M v u x y d e Q Qd Xd I rx ry g sl r1 r2 q p w => by
  obtain ⟨d', n, zs, t1, p1, hb, he, q⟩ := q
  obtain ⟨a, rfl, hq⟩ := in_bulky I g r2 he
  cases ry
  obtain ⟨its, r, pl, hz⟩ := I.list hq
  have sd := side_of I (rep_deep g t1 r1) p1 rx
  refine notIn_listAt (fun _ => false) pl.isList (fun w hw => ?_) ⟨.bl _, H, I, rfl, ?_⟩
  · obtain ⟨i, t, rfl⟩ := str_item r w (by simpa using hw)
    exact eq_bulky sd hb (by show X.A.units + 1 < cLine; omega)
  · have : its.toArray.any (fun _ => false) = false := by simp
    rw [this]
    exact p.val g (.bl _) q
end
end DL

set_option Elab.async false
set_option linter.all false
set_option maxRecDepth 100000
set_option autoImplicit false
namespace DL
open PySem L2
/-! ### the head's facts over all objects below an address: no search for what is reached; the run looked at in parts -/
def obsR (n : Nat) (fa : List He.Fa) (fn : List He.DefD) (ex : PySem.W.Frag → Bool) (g : Addr → Option Obj) : He.AlD × Bool := (He.obsD fa fn (He.frG g (List.range n)), ex (He.frG g (List.range n)))
def hookR (n : Nat) (fa : List He.Fa) (fn : List He.DefD) (ex : PySem.W.Frag → Bool) : PySem.W.Hook where
  α := He.AlD × Bool
  obs := fun s => obsR n fa fn ex s.heap.get?
  val := fun _ => (He.valD fn, true)
  says := fun _ h => ∃ K : PySem.W.Frag, K.In h ∧ He.SaysD fa fn K ∧ ex K = true
  of := fun _ _ e => ⟨_, He.frG_in, congrArg Prod.fst e, congrArg Prod.snd e⟩
  keeps := fun _ _ _ ⟨K, hK, c⟩ k => ⟨K, PySem.W.Frag.In.keeps hK k, c⟩
theorem obsR_eq {n : Nat} {fa : List He.Fa} {fn : List He.DefD} {ex : PySem.W.Frag → Bool} {g : Addr → Option Obj} {s : Shared} (h : ∀ a, g a = s.heap.get? a) : obsR n fa fn ex g = (hookR n fa fn ex).obs s := by
  have e : g = s.heap.get? := funext h
  rw [e] <;> rfl
theorem opt_pair {α β γ : Type} {o : Option α} {f : α → β} {g : α → γ} {a : β} {b : γ} (h1 : o.map f = some a) (h2 : o.map g = some b) : ∃ s, o = some s ∧ f s = a ∧ g s = b := by
  cases o with
  | none => cases h1
  | some s => exact ⟨s, rfl, Option.some.inj h1, Option.some.inj h2⟩
open PySem.W PySem.Calls PyProof.Rows HandSHeadRun in
theorem runR_of {r : OpenRow} {q : Program} {n : Nat} {fa : List He.Fa} {fn : List He.DefD} {ex : PySem.W.Frag → Bool} {M : Nat} {loose : List PySem.Str} {w : World}
    (h1 : ∀ os, (HandSHeadRun.endF (stepQ (denQ tabQ) r.prog w) M r.prog w os).map (fun s => (looksF r.prog (boot_heap w.params) s.abs, seenQ q loose (importedModules r.prog.main.body) (fun s => xlAt q [] s && recOk r.toRowW.records s) s.abs)) = some (true, openGood q loose))
    (h2 : ∀ os, (HandSHeadRun.endF (stepQ (denQ tabQ) r.prog w) M r.prog w os).map (fun s => fa.all fun f => f.ok (He.frG (getT s) (List.range n))) = some true)
    (h3 : ∀ os, (HandSHeadRun.endF (stepQ (denQ tabQ) r.prog w) M r.prog w os).map (fun s => (fn.all fun d => d.ok (He.frG (getT s) (List.range n)), fn.map fun d => He.fnW (He.frG (getT s) (List.range n)) d.at_)) = some (true, fn.map He.DefD.val))
    (h4 : ∀ os, (HandSHeadRun.endF (stepQ (denQ tabQ) r.prog w) M r.prog w os).map (fun s => ex (He.frG (getT s) (List.range n))) = some true) :
    RunEq r q (hookR n fa fn ex) (fun s => obsR n fa fn ex (getT s)) M loose w := by
  intro os
  obtain ⟨s, e, a1, a2⟩ := opt_pair (h1 os) (h2 os)
  have b3 := h3 os
  have b4 := h4 os
  rw [e] at b3 b4 ⊢
  have b3 := Option.some.inj b3
  have b4 := Option.some.inj b4
  have c1 := congrArg Prod.fst a1
  have c2 := congrArg Prod.snd a1
  have d1 := congrArg Prod.fst b3
  have d2 := congrArg Prod.snd b3
  simp only at c1 c2 d1 d2 b4 a2
  show some (looksF r.prog (boot_heap w.params) s.abs, seenQ q loose (importedModules r.prog.main.body) (fun s => xlAt q [] s && recOk r.toRowW.records s) s.abs, ((((fa.all fun f => f.ok (He.frG (getT s) (List.range n))) && fn.all fun d => d.ok (He.frG (getT s) (List.range n))), fn.map fun d => He.fnW (He.frG (getT s) (List.range n)) d.at_), ex (He.frG (getT s) (List.range n)))) = _
  rw [c1, c2, a2, d1, d2, b4]
  rfl
end DL

set_option Elab.async false
set_option linter.all false
set_option maxRecDepth 100000
set_option maxHeartbeats 4000000
namespace DL
open PySem L2

/-! ### new lists that may change: slices, sums -/
def dSlM (τ : DTE) (lo hi : DTO) : DTE := fun ρ M Q X => τ ρ M (fun d M1 => lo ρ M1 (fun l M2 => hi ρ M2 (fun h M3 => ∃ xs, vw M3 d = .lst xs ∧ ∀ a, M3 a = none → Q (.ref a) (updM M3 a (.lst (cutD xs l h)))) X) X) X
def bAddM : DB2 := fun d e _ M Q _ => ∃ xs ys, vw M d = .lst xs ∧ vw M e = .lst ys ∧ xs.length + ys.length ≤ sizeLine ∧ ∀ a, M a = none → Q (.ref a) (updM M a (.lst (xs ++ ys)))
section
variable {cl : ClW} {X : Cx} {W : WX} {e : Expr} {τ : DTE} {pos : Pos}
theorem d_sliceM {lo hi : Option Expr} {τl τh : DTO} {p2 : Pos} (he : DE cl X W e τ) (hl : DO cl X W lo τl) (hu : DO cl X W hi τh) : DE cl X W (.Subscript e (.Slice lo hi none p2) pos) (dSlM τ τl τh) :=
  ⟨pe_imp (pe_slice sl_list he.pe hl.po hu.po) fun σ H Q ⟨F, ρ, M, Qd, Xd, g, s, t, p, w⟩ =>
    ⟨F, ρ, M, _, Xd, g, s, t, fun v H1 F1 d M1 sm1 g1 r1 q1 => ⟨F1, ρ, M1, _, Xd, g1, s.mono sm1, q1, fun l H2 F2 M2 sm2 g2 q2 => ⟨F2, ρ, M2, _, Xd, g2, s.mono (sm1.trans sm2), q2, fun h H3 F3 M3 sm3 g3 q3 => (by
      obtain ⟨xs, e1, e2⟩ := q3
      have hv := vw_ok g3 (r1.mono (sm2.trans sm3))
      rw [e1] at hv
      obtain ⟨a, vs, rfl, h1, h2⟩ := hv.lst g3.sub
      exact ⟨a, vs, rfl, h1, fun c hc => p _ _ F3 _ _ ((sm1.trans sm2).trans sm3) (g3.newM (d := .lst (cutD xs l h)) hc ⟨_, upd_same, reps_cut h2 l h⟩) (.ref c) (e2 c (g3.freshM hc))⟩), w.mono (sm1.trans sm2)⟩, w.mono sm1⟩, w⟩⟩
theorem bin_addM : BinG cl X W (binaryOp .Add) bAddM := by
  intro pins s σ H F ρ M v u x y d e Q Qd Xd I rx ry g sl r1 r2 h p w
  obtain ⟨xs, ys, e1, e2, hl, q⟩ := h
  have h1 := vw_ok g r1
  have h2 := vw_ok g r2
  rw [e1] at h1
  rw [e2] at h2
  obtain ⟨a, vs, rfl, a1, a2⟩ := h1.lst g.sub
  obtain ⟨b, us, rfl, b1, b2⟩ := h2.lst g.sub
  exact op_catS pins s σ H _ _ v u Q I rx ry ⟨a, b, vs, us, rfl, rfl, a1, b1, by rw [a2.length, b2.length]; exact hl, fun c hc => p _ _ F _ _ (Same.refl F) (g.newM (d := .lst (xs ++ ys)) hc ⟨_, upd_same, a2.append b2⟩) (.ref c) (q c (g.freshM hc))⟩
end
/-! ### a def that is never called: the first step of one that calls itself -/
theorem fnC_never {cl : ClW} {P : Program} {w : World} {K : PySem.W.Frag} {mg : Str → Option Value} {base : Heap} {k : Nat} {x qual : Str} {params : Arguments} {body : List Stmt} {scope : Scope} {ps : List Str} {spd : SpD} {f : Addr} (F : ∃ fd, FunD K x qual params body scope [] [] f fd)
    (h : ∀ ds M Q E, ¬ spd ds M Q E) : FnC cl P w K mg base k x qual params body scope f ps spd := by
  obtain ⟨fd, F⟩ := F
  exact ⟨fd, F, ⟨fun ds M Q E q => absurd q (h ds M Q E), fun A outer s H args us vs Q E _ _ _ _ ⟨_, M, ds, Qd, Ed, _, _, q, _⟩ => absurd q (h ds M Qd Ed)⟩⟩
/-! ### x == [] whatever x holds -/
@[simp] def bEqE : DB2 := fun d e _ M Q _ => ∃ xs ys, vw M d = .lst xs ∧ vw M e = .lst ys ∧ (xs = [] ∨ ys = []) ∧ Q (.bl (xs.isEmpty && ys.isEmpty)) M
@[simp] def bNeE : DB2 := fun d e _ M Q _ => ∃ xs ys, vw M d = .lst xs ∧ vw M e = .lst ys ∧ (xs = [] ∨ ys = []) ∧ Q (.bl (!(xs.isEmpty && ys.isEmpty))) M
section
open PySem.SeqAt
variable {cl : ClW} {X : Cx} {W : WX}
theorem bin_eqE (hu : X.A.units + 64 < cLine) : BinG cl X W (compareOp .Eq) bEqE := fun pins s σ H F ρ M v u x y d e Q Qd Xd I rx ry g sl r1 r2 q p w => by
  obtain ⟨xs, ys, e1, e2, hz, q⟩ := q
  have h1 := vw_ok g r1
  have h2 := vw_ok g r2
  rw [e1] at h1
  rw [e2] at h2
  obtain ⟨a, vs, rfl, a1, a2⟩ := h1.lst g.sub
  obtain ⟨b, us, rfl, b1, b2⟩ := h2.lst g.sub
  cases rx
  cases ry
  obtain ⟨is, i1, i2, _⟩ := I.list a1
  obtain ⟨js, j1, j2, _⟩ := I.list b1
  have l1 := i1.length
  have l2 := j1.length
  have l3 := a2.length
  have l4 := b2.length
  by_cases hl : xs.length = ys.length
  · have x0 : xs = [] := by rcases hz with z | z <;> subst z <;> simpa using hl
    have y0 : ys = [] := by subst x0; simpa using hl.symm
    subst x0 y0
    have i0 : is = [] := by simpa [l3] using l1.symm
    have j0 : js = [] := by simpa [l4] using l2.symm
    subst i0 j0
    exact RcAt.lists (e := fun _ => true) i2.isList j2.isList rfl (by omega) (fun j h => absurd h (by simp)) X.prog X.w X.xe _ ⟨.bl true, H, I, rfl, p.val g (.bl _) q⟩
  · have e0 : (xs.isEmpty && ys.isEmpty) = false := by cases xs <;> cases ys <;> simp at hl ⊢
    rw [e0] at q
    exact RcAt.lists_lengths i2.isList j2.isList (by simp; omega) (by omega) X.prog X.w X.xe _ ⟨.bl false, H, I, rfl, p.val g (.bl _) q⟩
theorem bin_neE (hu : X.A.units + 64 < cLine) : BinG cl X W (compareOp .NotEq) bNeE := fun pins s σ H F ρ M v u x y d e Q Qd Xd I rx ry g sl r1 r2 q p w => by
  obtain ⟨xs, ys, e1, e2, hz, q⟩ := q
  have h1 := vw_ok g r1
  have h2 := vw_ok g r2
  rw [e1] at h1
  rw [e2] at h2
  obtain ⟨a, vs, rfl, a1, a2⟩ := h1.lst g.sub
  obtain ⟨b, us, rfl, b1, b2⟩ := h2.lst g.sub
  cases rx
  cases ry
  obtain ⟨is, i1, i2, _⟩ := I.list a1
  obtain ⟨js, j1, j2, _⟩ := I.list b1
  have l1 := i1.length
  have l2 := j1.length
  have l3 := a2.length
  have l4 := b2.length
  by_cases hl : xs.length = ys.length
  · have x0 : xs = [] := by rcases hz with z | z <;> subst z <;> simpa using hl
    have y0 : ys = [] := by subst x0; simpa using hl.symm
    subst x0 y0
    have i0 : is = [] := by simpa [l3] using l1.symm
    have j0 : js = [] := by simpa [l4] using l2.symm
    subst i0 j0
    exact RcNeAt.lists (e := fun _ => true) i2.isList j2.isList rfl (by omega) (fun j h => absurd h (by simp)) X.prog X.w X.xe _ ⟨.bl false, H, I, rfl, p.val g (.bl _) q⟩
  · have e0 : (xs.isEmpty && ys.isEmpty) = false := by cases xs <;> cases ys <;> simp at hl ⊢
    rw [e0] at q
    exact RcNeAt.lists_lengths i2.isList j2.isList (by simp; omega) (by omega) X.prog X.w X.xe _ ⟨.bl true, H, I, rfl, p.val g (.bl _) q⟩
end
end DL

set_option Elab.async false
set_option linter.all false
set_option maxRecDepth 100000
set_option maxHeartbeats 4000000
namespace DL
open PySem L2
/-! ### a comprehension inside another one that reads none of its names -/
theorem blkOk_in {N : List Str} {sc scope : Scope} {own : List (Str × Nat)} (h : blkC N ⟨.function, [], false, false, []⟩ scope own = true) (hf : (scope.names.all fun y => y.2 != .free) = true) : BlkOk N sc scope own := by
  have b := blkOk_by h
  exact ⟨b.kind, b.uniq, b.ix, fun y hy e => absurd e (by simpa using List.all_eq_true.mp hf y hy), b.own⟩
end DL

set_option Elab.async false
set_option linter.all false
set_option maxRecDepth 100000
set_option maxHeartbeats 4000000
namespace DL
open PySem L2

/-! ### repr of a list or a tuple of plain data, empty dicts among them -/
mutual
def toPyX : D → Option PyData
  | .non => some .none
  | .bl b => some (.bool b)
  | .int i => some (.int i)
  | .str x => some (.str x)
  | .lst xs => (toPyXs xs).map .list
  | .tup xs => (toPyXs xs).map .tuple
  | .dK [] [] => some (.dict [])
  | _ => none
def toPyXs : List D → Option (List PyData)
  | [] => some []
  | d :: ds => (toPyX d).bind fun p => (toPyXs ds).map fun ps => p :: ps
end
/-- the table of modules is a dict of the written part -/
def SmOk (K : PySem.W.Frag) : Prop := ∃ o, K.lookup sysModules = some o ∧ o.cls = .type "dict"
def smB (K : PySem.W.Frag) : Bool := match K.lookup sysModules with
  | some o => o.cls == .type "dict"
  | none => false
theorem smB_ok {K : PySem.W.Frag} (h : smB K = true) : SmOk K := by
  unfold smB at h
  split at h
  · exact ⟨_, by assumption, beq_iff_eq.mp h⟩
  · cases h
section
variable {X : Cx} {cl : ClW} {pins : List (Addr × Obj)} {σ : St} {H : Hp} {s : Shared}
theorem sm_ne (I : Inv X pins σ H s) (sm : SmOk X.K) {a : Addr} {o : Obj} (h : s.heap.get? a = some o) (hc : o.cls = .type "list") : sysModules ≠ a := fun e => by
  obtain ⟨o', h1, h2⟩ := sm
  have := I.kIn _ _ h1
  rw [e, h] at this
  have e2 := Option.some.inj this
  rw [← e2, hc] at h2
  exact absurd h2 (by decide)
mutual
theorem reads_of (I : Inv X pins σ H s) (sm : SmOk X.K) : ∀ {x : V} {d : D}, Rep X.K cl H x d → ∀ {u : Value} {p : PyData}, RelV x u → toPyX d = some p → ∃ as, Reads s.heap u p as ∧ sysModules ∉ as
  | _, _, .non, u, p, r, e => by cases (show u = Value.none from r); cases e; exact ⟨[], .none, by simp⟩
  | _, _, .bl b, u, p, r, e => by cases (show u = Value.bool b from r); cases e; exact ⟨[], .bool b, by simp⟩
  | _, _, .int i, u, p, r, e => by obtain ⟨t, rfl⟩ := r; cases e; exact ⟨[], .int i t, by simp⟩
  | _, _, .str z, u, p, r, e => by obtain ⟨t, rfl⟩ := r; cases e; exact ⟨[], .str z t, by simp⟩
  | _, _, .lst h1 h2, u, p, r, e => by
    cases (show u = Value.ref _ from r)
    obtain ⟨us, r1, p1, _⟩ := I.list h1
    obtain ⟨o, ho, hc, n, hd⟩ := p1.isList
    simp only [toPyX] at e
    obtain ⟨ps, e1, rfl⟩ := Option.map_eq_some_iff.mp e
    obtain ⟨as, q1, q2⟩ := readss_of I sm h2 r1 e1
    refine ⟨_, .list ho hc hd q1, ?_⟩
    intro z
    rcases List.mem_cons.mp z with z | z
    · exact sm_ne I sm ho hc z
    · exact q2 z
  | _, _, .tup h1 h2, u, p, r, e => by
    cases (show u = Value.ref _ from r)
    obtain ⟨us, r1, p1, _⟩ := I.tuple h1.sq
    obtain ⟨o, ho, hc, n, hd⟩ := p1
    simp only [toPyX] at e
    obtain ⟨ps, e1, rfl⟩ := Option.map_eq_some_iff.mp e
    obtain ⟨as, q1, q2⟩ := readss_of I sm h2 r1 e1
    exact ⟨_, .tuple ho hc hd q1, q2⟩
  | _, _, .dK (a := a) (ks := ks) (ds := ds) h1 h2 h3, u, p, r, e => by
    cases (show u = Value.ref _ from r)
    obtain ⟨_, y, us, r1, dd⟩ := (show ObjOk X.prog X.w H s.heap _ (.dK _) from I.hok _ _ h1)
    cases ks with
    | cons k ks => simp [toPyX] at e
    | nil =>
      cases ds with
      | cons d ds => simp [toPyX] at e
      | nil =>
        cases e
        have hu : us = [] := by
          have := KV.length r1
          simp at this
          exact List.eq_nil_of_length_eq_zero this.symm
        subst hu
        obtain ⟨o, es, ep, ho, hx, hd, _, hp, _⟩ := dd
        have he : es.toList = [] := List.eq_nil_of_length_eq_zero (by rw [hp.length]; rfl)
        refine ⟨a :: [] ++ [], .dict ho hx.1 hd (kvs := []) (by rw [he]; exact .nil) (by rw [he]; exact .nil), ?_⟩
        simp only [List.append_nil, List.mem_singleton]
        intro z
        rw [← z] at y
        cases y
  | _, _, .byt b, u, p, r, e => by simp [toPyX] at e
  | _, _, .ty b, u, p, r, e => by simp [toPyX] at e
  | _, _, .ref b, u, p, r, e => by simp [toPyX] at e
  | _, _, .cls b, u, p, r, e => by simp [toPyX] at e
  | _, _, .dT _ _ _, u, p, r, e => by simp [toPyX] at e
  | _, _, .obj _ _ _, u, p, r, e => by simp [toPyX] at e
  | _, _, .exc _ _ _, u, p, r, e => by simp [toPyX] at e
  | _, _, .xob _ _ _, u, p, r, e => by simp [toPyX] at e
  | _, _, .thk _ _, u, p, r, e => by simp [toPyX] at e
theorem readss_of (I : Inv X pins σ H s) (sm : SmOk X.K) : ∀ {xs : List V} {ds : List D}, Reps X.K cl H xs ds → ∀ {us : List Value} {ps : List PyData}, Vals xs us → toPyXs ds = some ps → ∃ as, ReadsAll s.heap us ps as ∧ sysModules ∉ as
  | _, _, .nil, us, ps, r, e => by cases r; cases e; exact ⟨[], .nil, by simp⟩
  | _, _, .cons h t, us, ps, r, e => by
    cases r with
    | cons r1 r2 =>
      simp only [toPyXs] at e
      obtain ⟨p, e1, e2⟩ := Option.bind_eq_some_iff.mp e
      obtain ⟨ps, e3, rfl⟩ := Option.map_eq_some_iff.mp e2
      obtain ⟨as, a1, a2⟩ := reads_of I sm h r1 e1
      obtain ⟨bs, b1, b2⟩ := readss_of I sm t r2 e3
      exact ⟨_, .cons a1 b1, fun z => (List.mem_append.mp z).elim a2 b2⟩
end
end
section
variable {K : PySem.W.Frag} {cl : ClW} {X : Cx}
def reprG : List D → Option D
  | [.lst xs] => match toPyX (.lst xs) with
    | some p => if p.showable && decide (p.depth ≤ 100) && decide (p.shown.length ≤ sizeLine) then some (.str p.shown) else none
    | none => none
  | _ => none
def rReprG (K : PySem.W.Frag) (cl : ClW) : List V → Hp → VK → Prop := fun xs H Q => ∃ a ds p, xs = [.ref a] ∧ Rep K cl H (.ref a) (.lst ds) ∧ toPyX (.lst ds) = some p ∧ p.showable = true ∧ p.depth ≤ 100 ∧ p.shown.length ≤ sizeLine ∧ Q (.str p.shown) H
theorem call_reprG (sm : SmOk X.K) {k : Nat} (c : RoomG k X.A) : CallR X (.builtin "repr") (rReprG X.K cl) := by
  intro pins s σ H xs us Q I r ⟨a, ds, p, e, hr, hp, hs, hd, hz, q⟩
  subst e
  obtain ⟨u, rfl, ru⟩ := vals1 r
  have un := c.room.un
  obtain ⟨as, rd, ns⟩ := reads_of I sm hr ru hp
  obtain rfl : u = Value.ref a := ru
  exact PySem.repr_of_reads' rd hs (fun _ => ns) c.gd (by omega) (fun _ _ e => e) (fun h' t tk kp => ⟨.str _, H, I.kept (t' := tk) kp, ⟨_, rfl⟩, q⟩) hz
theorem lc_reprG : LCall K cl (rReprG K cl) reprG := by
  intro F H M xs ds z Q Qd g r h p q
  cases ds with
  | nil => cases h
  | cons d t =>
    cases t with
    | cons => cases hv : vw M d <;> simp [reprG, hv] at h
    | nil =>
      obtain ⟨v, ws, rfl, r1, r2⟩ := r.inv
      obtain rfl := r2.inv0
      cases hv : vw M d with
      | lst ys =>
        have hw := vw_ok g r1
        rw [hv] at hw
        obtain ⟨a, vs, rfl, h1, h2⟩ := hw.lst g.sub
        simp only [List.map_cons, List.map_nil, hv, reprG] at h
        split at h
        · rename_i pd hp
          split at h
          · rename_i hc
            cases h
            simp only [Bool.and_eq_true, decide_eq_true_eq] at hc
            exact ⟨a, ys, pd, rfl, .lst h1 (h2.mono g.sub), hp, hc.1.1, hc.1.2, hc.2, p.val g (.str _) q⟩
          · cases h
        · cases h
      | _ => simp [reprG, hv] at h
end
end DL

set_option Elab.async false
set_option linter.all false
set_option maxRecDepth 100000
set_option maxHeartbeats 4000000
set_option autoImplicit false
namespace FL
open PySem L2 DL

/-! ### span rows of anything: the word for a row, the first fault. No program in sight. -/
def isWh : D → Bool
  | .int _ => true
  | _ => false
def numS (m : Int) : D → Bool
  | .int i => decide (0 ≤ i) && decide (i < m)
  | _ => false
def iOf : D → Int
  | .int i => i
  | _ => 0
/-- the word for a row of k items by itself -/
def plainW (k : Nat) (y : D) : Option String := match seqs y with
  | none => some "row"
  | some l => if l.length ≠ k then some "row" else if nameB (l.getD 0 .non) = true then if valB (l.getD 1 .non) = true then none else some "value" else some "name"
def itm (y : D) (i : Nat) : D := match seqs y with
  | some l => l.getD i .non
  | none => .non
def crossI (a b c d : Int) : Bool := (decide (a < c) && (decide (c < b) && decide (b < d))) || (decide (c < a) && (decide (a < d) && decide (d < b)))
/-- the word for a span row behind others -/
def spanW (m : Int) (ys : List D) (y : D) : Option String := match plainW 4 y with
  | some w => some w
  | none => if !(numS m (itm y 2) && numS m (itm y 3)) then some "number" else
      if iOf (itm y 2) ≥ iOf (itm y 3) then some "order" else
      if (ys.any fun z => eqFD (itm z 0) (itm y 0)) then some "twice" else
      if (ys.any fun z => (iOf (itm z 2) == iOf (itm y 2) || iOf (itm z 2) == iOf (itm y 3)) || (iOf (itm z 3) == iOf (itm y 2) || iOf (itm z 3) == iOf (itm y 3))) then some "shared" else
      if (ys.any fun z => crossI (iOf (itm z 2)) (iOf (itm z 3)) (iOf (itm y 2)) (iOf (itm y 3))) then some "crossed" else none
def spanAt (m : Int) (ys : List D) (p : Nat) : Option String := spanW m (ys.take p) (ys.getD p .non)
/-- a row without a fault of its own -/
structure SRow (m : Int) (y : D) : Prop where
  ex : ∃ n v a b, seqs y = some [strD n, .int v, .int a, .int b] ∧ NameOk n ∧ -(10 ^ 30) ≤ v ∧ v ≤ 10 ^ 30 ∧ 0 ≤ a ∧ a < m ∧ 0 ≤ b ∧ b < m ∧ a < b
theorem plain_none {k : Nat} {y : D} (h : plainW k y = none) : ∃ l, seqs y = some l ∧ l.length = k ∧ nameB (l.getD 0 .non) = true ∧ valB (l.getD 1 .non) = true := by
  unfold plainW at h
  cases e : seqs y with
  | none => rw [e] at h; cases h
  | some l =>
    rw [e] at h
    simp only at h
    by_cases h1 : l.length ≠ k
    · rw [if_pos h1] at h; cases h
    · rw [if_neg h1] at h
      by_cases h2 : nameB (l.getD 0 .non) = true
      · rw [if_pos h2] at h
        by_cases h3 : valB (l.getD 1 .non) = true
        · exact ⟨l, rfl, by omega, h2, h3⟩
        · rw [if_neg h3] at h; cases h
      · rw [if_neg h2] at h; cases h
theorem span_none {m : Int} {ys : List D} {y : D} (h : spanW m ys y = none) : SRow m y := by
  unfold spanW at h
  cases hp : plainW 4 y with
  | some w => rw [hp] at h; cases h
  | none =>
    rw [hp] at h
    simp only at h
    obtain ⟨l, e1, e2, e3, e4⟩ := plain_none hp
    match l, e2 with
    | [n, v, a, b], _ =>
      have i2 : itm y 2 = a := by unfold itm; rw [e1]; rfl
      have i3 : itm y 3 = b := by unfold itm; rw [e1]; rfl
      rw [i2, i3] at h
      by_cases h1 : (!(numS m a && numS m b)) = true
      · rw [if_pos h1] at h; cases h
      · rw [if_neg h1] at h
        by_cases h2 : iOf a ≥ iOf b
        · rw [if_pos h2] at h; cases h
        · have h1' : numS m a = true ∧ numS m b = true := by simpa using h1
          cases a with
          | int a =>
            cases b with
            | int b =>
              simp only [numS, Bool.and_eq_true, decide_eq_true_eq] at h1'
              simp only [iOf] at h2
              cases n with
              | str z =>
                cases v with
                | int v =>
                  have hv : -(10 ^ 30) ≤ v ∧ v ≤ 10 ^ 30 := by simpa [valB] using e4
                  exact ⟨⟨z.cps.toList, v, a, b, by rw [e1]; simp [strD, ← S_of], nameC_iff.mp e3, hv.1, hv.2, h1'.1.1, h1'.1.2, h1'.2.1, h1'.2.2, by omega⟩⟩
                | _ => cases e4
              | _ => cases e3
            | _ => cases h1'.2
          | _ => cases h1'.1
def nmS (y : D) : List Nat := nmOf (itm y 0)
def vS (y : D) : Int := iOf (itm y 1)
def aS (y : D) : Int := iOf (itm y 2)
def bS (y : D) : Int := iOf (itm y 3)
theorem nm_strS (p : List Nat) : nmOf (strD p) = p := by simp [nmOf, strD, S]
theorem SRow.sq {m : Int} {y : D} (h : SRow m y) : seqs y = some [strD (nmS y), .int (vS y), .int (aS y), .int (bS y)] := by
  obtain ⟨n, v, a, b, e, _⟩ := h.ex
  have i : ∀ k, itm y k = [strD n, .int v, .int a, .int b].getD k .non := fun k => by unfold itm; rw [e]
  unfold nmS vS aS bS
  rw [i, i, i, i, e]
  simp [iOf, nm_strS]
theorem SRow.vw {m : Int} {y : D} (h : SRow m y) (M : Mem) : DL.vw M y = y := by
  rcases seqs_or h.sq with e | e <;> rw [e] <;> rfl
theorem in_two (i a b : Int) : inD (.int i) (.tup [.int a, .int b]) = some (.bl ((a == i) || (b == i))) := by
  first | rfl | simp [inD]
theorem any_bl {f : D → Bool} (l : List D) : anyF [.lst (l.filterMap fun z => some (.bl (f z)))] = some (.bl (l.any f)) := by
  have : l.filterMap (fun z => some (D.bl (f z))) = (l.map f).map D.bl := by simp
  rw [this]
  show (blsOf ((l.map f).map D.bl)).map _ = _
  rw [blsOf_map]
  simp
theorem two_bl {f g : D → Bool} {h : D → List D} (hh : ∀ z, h z = [.bl (f z), .bl (g z)]) (l : List D) : anyF [.lst (l.map h).flatten] = some (.bl (l.any fun z => f z || g z)) := by
  have e : (l.map h).flatten = ((l.map fun z => [f z, g z]).flatten).map D.bl := by
    induction l with
    | nil => rfl
    | cons z l ih => rw [List.map_cons, List.flatten_cons, List.map_cons, List.flatten_cons, List.map_append, ← ih, hh]; rfl
  rw [e]
  show (blsOf (((l.map fun z => [f z, g z]).flatten).map D.bl)).map _ = _
  rw [blsOf_map]
  simp only [Option.map_some]
  congr 2
  induction l with
  | nil => rfl
  | cons z l ih =>
    have ih' := ih (by
      clear ih e
      induction l with
      | nil => rfl
      | cons z l ih => rw [List.map_cons, List.flatten_cons, List.map_cons, List.flatten_cons, List.map_append, ← ih, hh]; rfl)
    rw [List.map_cons, List.flatten_cons, List.any_append, ih', List.any_cons]
    simp
theorem two_len (h : D → List D) (hh : ∀ z, (h z).length = 2) (l : List D) : (l.map h).flatten.length = 2 * l.length := by
  induction l with
  | nil => rfl
  | cons z l ih => rw [List.map_cons, List.flatten_cons, List.length_append, ih, hh, List.length_cons]; omega
/-- the first fault of rows -/
def spanF (m : Int) (ys : List D) : Option (Nat × String) := (List.range ys.length).findSome? fun p => (spanAt m ys p).map fun w => (p, w)
def spanJ (m : Int) (y : D) : Option (Int × String) := match seqs y with
  | some xs => if 60 < xs.length then some (-1, "rows") else (spanF m xs).map fun q => ((q.1 : Int), q.2)
  | none => some (-1, "rows")
theorem find_step {α β : Type} {f : α → Option β} {l : List α} {k : Nat} (h : ∀ j, j < k → ∀ x, l[j]? = some x → f x = none) {x : α} {b : β} (hx : l[k]? = some x) (hb : f x = some b) : l.findSome? f = some b := by
  induction l generalizing k with
  | nil => simp at hx
  | cons y l ih =>
    cases k with
    | zero =>
      have : y = x := by simpa using hx
      rw [List.findSome?_cons, this, hb]
    | succ k =>
      rw [List.findSome?_cons, h 0 (by omega) y rfl]
      exact ih (k := k) (fun j hj x hx => h (j + 1) (Nat.succ_lt_succ hj) x (by simpa using hx)) (by simpa using hx)
theorem spanF_some {m : Int} {ys : List D} {p : Nat} {w : String} (hp : p < ys.length) (h : ∀ j, j < p → spanAt m ys j = none) (hw : spanAt m ys p = some w) : spanF m ys = some (p, w) := by
  unfold spanF
  refine find_step (k := p) (x := p) (fun j hj x hx => ?_) (by simp [hp]) (by rw [hw]; rfl)
  have : x = j := by
    have hj2 : j < ys.length := by omega
    simp [hj2] at hx
    exact hx.symm
  rw [this, h j hj]
  rfl
theorem spanF_none {m : Int} {ys : List D} (h : ∀ j, j < ys.length → spanAt m ys j = none) : spanF m ys = none := by
  unfold spanF
  rw [List.findSome?_eq_none_iff]
  intro x hx
  rw [h x (by simpa using hx)]
  rfl
/-! ### comprehensions of two walks, each item made anew -/
theorem lc_allF {j : Nat} {vs1 : List Nat} {τ : DTE} {a : Addr} {ρ : DL.Env} {f : D → D} : ∀ (ys acc : List D) (M : Mem) (R : Mem → Prop), (∀ y ∈ ys, ∀ (M1 : Mem) (T : DV), T (f y) M1 → τ ((wipeD ρ vs1).set j (some y)) M1 T noX) → M a = some (.lst acc) → acc.length + ys.length ≤ 16777216 → R (updM M a (.lst (acc ++ ys.map f))) →
    lcG (fun _ => True) (gN j) dYes τ vs1 a ys ρ M R := by
  intro ys
  induction ys with
  | nil => intro acc M R _ h _ q; rw [List.map_nil, List.append_nil, updM_self h] at q; exact ⟨trivial, q⟩
  | cons y ys ih =>
    intro acc M R st h hl q
    simp only [List.length_cons] at hl
    refine ⟨trivial, ?_⟩
    simp only [gN, dYes, if_true]
    refine st y (by simp) M _ ⟨acc, h, by rw [size_line]; omega, ih _ _ R (fun z hz => st z (by simp [hz])) updM_same (by simp; omega) ?_⟩
    rw [updM_updM, List.append_assoc]
    exact q
theorem lc2_map {α : Type} {ι1 : DTIg} {i j : Nat} {vs vs1 : List Nat} {τ : DTE} {a : Addr} {ρ : DL.Env} {M : Mem} {Q : DV} (g : α → D) (h : α → List D) (f : α → D → D) (l : List α) (hM : M a = none) (hl : (l.map h).flatten.length ≤ 16777216)
    (step : ∀ x ∈ l, ∀ (M1 : Mem) (R : (Mem → Prop) → List D → Mem → Prop), R (fun _ => True) (h x) M1 → ι1 ((wipeD ρ vs).set i (some (g x))) M1 R noX)
    (item : ∀ x ∈ l, ∀ y ∈ h x, ∀ (M1 : Mem) (T : DV), T (f x y) M1 → τ ((wipeD ((wipeD ρ vs).set i (some (g x))) vs1).set j (some y)) M1 T noX)
    (q : ∀ M', Keep M M' → Q (.lst (l.map fun x => (h x).map (f x)).flatten) M') : lc2G (fun _ => True) (gN i) dYes ι1 (gN j) dYes τ vs vs1 a (l.map g) ρ (updM M a (.lst [])) (endF a Q) := by
  have go : ∀ (r done : List α) (M1 : Mem), l = done ++ r → M1 a = some (.lst (done.map fun x => (h x).map (f x)).flatten) → Keep M M1 → lc2G (fun _ => True) (gN i) dYes ι1 (gN j) dYes τ vs vs1 a (r.map g) ρ M1 (endF a Q) := by
    intro r
    induction r with
    | nil =>
      intro done M1 e ha k
      rw [List.append_nil] at e
      subst e
      exact ⟨trivial, _, ha, q _ (k.delN hM)⟩
    | cons x r ih =>
      intro done M1 e ha k
      have hx : x ∈ l := by rw [e]; simp
      have e2 : l = (done ++ [x]) ++ r := by rw [e]; simp
      have hlen : ∀ d : List α, (d.map fun x => (h x).map (f x)).flatten.length = (d.map h).flatten.length := fun d => by
        induction d with
        | nil => rfl
        | cons y d ihd => simp only [List.map_cons, List.flatten_cons, List.length_append, List.length_map, ihd]
      refine ⟨trivial, ?_⟩
      simp only [gN, dYes, if_true]
      refine step x hx M1 _ ?_
      refine lc_allF (f := f x) _ _ _ _ (fun y hy M2 T hT => item x hx y hy M2 T hT) ha ?_ ?_
      · rw [hlen]
        have h2 : (l.map h).flatten.length = (done.map h).flatten.length + (h x).length + (r.map h).flatten.length := by rw [e]; simp [Nat.add_assoc]
        omega
      · refine ih (done ++ [x]) _ e2 ?_ (k.updN hM)
        rw [updM_same]
        simp
  exact go l [] _ rfl (by rw [updM_same]; rfl) (fun b c hb => by
    have z : b ≠ a := fun z => by rw [z, hM] at hb; cases hb
    rw [updM_ne z]; exact hb)
end FL

set_option Elab.async false
set_option linter.all false
set_option maxRecDepth 100000
set_option maxHeartbeats 4000000
set_option autoImplicit false
namespace FL
open PySem L2 DL

/-! ### numbers at the beginning and at the end of subtrees. No program in sight. -/
abbrev EPt := Nat × Option Nat
structure EndsP (ps : List EPt) (line : List Nat) (n : Nat) : Prop where
  asc : ∀ (i j : Nat) (p q : EPt), i < j → ps[i]? = some p → ps[j]? = some q → p.1 < q.1
  low : ∀ (i : Nat) (p : EPt), ps[i]? = some p → p.1 < n
  cl : ∀ (i : Nat) (p : EPt) (e : Nat), ps[i]? = some p → p.2 = some e → p.1 < e ∧ e < n
  nest : ∀ (i j : Nat) (p q : EPt) (e : Nat), i < j → ps[i]? = some p → ps[j]? = some q → p.2 = some e → e < q.1 ∨ ∃ e', q.2 = some e' ∧ e' < e
  opn : ∀ i, i ∈ line ↔ ∃ b, ps[i]? = some (b, none)
  lasc : line.Pairwise (· < ·)
  cnt : n + line.length = 2 * ps.length
theorem EndsP.nil : EndsP [] [] 0 := ⟨by simp, by simp, by simp, by simp, by simp, by simp, rfl⟩
theorem set_get {ps : List EPt} {i k : Nat} {x p : EPt} (h : (ps.set i x)[k]? = some p) : (k = i ∧ p = x) ∨ (k ≠ i ∧ ps[k]? = some p) := by
  by_cases e : i = k
  · subst e
    rw [List.getElem?_set_self'] at h
    cases q : ps[i]? with
    | none => rw [q] at h; cases h
    | some y => rw [q] at h; exact .inl ⟨rfl, (Option.some.inj h).symm⟩
  · rw [List.getElem?_set_ne e] at h
    exact .inr ⟨fun z => e z.symm, h⟩
/-- the last open one is closed -/
theorem EndsP.close {ps : List EPt} {line : List Nat} {n i b : Nat} (h : EndsP ps (line ++ [i]) n) (hb : ps[i]? = some (b, none)) : EndsP (ps.set i (b, some n)) line (n + 1) := by
  have fst : ∀ (k : Nat) (p : EPt), (ps.set i (b, some n))[k]? = some p → ∃ p0 : EPt, ps[k]? = some p0 ∧ p.1 = p0.1 := fun k p hk => by
    rcases set_get hk with ⟨rfl, rfl⟩ | ⟨_, hk⟩
    · exact ⟨_, hb, rfl⟩
    · exact ⟨_, hk, rfl⟩
  have last : ∀ j ∈ line, j < i := fun j hj => by
    have := h.lasc
    rw [List.pairwise_append] at this
    exact this.2.2 j hj i (by simp)
  refine ⟨?_, ?_, ?_, ?_, ?_, ?_, ?_⟩
  · intro k j p q hkj hp hq
    obtain ⟨p0, h1, e1⟩ := fst k p hp
    obtain ⟨q0, h2, e2⟩ := fst j q hq
    rw [e1, e2]
    exact h.asc k j _ _ hkj h1 h2
  · intro k p hp
    obtain ⟨p0, h1, e1⟩ := fst k p hp
    have := h.low k p0 h1
    omega
  · intro k p e hp he
    rcases set_get hp with ⟨rfl, rfl⟩ | ⟨_, hp⟩
    · cases he
      have : b < n := h.low k (b, none) hb
      exact ⟨this, by simp⟩
    · have := h.cl k p e hp he
      omega
  · intro k j p q e hkj hp hq he
    rcases set_get hp with ⟨rfl, rfl⟩ | ⟨nk, hp1⟩
    · cases he
      rcases set_get hq with ⟨rfl, rfl⟩ | ⟨nj, hq⟩
      · omega
      · cases hq2 : q.2 with
        | none =>
          have : j ∈ line ++ [k] := (h.opn j).mpr ⟨q.1, by rw [hq, ← hq2]⟩
          rcases List.mem_append.mp this with hm | hm
          · have := last j hm; omega
          · have := List.mem_singleton.mp hm; omega
        | some e' => exact .inr ⟨e', rfl, (h.cl j q e' hq hq2).2⟩
    · rcases set_get hq with ⟨rfl, rfl⟩ | ⟨nj, hq⟩
      · rcases h.nest k j p (b, none) e hkj hp1 hb he with h1 | ⟨e', h2, _⟩
        · exact .inl h1
        · cases h2
      · exact h.nest k j p q e hkj hp1 hq he
  · intro k
    constructor
    · intro hk
      obtain ⟨b', h1⟩ := (h.opn k).mp (List.mem_append_left _ hk)
      have : k ≠ i := fun z => by have := last k hk; omega
      exact ⟨b', by rw [List.getElem?_set_ne (Ne.symm this)]; exact h1⟩
    · rintro ⟨b', h1⟩
      rcases set_get h1 with ⟨rfl, e⟩ | ⟨nk, h1⟩
      · cases e
      · have := (h.opn k).mpr ⟨b', h1⟩
        rcases List.mem_append.mp this with hm | hm
        · exact hm
        · exact absurd (List.mem_singleton.mp hm) nk
  · have := h.lasc
    rw [List.pairwise_append] at this
    exact this.1
  · have := h.cnt
    simp only [List.length_append, List.length_cons, List.length_nil, List.length_set] at this ⊢
    omega
/-- a new one is opened -/
theorem EndsP.new {ps : List EPt} {line : List Nat} {n : Nat} (h : EndsP ps line n) : EndsP (ps ++ [(n, none)]) (line ++ [ps.length]) (n + 1) := by
  have get : ∀ (k : Nat) (p : EPt), (ps ++ [(n, none)])[k]? = some p → (k < ps.length ∧ ps[k]? = some p) ∨ (k = ps.length ∧ p = (n, none)) := fun k p hk => by
    by_cases hl : k < ps.length
    · rw [List.getElem?_append_left hl] at hk
      exact .inl ⟨hl, hk⟩
    · rw [List.getElem?_append_right (by omega)] at hk
      have : k - ps.length = 0 := by
        by_cases z : k - ps.length = 0
        · exact z
        · rw [List.getElem?_eq_none (by simp; omega)] at hk; cases hk
      rw [this] at hk
      exact .inr ⟨by omega, (Option.some.inj hk).symm⟩
  have lo : ∀ i ∈ line, i < ps.length := fun i hi => by
    obtain ⟨b, hb⟩ := (h.opn i).mp hi
    exact (List.getElem?_eq_some_iff.mp hb).1
  refine ⟨?_, ?_, ?_, ?_, ?_, ?_, ?_⟩
  · intro i j p q hij hp hq
    rcases get i p hp with ⟨hi, hp⟩ | ⟨rfl, rfl⟩
    · rcases get j q hq with ⟨hj, hq⟩ | ⟨rfl, rfl⟩
      · exact h.asc i j p q hij hp hq
      · exact h.low i p hp
    · rcases get j q hq with ⟨hj, hq⟩ | ⟨rfl, rfl⟩ <;> omega
  · intro i p hp
    rcases get i p hp with ⟨hi, hp⟩ | ⟨rfl, rfl⟩
    · have := h.low i p hp; omega
    · simp
  · intro i p e hp he
    rcases get i p hp with ⟨hi, hp⟩ | ⟨rfl, rfl⟩
    · have := h.cl i p e hp he; omega
    · cases he
  · intro i j p q e hij hp hq he
    rcases get i p hp with ⟨hi, hp⟩ | ⟨rfl, rfl⟩
    · rcases get j q hq with ⟨hj, hq⟩ | ⟨rfl, rfl⟩
      · exact h.nest i j p q e hij hp hq he
      · exact .inl (h.cl i p e hp he).2
    · cases he
  · intro i
    constructor
    · intro hi
      rcases List.mem_append.mp hi with hi | hi
      · obtain ⟨b, hb⟩ := (h.opn i).mp hi
        exact ⟨b, by rw [List.getElem?_append_left (lo i hi)]; exact hb⟩
      · rw [List.mem_singleton.mp hi]
        exact ⟨n, by simp⟩
    · rintro ⟨b, hb⟩
      rcases get i _ hb with ⟨hi, hb⟩ | ⟨rfl, e⟩
      · exact List.mem_append_left _ ((h.opn i).mpr ⟨b, hb⟩)
      · simp
  · rw [List.pairwise_append]
    exact ⟨h.lasc, by simp, fun i hi j hj => by rw [List.mem_singleton.mp hj]; exact lo i hi⟩
  · have := h.cnt
    simp
    omega
/-- all are closed -/
structure EndsFin (es : List (Nat × Nat)) : Prop where
  in_ : ∀ (i : Nat) (p : Nat × Nat), es[i]? = some p → p.1 < p.2 ∧ p.2 < 2 * es.length
  two : ∀ (i j : Nat) (p q : Nat × Nat), i < j → es[i]? = some p → es[j]? = some q → p.1 < q.1 ∧ (p.2 < q.1 ∨ q.2 < p.2)
theorem EndsP.fin {ps : List EPt} {n : Nat} (h : EndsP ps [] n) : ∃ es : List (Nat × Nat), ps = es.map (fun p => (p.1, some p.2)) ∧ EndsFin es := by
  have all : ∀ p ∈ ps, ∃ e, p.2 = some e := fun p hp => by
    obtain ⟨i, hi, rfl⟩ := List.getElem_of_mem hp
    cases q : ps[i].2 with
    | some e => exact ⟨e, rfl⟩
    | none =>
      have : i ∈ ([] : List Nat) := (h.opn i).mpr ⟨ps[i].1, by rw [List.getElem?_eq_getElem hi, ← q]⟩
      cases this
  refine ⟨ps.map fun p => (p.1, p.2.getD 0), ?_, ?_⟩
  · rw [List.map_map]
    conv => lhs; rw [← List.map_id ps]
    refine List.map_congr_left fun p hp => ?_
    obtain ⟨e, he⟩ := all p hp
    simp only [id, Function.comp_apply, he, Option.getD_some]
    rw [← he]
  · have get : ∀ (i : Nat) (p : Nat × Nat), (ps.map fun p => (p.1, p.2.getD 0))[i]? = some p → ps[i]? = some (p.1, some p.2) := fun i p hp => by
      rw [List.getElem?_map] at hp
      obtain ⟨q, h1, h2⟩ := Option.map_eq_some_iff.mp hp
      obtain ⟨e, he⟩ := all q (List.mem_of_getElem? h1)
      rw [h1, ← h2]
      simp only [he, Option.getD_some]
      rw [← he]
    have hn : n = 2 * ps.length := by have := h.cnt; simpa using this
    refine ⟨fun i p hp => ?_, fun i j p q hij hp hq => ?_⟩
    · have := h.cl i _ p.2 (get i p hp) rfl
      simp only [List.length_map]
      rw [← hn]
      exact this
    · refine ⟨h.asc i j _ _ hij (get i p hp) (get j q hq), ?_⟩
      rcases h.nest i j _ _ p.2 hij (get i p hp) (get j q hq) rfl with h1 | ⟨e', h1, h2⟩
      · exact .inl h1
      · cases h1; exact .inr h2
/-! ### span rows of a forest, in any order -/
def Apart (y z : D) : Prop := nmS y ≠ nmS z ∧ (aS y ≠ aS z ∧ aS y ≠ bS z ∧ bS y ≠ aS z ∧ bS y ≠ bS z) ∧ crossI (aS y) (bS y) (aS z) (bS z) = false
theorem Apart.symm {y z : D} (h : Apart y z) : Apart z y := by
  obtain ⟨h1, ⟨h2, h3, h4, h5⟩, h6⟩ := h
  refine ⟨Ne.symm h1, ⟨Ne.symm h2, Ne.symm h4, Ne.symm h3, Ne.symm h5⟩, ?_⟩
  unfold crossI at h6 ⊢
  rw [Bool.or_comm]
  exact h6
structure SpOk (m : Int) (ys : List D) : Prop where
  len : ys.length ≤ 60
  row : ∀ y ∈ ys, SRow m y
  pw : ys.Pairwise Apart
theorem SpOk.perm {m : Int} {ys zs : List D} (h : SpOk m ys) (p : List.Perm zs ys) : SpOk m zs :=
  ⟨by rw [p.length_eq]; exact h.len, fun y hy => h.row y (p.subset hy), (p.pairwise_iff Apart.symm).mpr h.pw⟩
theorem SRow.mono {m k : Int} {y : D} (h : SRow m y) (l : m ≤ k) : SRow k y := by
  obtain ⟨n, v, a, b, h0, h1, h2, h3, h4, h5, h6, h7, h8⟩ := h.ex
  exact ⟨⟨n, v, a, b, h0, h1, h2, h3, h4, by omega, h6, by omega, h8⟩⟩
theorem SRow.pl {m : Int} {y : D} (h : SRow m y) : PlRow y := by
  obtain ⟨n, v, a, b, h0, h1, _⟩ := h.ex
  refine ⟨?_, fun l hl c hc => ?_⟩
  · rcases seqs_or h0 with rfl | rfl <;> exact pl_of rfl (by simp)
  · rw [h0] at hl
    cases hl
    simp at hc
    rcases hc with rfl | rfl | rfl | rfl
    · exact pl_nm h1
    · exact pl_of rfl (by simp)
    · exact pl_of rfl (by simp)
    · exact pl_of rfl (by simp)
theorem SRow.itm {m : Int} {y : D} (h : SRow m y) : itm y 0 = strD (nmS y) ∧ itm y 1 = .int (vS y) ∧ itm y 2 = .int (aS y) ∧ itm y 3 = .int (bS y) := by
  have e := h.sq
  refine ⟨?_, ?_, ?_, ?_⟩ <;> (unfold FL.itm; rw [e]; rfl)
theorem SRow.bd {m : Int} {y : D} (h : SRow m y) : NameOk (nmS y) ∧ -(10 ^ 30) ≤ vS y ∧ vS y ≤ 10 ^ 30 ∧ 0 ≤ aS y ∧ aS y < m ∧ 0 ≤ bS y ∧ bS y < m ∧ aS y < bS y := by
  obtain ⟨n, v, a, b, e, h1⟩ := h.ex
  have e2 := h.sq
  rw [e] at e2
  have e3 := Option.some.inj e2
  simp only [List.cons.injEq, D.int.injEq, and_true] at e3
  have e4 : n = nmS y := by
    have := congrArg nmOf e3.1
    rwa [nm_strS, nm_strS] at this
  rw [← e4, ← e3.2.1, ← e3.2.2.1, ← e3.2.2.2]
  exact h1
theorem eqF_strs (a b : List Nat) : eqFD (strD a) (strD b) = decide (a = b) := by
  have := mem_made (x := b) [a]
  simp only [List.map_cons, List.map_nil, List.any_cons, List.any_nil, Bool.or_false, List.mem_singleton] at this
  rw [show eqFD (strD a) (strD b) = eqFD (strD a) (.str (S b)) from rfl, this]
  by_cases h : a = b
  · subst h; simp
  · rw [decide_eq_false h, decide_eq_false (fun e => h e.symm)]
theorem srow_plain {m : Int} {y : D} (h : SRow m y) : plainW 4 y = none := by
  obtain ⟨h1, h2, h3, _⟩ := h.bd
  unfold plainW
  rw [h.sq]
  have e1 : nameB (strD (nmS y)) = true := nameC_iff.mpr (by simpa [S] using h1)
  have e2 : valB (.int (vS y)) = true := by simp only [valB, Bool.and_eq_true, decide_eq_true_eq]; exact ⟨h2, h3⟩
  show (if ([strD (nmS y), .int (vS y), .int (aS y), .int (bS y)] : List D).length ≠ 4 then _ else if nameB (strD (nmS y)) = true then if valB (.int (vS y)) = true then _ else _ else _) = _
  rw [e1, e2]
  rfl
/-- right rows have no fault -/
theorem SpOk.fine {m : Int} {ys : List D} (h : SpOk m ys) (p : Nat) (hp : p < ys.length) : spanAt m ys p = none := by
  have ey : ys.getD p .non = ys[p] := by simp [List.getD, hp]
  have hy := h.row ys[p] (List.getElem_mem hp)
  obtain ⟨i0, i1, i2, i3⟩ := hy.itm
  obtain ⟨_, _, _, b1, b2, b3, b4, b5⟩ := hy.bd
  have ap : ∀ z ∈ ys.take p, Apart z ys[p] := fun z hz => by
    obtain ⟨j, hj, rfl⟩ := List.mem_take_iff_getElem.mp hz
    have := List.pairwise_iff_getElem.mp h.pw j p (by omega) hp (by omega)
    exact this
  have hs : ∀ z ∈ ys.take p, SRow m z := fun z hz => h.row z (List.mem_of_mem_take hz)
  have any_no : ∀ f : D → Bool, (∀ z ∈ ys.take p, f z = false) → (ys.take p).any f = false := fun f hf => by
    rw [List.any_eq_false]
    intro z hz
    rw [hf z hz]
    simp
  unfold spanAt
  rw [ey]
  unfold spanW
  rw [srow_plain hy]
  simp only [i0, i2, i3]
  have n1 : (!(numS m (.int (aS ys[p])) && numS m (.int (bS ys[p])))) = false := by simp [numS, b1, b2, b3, b4]
  rw [n1, if_neg Bool.false_ne_true, if_neg (show ¬ iOf (.int (aS ys[p])) ≥ iOf (.int (bS ys[p])) from by simp only [iOf]; omega)]
  rw [any_no _ fun z hz => by rw [(hs z hz).itm.1, eqF_strs]; exact decide_eq_false (ap z hz).1, if_neg Bool.false_ne_true]
  rw [any_no _ fun z hz => by
    obtain ⟨a1, a2, a3, a4⟩ := (ap z hz).2.1
    obtain ⟨_, _, k2, k3⟩ := (hs z hz).itm
    rw [k2, k3]
    simp only [iOf, Bool.or_eq_false_iff, beq_eq_false_iff_ne]
    exact ⟨⟨a1, a2⟩, a3, a4⟩, if_neg Bool.false_ne_true]
  rw [any_no _ fun z hz => by
    obtain ⟨_, _, k2, k3⟩ := (hs z hz).itm
    rw [k2, k3]
    exact (ap z hz).2.2, if_neg Bool.false_ne_true]
theorem SpOk.good {m : Int} {ys : List D} {x : D} (h : SpOk m ys) (hx : seqs x = some ys) : spanJ m x = none := by
  unfold spanJ
  rw [hx]
  simp only
  rw [if_neg (by have := h.len; omega), spanF_none h.fine]
  rfl
/-- rows as lists -/
def toL (y : D) : D := .lst ((seqs y).getD [])
theorem toL_sq {m : Int} {y : D} (h : SRow m y) : seqs (toL y) = seqs y := by
  unfold toL
  rw [h.sq]
  rfl
theorem toL_itm {m : Int} {y : D} (h : SRow m y) (k : Nat) : FL.itm (toL y) k = FL.itm y k := by
  unfold FL.itm
  rw [toL_sq h]
theorem SpOk.lists {m k : Int} {ys : List D} (h : SpOk m ys) (l : m ≤ k) : SpOk k (ys.map toL) := by
  have e : ∀ y ∈ ys, nmS (toL y) = nmS y ∧ aS (toL y) = aS y ∧ bS (toL y) = bS y := fun y hy => by
    have := toL_itm (h.row y hy)
    unfold nmS aS bS
    rw [this, this, this]
    exact ⟨rfl, rfl, rfl⟩
  refine ⟨by rw [List.length_map]; exact h.len, fun y hy => ?_, ?_⟩
  · obtain ⟨z, hz, rfl⟩ := List.mem_map.mp hy
    have hs := (h.row z hz).mono l
    obtain ⟨n, v, a, b, h0, h1⟩ := hs.ex
    exact ⟨⟨n, v, a, b, by rw [toL_sq hs]; exact h0, h1⟩⟩
  · rw [List.pairwise_map]
    refine h.pw.imp_of_mem fun {y z} hy hz ha => ?_
    obtain ⟨e1, e2, e3⟩ := e y hy
    obtain ⟨f1, f2, f3⟩ := e z hz
    unfold Apart
    rw [e1, e2, e3, f1, f2, f3]
    exact ha
/-! ### rows made of ends and numbers -/
def NumsOk (N : List Int) (last : Int) : Prop := N.Pairwise (· < ·) ∧ ∀ x ∈ N, 0 ≤ x ∧ x ≤ last
theorem NumsOk.snoc {N : List Int} {last x : Int} (h : NumsOk N last) (l : last < x) (hx : 0 ≤ x) : NumsOk (N ++ [x]) x := by
  refine ⟨?_, fun y hy => ?_⟩
  · rw [List.pairwise_append]
    exact ⟨h.1, by simp, fun y hy z hz => by rw [List.mem_singleton.mp hz]; have := (h.2 y hy).2; omega⟩
  · rcases List.mem_append.mp hy with hy | hy
    · have := h.2 y hy; omega
    · rw [List.mem_singleton.mp hy]; omega
theorem NumsOk.lt {N : List Int} {last : Int} (h : NumsOk N last) {i j : Nat} (hij : i < j) (hj : j < N.length) : N.getD i 0 < N.getD j 0 := by
  have := List.pairwise_iff_getElem.mp h.1 i j (by omega) hj hij
  simpa [List.getD, hj, show i < N.length by omega] using this
theorem NumsOk.bd {N : List Int} {last : Int} (h : NumsOk N last) {i : Nat} (hi : i < N.length) : 0 ≤ N.getD i 0 ∧ N.getD i 0 ≤ last := by
  have := h.2 N[i] (List.getElem_mem hi)
  simpa [List.getD, hi] using this
def spanR (N : List Int) (es : List (Nat × Nat)) (p : Row × Nat) : D := .tup [strD p.1.nm, .int p.1.va, .int (N.getD (es.getD p.2 (0, 0)).1 0), .int (N.getD (es.getD p.2 (0, 0)).2 0)]
theorem spans_ok {rs : List Row} {N : List Int} {es : List (Nat × Nat)} {last m : Int} (hr : RowsOk rs) (hN : NumsOk N last) (hl : N.length = 2 * rs.length) (he : es.length = rs.length) (hf : EndsFin es) (hm : last < m) : SpOk m (rs.zipIdx.map (spanR N es)) := by
  have sq : ∀ p, seqs (spanR N es p) = some [strD p.1.nm, .int p.1.va, .int (N.getD (es.getD p.2 (0, 0)).1 0), .int (N.getD (es.getD p.2 (0, 0)).2 0)] := fun p => rfl
  have i0 : ∀ p, nmS (spanR N es p) = p.1.nm := fun p => nm_strS _
  have i2 : ∀ p, aS (spanR N es p) = N.getD (es.getD p.2 (0, 0)).1 0 := fun p => rfl
  have i3 : ∀ p, bS (spanR N es p) = N.getD (es.getD p.2 (0, 0)).2 0 := fun p => rfl
  refine ⟨by simpa using hr.len, fun y hy => ?_, ?_⟩
  · obtain ⟨p, hp, rfl⟩ := List.mem_map.mp hy
    obtain ⟨i, hi, rfl⟩ := List.getElem_of_mem hp
    simp only [List.length_zipIdx] at hi
    simp only [List.getElem_zipIdx, Nat.zero_add] at *
    have h1 := hr.vals rs[i] (List.getElem_mem hi)
    have hi2 : i < es.length := by omega
    have h2 := hf.in_ i es[i] (List.getElem?_eq_getElem hi2)
    have e : es.getD i (0, 0) = es[i] := by simp [List.getD, hi2]
    refine ⟨⟨rs[i].nm, rs[i].va, N.getD es[i].1 0, N.getD es[i].2 0, by rw [sq, e], hr.names _ (List.getElem_mem hi), h1.1, h1.2, ?_⟩⟩
    have b1 := hN.bd (i := es[i].1) (by omega)
    have b2 := hN.bd (i := es[i].2) (by omega)
    have b3 := hN.lt h2.1 (by omega)
    omega
  · rw [List.pairwise_map, List.pairwise_iff_getElem]
    intro i j hi hj hij
    simp only [List.length_zipIdx] at hi hj
    simp only [List.getElem_zipIdx, Nat.zero_add]
    have hi2 : i < es.length := by omega
    have hj2 : j < es.length := by omega
    obtain ⟨h1, h2⟩ := hf.two i j es[i] es[j] hij (List.getElem?_eq_getElem hi2) (List.getElem?_eq_getElem hj2)
    have c1 := hf.in_ i es[i] (List.getElem?_eq_getElem hi2)
    have c2 := hf.in_ j es[j] (List.getElem?_eq_getElem hj2)
    have e : es.getD i (0, 0) = es[i] := by simp [List.getD, hi2]
    have e' : es.getD j (0, 0) = es[j] := by simp [List.getD, hj2]
    unfold Apart
    rw [i0, i0, i2, i2, i3, i3, e, e']
    have b1 := hN.lt h1 (by omega)
    have b2 := hN.lt c1.1 (by omega)
    have b3 := hN.lt c2.1 (by omega)
    refine ⟨fun z => ?_, ?_⟩
    · have := List.pairwise_iff_getElem.mp (List.nodup_iff_pairwise_ne.mp hr.nd) i j (by simpa using hi) (by simpa using hj) hij
      simp at this
      exact this z
    · unfold crossI
      rcases h2 with h2 | h2
      · have b4 := hN.lt h2 (by omega)
        refine ⟨⟨by omega, by omega, by omega, by omega⟩, ?_⟩
        simp only [Bool.or_eq_false_iff, Bool.and_eq_false_iff, decide_eq_false_iff_not]
        omega
      · have b4 := hN.lt h2 (by omega)
        refine ⟨⟨by omega, by omega, by omega, by omega⟩, ?_⟩
        simp only [Bool.or_eq_false_iff, Bool.and_eq_false_iff, decide_eq_false_iff_not]
        omega
/-! ### crossing, told the other way -/
def crossL (a b c d : Int) : Bool := if b < c ∨ d < a then false else (!(decide (a < c) && decide (d < b))) && !(decide (c < a) && decide (b < d))
theorem crossL_eq {a b c d : Int} (h1 : a < b) (h2 : c < d) (h3 : a ≠ c) (h4 : a ≠ d) (h5 : b ≠ c) (h6 : b ≠ d) : crossL a b c d = crossI c d a b := by
  unfold crossL crossI
  rw [Bool.eq_iff_iff]
  split
  · simp
    omega
  · simp
    omega
/-! ### what is told short -/
def SH (k n : Nat) (d : D) : Prop := ∃ p, toPyX d = some p ∧ p.showable = true ∧ p.depth ≤ k ∧ p.shown.length ≤ n
theorem SH.mono {k n k' n' : Nat} {d : D} (h : SH k n d) (hk : k ≤ k') (hn : n ≤ n') : SH k' n' d := by
  obtain ⟨p, h1, h2, h3, h4⟩ := h
  exact ⟨p, h1, h2, by omega, by omega⟩
theorem sh_all {k n : Nat} : ∀ (ds : List D), (∀ d ∈ ds, SH k n d) → ∃ ps, toPyXs ds = some ps ∧ PyData.showableAll ps = true ∧ PyData.depthAll ps ≤ k ∧ (PyData.shownAll ps).length = ds.length ∧ ((PyData.shownAll ps).map (·.length)).sum ≤ ds.length * n
  | [], _ => ⟨[], by simp [toPyXs], by simp [PyData.showableAll], by simp [PyData.depthAll], by simp [PyData.shownAll], by simp [PyData.shownAll]⟩
  | d :: ds, h => by
    obtain ⟨p, h1, h2, h3, h4⟩ := h d (by simp)
    obtain ⟨ps, k1, k2, k3, k4, k5⟩ := sh_all ds fun e he => h e (by simp [he])
    refine ⟨p :: ps, by simp [toPyXs, h1, k1], by simp [PyData.showableAll, h2, k2], by simp only [PyData.depthAll]; omega, by simp [PyData.shownAll, k4], ?_⟩
    simp only [PyData.shownAll, List.map_cons, List.sum_cons, List.length_cons]
    rw [Nat.add_mul]
    omega
theorem sh_lst {k n : Nat} {ds : List D} (h : ∀ d ∈ ds, SH k n d) : SH (k + 1) (ds.length * n + 2 * ds.length + 3) (.lst ds) := by
  obtain ⟨ps, h1, h2, h3, h4, h5⟩ := sh_all ds h
  refine ⟨.list ps, by simp [toPyX, h1], by simpa [PyData.showable] using h2, by simp only [PyData.depth]; omega, ?_⟩
  have := listText_len_le (PyData.shownAll ps)
  simp only [PyData.shown]
  omega
theorem sh_tup {k n : Nat} {ds : List D} (h : ∀ d ∈ ds, SH k n d) : SH (k + 1) (ds.length * n + 2 * ds.length + 3) (.tup ds) := by
  obtain ⟨ps, h1, h2, h3, h4, h5⟩ := sh_all ds h
  refine ⟨.tuple ps, by simp [toPyX, h1], by simpa [PyData.showable] using h2, by simp only [PyData.depth]; omega, ?_⟩
  have := tupleText_len_le (PyData.shownAll ps)
  simp only [PyData.shown]
  omega
theorem sh_non : SH 0 10 .non := ⟨.none, by simp [toPyX], by simp [PyData.showable], by simp [PyData.depth], by simp only [PyData.shown]; decide +kernel⟩
theorem sh_bl (b : Bool) : SH 0 10 (.bl b) := ⟨.bool b, by simp [toPyX], by simp [PyData.showable], by simp [PyData.depth], by simp only [PyData.shown]; cases b <;> decide +kernel⟩
theorem sh_dict : SH 1 10 (.dK [] []) := ⟨.dict [], by simp [toPyX], by simp [PyData.showable, PyData.showableKv], by simp [PyData.depth, PyData.depthKv], by simp only [PyData.shown, PyData.shownKv]; decide +kernel⟩
theorem sh_int {i : Int} (h0 : -(10 ^ 40) < i) (h1 : i < 10 ^ 40) : SH 0 50 (.int i) := by
  have p40 : (10 : Int) ^ 40 = 10000000000000000000000000000000000000000 := by decide
  rw [p40] at h0 h1
  have hn : i.natAbs < 10 ^ 40 := by
    have p40 : (10 : Nat) ^ 40 = 10000000000000000000000000000000000000000 := by decide
    rw [p40]
    omega
  refine ⟨.int i, by simp [toPyX], ?_, by simp [PyData.depth], ?_⟩
  · simp only [PyData.showable, decide_eq_true_eq]
    have h2 : i.natAbs < 2 ^ 1920 := Nat.lt_of_lt_of_le hn (by decide +kernel)
    exact PySem.Flt.log2_lt_of (by decide) h2
  · have e := int_text_length_le10 (a := i) (k := 40) (by decide) hn
    simp only [PyData.shown]
    show (Str.ofString (toString i)).length ≤ 50
    rw [ofString_length]
    omega
theorem sh_str {z : Str} (h : z.length ≤ 1000) (h2 : ∀ c ∈ z.cps.toList, c < 1114112) : SH 0 10002 (.str z) := by
  refine ⟨.str z, by simp [toPyX], by simp [PyData.showable], by simp [PyData.depth], ?_⟩
  have := StrLaws.reprText_len z fun c hc => Nat.lt_of_lt_of_le (h2 c hc) (by decide)
  simp only [PyData.shown]
  omega
theorem sh_repr {k n : Nat} {ds : List D} (h : SH k n (.lst ds)) (hk : k ≤ 100) (hn : n ≤ 16777216) : ∃ z, reprG [.lst ds] = some (.str z) := by
  obtain ⟨p, h1, h2, h3, h4⟩ := h
  refine ⟨p.shown, ?_⟩
  simp only [reprG, h1]
  rw [if_pos]
  simp only [h2, Bool.true_and, Bool.and_eq_true, decide_eq_true_eq]
  rw [sizeLine_eq]
  omega
/-- a thing in a row that was spoilt t times -/
structure CelX (t : Nat) (c : D) : Prop where
  pl : Pl c
  sh : SH (t + 1) (10100 + 10 * t) c
  bd : ∀ i, c = .int i → -(10 ^ 31) - (t : Int) ≤ i ∧ i ≤ 10 ^ 31 + (t : Int)
theorem CelX.mono {t u : Nat} {c : D} (h : CelX t c) (l : t ≤ u) : CelX u c := ⟨h.pl, h.sh.mono (by omega) (by omega), fun i e => by have := h.bd i e; omega⟩
theorem cx_int {t : Nat} {i : Int} (ht : t ≤ 1000) (h0 : -(10 ^ 31) - (t : Int) ≤ i) (h1 : i ≤ 10 ^ 31 + (t : Int)) : CelX t (.int i) := by
  have p31 : (10 : Int) ^ 31 = 10000000000000000000000000000000 := by decide
  have p40 : (10 : Int) ^ 40 = 10000000000000000000000000000000000000000 := by decide
  refine ⟨pl_of rfl (by simp), (sh_int ?_ ?_).mono (by omega) (by omega), fun j e => by cases e; exact ⟨h0, h1⟩⟩ <;> rw [p31] at * <;> rw [p40] <;> omega
theorem cx_i {t : Nat} {i : Int} (h0 : -(10 ^ 31) < i) (h1 : i < 10 ^ 31) : CelX t (.int i) := by
  have p31 : (10 : Int) ^ 31 = 10000000000000000000000000000000 := by decide
  have p40 : (10 : Int) ^ 40 = 10000000000000000000000000000000000000000 := by decide
  rw [p31] at h0 h1
  refine ⟨pl_of rfl (by simp), (sh_int ?_ ?_).mono (by omega) (by omega), fun j e => by cases e; rw [p31]; omega⟩ <;> rw [p40] <;> omega
theorem cx_flat {t : Nat} {c : D} (hp : Pl c) (hs : SH 1 10100 c) (hi : ∀ i, c ≠ .int i) : CelX t c := ⟨hp, hs.mono (by omega) (by omega), fun i e => absurd e (hi i)⟩
theorem cx_non {t : Nat} : CelX t .non := cx_flat (pl_of rfl (by simp)) (sh_non.mono (by omega) (by omega)) (by simp)
theorem cx_bl {t : Nat} (b : Bool) : CelX t (.bl b) := cx_flat (pl_of rfl (by simp)) ((sh_bl b).mono (by omega) (by omega)) (by simp)
theorem cx_dict {t : Nat} : CelX t (.dK [] []) := cx_flat (pl_of rfl (by simp)) (sh_dict.mono (by omega) (by omega)) (by simp)
theorem cx_lit {t : Nat} (z : String) (h1 : (Str.ofString z).length ≤ 1000) (h2 : (Str.ofString z).cps.toList.all (fun c => decide (c < 1114112)) = true) : CelX t (.str z) :=
  cx_flat (pl_lit z h1 h2) ((sh_str h1 fun c hc => by simpa using List.all_eq_true.mp h2 c hc).mono (by omega) (by omega)) (by simp)
theorem cx_int5 {t : Nat} : CelX t (.int 5) := cx_i (by decide) (by decide)
theorem cx_int0 {t : Nat} : CelX t (.int 0) := cx_i (by decide) (by decide)
theorem cx_nm {t : Nat} {x : List Nat} (h : NameOk x) : CelX t (strD x) := by
  have hp := pl_nm h
  have := hp.st _ rfl
  exact cx_flat hp ((sh_str this.1 this.2).mono (by omega) (by omega)) (by simp [strD])
theorem cx_lst0 {t : Nat} : CelX t (.lst []) := cx_flat (pl_of rfl (by simp)) ((sh_lst (k := 0) (n := 0) (by simp)).mono (by omega) (by simp)) (by simp)
theorem cx_tup1 {t : Nat} : CelX t (.tup [.int 1]) := cx_flat (pl_of rfl (by simp)) ((sh_tup (k := 0) (n := 50) (by simp; exact sh_int (by decide) (by decide))).mono (by omega) (by simp)) (by simp)
theorem cx_wrap {t : Nat} {c : D} (h : CelX t c) : CelX (t + 1) (.lst [c]) :=
  ⟨pl_of rfl (by simp), (sh_lst (k := t + 1) (n := 10100 + 10 * t) (by simpa using h.sh)).mono (by omega) (by simp; omega), fun i e => by cases e⟩
/-- a row that was spoilt t times -/
def RowX (t : Nat) (y : D) : Prop := (∃ l, (y = .lst l ∨ (y = .tup l ∧ l.length = 4)) ∧ l.length ≤ 5 ∧ ∀ c ∈ l, CelX t c) ∨ (seqs y = none ∧ CelX t y)
theorem RowX.mono {t u : Nat} {y : D} (h : RowX t y) (l : t ≤ u) : RowX u y := by
  rcases h with ⟨xs, h1, h2, h3⟩ | ⟨h1, h2⟩
  · exact .inl ⟨xs, h1, h2, fun c hc => (h3 c hc).mono l⟩
  · exact .inr ⟨h1, h2.mono l⟩
theorem RowX.plrow {t : Nat} {y : D} (h : RowX t y) : PlRow y := by
  rcases h with ⟨xs, h1, h2, h3⟩ | ⟨h1, h2⟩
  · rcases h1 with rfl | ⟨rfl, _⟩
    · exact ⟨pl_of rfl (by simp), fun l e c hc => by cases e; exact (h3 c hc).pl⟩
    · exact ⟨pl_of rfl (by simp), fun l e c hc => by cases e; exact (h3 c hc).pl⟩
  · exact ⟨h2.pl, fun l e => by rw [h1] at e; cases e⟩
theorem RowX.sh {t : Nat} {y : D} (h : RowX t y) (ht : t ≤ 50) : SH (t + 2) 60000 y := by
  rcases h with ⟨xs, h1, h2, h3⟩ | ⟨h1, h2⟩
  · have h5 : xs.length * (10100 + 10 * t) ≤ 5 * (10100 + 10 * t) := Nat.mul_le_mul_right _ h2
    rcases h1 with rfl | ⟨rfl, _⟩
    · exact (sh_lst fun c hc => (h3 c hc).sh).mono (by omega) (by omega)
    · exact (sh_tup fun c hc => (h3 c hc).sh).mono (by omega) (by omega)
  · exact h2.sh.mono (by omega) (by omega)
theorem RowX.tup {t : Nat} {l : List D} (h : RowX t (.tup l)) : l.length = 4 ∧ ∀ c ∈ l, CelX t c := by
  rcases h with ⟨xs, h1, h2, h3⟩ | ⟨h1, h2⟩
  · rcases h1 with e | ⟨e, h4⟩
    · cases e
    · cases e; exact ⟨h4, h3⟩
  · cases h1
theorem rowsX_repr {t : Nat} {ys : List D} (h : ∀ y ∈ ys, RowX t y) (ht : t ≤ 50) (hl : ys.length ≤ 60) : ∃ z, reprG [.lst ys] = some (.str z) := by
  have h2 : SH (t + 2 + 1) (ys.length * 60000 + 2 * ys.length + 3) (.lst ys) := sh_lst fun y hy => (h y hy).sh ht
  have h3 : SH 53 3700000 (.lst ys) := h2.mono (by omega) (by omega)
  exact sh_repr h3 (by decide) (by decide)
theorem rowx4 {t : Nat} {a b c d : D} (ha : CelX t a) (hb : CelX t b) (hc : CelX t c) (hd : CelX t d) : RowX t (.tup [a, b, c, d]) :=
  .inl ⟨_, .inr ⟨rfl, rfl⟩, by simp, by simpa using ⟨ha, hb, hc, hd⟩⟩
theorem SRow.rowx {m : Int} {y : D} (h : SRow m y) (hm : m ≤ 10 ^ 30) (ht : ∃ l, y = .tup l ∧ l.length = 4) : RowX 0 y := by
  obtain ⟨l, rfl, hl⟩ := ht
  obtain ⟨h1, h2, h3, h4, h5, h6, h7, _⟩ := h.bd
  have hs : l = _ := Option.some.inj h.sq
  have p30 : (10 : Int) ^ 30 = 1000000000000000000000000000000 := by decide
  have p31 : (10 : Int) ^ 31 = 10000000000000000000000000000000 := by decide
  rw [p30] at hm h2 h3
  rw [hs]
  refine rowx4 (cx_nm h1) (cx_int (by omega) ?_ ?_) (cx_int (by omega) ?_ ?_) (cx_int (by omega) ?_ ?_) <;> rw [p31] <;> omega
end FL

set_option Elab.async false
set_option linter.all false
set_option maxRecDepth 100000
set_option maxHeartbeats 4000000
set_option autoImplicit false
namespace DL
open PySem L2 PyProof.Rows

/-! ### a lambda of one item, x[i], as the key of sorted -/
/-- the names of a lambda that captures nothing -/
structure KeyS (x : Str) (scope : Scope) : Prop where
  kind : scope.kind = .function
  co : scope.isCoroutine = false
  gen : scope.isGenerator = false
  own : scope.names.lookup x = some .local
  nc : ∀ y ∈ scope.names, y.2 ≠ .cell
  nf : ∀ y ∈ scope.names, y.2 ≠ .free
def keySB (x : Str) (scope : Scope) : Bool := decide (scope.kind = .function) && (!scope.isCoroutine && (!scope.isGenerator && (decide (scope.names.lookup x = some .local) && scope.names.all fun y => !decide (y.2 = .cell) && !decide (y.2 = .free))))
theorem keyS_by {x : Str} {scope : Scope} (h : keySB x scope = true) : KeyS x scope := by
  unfold keySB at h
  simp only [Bool.and_eq_true, Bool.not_eq_true', decide_eq_true_eq, decide_eq_false_iff_not, List.all_eq_true] at h
  obtain ⟨h1, h2, h3, h4, h5⟩ := h
  exact ⟨h1, h2, h3, h4, fun y hy => (h5 y hy).1, fun y hy => (h5 y hy).2⟩
theorem clo_nil {cells : List (Str × Addr)} : ∀ {ns : List (Str × NameKind)}, (∀ y ∈ ns, y.2 ≠ .free) → cloFrom cells ns [] = [] := fun {ns} h => by
  cases e : cloFrom cells ns [] with
  | nil => rfl
  | cons p r =>
    have hm : p ∈ cloFrom cells ns [] := by rw [e]; simp
    rcases cloFrom_mem (cells := cells) (names := ns) (acc := []) (n := p.1) (c := p.2) hm with z | ⟨z, _⟩
    · cases z
    · exact absurd rfl (h _ z)
section
variable {P : Program} {w : World} {A : Around} {s : Shared}
/-- the lambda called -/
theorem call_item {f c' t : Addr} {q x : Str} {params : Arguments} {scope : Scope} {pm ctv u : Value} {i : Nat} {p1 p2 p3 : Pos} {j : Nat} {its : Array Value} (hroom : A.depth < recursionLimit)
    (hf : s.heap.get? f = some (PySem.W.kla_obj "<lambda>" q params (.Subscript (.Name x p1) (.Constant (.int i) j p2) p3) scope [] pm c' ctv))
    (hc : ∃ (oc : Obj) (vs : Array Value) (t : Tok), s.heap.get? c' = some oc ∧ oc.data = .fields vs ∧ vs[1]? = some (.str q t)) (lim : s.heap.NoLimit) (L : KeyS x scope)
    (hbind : ∀ v : Value, bindArgs (PySem.W.kla_fn "<lambda>" q params (.Subscript (.Name x p1) (.Constant (.int i) j p2) p3) scope [] pm (.ref c') ctv) ⟨[v], []⟩ = pure [(x, v)]) (hd : (x == ("__debug__" : Str)) = false)
    (ht : IsTup s.heap t its) (hi : its[i]? = some u) (hi2 : i < 1000) (hs : PlainIx (.Constant (.int i) j p2)) :
    wpAny (model P w) A (call (.ref f) [.ref t]) (fun r s' => r = u ∧ ∃ h' tk, s' = { s with heap := h', toks := tk } ∧ ∀ b o, s.heap.get? b = some o → h'.get? b = some o) (fun _ _ => False) s := by
  obtain ⟨oc, vs, tq, hoc, hdc, hvc⟩ := hc
  refine wpAny_call (codeAny_mono (R := fun r s' => ∃ v, r = .ok (.ret v) ∧ v = u ∧ ∃ h' tk, s' = { s with heap := h', toks := tk } ∧ ∀ b o, s.heap.get? b = some o → h'.get? b = some o) ?_ fun r s' hq => ?_)
  · refine PySem.W.kla_callFunE hroom hf rfl L.co L.gen rfl ⟨c', oc, vs, tq, rfl, hoc, hdc, hvc⟩ ?_
    rw [hbind]
    refine wpAny_pure (wpAny_newFunctionEnv (fun y hy => L.nc y hy) (fun y hy => by rw [List.mem_singleton.mp hy]; exact L.own) (fun h₁ hns hsb => ⟨lim.fresh _ hsb, ?_⟩) L.kind)
    have kp : ∀ b o, s.heap.get? b = some o → h₁.get? b = some o := fun b o e => hsb.extBut b o (Nat.ne_of_lt (Heap.lt_size e)) (Heap.get?_push_of_some _ e)
    refine PySem.W.kla_codeExpr (Subscript_ (wpAny_Name (wpAny_loadName_local L.kind L.own hns (v := .ref t) (by simp) (wpAny_Constant_int ?_)) hd))
    have ht1 : IsTup h₁ t its := ht.keeps kp
    have hil : i < its.size := by
      rcases Nat.lt_or_ge i its.size with z | z
      · exact z
      · rw [Array.getElem?_eq_none z] at hi; cases hi
    refine subscriptTail_builtinR (x := u) ht1.typeIs slot_tuple_getitem.lookup (getItem_tuple (j := i) ht1 (by omega) (by omega) ?_ hi ⟨rfl, ?_⟩) (hs _ _)
    · have := seqIndex_at (i := (i : Int)) (n := its.size) (by omega) (by omega)
      simpa using this
    · exact ⟨u, rfl, rfl, _, _, rfl, kp⟩
  · obtain ⟨v, rfl, rfl, h⟩ := hq
    exact ⟨rfl, h⟩
end
/-! ### tables stay known -/
theorem Good.extN {K : PySem.W.Frag} {cl : ClW} {F H H2 : Hp} {M : Mem} (g : Good K cl F H M) (e : LamX.ExtN H H2) (t : LamX.Tabs (tabsOf cl) H2) : Good K cl F H2 M :=
  ⟨fun a u h => e a u (g.sub a u h) fun ps z => g.noT a ps (by rw [h, z]), fun a d h => by
    obtain ⟨h1, h2⟩ := g.cell a d h
    obtain ⟨o, k1, k2, _⟩ := h2.plain
    refine ⟨h1, h2.mono (Same.refl F) fun u hu => e a u hu ?_⟩
    rw [k1] at hu
    rw [← Option.some.inj hu]
    exact k2, t, g.noT⟩
def dSortK (i : Nat) (α : DTA) : DTE := fun ρ M Q X => α ρ M (fun ds M1 => ∃ (d : D) (xs : List D) (ks : D → Int), ds = [d] ∧ vw M1 d = .lst xs ∧ xs.length ≤ sizeLine ∧ (∀ x ∈ xs, ∃ zs, x = .tup zs ∧ zs[i]? = some (.int (ks x))) ∧ ∀ ys : List D, ys.Perm xs → ys.Pairwise (fun a b => ks a ≤ ks b) → Q (.lst ys) M1) X
theorem each_vals {R : Value → V × D → Prop} {K : PySem.W.Frag} {cl : ClW} {F : Hp} (h1 : ∀ v b, R v b → RelV b.1 v ∧ Rep K cl F b.1 b.2) {vs : List Value} {bs : List (V × D)} (e : PySem.W.EachIs R vs bs) : Vals (bs.map (·.1)) vs ∧ Reps K cl F (bs.map (·.1)) (bs.map (·.2)) := by
  induction e with
  | nil => exact ⟨.nil, .nil⟩
  | cons a b ih => exact ⟨.cons (h1 _ _ a).1 ih.1, .cons (h1 _ _ a).2 ih.2⟩
section
variable {cl : ClW} {X : Cx} {W : WX} {e : Expr} {α : DTA} {p p1 p2 p3 pos lpos kpos : Pos} {k i j : Nat} {cc P : Addr} {x : Str} {params : Arguments} {scope : Scope}
/-- sorted(e, key=lambda x: x[i]) -/
theorem d_sortLam (c : Cap X W (k + 3)) (TB : LamX.TabB X.base X.mg cc P) (hcode : X.env.code = .ref cc) (hmT : (P, X.env.qual ++ "<lambda>") ∈ tabsOf cl) (hu : ∀ p ∈ tabsOf cl, p.1 = P → p.2 = X.env.qual ++ "<lambda>") (L : KeyS x scope)
    (hg : Gl X "sorted") (hm : X.mg "sorted" = none) (ha : DA cl X W [e] α) (hi2 : i < 1000) (hd : (x == ("__debug__" : Str)) = false) (hs : PlainIx (.Constant (.int i) j p2)) (hdef : defaultsOf params X.env = ([], []))
    (hbind : ∀ (q : Str) (pm cv ctv v : Value), bindArgs (PySem.W.kla_fn "<lambda>" q params (.Subscript (.Name x p1) (.Constant (.int i) j p2) p3) scope [] pm cv ctv) ⟨[v], []⟩ = pure [(x, v)])
    (hst : backTo pos (starEach [e] X.env) = (false, eval e X.env) :: backTo pos (starEach [] X.env) := by rfl) (hpl : (backTo pos (starEach [e] X.env)).any (·.1) = false := by rfl) :
    DE cl X W (.Call (.Name "sorted" p) [e] [⟨some "key", .Lambda params (.Subscript (.Name x p1) (.Constant (.int i) j p2) p3) scope lpos, kpos⟩] pos) (dSortK i α) := by
  refine ⟨⟨fun pins s σ H Q I ⟨F, ρ, M, Qd, Xd, g, sl, t, pq, w⟩ => ?_⟩⟩
  refine wpAny_Call_Name_kw (ld_blt I hg hm (by rfl) ?_ (by decide) (by decide))
  refine PyProof.Rows.callWith_kw (thn (ha.pa.run pos pins s σ H (fun vs H1 => ∃ F1 ds M1, Same F F1 ∧ Good X.K cl F1 H1 M1 ∧ Reps X.K cl F1 vs ds ∧ ∃ (d : D) (xs : List D) (ks : D → Int), ds = [d] ∧ vw M1 d = .lst xs ∧ xs.length ≤ sizeLine ∧ (∀ x ∈ xs, ∃ zs, x = .tup zs ∧ zs[i]? = some (.int (ks x))) ∧ ∀ ys : List D, ys.Perm xs → ys.Pairwise (fun a b => ks a ≤ ks b) → Qd (.lst ys) M1) I
    ⟨F, ρ, M, _, Xd, g, sl, t, fun vs H' F' ds M' sm g' r q => ⟨F', ds, M', sm, g', r, q⟩, w⟩) fun us s1 ⟨vs, H1, I1, r1, q1⟩ => ?_) hst hpl (by rfl) (by rfl)
  obtain ⟨F1, ds, M1, sm, g1, rs, d, xs, ks, rfl, hv, hl, hx, hq⟩ := q1
  obtain ⟨v, ws, rfl, rv, rw0⟩ := rs.inv
  obtain rfl := rw0.inv0
  show wpAny _ _ (evalAll ((do let v ← eval (.Lambda params (.Subscript (.Name x p1) (.Constant (.int i) j p2) p3) scope lpos) X.env; standAt pos; pure v) :: [])) _ _ s1
  refine wpAny_evalAll_cons (wpAny_bind (LamX.lam_make2 I1 TB hcode hmT hu g1.tab hdef (fun y hy z => absurd z (L.nf y hy)) fun f c' pm ctv H2 s2 I2 eN T2 hf hfn hfr hco => wpAny_bind (wpAny_standAt (wpAny_pure (wpAny_evalAll_nil ?_)))))
  rw [clo_nil L.nf] at hf
  have g2 := g1.extN eN T2
  have hw := vw_ok g2 rv
  rw [hv] at hw
  obtain ⟨a, vs, rfl, h1, h2⟩ := hw.lst g2.sub
  obtain ⟨u, rfl, ru⟩ := vals1 r1
  obtain rfl : u = Value.ref a := ru
  show wpAny _ _ (call (.builtin "sorted") [.ref a] [(Str.ofString "key", .ref f)]) _ _ s2
  obtain ⟨its, rvs, hil, hz⟩ := I2.list h1
  have lv := h2.length
  have li := rvs.length
  have hco2 := (I2.hok c' _ hco).1
  refine PySem.W.sorted_key_data (β := V × D) (bs := vs.zip xs) (R := fun v b => RelV b.1 v ∧ Rep X.K cl F1 b.1 b.2 ∧ b.2 ∈ xs) (b := false) (fun b => .int (ks b.2)) hil.isList
    (PySem.W.EachIs.of_zip (by rw [List.length_zip]; omega) fun pr hpr => ?_) (PySem.W.AllAlike.of fun b b' => by simp [PySem.W.alike]) (PySem.W.Sortable.others fun b => ⟨by simp, by simp⟩) (by rw [List.length_zip]; omega)
    (fun b hb => by have := c.hr.room.un; simp [PyData.depth]; omega) (PyProof.Rows.ksk_s1 _ _) (fun _ => PyProof.Rows.ksk_l1 _ _) (fun y => PyProof.Rows.ksk_t1 f y)
    (fun v b hR hb h tk kp => ?_) fun out cnt h' tk kp fresh hat hlen heach => ?_
  · obtain ⟨jx, hj⟩ := List.mem_iff_getElem?.mp hpr
    obtain ⟨e1, e2⟩ := List.getElem?_zip_eq_some.mp hj
    obtain ⟨e3, e4⟩ := List.getElem?_zip_eq_some.mp e2
    obtain ⟨u, k1, k2⟩ := rvs.get e3
    rw [e1] at k1
    obtain ⟨v', k3, k4⟩ := h2.get e4
    rw [e3] at k3
    have a1 := Option.some.inj k1
    have a3 := Option.some.inj k3
    exact ⟨by rw [a1]; exact k2, by rw [a3]; exact k4, List.mem_of_getElem? e4⟩
  · obtain ⟨r1, r2, r3⟩ := hR
    obtain ⟨zs, ez, hzs⟩ := hx b.2 r3
    rw [ez] at r2
    obtain ⟨ta, us, e1, e2, e3⟩ := r2.toTup
    rw [e1] at r1
    obtain rfl : v = Value.ref ta := r1
    obtain ⟨uz, k1, k2⟩ := e3.get hzs
    obtain rfl := k2.toInt
    obtain ⟨its2, q1, q2, q3⟩ := I2.tuple (same_t g2.sub e2)
    obtain ⟨u2, k3, k4⟩ := q1.get k1
    obtain ⟨tt, rfl⟩ := k4
    obtain ⟨oc, vs2, t2, c1, c2, c3⟩ := hco2
    refine wpAny_mono (call_item (s := { s2 with heap := h, toks := tk }) (u := .int (ks b.2) tt) (its := its2.toArray) ?_ (kp _ _ hf) ⟨oc, vs2, t2, kp _ _ c1, c2, c3⟩ (I2.nolimit.keeps kp) L (hbind _ _ _ _) hd (q2.keeps kp) (by simpa using k3) hi2 hs) (fun r s' hr => ?_) fun _ _ z => z
    · exact c.hr.in1.in1.room.depth
    · obtain ⟨rfl, h3, tk3, rfl, kp3⟩ := hr
      exact ⟨h3, tk3, rfl, kp3, .int _ _⟩
  · obtain ⟨w1, w2⟩ := each_vals (K := X.K) (cl := cl) (F := F1) (fun v b z => ⟨z.1, z.2.1⟩) heach
    have pm1 := List.mergeSort_perm (vs.zip xs) (PySem.W.dataLe false fun b : V × D => PyData.int (ks b.2))
    have e2 : (vs.zip xs).map (·.2) = xs := List.map_snd_zip (by omega)
    have hp := (pm1.map (·.2))
    rw [e2] at hp
    have hl2 : (((vs.zip xs).mergeSort (PySem.W.dataLe false fun b : V × D => PyData.int (ks b.2))).map (·.1)).length ≤ sizeLine := by
      rw [List.length_map, pm1.length_eq, List.length_zip]; omega
    refine ⟨.ref _, upd H2 (s2.heap.objs.size + 1) (.lst (((vs.zip xs).mergeSort (PySem.W.dataLe false fun b : V × D => PyData.int (ks b.2))).map (·.1))), I2.laid (t' := tk) (fun _ _ => kp _ _) (Nat.le_succ _) ⟨hl2, out, cnt, w1, hat⟩, rfl, ?_⟩
    refine (pq.mono sm).newL g2 w2 (hq _ hp ?_) (I2.hok.fresh (Nat.le_succ _))
    rw [List.pairwise_map]
    have hs2 := List.pairwise_mergeSort (le := PySem.W.dataLe false fun b : V × D => PyData.int (ks b.2)) ?_ ?_ (vs.zip xs)
    · refine hs2.imp fun {b b'} hb => ?_
      rw [PySem.W.dataLe_int] at hb
      exact of_decide_eq_true hb
    · intro b1 b2 b3 z1 z2
      rw [PySem.W.dataLe_int] at z1 z2 ⊢
      have := of_decide_eq_true z1
      have := of_decide_eq_true z2
      exact decide_eq_true (by omega)
    · intro b1 b2
      rw [PySem.W.dataLe_int]
      simp only [Bool.or_eq_true, decide_eq_true_eq]
      omega
end
end DL

set_option Elab.async false
set_option linter.all false
set_option maxRecDepth 100000
set_option maxHeartbeats 4000000
set_option autoImplicit false
namespace DL
open PySem L2

/-! ### texts: join, int of a text, f-strings; o.f += e -/
def φJoin : D → List D → Mem → DV → Prop := fun o ds M Q => ∃ a d, ∃ ys : List Str, o = .str a ∧ ds = [d] ∧ (vw M d = .lst (ys.map D.str) ∨ vw M d = .tup (ys.map D.str)) ∧ (ys.map (·.length)).sum + ys.length * a.length ≤ 16777216 ∧ Q (.str (Txt.join a ys)) M
def rJoinS (K : PySem.W.Frag) : V → List V → Hp → VK → Prop := fun x xs H Q => ∃ a p, ∃ ys : List Str, x = .str a ∧ xs = [.ref p] ∧ (SqL K H p (ys.map V.str) ∨ SqT K H p (ys.map V.str)) ∧
  (ys.map (·.length)).sum + ys.length * a.length ≤ 16777216 ∧ Q (.str (Txt.join a ys)) H
theorem mt_joinS {X : Cx} : MtR X "str.join" (rJoinS X.K) := mt_join
section
variable {K : PySem.W.Frag} {cl : ClW}
theorem lm_join : LMt K cl (rJoinS K) φJoin := by
  intro F H M x xs d ds Q Qd g rx rs h p
  obtain ⟨a, e, ys, rfl, rfl, hv, hz, q⟩ := h
  obtain rfl := rx.toStr
  obtain ⟨v, ws, rfl, r1, r2⟩ := rs.inv
  obtain rfl := r2.inv0
  have hw := vw_ok g r1
  rcases hv with hv | hv
  · rw [hv] at hw
    obtain ⟨b, vs, rfl, h1, h2⟩ := hw.lst g.sub
    obtain rfl := h2.strs
    exact ⟨a, b, ys, rfl, rfl, .inl h1, hz, p.val g (.str _) q⟩
  · rw [hv] at hw
    obtain ⟨b, vs, rfl, h1, h2⟩ := hw.tup g.sub
    obtain rfl := h2.strs
    exact ⟨a, b, ys, rfl, rfl, .inr h1, hz, p.val g (.str _) q⟩
/-- int(text) -/
def intSF : List D → Option D
  | [.str a] => if a.length ≤ 640 then (PySem.intText? a).map D.int else none
  | _ => none
theorem lc_intS : LCall K cl (fun xs H Q => ∃ a n, xs = [.str a] ∧ PySem.intText? a = some n ∧ a.length ≤ 640 ∧ Q (.int n) H) intSF := by
  intro F H M xs ds z Q Qd g r h p q
  match hm : ds.map (vw M), h with
  | [.str a], h =>
    obtain ⟨v, rfl, hw⟩ := reps1 g r hm
    obtain rfl := hw.str
    simp only [intSF] at h
    split at h
    · obtain ⟨n, h1, rfl⟩ := Option.map_eq_some_iff.mp h
      exact ⟨a, n, rfl, h1, by assumption, p.val g (.int _) q⟩
    · cases h
/-- a part of an f-string -/
def fmtF : D → Option Str
  | .str y => if y.length ≤ sizeLine then some y else none
  | .int i => if i.natAbs.log2 < 1920 then some (Str.ofString (toString i)) else none
  | _ => none
end
def dFmt (τ : DTE) : DTE := fun ρ M Q X => τ ρ M (fun d M1 => ∃ y, fmtF d = some y ∧ Q (.str y) M1) X
def dJs : List DTE → Str → DL.Env → Mem → (Str → Mem → Prop) → DX → Prop
  | [], acc => fun _ M Q _ => Q acc M
  | τ :: r, acc => fun ρ M Q X => τ ρ M (fun d M1 => ∃ y, d = .str y ∧ (acc ++ y).length ≤ sizeLine ∧ dJs r (acc ++ y) ρ M1 Q X) X
def dFStr (ts : List DTE) : DTE := fun ρ M Q X => dJs ts Str.empty ρ M (fun out M1 => Q (.str out) M1) X
def dFldAug (cs : List Nat) (f : Str) (g : D → D → Option D) (τo τv : DTE) : DTS := fun E ρ M => τo ρ M (fun o M1 => ∃ a c ns ds v, o = .ref a ∧ M1 a = some (.obj c ns ds) ∧ c ∈ cs ∧ lookN f ns ds = some v ∧
  τv ρ M1 (fun d M2 => ∃ z ns' ds', g v (vw M2 d) = some z ∧ M2 a = some (.obj c ns' ds') ∧ ns'.length < 1000 ∧ E.nx ρ (updM M2 a (.obj c (setN f ns') (setV f z ns' ds')))) E.ex) E.ex
inductive DJ (cl : ClW) (X : Cx) (W : WX) : List Expr → List DTE → Prop where
  | nil : DJ cl X W [] []
  | cons {e : Expr} {τ : DTE} {es : List Expr} {ts : List DTE} (h : DE cl X W e τ) (r : DJ cl X W es ts) : DJ cl X W (e :: es) (τ :: ts)
section
variable {cl : ClW} {X : Cx} {W : WX} {e e1 e2 o : Expr} {es : List Expr} {ts : List DTE} {pos tpos : Pos} {τ τo τv : DTE} {f : Str} {cs : List Nat}
theorem d_fmt (h : DE cl X W e τ) : DE cl X W (.FormattedValue e (-1) none pos) (dFmt τ) :=
  ⟨pe_imp (pe_fmt h.pe) fun σ H Q ⟨F, ρ, M, Qd, Xd, g, s, t, p, w⟩ => ⟨F, ρ, M, _, Xd, g, s, t, fun v H' F' d M' sm g' r ⟨y, e1, q⟩ => (by
    cases d with
    | str z =>
      obtain rfl := r.toStr
      simp only [fmtF] at e1
      split at e1
      · cases e1
        exact .inl ⟨y, rfl, by assumption, (p.mono sm).val g' (.str _) q⟩
      · cases e1
    | int i =>
      obtain rfl := r.toInt
      simp only [fmtF] at e1
      split at e1
      · cases e1
        exact .inr ⟨i, rfl, by assumption, (p.mono sm).val g' (.str _) q⟩
      · cases e1
    | _ => cases e1), w⟩⟩
theorem DJ.pj (h : DJ cl X W es ts) : PJ X es (ts.map (lowE X.K cl W)) := by
  induction h with
  | nil => exact .nil
  | cons a _ ih => exact .cons a.pe ih
theorem js_low {σ : St} {Xd : DX} : ∀ (ts : List DTE) (acc : Str) (F : Hp) (ρ : DL.Env) (M : Mem) (H : Hp) (Q : Str → Hp → Prop) (Qd : Str → Mem → Prop), Good X.K cl F H M → Slots X.K cl F σ ρ → dJs ts acc ρ M Qd Xd →
    (∀ out H' F' M', Same F F' → Good X.K cl F' H' M' → Qd out M' → Q out H') → WOk X.K cl W F Xd → tJs (ts.map (lowE X.K cl W)) acc σ H Q
  | [], acc, F, ρ, M, H, Q, Qd, g, s, q, p, w => p _ _ _ _ (Same.refl F) g q
  | τ :: r, acc, F, ρ, M, H, Q, Qd, g, s, q, p, w => by
    refine ⟨F, ρ, M, _, Xd, g, s, q, fun v H1 F1 d M1 sm g1 r1 q1 => ?_, w⟩
    obtain ⟨y, e1, e2, q2⟩ := q1
    subst e1
    exact ⟨y, r1.toStr, e2, js_low r (acc ++ y) F1 ρ M1 H1 Q Qd g1 (s.mono sm) q2 (fun out H' F' M' sm' g' q' => p out H' F' M' (sm.trans sm') g' q') (w.mono sm)⟩
theorem d_joined (h : DJ cl X W (e1 :: e2 :: es) ts) : DE cl X W (.JoinedStr (e1 :: e2 :: es) pos) (dFStr ts) :=
  ⟨pe_imp (pe_joined h.pj) fun σ H Q ⟨F, ρ, M, Qd, Xd, g, s, t, p, w⟩ => js_low ts _ F ρ M H _ _ g s t (fun out H' F' M' sm g' q => p _ _ _ _ _ sm g' (.str out) q) w⟩
theorem ds_fldAug (hf : FldOk X.K cl cs f) (ho : DE cl X W o τo) (hv : DE cl X W e τv) : DS cl X W (.AugAssign (.Attribute o f tpos) .Add e pos) (dFldAug cs f augI τo τv) :=
  ⟨ps_imp (ps_fldaug ho.pe hv.pe in_add) fun D0 σ H ⟨F, ρ, M, E, g, s, q, ok⟩ => ⟨F, ρ, M, _, E.ex, g, s, q, fun x H1 F1 od M1 sm1 g1 r1 q1 => (by
    obtain ⟨a, c, ns, ds, v, rfl, e2, e3, e4, q1⟩ := q1
    obtain rfl := r1.toRef
    obtain ⟨hF, dx, vs, h1, h2, h3⟩ := g1.cell a _ e2
    obtain ⟨k1, k2⟩ := hf c e3
    obtain ⟨u, h4, h5⟩ := reps_lookN h3 e4
    refine ⟨a, cl c, dx, ns.zip vs, u, rfl, h1, k1, k2, by rw [lookN_zip]; exact h4, F1, ρ, M1, _, E.ex, g1, s.mono sm1, q1, fun y H2 F2 d M2 sm2 g2 r2 q2 => ?_, ok.ex.mono sm1⟩
    obtain ⟨z, ns', ds', e5, e6, e7, q2⟩ := q2
    have hw := vw_ok g2 r2
    cases v with
    | int i =>
      cases hd : vw M2 d with
      | int j =>
        rw [hd] at hw e5
        obtain rfl := hw.int
        obtain rfl := h5.toInt
        cases e5
        refine ⟨i, j, rfl, rfl, ?_⟩
        obtain ⟨_, dx', vs', b1, b2, b3⟩ := g2.cell a _ e6
        obtain ⟨z1, z2⟩ := putF_zip f (V.int (i + j)) ns' vs' b2
        refine ⟨dx', ns'.zip vs', b1, by rw [List.length_zip, ← b2, Nat.min_self]; exact e7, ?_⟩
        rw [z1]
        exact ok.nx _ _ F2 ρ _ (sm1.trans sm2) (g2.put (d := .obj c (setN f ns') (setV f (D.int (i + j)) ns' ds')) e6 ⟨dx', setV f (V.int (i + j)) ns' vs', upd_same, z2, reps_setV (.int _) b3⟩) (s.mono (sm1.trans sm2)) q2
      | _ => rw [hd] at e5; cases e5
    | _ => cases e5), ok.ex⟩⟩
end
end DL

set_option Elab.async false
set_option linter.all false
set_option maxRecDepth 100000
set_option maxHeartbeats 4000000
set_option autoImplicit false
namespace DL
open PySem L2

/-! ### x(*ys), x a class; text.split(sep) -/
def dMakeS (c : Nat) (spd : SpD) (τ : DTE) : DTE := fun ρ M Q X => τ ρ M (fun d M1 => ∃ ds, enD (vw M1 d) = some ds ∧ ∀ x, M1 x = none → spd (.ref x :: ds) (updM M1 x (.obj c [] [])) (fun d M2 => d = .non ∧ frz (.ref x) M2 Q) (fun c' ns es M2 => X c' ns es ρ M2)) X
section
variable {cl : ClW} {X : Cx} {W : WX} {j k c : Nat} {ps : List Str} {spd : SpD} {x : Str} {p sp_ pos : Pos} {e : Expr} {τ : DTE}
theorem d_makeS (cp : Cap X W k) (G : MkB cl X.prog X.w X.K X.mg X.base j x c ps spd) (hj : j + 1 ≤ k) (hg : Gl X x) (he : DE cl X W e τ)
    (hdb : (x == ("__debug__" : Str)) = false := by decide) (hst : starEach [.Starred e sp_] X.env = [(true, eval e X.env)] := by rfl) :
    DE cl X W (.Call (.Name x p) [.Starred e sp_] [] pos) (dMakeS c spd τ) := ⟨⟨fun pins s σ H Q I h => by
  obtain ⟨hm, f, fd, M, hb, G⟩ := G
  obtain ⟨k', rfl⟩ : ∃ k', k = k' + 1 := ⟨k - 1, by omega⟩
  obtain ⟨F, ρ, M0, Qd, Xd, g, sl, q, pp, w⟩ := h
  refine wpAny_Call_Name_kw (ld_glob I hg hm ?_ hdb)
  refine PySem.W.callWith_S (h₀ := X.base) I.ok.mod.kin M.kp (thn (he.pe.run pins s σ H (fun v H1 => ∃ a vs, v = V.ref a ∧ (SqT X.K H1 a vs ∨ SqL X.K H1 a vs) ∧ ∀ x dx, H1 x = none → H1 dx = none → dx ≠ x → lower X.K cl spd (.ref x :: vs) (upd (upd H1 dx (.own x)) x (.ins (cl c) dx [])) (fun v H2 => v = .non ∧ Q (.ref x) H2) (WE W σ)) I
    ⟨F, ρ, M0, _, Xd, g, sl, q, fun v H' F' d M' sm g' r q' => ?_, w⟩) fun v s1 ⟨y, H1, I1, ry, a, vs, ey, hxs, q⟩ => ?_) hst
  · obtain ⟨ds, e1, q'⟩ := q'
    have hw := vw_ok g' r
    cases hd : vw M' d with
    | lst xs =>
      rw [hd] at hw e1
      cases e1
      obtain ⟨a, vs, rfl, h1, h2⟩ := hw.lst g'.sub
      exact ⟨a, vs, rfl, .inr h1, fun x dx hx hdx ne => low_mk g' (sl.mono sm) h2 hx hdx ne (q' x (g'.freshM hx)) (post_frz (pp.mono sm)) (w.mono sm)⟩
    | tup xs =>
      rw [hd] at hw e1
      cases e1
      obtain ⟨a, vs, rfl, h1, h2⟩ := hw.tup g'.sub
      exact ⟨a, vs, rfl, .inl h1, fun x dx hx hdx ne => low_mk g' (sl.mono sm) h2 hx hdx ne (q' x (g'.freshM hx)) (post_frz (pp.mono sm)) (w.mono sm)⟩
    | _ => rw [hd] at e1; cases e1
  · subst ey
    obtain rfl : v = Value.ref a := ry
    refine StX.star_any I1 hxs fun us s2 I2 rv => ⟨I2.kIn, ?_⟩
    refine run_mk (kw := []) cp M (G.mono (by omega)) I2 rv (fun s u hk hl => ?_) q
    have := hb s (u :: us) hk (by have := rv.length; simp; omega)
    simpa using this⟩⟩
end
/-- text.split(sep): a new list of texts -/
def φSplit : D → List D → Mem → DV → Prop := fun o ds M Q => ∃ a b : Str, o = .str a ∧ ds = [.str b] ∧ (b.length == 0) = false ∧ a.length + 2 ≤ sizeLine ∧ ∀ p, M p = none → Q (.ref p) (updM M p (.lst ((Txt.split a b).map D.str)))
def rSplitS : V → List V → Hp → VK → Prop := fun x xs H Q => ∃ a b, x = .str a ∧ xs = [.str b] ∧ (b.length == 0) = false ∧ a.length + 2 ≤ sizeLine ∧ rNewStrs (Txt.split a b) H Q
theorem mt_splitS {X : Cx} : MtR X "str.split" rSplitS := mt_split
section
variable {K : PySem.W.Frag} {cl : ClW}
theorem lm_split : LMt K cl rSplitS φSplit := by
  intro F H M x xs d ds Q Qd g rx rs h p
  obtain ⟨a, b, rfl, rfl, hb, ha, q⟩ := h
  obtain rfl := rx.toStr
  obtain ⟨v, ws, rfl, r1, r2⟩ := rs.inv
  obtain rfl := r2.inv0
  obtain rfl := r1.toStr
  exact ⟨a, b, rfl, rfl, hb, ha, fun l hl => p _ _ F _ _ (Same.refl F) (g.newM (d := .lst ((Txt.split a b).map D.str)) hl ⟨(Txt.split a b).map V.str, upd_same, reps_strs _⟩) (.ref l) (q l (g.freshM hl))⟩
end
end DL

set_option Elab.async false
set_option linter.all false
set_option autoImplicit false
set_option maxRecDepth 100000
set_option maxHeartbeats 2000000
namespace DL
open PySem L2 PySem.W PySem.Spec

/-! ### the law's start with tables of lambdas: cs, the code objects and their tables -/
structure TabsAt (K : Frag) (h : Heap) (cs : List (Addr × Addr)) : Prop where
  at_ : ∀ p ∈ cs, h.get? p.2 = some { cls := .none, data := .fields #[] }
  off : ∀ p ∈ cs, K.lookup p.2 = none
  code : ∀ p ∈ cs, CodeHd h p.1 p.2
theorem law_endT {cl : ClW} {P : Program} {w : World} {K : Frag} {mg mb : Str → Option Value} {k : Nat} {fa a : Addr} {x : Str} {spd : SpD} {s0 : Shared} {vs : List Value} {ns : List Int} {cs : List (Addr × Addr)} {F0 : Hp}
    (KX : K.In s0.heap) (hns : s0.heap.Ns mainGlobals mg) (hb : s0.heap.Ns builtinsNs mb) (hbb : ∀ x : Str, x ≠ "__name__" → mb x = bootBuiltins x) (hlim : s0.heap.NoLimit) (hg : s0.gens = #[]) (T : TabsAt K s0.heap cs)
    (hbm : ∃ (bm : Addr) (ob : Obj), mg "__builtins__" = some (.ref bm) ∧ bm ≠ builtinsNs ∧ s0.heap.get? bm = some ob ∧ ob.cls = .type "module" ∧ ob.dict = some builtinsNs ∧ ob.data = .plain)
    (ha : s0.heap.get? a = some { cls := .type "list", data := .seq vs.toArray }) (hr : RoomG k callerA)
    (F : ∀ base : Heap, K.In base → base.Ns mainGlobals mg → (∀ p ∈ cs, LamX.TabB base mg p.1 p.2) → ∃ fd, Binds K fd [x] [] ∧ FnG cl P w K mg base k fa fd [x] spd)
    (hF : ∀ b, F0 b = none ∨ ∃ o xs, F0 b = some (.frz o (.lst xs))) (hS : SqL K F0 a (ns.map V.int)) (hFa : ∀ b, F0 b ≠ none → b = a) (hok : HOk P w (fun b => if b ∈ cs.map (·.2) then some (.tbl #[]) else F0 b) s0.heap) (hK : F0 a ≠ none → K.lookup a = none)
    (hT : ∀ q ∈ tabsOf cl, q.1 ∈ cs.map (·.2)) (hsp : ∀ (M : Mem) (Qd : DV) (Ed : DEK), (∀ M', Qd (.bl true) M') → spd [.lst (ns.map D.int)] M Qd Ed) :
    codeAny (model P w) callerA (.call (.ref fa) ⟨[.ref a], []⟩) (fun r s' => r = .ok (.ret (.bool true)) ∧ OldK s0.heap s'.heap ∧ s'.os = s0.os ∧ PyProof.Rows.AllBare s'.gens) s0 := by
  have isT : ∀ b ∈ cs.map (·.2), s0.heap.get? b = some { cls := .none, data := .fields #[] } := fun b hbm => by
    obtain ⟨p, hp, rfl⟩ := List.mem_map.mp hbm
    exact T.at_ p hp
  have aT : a ∉ cs.map (·.2) := fun z => by
    have e := isT a z
    rw [ha] at e
    cases congrArg Obj.data (Option.some.inj e)
  generalize hH : (fun b => if b ∈ cs.map (·.2) then some (.tbl #[]) else F0 b : Hp) = H at hok
  have Ht : ∀ {b}, b ∈ cs.map (·.2) → H b = some (.tbl #[]) := fun h => by rw [← hH]; exact if_pos h
  have Hn : ∀ {b}, b ∉ cs.map (·.2) → H b = F0 b := fun h => by rw [← hH]; exact if_neg h
  have dom : ∀ {b}, H b ≠ none → b = a ∨ b ∈ cs.map (·.2) := fun {b} h => by
    by_cases hm : b ∈ cs.map (·.2)
    · exact .inr hm
    · rw [Hn hm] at h
      exact .inl (hFa b h)
  -- what is neither a list nor an empty table is not tracked
  have free : ∀ {b : Addr} {o : Obj}, s0.heap.get? b = some o → (∀ xs n, o.data ≠ .seq xs n) → o.data ≠ .fields #[] → H b = none := fun {b o} e h1 h2 => by
    cases q : H b with
    | none => rfl
    | some u =>
      rcases dom (b := b) (by rw [q]; exact nofun) with z | z
      · subst z
        rw [ha] at e
        cases e
        exact (h1 _ _ rfl).elim
      · rw [isT b z] at e
        cases e
        exact (h2 rfl).elim
  have freeD : ∀ {b : Addr} {o : Obj} {es ep}, s0.heap.get? b = some o → o.data = Data.dict es ep → H b = none := fun e d =>
    free e (fun _ _ z => by rw [d] at z; cases z) (fun z => by rw [d] at z; cases z)
  have ns2 : ∀ {b m}, s0.heap.Ns b m → (hidT s0.heap H).Ns b m := by
    rintro b m ⟨o, es, ep, e1, e2, r⟩
    exact ⟨o, es, ep, hidT_get e1 (freeD e1 e2), e2, r⟩
  have kin : K.In (hidT s0.heap H) := fun b o e => hidT_get (KX b o e) (by
    cases q : H b with
    | none => rfl
    | some u =>
      rcases dom (b := b) (by rw [q]; exact nofun) with z | z
      · subst z
        rw [Hn aT] at q
        rw [hK (by rw [q]; exact nofun)] at e
        cases e
      · obtain ⟨p, hp, rfl⟩ := List.mem_map.mp z
        rw [T.off p hp] at e
        cases e)
  have TB : ∀ p ∈ cs, LamX.TabB (hidT s0.heap H) mg p.1 p.2 := fun p hp => by
    have hTp := T.at_ p hp
    refine ⟨?_, ?_, fun z => ?_⟩
    · obtain ⟨o, us, file, tf, flags, tg, inF, text, tt, e1, r1, r2, r3, rest⟩ := T.code p hp
      exact ⟨o, us, file, tf, flags, tg, inF, text, tt, hidT_get e1 (free e1 (fun _ _ z => by rw [r2] at z; cases z) fun z => by rw [r2] at z; cases z; simp at r3), r1, r2, r3, rest⟩
    · obtain ⟨bm, ob, b1, b2, b3, b4, b5, b6⟩ := hbm
      have nG : bm ≠ mainGlobals := fun q => by
        obtain ⟨o, es, ep, e, hd, _⟩ := hns
        rw [q, e] at b3
        cases b3
        rw [hd] at b6
        cases b6
      have nP : bm ≠ p.2 := fun q => by
        rw [q, hTp] at b3
        cases b3
        cases b6
      exact ⟨bm, ob, b1, b2, nG, nP, hidT_get b3 (free b3 (fun _ _ z => by rw [b6] at z; cases z) fun z => by rw [b6] at z; cases z), b4, b5, b6⟩
    · obtain ⟨o, es, ep, e, hd, _⟩ := hns
      rw [z, hTp] at e
      cases e
      cases hd
  obtain ⟨mc, l1, l2⟩ := hlim
  have md : Mod K mg (hidT s0.heap H) := ⟨kin, ns2 hns, ⟨mb, ns2 hb, hbb⟩, mc, ns2 l1, l2⟩
  have env : Env0 P w K mg (hidT s0.heap H) callerA [] s0 H := ⟨rfl, md, fun _ _ e => of_hidT e, Nat.le_of_eq (hidT_size _ _), trivial, fun b z => (by cases z), hok, .of_eq hg⟩
  have noTbl : ∀ b ps, F0 b ≠ some (.tbl ps) := fun b ps z => by
    rcases hF b with e | ⟨o, xs, e⟩ <;> rw [e] at z <;> cases z
  have offT : ∀ {b u}, F0 b = some u → b ∉ cs.map (·.2) := fun {b u} e z => by
    have := hFa b (by rw [e]; exact nofun)
    subst this
    exact aT z
  have good : Good K cl F0 H (fun _ => none) := ⟨fun b o e => by rw [Hn (offT e)]; exact e, (fun _ _ e => by cases e), fun q hq => LamX.TabS.nil (Ht (hT q hq)), noTbl⟩
  have low : lower K cl spd [.ref a] H (fun v _ => v = .bl true) (fun _ _ _ => False) :=
    ⟨F0, fun _ => none, [.lst (ns.map D.int)], fun d _ => d = .bl true, fun _ _ _ _ => False, good, .one (.lst hS (.of_ints ns)), hsp _ _ _ fun _ => rfl, fun v _ _ d _ _ _ r e => by subst e; exact r.toBl, fun _ _ _ _ _ _ _ _ _ _ z => z⟩
  obtain ⟨fd, hbd, G⟩ := F _ kin (ns2 hns) TB
  refine codeAny_mono (G.run callerA [] s0 H _ [.ref a] [.ref a] _ _ hr env (hbd s0 [.ref a] KX rfl) (.cons rfl .nil) low) fun r s' h => ?_
  cases r with
  | error e =>
    obtain ⟨_, _, _, _, _, _, _, _, _, _, _, _, z⟩ := (show L2.CX P w [] H s0 (fun _ _ _ => False) e s' from h)
    exact z.elim
  | ok fl =>
    cases fl with
    | ret u =>
      obtain ⟨v, H', os, bare, un, hok', rv, q⟩ := (show CE [] P w H s0 (fun v _ => v = .bl true) u s' from h)
      subst q
      cases rv
      have same : ∀ b o, b ∉ cs.map (·.2) → s0.heap.get? b = some o → s'.heap.get? b = some o := fun b o nb e => by
        rcases hF b with z | ⟨ob, xs, z⟩
        · exact un.keep b o e (by rw [Hn nb]; exact z) (fun y => by cases y) (fun y => by cases y)
        · rw [← Hn nb] at z
          have h1 := (hok b _ z).1
          have h2 := (hok' b _ (un.frzs b ob _ z)).1
          rw [e] at h1
          cases h1
          exact h2
      have grown : ∀ p ∈ cs, ∃ more : Array Value, s'.heap.get? p.2 = some { cls := .none, data := .fields more } := fun p hp => by
        obtain ⟨more, z⟩ := un.tbls p.2 #[] (Ht (List.mem_map_of_mem hp))
        exact ⟨_, hok' p.2 _ z⟩
      refine ⟨rfl, ⟨fun b o e => ?_, fun b o e => ?_⟩, os, bare⟩
      · by_cases hm : b ∈ cs.map (·.2)
        · obtain ⟨p, hp, rfl⟩ := List.mem_map.mp hm
          obtain ⟨more, hmo⟩ := grown p hp
          rw [T.at_ p hp] at e
          cases e
          exact .inr (.inl ⟨((T.code p hp).tab (T.at_ p hp)).isCodeTable, rfl, #[], more, rfl, by rw [Array.empty_append]; exact hmo⟩)
        · exact .inl (same b o hm e)
      · by_cases hm : b ∈ cs.map (·.2)
        · obtain ⟨p, hp, rfl⟩ := List.mem_map.mp hm
          obtain ⟨more, hmo⟩ := grown p hp
          exact ⟨_, hmo⟩
        · exact ⟨o, same b o hm e⟩
    | next => exact False.elim h
    | brk => exact False.elim h
    | cont => exact False.elim h
theorem law_callDT {cl : ClW} {P : Program} {w : World} {K : Frag} {mg mb : Str → Option Value} {k : Nat} {fa a : Addr} {x : Str} {spd : SpD} {s0 : Shared} {vs : List Value} {ns : List Int} {cs : List (Addr × Addr)}
    (KX : K.In s0.heap) (hns : s0.heap.Ns mainGlobals mg) (hb : s0.heap.Ns builtinsNs mb) (hbb : ∀ x : Str, x ≠ "__name__" → mb x = bootBuiltins x) (hlim : s0.heap.NoLimit) (hg : s0.gens = #[]) (T : TabsAt K s0.heap cs)
    (hbm : ∃ (bm : Addr) (ob : Obj), mg "__builtins__" = some (.ref bm) ∧ bm ≠ builtinsNs ∧ s0.heap.get? bm = some ob ∧ ob.cls = .type "module" ∧ ob.dict = some builtinsNs ∧ ob.data = .plain)
    (ha : s0.heap.get? a = some { cls := .type "list", data := .seq vs.toArray }) (hi : PyProof.Rows.IntsAre vs ns) (hl : ns.length ≤ sizeLine) (hr : RoomG k callerA)
    (F : ∀ base : Heap, K.In base → base.Ns mainGlobals mg → (∀ p ∈ cs, LamX.TabB base mg p.1 p.2) → ∃ fd, Binds K fd [x] [] ∧ FnG cl P w K mg base k fa fd [x] spd)
    (hsp : ∀ (M : Mem) (Qd : DV) (Ed : DEK), (∀ M', Qd (.bl true) M') → spd [.lst (ns.map D.int)] M Qd Ed) (hT : ∀ q ∈ tabsOf cl, q.1 ∈ cs.map (·.2)) :
    codeAny (model P w) callerA (.call (.ref fa) ⟨[.ref a], []⟩) (fun r s' => r = .ok (.ret (.bool true)) ∧ OldK s0.heap s'.heap ∧ s'.os = s0.os ∧ PyProof.Rows.AllBare s'.gens) s0 := by
  have hv := vals_ints hi
  have hle : vs.length ≤ sizeLine := by rw [hi.length]; exact hl
  have tblOk : ∀ {b}, b ∈ cs.map (·.2) → s0.heap.get? b = some { cls := .none, data := .fields #[] } := fun {b} h => by
    obtain ⟨p, hp, rfl⟩ := List.mem_map.mp h
    exact T.at_ p hp
  cases hk : K.lookup a with
  | some o =>
    have e := KX a o hk
    rw [ha] at e
    cases e
    refine law_endT (F0 := fun _ => none) KX hns hb hbb hlim hg T hbm ha hr F (fun _ => .inl rfl) (.inr ⟨_, vs.toArray, _, hk, rfl, rfl, rfl, by simpa using hle, by simpa using hv⟩) (fun _ z => (z rfl).elim) (fun b u z => ?_) (fun z => (z rfl).elim) hT hsp
    simp only at z
    by_cases h : b ∈ cs.map (·.2)
    · rw [if_pos h] at z
      cases z
      exact tblOk h
    · rw [if_neg h] at z
      cases z
  | none =>
    let o : Obj := { cls := .type "list", data := .seq vs.toArray }
    have at_ : upd (fun _ => none) a (.frz o (.lst (ns.map V.int))) a = some (.frz o (.lst (ns.map V.int))) := upd_same
    have off : ∀ {b}, b ≠ a → upd (fun _ => none) a (.frz o (.lst (ns.map V.int))) b = none := fun h => upd_ne h
    refine law_endT (F0 := upd (fun _ => none) a (.frz o (.lst (ns.map V.int)))) KX hns hb hbb hlim hg T hbm ha hr F (fun b => ?_) (.inl (.inr ⟨o, at_⟩)) (fun b z => ?_) (fun b u z => ?_) (fun _ => hk) hT hsp
    · by_cases h : b = a
      · subst h; exact .inr ⟨_, _, at_⟩
      · exact .inl (off h)
    · by_cases h : b = a
      · exact h
      · exact (z (off h)).elim
    · simp only at z
      by_cases hm : b ∈ cs.map (·.2)
      · rw [if_pos hm] at z
        cases z
        exact tblOk hm
      · rw [if_neg hm] at z
        by_cases h : b = a
        · subst h
          rw [at_] at z
          cases z
          exact ⟨ha, by rw [List.length_map]; exact hl, vs, _, hv, ha⟩
        · rw [off h] at z
          cases z
theorem walk_DT {l : OpenLaw} {n k : Nat} {q : Program} {loose : List Str} {XP : (Str → Option Value) → Heap → Prop} {YP : World → Heap → Prop} {d : DefRec} {x : Str}
    (hn : l.most = some n) (hn2 : n ≤ sizeLine) (hdf : d.params.defaults = []) (hr : RoomG k callerA)
    (F : ∀ (w : World) (mg : Str → Option Value) (fa : Addr) (h : Heap), YP w h → h.Ns mainGlobals mg → mg d.name = some (.ref fa) →
      ∃ (cl : ClW) (K : Frag) (spd : SpD) (cs : List (Addr × Addr)), (∀ q ∈ tabsOf cl, q.1 ∈ cs.map (·.2)) ∧ K.In h ∧ TabsAt K h cs ∧
        (∀ (ns : List Int) (M : Mem) (Qd : DV) (Ed : DEK), ns.length ≤ n → (∀ M', Qd (.bl true) M') → spd [.lst (ns.map D.int)] M Qd Ed) ∧
        ∀ base : Heap, K.In base → base.Ns mainGlobals mg → (∀ p ∈ cs, LamX.TabB base mg p.1 p.2) → ∃ fd, Binds K fd [x] [] ∧ FnG cl l.prog w K mg base k fa fd [x] spd) :
    WalkO q loose XP YP l.row.toRowW d [] (fun f vs => PySem.call f vs) := by
  refine Att.attach_callB hn hdf fun w s₀ s₁ mg mb fa o pm cd doc a vs ns G Y ho hd hcd hmg hobj hints hlen hbits hg => ?_
  obtain ⟨cl, K, spd, cs, hT, KX, T, hsp, hF⟩ := F w mg fa _ Y G.T.g hmg
  exact law_callDT KX G.T.g G.T.b G.T.builtins G.T.nolimit hg T G.T.bmain hobj hints (Nat.le_trans hlen hn2) hr hF (fun M Qd Ed h => hsp ns M Qd Ed hlen h) hT
end DL

set_option Elab.async false
set_option linter.all false
set_option maxRecDepth 100000
set_option maxHeartbeats 2000000
set_option autoImplicit false
namespace DL
open PySem L2

/-! ### the head with tables of lambdas: the facts without the tables themselves -/
/-- the code object of a def, its table -/
def codeF (K : PySem.W.Frag) (f : Addr) : Addr := match K.lookup f with
  | some o => match o.data with
    | .func fd => match fd.code with
      | .ref c => c
      | _ => 0
    | _ => 0
  | none => 0
def tabF (K : PySem.W.Frag) (c : Addr) : Addr := match K.lookup c with
  | some o => match o.data with
    | .fields vs => match vs[11]? with
      | some (Value.ref p) => p
      | _ => 0
    | _ => 0
  | none => 0
def tabD (K : PySem.W.Frag) (d : Str × Option Str) : Addr := tabF K (codeF K (He.fAd K d))
def cutTab (K : PySem.W.Frag) (ds : List (Str × Option Str)) : PySem.W.Frag := K.filter fun p => !(ds.map (tabD K)).contains p.1
def emptyT (o : Obj) : Bool := match o with
  | ⟨.none, none, .fields vs, sl⟩ => vs.isEmpty && sl.isEmpty
  | _ => false
/-- the def's code object and its table are as they should be -/
def tabOk (K0 : PySem.W.Frag) (K : PySem.W.Frag) (d : Str × Option Str) : Bool :=
  PySem.W.codeHdIn K (codeF K (He.fAd K d)) (tabD K d) && ((match K0.lookup (tabD K d) with | some o => emptyT o | none => false) && ((K.lookup (tabD K d)).isNone && (!(mainGlobals == tabD K d) && (!(tabD K d == 0) &&
    match K.lookup (He.fAd K d) with
    | some o => (match o.data with | .func fd => (match fd.code with | .ref _ => true | _ => false) | _ => false)
    | none => false))))
def obsT (n : Nat) (ts : List (Str × Option Str)) (fa : List He.Fa) (fn : List He.DefD) (ex : PySem.W.Frag → Bool) (g : Addr → Option Obj) : He.AlD × (Bool × Bool) :=
  (He.obsD fa fn (cutTab (He.frG g (List.range n)) ts), ex (cutTab (He.frG g (List.range n)) ts), ts.all (tabOk (He.frG g (List.range n)) (cutTab (He.frG g (List.range n)) ts)))
def hookT (n : Nat) (ts : List (Str × Option Str)) (fa : List He.Fa) (fn : List He.DefD) (ex : PySem.W.Frag → Bool) : PySem.W.Hook where
  α := He.AlD × (Bool × Bool)
  obs := fun s => obsT n ts fa fn ex s.heap.get?
  val := fun _ => (He.valD fn, true, true)
  says := fun _ h => ∃ K0 : PySem.W.Frag, K0.In h ∧ He.SaysD fa fn (cutTab K0 ts) ∧ ex (cutTab K0 ts) = true ∧ ts.all (tabOk K0 (cutTab K0 ts)) = true
  of := fun _ _ e => ⟨_, He.frG_in, congrArg Prod.fst e, congrArg (fun z => z.2.1) e, congrArg (fun z => z.2.2) e⟩
  keeps := fun _ _ _ ⟨K0, hK, c⟩ k => ⟨K0, PySem.W.Frag.In.keeps hK k, c⟩
theorem obsT_eq {n : Nat} {ts : List (Str × Option Str)} {fa : List He.Fa} {fn : List He.DefD} {ex : PySem.W.Frag → Bool} {g : Addr → Option Obj} {s : Shared} (h : ∀ a, g a = s.heap.get? a) : obsT n ts fa fn ex g = (hookT n ts fa fn ex).obs s := by
  have e : g = s.heap.get? := funext h
  rw [e] <;> rfl
theorem lookup_filter {K : PySem.W.Frag} {q : Addr × Obj → Bool} {b : Addr} {o : Obj} (hq : ∀ o o' : Obj, q (b, o) = q (b, o')) (h : (K.filter q).lookup b = some o) : K.lookup b = some o := by
  induction K with
  | nil => cases h
  | cons p r ih =>
    obtain ⟨c, u⟩ := p
    by_cases e : b = c
    · subst e
      by_cases hp : q (b, u) = true
      · rw [List.filter_cons_of_pos hp, List.lookup_cons_self] at h
        rw [List.lookup_cons_self]
        exact h
      · rw [List.filter_cons_of_neg hp] at h
        have : ∀ r : PySem.W.Frag, (r.filter q).lookup b = none := fun r => by
          induction r with
          | nil => rfl
          | cons p2 r2 ih2 =>
            obtain ⟨c2, u2⟩ := p2
            by_cases hp2 : q (c2, u2) = true
            · rw [List.filter_cons_of_pos hp2]
              by_cases e2 : b = c2
              · subst e2
                rw [hq u u2] at hp
                exact absurd hp2 hp
              · rw [List.lookup_cons, show (b == c2) = false by simpa using e2]
                exact ih2
            · rw [List.filter_cons_of_neg hp2]
              exact ih2
        rw [this r] at h
        cases h
    · rw [List.lookup_cons, show (b == c) = false by simpa using e]
      by_cases hp : q (c, u) = true
      · rw [List.filter_cons_of_pos hp, List.lookup_cons, show (b == c) = false by simpa using e] at h
        exact ih h
      · rw [List.filter_cons_of_neg hp] at h
        exact ih h
theorem cut_in {K : PySem.W.Frag} {ts : List (Str × Option Str)} {h : Heap} (k : K.In h) : (cutTab K ts).In h := fun b o e => k b o (lookup_filter (fun _ _ => rfl) e)
theorem emptyT_eq {o : Obj} (h : emptyT o = true) : o = { cls := .none, data := .fields #[] } := by
  obtain ⟨c, d, t, sl⟩ := o
  unfold emptyT at h
  split at h
  · rename_i vs sl' e
    cases e
    simp only [Bool.and_eq_true, Array.isEmpty_iff] at h
    obtain ⟨h1, h2⟩ := h
    subst h1 h2
    rfl
  · cases h
/-- what is known of a table -/
structure TabK (h : Heap) (K : PySem.W.Frag) (d : Str × Option Str) : Prop where
  hd : PySem.W.codeHdIn K (codeF K (He.fAd K d)) (tabD K d) = true
  at_ : h.get? (tabD K d) = some { cls := .none, data := .fields #[] }
  off : K.lookup (tabD K d) = none
  gl : mainGlobals ≠ tabD K d
  nz : tabD K d ≠ 0
  code : ∀ fd o, K.lookup (He.fAd K d) = some o → o.data = .func fd → fd.code = .ref (codeF K (He.fAd K d))
theorem tabK_of {h : Heap} {K0 K : PySem.W.Frag} {d : Str × Option Str} (k : K0.In h) (e : tabOk K0 K d = true) : TabK h K d := by
  unfold tabOk at e
  simp only [Bool.and_eq_true] at e
  obtain ⟨e1, e2, e3, e4, e6, e5⟩ := e
  refine ⟨e1, ?_, by simpa using e3, fun z => by rw [z] at e4; simp at e4, fun z => by rw [z] at e6; simp at e6, fun fd o h1 h2 => ?_⟩
  · cases q : K0.lookup (tabD K d) with
    | none => rw [q] at e2; cases e2
    | some o =>
      rw [q] at e2
      have := k _ _ q
      rw [emptyT_eq e2] at this
      exact this
  · rw [h1] at e5
    simp only [h2] at e5
    cases hc : fd.code with
    | ref c =>
      have : codeF K (He.fAd K d) = c := by unfold codeF; rw [h1]; simp only [h2, hc]
      rw [this]
    | _ => rw [hc] at e5; cases e5
def csOf (K : PySem.W.Frag) (ts : List (Str × Option Str)) : List (Addr × Addr) := ts.map fun d => (codeF K (He.fAd K d), tabD K d)
theorem tabs_at {h : Heap} {K : PySem.W.Frag} {ts : List (Str × Option Str)} (X : K.In h) (t : ∀ d ∈ ts, TabK h K d) : TabsAt K h (csOf K ts) := by
  refine ⟨fun p hp => ?_, fun p hp => ?_, fun p hp => ?_⟩ <;> obtain ⟨d, hd, rfl⟩ := List.mem_map.mp hp
  · exact (t d hd).at_
  · exact (t d hd).off
  · exact PySem.W.codeHd_of_K X (t d hd).hd
open PySem.W PySem.Calls PyProof.Rows HandSHeadRun in
theorem runT_of {r : OpenRow} {q : Program} {n : Nat} {ts : List (Str × Option Str)} {fa : List He.Fa} {fn : List He.DefD} {ex : PySem.W.Frag → Bool} {M : Nat} {loose : List PySem.Str} {w : World}
    (h1 : ∀ os, (HandSHeadRun.endF (stepQ (denQ tabQ) r.prog w) M r.prog w os).map (fun s => (looksF r.prog (boot_heap w.params) s.abs, seenQ q loose (importedModules r.prog.main.body) (fun s => xlAt q [] s && recOk r.toRowW.records s) s.abs)) = some (true, openGood q loose))
    (h2 : ∀ os, (HandSHeadRun.endF (stepQ (denQ tabQ) r.prog w) M r.prog w os).map (fun s => fa.all fun f => f.ok (cutTab (He.frG (getT s) (List.range n)) ts)) = some true)
    (h3 : ∀ os, (HandSHeadRun.endF (stepQ (denQ tabQ) r.prog w) M r.prog w os).map (fun s => (fn.all fun d => d.ok (cutTab (He.frG (getT s) (List.range n)) ts), fn.map fun d => He.fnW (cutTab (He.frG (getT s) (List.range n)) ts) d.at_)) = some (true, fn.map He.DefD.val))
    (h4 : ∀ os, (HandSHeadRun.endF (stepQ (denQ tabQ) r.prog w) M r.prog w os).map (fun s => (ex (cutTab (He.frG (getT s) (List.range n)) ts), ts.all (tabOk (He.frG (getT s) (List.range n)) (cutTab (He.frG (getT s) (List.range n)) ts)))) = some (true, true)) :
    RunEq r q (hookT n ts fa fn ex) (fun s => obsT n ts fa fn ex (getT s)) M loose w := by
  intro os
  obtain ⟨s, e, a1, a2⟩ := opt_pair (h1 os) (h2 os)
  have b3 := h3 os
  have b4 := h4 os
  rw [e] at b3 b4 ⊢
  have b3 := Option.some.inj b3
  have b4 := Option.some.inj b4
  have c1 := congrArg Prod.fst a1
  have c2 := congrArg Prod.snd a1
  have d1 := congrArg Prod.fst b3
  have d2 := congrArg Prod.snd b3
  have f1 := congrArg Prod.fst b4
  have f2 := congrArg Prod.snd b4
  simp only at c1 c2 d1 d2 f1 f2 a2
  show some (looksF r.prog (boot_heap w.params) s.abs, seenQ q loose (importedModules r.prog.main.body) (fun s => xlAt q [] s && recOk r.toRowW.records s) s.abs, ((((fa.all fun f => f.ok (cutTab (He.frG (getT s) (List.range n)) ts)) && fn.all fun d => d.ok (cutTab (He.frG (getT s) (List.range n)) ts)), fn.map fun d => He.fnW (cutTab (He.frG (getT s) (List.range n)) ts) d.at_), (ex (cutTab (He.frG (getT s) (List.range n)) ts), ts.all (tabOk (He.frG (getT s) (List.range n)) (cutTab (He.frG (getT s) (List.range n)) ts))))) = _
  rw [c1, c2, a2, d1, d2, f1, f2]
  rfl
/-! ### a def that knows its own code object -/
theorem fnD_code {K : PySem.W.Frag} {h : Heap} {d : Str × Option Str} {x qual : Str} {params : Arguments} {body : List Stmt} {scope : Scope} {dvs : List V} {kws : List (Str × V)} {fd : FuncData} (T : TabK h K d) (F : FunD K x qual params body scope dvs kws (He.fAd K d) fd) : fd.code = .ref (codeF K (He.fAd K d)) := by
  obtain ⟨oc, od, dV, kV, doc, pm, an, cdv, ct, osl, rfl, lk, _⟩ := F.ex
  exact T.code _ _ lk rfl
end DL

set_option Elab.async false
set_option linter.all false
set_option maxRecDepth 100000
set_option maxHeartbeats 2000000
set_option autoImplicit false
namespace DL
open PySem L2

/-! ### a def whose body asks for its own code object: the maker of a lambda -/
theorem fn_dC {cl : ClW} {P : Program} {w : World} {K : PySem.W.Frag} {mg : Str → Option Value} {base : Heap} {k : Nat} {f : Addr} {x qual : Str} {params : Arguments} {body : List Stmt} {scope : Scope} {dvs : List V} {kws : List (Str × V)} {fd : FuncData} {N ps : List Str} {spd : SpD}
    (F : FunD K x qual params body scope dvs kws f fd) (S : FnScope N ps scope) (t : DTS)
    (hbody : ∀ (cdv : Value), fd.code = cdv → ∀ (A : Around) (outer : List PySem.Env) (s : Shared) (H : Hp) (E : XK), Cap (cxOf (L2.CX P w) P w K mg base N qual scope f cdv A outer s H E) (fun cls d _ H => E cls d H) k →
      DSs cl (cxOf (L2.CX P w) P w K mg base N qual scope f cdv A outer s H E) (fun cls d _ H => E cls d H) body t)
    (hsp : ∀ ds M Q E, spd ds M Q E → ds.length = ps.length ∧ t (dEnds Q E) (startD N ds) M) : FnG cl P w K mg base (k + 1) f fd ps spd := by
  refine ⟨fun ds M Q E h => (hsp ds M Q E h).1, fun A outer s H args us vs Q E hr e0 hb r hl => ?_⟩
  obtain ⟨oc, od, dV, kV, doc, pm, an, cdv, ct, osl, rfl, lk, hcd, _, _⟩ := F.ex
  have lenV : ∀ vs H Q E, lower K cl spd vs H Q E → vs.length = ps.length := fun vs H Q E ⟨_, M, ds, Qd, Ed, _, r, q, _⟩ => by
    rw [r.length]
    exact (hsp ds M Qd Ed q).1
  have hr' := hr.deeper (PyProof.Rows.envOfC qual scope s.heap.objs.size f cdv)
  have KX : K.In s.heap := e0.mod.kin.keeps fun b o e => (e0.bs b o e).1
  have lim : s.heap.NoLimit := e0.mod.nolimit.keeps fun b o e => (e0.bs b o e).1
  have hkind : ∀ y ∈ ps.zip us, scope.names.lookup y.1 = some .local ∨ (scope.names.lookup y.1 = some .cell ∧ ((cellsFrom (s.heap.objs.size + 1) scope.names []).lookup y.1).isSome = true) := fun ⟨n, v⟩ hy => by
    rcases S.par n (List.of_mem_zip hy).1 with q | q
    · exact .inl q
    · exact .inr ⟨q, PySem.W.cellsFrom_some _ _ _ (.inl q)⟩
  refine codeAny_call_function hr.room.depth (KX _ _ lk) rfl S.co S.gen rfl (PySem.W.codeRec_of KX hcd) (hb _ _ _ _ ?_)
  refine wpAny_newFunctionEnv_cells S.kind hkind fun env he s1 x => ?_
  subst he
  refine ⟨lim.keeps x.toInCall.keep, codeAny_func ?_⟩
  have ht := hbody cdv rfl A outer s H E ⟨takes_of rfl rfl rfl rfl, hr', passes_of rfl, rfl⟩
  have I : Inv (cxOf (L2.CX P w) P w K mg base N qual scope f cdv A outer s H E) [] (L2.start N vs) H s1 := inv_start S hr.room.hd e0 (lenV _ _ _ _ hl) r x
  obtain ⟨F0, M0, ds0, Qd, Ed, g0, r0, q0, p0, ep0⟩ := hl
  have hq : lowS K cl (fun cls d _ H => E cls d H) t { nx := fun _ H' => Q .non H', rt := Q } (L2.start N vs) H :=
    ⟨F0, startD N ds0, M0, dEnds Qd Ed, g0, slots_start N r0, (hsp ds0 M0 Qd Ed q0).2,
      ⟨fun σ' H' F' ρ' M' sm g' s' q' => p0 _ _ _ _ _ sm g' .non q', p0, fun _ _ _ _ _ _ _ _ q' => q', fun _ _ _ _ _ _ _ _ q' => q', fun c ns ds σ' H' F' ρ' M' dd sm g' s' ea q' => ep0 _ _ _ _ _ _ _ sm g' ea q'⟩⟩
  refine wpAny_mono (ht.pss.run [] s1 (L2.start N vs) H _ I hq) (fun fl s' hs => ?_) fun e s' hs => hs
  have fin : ∀ {σ' : St} {H' : Hp} {v : V} {u : Value}, Inv (cxOf (L2.CX P w) P w K mg base N qual scope f cdv A outer s H E) [] σ' H' s' → RelV v u → Q v H' → CE outer P w H s Q u s' :=
    fun {σ' H' v u} J rv q => ⟨v, H', J.os, J.bare, J.base, J.hok, rv, q⟩
  cases fl with
  | ret u =>
    obtain ⟨v, σ', H', J, rv, q⟩ := hs
    exact fin J rv q
  | next =>
    obtain ⟨σ', H', J, q⟩ := hs
    exact fin (v := V.non) (u := Value.none) J rfl q
  | brk =>
    obtain ⟨_, _, _, q⟩ := hs
    exact False.elim q
  | cont =>
    obtain ⟨_, _, _, q⟩ := hs
    exact False.elim q
section
variable {cl : ClW} {P : Program} {w : World} {K : PySem.W.Frag} {mg : Str → Option Value} {base h : Heap} {k : Nat} {x qual : Str} {params : Arguments} {body : List Stmt} {scope : Scope} {N ps : List Str} {spd : SpD} {d : Str × Option Str} {t : DTS}
theorem fnC_ofT (T : TabK h K d) (F : ∃ fd, FunD K x qual params body scope [] [] (He.fAd K d) fd) (S : FnScope N ps scope)
    (hbody : ∀ (A : Around) (outer : List PySem.Env) (s : Shared) (H : Hp) (E : XK), Cap (cxOf (L2.CX P w) P w K mg base N qual scope (He.fAd K d) (.ref (codeF K (He.fAd K d))) A outer s H E) (fun cls d _ H => E cls d H) k →
      DSs cl (cxOf (L2.CX P w) P w K mg base N qual scope (He.fAd K d) (.ref (codeF K (He.fAd K d))) A outer s H E) (fun cls d _ H => E cls d H) body t)
    (hsp : ∀ ds M Q E, spd ds M Q E → ds.length = ps.length ∧ t (dEnds Q E) (startD N ds) M) : FnC cl P w K mg base (k + 1) x qual params body scope (He.fAd K d) ps spd := by
  obtain ⟨fd, F⟩ := F
  refine ⟨fd, F, fn_dC F S t (fun cdv hc A outer s H E c => ?_) hsp⟩
  rw [fnD_code T F] at hc
  subst hc
  exact hbody A outer s H E c
end
end DL

set_option Elab.async false
set_option linter.all false
set_option maxRecDepth 100000
set_option maxHeartbeats 2000000
set_option autoImplicit false
namespace DL
open PySem L2

/-! ### sep.join(..) of bytes -/
section
variable {X : Cx} {o e : Expr} {to ta : TE} {apos cpos : Pos}
def tBjoin (K : PySem.W.Frag) (to ta : TE) : TE := fun σ H Q => to σ H fun x H1 => (∃ b, x = V.byt b) ∧ ta σ H1 fun y H2 => rBjoin K x [y] H2 Q
theorem pe_bjoin (ho : PE X o to) (ha : PE X e ta)
    (hbase : attributeBase o "join" X.env (eval o X.env) = eval o X.env := by rfl)
    (hfew : ((backTo cpos (starEach [e] X.env)).all (fun x => !x.1) && (backToKw cpos (keywordEach [] X.env)).all (fun x => x.1.isSome)
      && decide (([e] : List Expr).length + ([] : List Keyword).length + (if ([] : List Keyword).isEmpty then 0 else 1) < 30)) = true := by rfl)
    (hline : (apos.endLine == cpos.line) = true := by rfl) (hs : starEach [e] X.env = [(false, eval e X.env)] := by rfl) :
    PE X (.Call (.Attribute o "join" apos) [e] [] cpos) (tBjoin X.K to ta) := by
  refine ⟨fun pins s σ H Q I h => ?_⟩
  refine wpAny_Call_method_late hbase hfew hline rfl (thn (ho.run pins s σ H _ I h) fun v s1 ⟨x, H1, I1, r1, hb, q1⟩ => ?_)
  obtain ⟨b, rfl⟩ := hb
  obtain ⟨t, rfl⟩ := (show ∃ t, v = Value.bytes b t from r1)
  refine ⟨"bytes", "bytes.join", PySem.W.FB.plainAttrs_bytes, R59.slot_bjoin, R59.type_bjoin, PySem.W.typeIs_bytes s1 b t, (fun _ e => by cases e), ?_⟩
  rw [hs]
  refine Calls.callWith_builtin rfl (Calls.evalArgs_plain ?_)
  have hA := (pa_cons (X := X) ha pa_nil hs).run cpos pins s1 σ H1 (fun vs H2 => rBjoin X.K (.byt b) vs H2 Q) I1 q1
  rw [hs] at hA
  exact thn hA fun us s2 ⟨vs, H2, I2, r2, q2⟩ => mt_bjoin pins s2 σ H2 (.byt b) vs (.bytes b t) us Q I2 ⟨t, rfl⟩ r2 q2
end
section
variable {cl : ClW} {X : Cx} {W : WX} {o e : Expr} {τo τ : DTE} {apos cpos : Pos}
def dBjoin (τo τ : DTE) : DTE := fun ρ M Q X => τo ρ M (fun d M1 => ∃ sep, d = .byt sep ∧ τ ρ M1 (fun z M2 => ∃ bs : List (Array UInt8), vw M2 z = .lst (bs.map D.byt) ∧
  Builtin.Bytes.tooLong (bs.toArray.foldl (· + ·.size) (sep.size * (bs.length - 1))) = false ∧ (Builtin.Bytes.joined sep bs).size ≤ sizeLine ∧ Q (.byt (Builtin.Bytes.joined sep bs)) M2) X) X
theorem Reps.byts {K : PySem.W.Frag} {F : Hp} : ∀ {bs : List (Array UInt8)} {vs : List V}, Reps K cl F vs (bs.map D.byt) → vs = bs.map V.byt
  | [], _, .nil => rfl
  | b :: bs, _, .cons r t => by rw [Reps.byts t, r.toByt]; rfl
theorem d_bjoin (ho : DE cl X W o τo) (he : DE cl X W e τ)
    (hbase : attributeBase o "join" X.env (eval o X.env) = eval o X.env := by rfl)
    (hfew : ((backTo cpos (starEach [e] X.env)).all (fun x => !x.1) && (backToKw cpos (keywordEach [] X.env)).all (fun x => x.1.isSome)
      && decide (([e] : List Expr).length + ([] : List Keyword).length + (if ([] : List Keyword).isEmpty then 0 else 1) < 30)) = true := by rfl)
    (hline : (apos.endLine == cpos.line) = true := by rfl) (hs : starEach [e] X.env = [(false, eval e X.env)] := by rfl) :
    DE cl X W (.Call (.Attribute o "join" apos) [e] [] cpos) (dBjoin τo τ) :=
  ⟨pe_imp (pe_bjoin ho.pe he.pe hbase hfew hline hs) fun σ H Q ⟨F, ρ, M, Qd, Xd, g, s, t, p, w⟩ => ⟨F, ρ, M, _, Xd, g, s, t, fun v H' F' d M' sm g' r ⟨sep, e1, q⟩ => by
    subst e1
    obtain rfl := r.toByt
    refine ⟨⟨_, rfl⟩, F', ρ, M', _, Xd, g', s.mono sm, q, fun v2 H2 F2 z M2 sm2 g2 r2 ⟨bs, hv, h1, h2, q2⟩ => ?_, w.mono sm⟩
    have hw := vw_ok g2 r2
    rw [hv] at hw
    obtain ⟨a, vs, rfl, k1, k2⟩ := hw.lst g2.sub
    rw [Reps.byts k2] at k1
    exact ⟨sep, a, bs, rfl, rfl, k1, h1, h2, p _ _ _ _ _ (sm.trans sm2) g2 (.byt _) q2⟩, w⟩⟩
end
end DL

set_option Elab.async false
set_option linter.all false
set_option maxRecDepth 100000
set_option maxHeartbeats 4000000
set_option autoImplicit false
/-! a walk over bytes -/
namespace DLB
open PySem PySem.W
theorem owner_bi : Manifest.owners.lookup (String.ofList ['r', 'o', 't', 'a', 'r', 'e', 't', 'i', '_', 's', 'e', 't', 'y', 'b'].reverse) = some Manifest.sig_bytes_iterator := by kernel_rfl
theorem slot_bi_next : Slot "bytes_iterator" "__next__" "bytes_iterator.__next__" :=
  .of (owner := "bytes_iterator") (n := "__next__") (by rw [typeLookup_type, builtinLookup_eq_fast]; kernel_rfl) (by decide +kernel) (by decide +kernel) (by decide +kernel)
    (by first | exact .inl (by decide +kernel) | exact .inr (by decide +kernel)) (by rw [isSubtype_type]; kernel_rfl)
theorem entry_bi_next : entryFor table "bytes_iterator.__next__" = some Builtin.«bytes_iterator.__next__» := entryFor_of_tree (by kernel_rfl)
theorem args_bi_next_1 (a : Value) : argsOk "bytes_iterator.__next__" ⟨[a], []⟩ := by
  unfold argsOk; rw [signature?_of (id := "bytes_iterator.__next__") (n := ['_', '_', 't', 'x', 'e', 'n', '_', '_']) (o := ['r', 'o', 't', 'a', 'r', 'e', 't', 'i', '_', 's', 'e', 't', 'y', 'b']) (by kernel_rfl) owner_bi]; kernel_rfl
def IsBi (h : Heap) (it : Addr) (b : Array UInt8) (t : Tok) (i : Nat) : Prop := ∃ o, h.get? it = some o ∧ o.cls = .type "bytes_iterator" ∧ o.data = .fields #[.bytes b t, .int i 0]
section
variable {prog : Program} {w : World} {A : Around} {E : Value → Shared → Prop} {s : Shared} {it : Addr} {b : Array UInt8} {t : Tok} {i : Nat}
theorem IsBi.typeIs (h : IsBi s.heap it b t i) : s.TypeIs (.ref it) "bytes_iterator" := by
  obtain ⟨o, ho, hc, _⟩ := h
  exact ⟨o, ho, hc⟩
theorem nextOf_bi_item {c : UInt8} {Q : Value → Shared → Prop} (hit : IsBi s.heap it b t i) (hx : b[i]? = some c)
    (hQ : ∀ h', IsBi h' it b t (i + 1) → Heap.SameBut it s.heap h' → Q (.int (c.toNat : Nat) s.toks) { s with heap := h', toks := s.toks + 1 }) :
    wpAny (model prog w) A (Builtin.SmallTypes.nextOf (.ref it)) Q E s := by
  obtain ⟨o, ho, hc, hd⟩ := id hit
  unfold Builtin.SmallTypes.nextOf
  refine wpAny_bind (wpAny_callSpecial?_slot (name := Str.ofString "__next__") hit.typeIs slot_bi_next
    (wpAny_call_entry slot_bi_next hit.typeIs entry_bi_next ?_ (args_bi_next_1 _)))
  show wpAny _ _ (field (.ref it) 0 >>= _) _ _ s
  refine wpAny_bind (wpAny_field ho hd (x := .bytes b t) rfl ?_)
  show wpAny _ _ (if (Value.bytes b t == Value.none) = true then _ else _) _ _ s
  rw [if_neg (show ¬ ((Value.bytes b t == Value.none) = true) from Bool.false_ne_true)]
  show wpAny _ _ (field (.ref it) 1 >>= _) _ _ s
  refine wpAny_bind (wpAny_field ho hd (x := .int i 0) rfl ?_)
  refine wpAny_bind (wpAny_of_eq (a := b) rfl ?_)
  simp only [Int.toNat_natCast, hx]
  refine wpAny_bind (wpAny_setField ho hd (by simp) (wpAny_bind (wpAny_mkInt (wpAny_pure ⟨_, rfl, wpAny_pure (hQ _ ?_ (Heap.SameBut.update ..))⟩))))
  exact ⟨_, Heap.get?_update_self _ ho (Obj.isFreed_of_fields (Obj.data_mapFields hd _)), (Obj.cls_mapFields ..).trans hc, by
    rw [Obj.data_mapFields hd]; simp [rawInt]⟩
theorem nextOf_bi_end {Q : Value → Shared → Prop} (hh : A.handled = none) (hit : IsBi s.heap it b t i) (hx : b[i]? = none)
    (hE : ∀ h' e, Heap.ExtBut it s.heap h' → (∃ o, h'.get? e = some o ∧ o.cls = .type "StopIteration") → E (.ref e) { s with heap := h' }) :
    wpAny (model prog w) A (Builtin.SmallTypes.nextOf (.ref it)) Q E s := by
  obtain ⟨o, ho, hc, hd⟩ := id hit
  unfold Builtin.SmallTypes.nextOf
  refine wpAny_bind (wpAny_callSpecial?_slot (name := Str.ofString "__next__") hit.typeIs slot_bi_next
    (wpAny_call_entry slot_bi_next hit.typeIs entry_bi_next ?_ (args_bi_next_1 _)))
  show wpAny _ _ (field (.ref it) 0 >>= _) _ _ s
  refine wpAny_bind (wpAny_field ho hd (x := .bytes b t) rfl ?_)
  show wpAny _ _ (if (Value.bytes b t == Value.none) = true then _ else _) _ _ s
  rw [if_neg (show ¬ ((Value.bytes b t == Value.none) = true) from Bool.false_ne_true)]
  show wpAny _ _ (field (.ref it) 1 >>= _) _ _ s
  refine wpAny_bind (wpAny_field ho hd (x := .int i 0) rfl ?_)
  refine wpAny_bind (wpAny_of_eq (a := b) rfl ?_)
  simp only [Int.toNat_natCast, hx]
  refine wpAny_bind (wpAny_rule (wpAny_bind (wpAny_setField ho hd (by simp) ?_)))
  show wpAny _ _ (newExc (.type "StopIteration") [] >>= _) _ _ _
  refine wpAny_bind ?_
  simp only [newExc, newTuple]
  refine wpAny_bind (wpAny_newObj_type ?_ (by size_fits))
  refine wpAny_bind (m := firstArgMember _ _) (wpAny_of_eq (a := Value.none) (by first | rfl | (simp only [firstArgMember]; rfl)) ?_)
  refine wpAny_newObj_type ?_ (by size_fits)
  simp only [raiseNew]
  refine wpAny_bind (wpAny_handled ?_)
  first | rw [show A.in1.handled = none from hh] | rw [hh]
  refine wpAny_bind (wpAny_pure (wpAny_throw ?_))
  exact hE _ _ (((Heap.SameBut.update ..).extBut.push _).push _) ⟨_, Heap.get?_push_size _ rfl, rfl⟩
theorem pyIter_bytes {Q : Value → Shared → Prop} (hQ : Q (.ref s.heap.objs.size) { s with heap := s.heap.push { cls := .type "bytes_iterator", data := .fields #[.bytes b t, .int 0 0] } }) : wpAny (model prog w) A (pyIter (.bytes b t)) Q E s := by
  refine wpAny_pyIter_slot (typeIs_bytes s b t) FB.slot_bytes_iter (wpAny_call_entry FB.slot_bytes_iter (typeIs_bytes s b t) FB.entry_bytes_iter ?_ (FB.args_bytes_iter_1 _))
  show wpAny _ _ (do ret (← newFields "bytes_iterator" [.bytes b t, rawInt 0])) _ _ s
  exact wpAny_bind (wpAny_newObj_type (wpAny_pure ⟨_, rfl, "bytes_iterator", _, ⟨_, Heap.get?_push_size _ rfl, rfl⟩, slot_bi_next.lookup, hQ⟩))
end
theorem draws_bytes {prog : Program} {w : World} {A : Around} (hh : A.handled = none) (it : Addr) (b : Array UInt8) (t : Tok) :
    Draws prog w A it [it] b.size (fun i v => ∃ c u, b[i]? = some c ∧ v = .int (c.toNat : Nat) u) (fun i h => IsBi h it b t i) where
  live := fun _ _ st => let ⟨o, ho, _⟩ := st; ⟨o, ho⟩
  frame := fun _ _ _ st hk => let ⟨o, ho, r⟩ := st; ⟨o, hk it (by simp) o ho, r⟩
  item := fun i s Q E hi st hQ => by
    refine nextOf_bi_item st (c := b[i]) (by simp [hi]) fun h' hit' hs' => ?_
    exact hQ _ h' (s.toks + 1) ⟨_, _, by simp [hi], rfl⟩ hit' hs'
  done := fun s Q E st hE => nextOf_bi_end hh st (by simp) hE
theorem begins_bytes (b : Array UInt8) (t : Tok) : Begins (.bytes b t) { cls := .type "bytes_iterator", data := .fields #[.bytes b t, .int 0 0] } fun _ => True where
  iter := fun prog w A E s Q _ h => pyIter_bytes h
  keeps := fun _ _ _ _ => trivial
  free := rfl
end DLB

set_option Elab.async false
set_option linter.all false
set_option maxRecDepth 100000
set_option maxHeartbeats 4000000
set_option autoImplicit false
/-! bytes beside bytes and beside None: == and != -/
namespace DLC
open PySem PySem.W Builtin PyProof.Rows SeqAt
theorem slot_bytes_eq_refl : Slot "bytes" (cmpInfo .Eq).2.2 "bytes.__eq__" :=
  .of (owner := "bytes") (n := "__eq__") (by rw [typeLookup_type, builtinLookup_eq_fast]; kernel_rfl) (by decide +kernel) (by decide +kernel) (by decide +kernel)
    (by first | exact .inl (by decide +kernel) | exact .inr (by decide +kernel)) (by rw [isSubtype_type]; kernel_rfl)
theorem slot_bytes_ne_refl : Slot "bytes" (cmpInfo .NotEq).2.2 "bytes.__ne__" :=
  .of (owner := "bytes") (n := "__ne__") (by rw [typeLookup_type, builtinLookup_eq_fast]; kernel_rfl) (by decide +kernel) (by decide +kernel) (by decide +kernel)
    (by first | exact .inl (by decide +kernel) | exact .inr (by decide +kernel)) (by rw [isSubtype_type]; kernel_rfl)
theorem bytes_eq_none (b : Array UInt8) (t : Tok) : Gives («bytes.__eq__» ⟨[.bytes b t, .none], []⟩) (.val (Value.notImplemented)) := .of_wp fun M A E s Q hq => by
  show wpAny M A (isInstance .none (.type "bytes") >>= fun r => _) _ E s
  refine wpAny_bind (wpAny_isInstance (T := "NoneType") rfl F.sub_NoneType_bytes ?_)
  refine wpAny_bind (wpAny_isInstance (T := "NoneType") rfl F.sub_NoneType_bytes ?_)
  simp only [Bool.not_false, if_true]
  exact wpAny_bind (wpAny_rule (wpAny_pure ⟨_, rfl, hq⟩))
theorem bytes_ne_none (b : Array UInt8) (t : Tok) : Gives («bytes.__ne__» ⟨[.bytes b t, .none], []⟩) (.val (Value.notImplemented)) := .of_wp fun M A E s Q hq => by
  show wpAny M A (isInstance .none (.type "bytes") >>= fun r => _) _ E s
  refine wpAny_bind (wpAny_isInstance (T := "NoneType") rfl F.sub_NoneType_bytes ?_)
  refine wpAny_bind (wpAny_isInstance (T := "NoneType") rfl F.sub_NoneType_bytes ?_)
  simp only [Bool.not_false, if_true]
  exact wpAny_bind (wpAny_rule (wpAny_pure ⟨_, rfl, hq⟩))
theorem none_eq_bytes (b : Array UInt8) (t : Tok) : Gives (Builtin.«NoneType.__eq__» ⟨[.none, .bytes b t], []⟩) (.val (Value.notImplemented)) :=
  .of_wp fun M A E s Q h => by obtain ⟨hp, g, d, tk, os⟩ := s; wp_walk; exact ⟨_, rfl, h⟩
theorem none_ne_bytes (b : Array UInt8) (t : Tok) : Gives (Builtin.«NoneType.__ne__» ⟨[.none, .bytes b t], []⟩) (.val (Value.notImplemented)) :=
  .of_wp fun M A E s Q h => by obtain ⟨hp, g, d, tk, os⟩ := s; wp_walk; exact ⟨_, rfl, h⟩
section
variable {prog : Program} {w : World} {A : Around} {E Q : Value → Shared → Prop} {s : Shared} {b c : Array UInt8} {t u : Tok}
theorem rc_bytes (hu : A.units < cLine) (q : Q (.bool (b == c)) s) : wpAny (model prog w) A (richCompare .Eq (.bytes b t) (.bytes c u)) Q E s := by
  refine wpAny_richCompare_same_room (op := .Eq) (typeIs_bytes s b t) (typeIs_bytes s c u) FB.slot_bytes_eq (call_gives FB.slot_bytes_eq (typeIs_bytes s b t) FB.entry_bytes_eq (FB.args_bytes_eq_2 _ _) (gives_bytes_eq b c t u) ⟨(fun z => nomatch z), ?_⟩) hu
  have e : (b.toList == c.toList) = (b == c) := by
    rw [Bool.eq_iff_iff]; simp [Array.toList_inj]
  rw [e]; exact q
theorem rcn_bytes (hu : A.units < cLine) (q : Q (.bool (b != c)) s) : wpAny (model prog w) A (richCompare .NotEq (.bytes b t) (.bytes c u)) Q E s := by
  refine wpAny_richCompare_same_room (op := .NotEq) (typeIs_bytes s b t) (typeIs_bytes s c u) FB.slot_bytes_ne (call_gives FB.slot_bytes_ne (typeIs_bytes s b t) FB.entry_bytes_ne (FB.args_bytes_ne_2 _ _) (gives_bytes_ne b c t u) ⟨(fun z => nomatch z), ?_⟩) hu
  have e : (b.toList != c.toList) = (b != c) := by
    rw [Bool.eq_iff_iff]; simp [bne, Array.toList_inj]
  rw [e]; exact q
theorem rc_bytes_none (q : Q (.bool false) s) : wpAny (model prog w) A (richCompare .Eq (.bytes b t) .none) Q E s :=
  rc_eq_decline_or (k := false) (typeIs_bytes s b t) (Tb := "NoneType") rfl (by decide) F.sub_NoneType_bytes FB.slot_bytes_eq PySem.F.slot_NoneType_eq_refl
    (fun _ z => call_gives FB.slot_bytes_eq (typeIs_bytes s b t) FB.entry_bytes_eq (FB.args_bytes_eq_2 _ _) (bytes_eq_none b t) z)
    (fun _ z => call_gives PySem.F.slot_NoneType_eq_refl rfl PySem.F.entry_NoneType_eq (PySem.F.args_NoneType_eq_2 _ _) (none_eq_bytes b t) z)
    (fun _ z => wpAny_of_eq (rfl : isSame (.bytes b t) .none = pure false) z) (.inl rfl) q
theorem rc_none_bytes (q : Q (.bool false) s) : wpAny (model prog w) A (richCompare .Eq .none (.bytes b t)) Q E s :=
  rc_eq_decline_or (k := false) (Ta := "NoneType") rfl (typeIs_bytes s b t) (by decide) F.sub_bytes_NoneType PySem.F.slot_NoneType_eq slot_bytes_eq_refl
    (fun _ z => call_gives PySem.F.slot_NoneType_eq rfl PySem.F.entry_NoneType_eq (PySem.F.args_NoneType_eq_2 _ _) (none_eq_bytes b t) z)
    (fun _ z => call_gives slot_bytes_eq_refl (typeIs_bytes s b t) FB.entry_bytes_eq (FB.args_bytes_eq_2 _ _) (bytes_eq_none b t) z)
    (fun _ z => wpAny_of_eq (rfl : isSame .none (.bytes b t) = pure false) z) (.inl rfl) q
theorem rcn_bytes_none (q : Q (.bool true) s) : wpAny (model prog w) A (richCompare .NotEq (.bytes b t) .none) Q E s :=
  rc_ne_decline_or (k := false) (typeIs_bytes s b t) (Tb := "NoneType") rfl (by decide) F.sub_NoneType_bytes FB.slot_bytes_ne PySem.F.slot_NoneType_ne_refl
    (fun _ z => call_gives FB.slot_bytes_ne (typeIs_bytes s b t) FB.entry_bytes_ne (FB.args_bytes_ne_2 _ _) (bytes_ne_none b t) z)
    (fun _ z => call_gives PySem.F.slot_NoneType_ne_refl rfl PySem.F.entry_NoneType_ne (PySem.F.args_NoneType_ne_2 _ _) (none_ne_bytes b t) z)
    (fun _ z => wpAny_of_eq (rfl : isSame (.bytes b t) .none = pure false) z) (.inl rfl) q
theorem rcn_none_bytes (q : Q (.bool true) s) : wpAny (model prog w) A (richCompare .NotEq .none (.bytes b t)) Q E s :=
  rc_ne_decline_or (k := false) (Ta := "NoneType") rfl (typeIs_bytes s b t) (by decide) F.sub_bytes_NoneType PySem.F.slot_NoneType_ne slot_bytes_ne_refl
    (fun _ z => call_gives PySem.F.slot_NoneType_ne rfl PySem.F.entry_NoneType_ne (PySem.F.args_NoneType_ne_2 _ _) (none_ne_bytes b t) z)
    (fun _ z => call_gives slot_bytes_ne_refl (typeIs_bytes s b t) FB.entry_bytes_ne (FB.args_bytes_ne_2 _ _) (bytes_ne_none b t) z)
    (fun _ z => wpAny_of_eq (rfl : isSame .none (.bytes b t) = pure false) z) (.inl rfl) q
end
/-! sorting of bytes -/
theorem slot_bytes_lt : Slot "bytes" "__lt__" "bytes.__lt__" :=
  .of (owner := "bytes") (n := "__lt__") (by rw [typeLookup_type, builtinLookup_eq_fast]; kernel_rfl) (by decide +kernel) (by decide +kernel) (by decide +kernel)
    (by first | exact .inl (by decide +kernel) | exact .inr (by decide +kernel)) (by rw [isSubtype_type]; kernel_rfl)
theorem entry_bytes_lt : entryFor table "bytes.__lt__" = some Builtin.«bytes.__lt__» := entryFor_of_tree (by kernel_rfl)
theorem args_bytes_lt_2 (a b : Value) : argsOk "bytes.__lt__" ⟨[a, b], []⟩ := by
  unfold argsOk; rw [signature?_of (id := "bytes.__lt__") (n := ['_', '_', 't', 'l', '_', '_']) (o := ['s', 'e', 't', 'y', 'b']) (by kernel_rfl) FB.owner_bytes]; kernel_rfl
theorem gives_bytes_lt (b c : Array UInt8) (t u : Tok) : Gives («bytes.__lt__» ⟨[.bytes b t, .bytes c u], []⟩) (.val (.bool (Builtin.Bytes.order b.toList c.toList == .lt))) := by
  refine .of_wp fun M A E s Q hq => ?_
  show wpAny M A (isInstance (.bytes c u) (.type "bytes") >>= fun r => _) _ E s
  refine wpAny_bind (wpAny_isInstance (typeIs_bytes s c u) F.sub_bytes_bytes ?_)
  exact wpAny_pure ⟨_, rfl, hq⟩
end DLC

set_option Elab.async false
set_option linter.all false
set_option maxRecDepth 100000
set_option maxHeartbeats 4000000
set_option autoImplicit false
namespace DL
open PySem L2

/-! ### what enumerate and zip walk: a text, a list, a tuple -/
inductive Wkd where
  | txt (z : Str)
  | byt (b : Array UInt8)
  | lst (a : Addr)
  | tup (a : Addr)
namespace Wkd
def v : Wkd → V
  | .txt z => .str z
  | .byt b => .byt b
  | .lst a => .ref a
  | .tup a => .ref a
def val (t : Tok) : Wkd → Value
  | .txt z => .str z t
  | .byt b => .bytes b t
  | .lst a => .ref a
  | .tup a => .ref a
def has (K : PySem.W.Frag) (H : Hp) : Wkd → List V → Prop
  | .txt z, xs => xs = z.cps.toList.map fun c => V.str ⟨#[c]⟩
  | .byt b, xs => xs = b.toList.map fun c => V.int (c.toNat : Nat)
  | .lst a, xs => SqL K H a xs
  | .tup a, xs => SqT K H a xs
def st (t : Tok) (it : Addr) (i : Nat) (h : Heap) : Wkd → Prop
  | .txt z => h.IsStrIter it (strIterType z) z t i
  | .byt b => DLB.IsBi h it b t i
  | .lst a => h.IsListIter it a i
  | .tup a => h.IsTupleIter it a i
def ads : Wkd → List Addr
  | .txt _ => []
  | .byt _ => []
  | .lst a => [a]
  | .tup a => [a]
def mk (t : Tok) : Wkd → Obj
  | .txt z => { cls := .type (strIterType z), data := .fields #[.str z t, .int 0 0] }
  | .byt b => { cls := .type "bytes_iterator", data := .fields #[.bytes b t, .int 0 0] }
  | .lst a => { cls := .type "list_iterator", data := .fields #[.ref a, .int 0 0] }
  | .tup a => { cls := .type "tuple_iterator", data := .fields #[.ref a, .int 0 0] }
variable {k : Wkd} {t : Tok} {it : Addr} {i : Nat} {h h' : Heap}
theorem st_obj (s : k.st t it i h) : ∃ o, h.get? it = some o ∧ ∀ v, o.data ≠ .cell v := by
  cases k <;> exact let ⟨o, e, _, d⟩ := s; ⟨o, e, fun v z => by rw [d] at z; cases z⟩
theorem st_keep (s : k.st t it i h) (e : ∀ o, h.get? it = some o → h'.get? it = some o) : k.st t it i h' := by
  cases k <;> exact let ⟨o, ho, r⟩ := s; ⟨o, e o ho, r⟩
theorem st_mk (e : h.get? it = some (k.mk t)) : k.st t it 0 h := by
  cases k <;> exact ⟨_, e, rfl, rfl⟩
theorem rel {u : Value} (r : RelV k.v u) : ∃ t, u = k.val t := by
  cases k with
  | txt z => exact r
  | byt b => exact r
  | lst a => exact ⟨0, r⟩
  | tup a => exact ⟨0, r⟩
variable {X : Cx} {pins : List (Addr × Obj)} {σ : St} {H : Hp} {s : Shared} {xs ys : List V}
theorem inj (I : Inv X pins σ H s) (q : k.has X.K H xs) (q' : k.has X.K H ys) : ys = xs := by
  cases k with
  | txt z => exact q'.trans q.symm
  | byt b => exact q'.trans q.symm
  | lst a => exact I.list_inj q' q
  | tup a => exact I.tuple_inj q' q
theorem lt (I : Inv X pins σ H s) (q : k.has X.K H xs) : ∀ a ∈ k.ads, a < s.heap.objs.size := by
  intro a ha
  cases k with
  | txt z => cases ha
  | byt b => cases ha
  | lst b =>
    obtain rfl := List.mem_singleton.mp ha
    obtain ⟨its, rv, p, _⟩ := I.list q
    obtain ⟨o, e, _⟩ := p.isList
    exact Heap.lt_size e
  | tup b =>
    obtain rfl := List.mem_singleton.mp ha
    obtain ⟨its, rv, p, _⟩ := I.tuple q
    obtain ⟨o, e, _⟩ := p
    exact Heap.lt_size e
theorem begins (I : Inv X pins σ H s) (q : k.has X.K H xs) (t : Tok) : ∃ G : Heap → Prop, Begins (k.val t) (k.mk t) G ∧ G s.heap := by
  cases k with
  | txt z => exact ⟨_, begins_text z t, trivial⟩
  | byt b => exact ⟨_, DLB.begins_bytes b t, trivial⟩
  | lst b =>
    obtain ⟨its, rv, p, _⟩ := I.list q
    exact ⟨_, begins_list b its.toArray, p.isList⟩
  | tup b =>
    obtain ⟨its, rv, p, _⟩ := I.tuple q
    exact ⟨_, begins_tuple b its.toArray, p⟩
theorem weak {P : Program} {w : World} {A : Around} {fp : List Addr} {n : Nat} {φ ψ : Nat → Value → Prop} {S : Nat → Heap → Prop} (D : Draws P w A it fp n φ S) (h : ∀ i v, φ i v → ψ i v) : Draws P w A it fp n ψ S :=
  ⟨D.live, D.frame, fun i s Q E hi hs hQ => D.item i s Q E hi hs fun x h' tk hp => hQ x h' tk (h _ _ hp), D.done⟩
theorem seqD {its : List Value} (r : Vals xs its) (i : Nat) (v : Value) (e : its.toArray[i]? = some v) : ∃ x, xs[i]? = some x ∧ RelV x v := by
  have e' : its[i]? = some v := by simpa using e
  have hl : xs.length = its.length := Paired.length r
  have hi : i < xs.length := by rw [hl]; exact (List.getElem?_eq_some_iff.mp e').1
  obtain ⟨u, hu, ru⟩ := r.get (List.getElem?_eq_getElem hi)
  rw [e'] at hu
  cases hu
  exact ⟨_, List.getElem?_eq_getElem hi, ru⟩
/-- its iterator, as the state has it -/
theorem draws (I : Inv X pins σ H s) (q : k.has X.K H xs) {A : Around} (hh : A.handled = none) (ne : it ∉ k.ads) (t : Tok) :
    ∃ S : Nat → Heap → Prop, Draws X.prog X.w A it (it :: k.ads) xs.length (fun i v => ∃ x, xs[i]? = some x ∧ RelV x v) S ∧ (∀ i, k.st t it i s.heap → S i s.heap) ∧ ∀ i h, S i h → k.st t it i h := by
  cases k with
  | txt z =>
    have hn : xs.length = z.cps.size := by rw [show xs = _ from q]; simp
    rw [hn]
    refine ⟨fun i h => h.IsStrIter it (strIterType z) z t i, weak (Draws.text hh it z t) fun i v ⟨c, u, hc, ev⟩ => ⟨.str ⟨#[c]⟩, ?_, u, ev⟩, fun i h => h, fun i h s => s⟩
    rw [show xs = _ from q, List.getElem?_map]
    have : z.cps.toList[i]? = some c := by simpa using hc
    rw [this]
    rfl
  | byt b =>
    have hn : xs.length = b.size := by rw [show xs = _ from q]; simp
    rw [hn]
    refine ⟨fun i h => DLB.IsBi h it b t i, weak (DLB.draws_bytes hh it b t) fun i v ⟨c, u, hc, ev⟩ => ⟨.int (c.toNat : Nat), ?_, u, ev⟩, fun i h => h, fun i h s => s⟩
    rw [show xs = _ from q, List.getElem?_map]
    have : b.toList[i]? = some c := by simpa using hc
    rw [this]
    rfl
  | lst b =>
    obtain ⟨its, rv, p, _⟩ := I.list q
    have hn : xs.length = its.toArray.size := by simpa using Paired.length rv
    rw [hn]
    refine ⟨fun i h => h.IsListIter it b i ∧ h.IsList b its.toArray, weak (Draws.list hh it b (fun e => ne (by rw [e]; exact List.mem_singleton.mpr rfl)) its.toArray) fun i v e => seqD rv i v e, fun i h => ⟨h, p.isList⟩, fun i h s => s.1⟩
  | tup b =>
    obtain ⟨its, rv, p, _⟩ := I.tuple q
    have hn : xs.length = its.toArray.size := by simpa using Paired.length rv
    rw [hn]
    refine ⟨fun i h => h.IsTupleIter it b i ∧ h.IsTuple b its.toArray, weak (Draws.tuple hh it b (fun e => ne (by rw [e]; exact List.mem_singleton.mpr rfl)) its.toArray) fun i v e => seqD rv i v e, fun i h => ⟨h, p⟩, fun i h s => s.1⟩
end Wkd

/-! ### zip of two such -/
def ItzG (K : PySem.W.Frag) (k1 k2 : Wkd) (n1 n2 : Nat) : It where
  go := fun i H => ∃ xs ys x y, k1.has K H xs ∧ k2.has K H ys ∧ xs.length = n1 ∧ ys.length = n2 ∧ xs[i]? = some x ∧ ys[i]? = some y
  yld := fun i H v H' => ∃ T x y, v = .ref T ∧ H T = none ∧ H' = upd H T (.tup [x, y]) ∧ (∀ xs, k1.has K H xs → xs[i]? = some x) ∧ ∀ ys, k2.has K H ys → ys[i]? = some y
  stop := fun i H => ∃ xs ys, k1.has K H xs ∧ k2.has K H ys ∧ xs.length = n1 ∧ ys.length = n2 ∧ (n1 ≤ i ∨ n2 ≤ i)
/-- the five cells lie apart, and off what is walked -/
structure Five (k1 k2 : Wkd) (z TI TO i1 i2 : Addr) : Prop where
  nd : [z, TI, TO, i1, i2].Nodup
  f1 : ∀ a ∈ k1.ads, a ∉ [z, TI, TO, i1, i2]
  f2 : ∀ a ∈ k2.ads, a ∉ [z, TI, TO, i1, i2]
theorem Five.sep {k1 k2 : Wkd} {z TI TO i1 i2 : Addr} (D : Five k1 k2 z TI TO i1 i2) : ZipSep2 z TI TO i1 i2 (i1 :: k1.ads) (i2 :: k2.ads) := by
  have n := D.nd
  simp only [List.nodup_cons, List.mem_cons, List.not_mem_nil, or_false, not_or] at n
  obtain ⟨⟨a1, a2, a3, a4⟩, ⟨b1, b2, b3⟩, ⟨c1, c2⟩, d1, _⟩ := n
  have off1 : ∀ b ∈ [z, TI, TO, i1, i2], b ∉ k1.ads := fun b hb hm => D.f1 b hm hb
  have off2 : ∀ b ∈ [z, TI, TO, i1, i2], b ∉ k2.ads := fun b hb hm => D.f2 b hm hb
  have no : ∀ {b x : Addr} {l : List Addr}, b ≠ x → b ∉ l → b ∉ x :: l := fun h1 h2 hm => (List.mem_cons.mp hm).elim h1 h2
  exact {
    TIz := fun e => a1 e.symm
    TOz := fun e => a2 e.symm
    TITO := b1
    TIi1 := b2
    mem1 := List.mem_cons_self
    zf1 := no a3 (off1 z (by simp))
    Tf1 := no c1 (off1 TO (by simp))
    TIi2 := b3
    mem2 := List.mem_cons_self
    zf2 := no a4 (off2 z (by simp))
    Tf2 := no c2 (off2 TO (by simp))
    sep1_2 := no d1 (off2 i1 (by simp))
    sep2_1 := no (fun e => d1 e.symm) (off1 i2 (by simp)) }
theorem turn_zipG {P : Program} {w : World} {K : PySem.W.Frag} {elts : List Expr} {kk : Nat} {tpos : Pos} {k1 k2 : Wkd} {n1 n2 : Nat} {t1 t2 : Tok} {z TI TO i1 i2 : Addr} (D : Five k1 k2 z TI TO i1 i2) :
    Turn P w K (.Tuple elts kk tpos) (ItzG K k1 k2 n1 n2) [z, TI, TO, i1, i2] z (fun i h => IsZip h z TI TO .none ∧ IsTupOf2 h TI (.ref i1) (.ref i2) ∧ (∃ x y, IsTupOf2 h TO x y) ∧ k1.st t1 i1 i h ∧ k2.st t2 i2 i h ∧ i ≤ n1 ∧ i ≤ n2) where
  mem := List.mem_cons_self
  obj := fun i h ⟨hz, hTI, ⟨x, y, hTO⟩, s1, s2, _⟩ c hc => by
    simp only [List.mem_cons, List.not_mem_nil, or_false] at hc
    rcases hc with rfl | rfl | rfl | rfl | rfl
    · exact ⟨_, hz, fun v q => nomatch q⟩
    · exact ⟨_, hTI, fun v q => nomatch q⟩
    · exact ⟨_, hTO, fun v q => nomatch q⟩
    · exact Wkd.st_obj s1
    · exact Wkd.st_obj s2
  keep := fun i h h' ⟨hz, hTI, ⟨x, y, hTO⟩, s1, s2, l⟩ k => ⟨k z (by simp) _ hz, k TI (by simp) _ hTI, ⟨x, y, k TO (by simp) _ hTO⟩, Wkd.st_keep s1 fun o e => k i1 (by simp) o e, Wkd.st_keep s2 fun o e => k i2 (by simp) o e, l⟩
  item := by
    intro X hP hw hK hc i pins s σ H E I hf ⟨hz, hTI, ⟨x0, y0, hTO⟩, s1, s2, l1, l2⟩ ⟨xs, ys, x, y, q1, q2, e1, e2, hx, hy⟩
    subst hP hw hK
    have S := D.sep
    have hh : X.A.in1.handled = none := I.ok.hd hc
    obtain ⟨S1, D1, to1, of1⟩ := k1.draws I q1 hh (it := i1) (fun hm => D.f1 _ hm (by simp)) t1
    obtain ⟨S2, D2, to2, of2⟩ := k2.draws I q2 hh (it := i2) (fun hm => D.f2 _ hm (by simp)) t2
    have h1 : i < xs.length := (List.getElem?_eq_some_iff.mp hx).1
    have h2 : i < ys.length := (List.getElem?_eq_some_iff.mp hy).1
    have hzl : z < s.heap.objs.size := Heap.lt_size hz
    refine wpAny_pyNext_zipD2_item S D1 D2 hz hTI hTO (to1 _ s1) (to2 _ s2) h1 h2 fun v1 v2 h' tk ⟨x', hx', r1⟩ ⟨y', hy', r2⟩ z' TO' s1' s2' hT hsz hk => ?_
    obtain rfl := Option.some.inj (hx.symm.trans hx')
    obtain rfl := Option.some.inj (hy.symm.trans hy')
    refine ⟨_, rfl, wpAny_letOwnedTupleGo_zip (s := { s with heap := h', toks := tk }) z' fun h'' z'' sb => ?_⟩
    have up : ∀ b o, b ≠ z → h'.get? b = some o → h''.get? b = some o := fun b o hb e => (sb.2 b hb).trans e
    have hT2 : h''.get? s.heap.objs.size = some { cls := .type "tuple", data := .seq #[v1, v2] } := up _ _ (Nat.ne_of_gt hzl) hT
    have new : ObjOk X.prog X.w (upd H s.heap.objs.size (.tup [x, y])) h'' s.heap.objs.size (.tup [x, y]) :=
      ⟨by show 2 ≤ sizeLine; decide, [v1, v2], .cons r1 (.cons r2 .nil), ⟨_, hT2, rfl, _, rfl⟩⟩
    have off : ∀ {b : Addr}, b ∉ [z, TI, TO, i1, i2] → b ≠ z ∧ b ≠ TO ∧ b ≠ i1 ∧ b ≠ i2 := fun hb => by
      simp only [List.mem_cons, List.not_mem_nil, or_false, not_or] at hb
      exact ⟨hb.1, hb.2.2.1, hb.2.2.2.1, hb.2.2.2.2⟩
    have I1 : Inv X pins σ (upd H s.heap.objs.size (.tup [x, y])) { s with heap := h'', toks := tk } :=
      I.turnedNew (t' := tk) (ch := [z, TI, TO, i1, i2]) (fun b ob hb e => up b ob (off hb).1 (hk b ob (off hb).1 (off hb).2.1 (off hb).2.2.1 (off hb).2.2.2 e)) hf (Nat.le_refl _) new
    refine ⟨.ref s.heap.objs.size, _, I1, rfl, ⟨_, x, y, rfl, I.hok.fresh (Nat.le_refl _), rfl, fun l hl => by rw [k1.inj I q1 hl]; exact hx, fun l hl => by rw [k2.inj I q2 hl]; exact hy⟩,
      ⟨z'', up _ _ S.TIz (hk _ _ S.TIz S.TITO S.TIi1 S.TIi2 hTI), ⟨v1, v2, up _ _ S.TOz TO'⟩, Wkd.st_keep (of1 _ _ s1') fun o e => up _ o (Ne.symm S.zi1) e, Wkd.st_keep (of2 _ _ s2') fun o e => up _ o (Ne.symm S.zi2) e, by omega, by omega⟩, fun b hb => ?_⟩
    have hlt : b < s.heap.objs.size := by
      simp only [List.mem_cons, List.not_mem_nil, or_false] at hb
      rcases hb with rfl | rfl | rfl | rfl | rfl
      · exact hzl
      · exact Heap.lt_size hTI
      · exact Heap.lt_size hTO
      · obtain ⟨o, e, _⟩ := Wkd.st_obj s1; exact Heap.lt_size e
      · obtain ⟨o, e, _⟩ := Wkd.st_obj s2; exact Heap.lt_size e
    rw [upd_ne (Nat.ne_of_lt hlt)]
    exact (hf b hb).1
  done := by
    intro X hP hw hK hc i pins s σ H E I hf ⟨hz, hTI, ⟨x0, y0, hTO⟩, s1, s2, l1, l2⟩ ⟨xs, ys, q1, q2, e1, e2, hend⟩
    subst hP hw hK e1 e2
    have hh : X.A.in1.handled = none := I.ok.hd hc
    obtain ⟨S1, D1, to1, of1⟩ := k1.draws I q1 hh (it := i1) (fun hm => D.f1 _ hm (by simp)) t1
    obtain ⟨S2, D2, to2, of2⟩ := k2.draws I q2 hh (it := i2) (fun hm => D.f2 _ hm (by simp)) t2
    refine wpAny_pyNext_zipD2_end D.sep D1 D2 hz hTI hTO (to1 _ s1) (to2 _ s2) l1 l2 (by omega) fun h' tk hk => ⟨rfl, ?_⟩
    refine I.turnedL (t' := tk) (ch := [z, TI, TO, i1, i2]) (fun b o hb e => ?_) hf
    simp only [List.mem_cons, List.not_mem_nil, or_false, not_or] at hb
    exact hk b o hb.1 hb.2.2.1 hb.2.2.2.1 hb.2.2.2.2 e
  self := fun A i s Q E h q => wpAny_pyIter_zip h.1 q
def iZipG (K : PySem.W.Frag) (ta : TA) : TI := fun σ H R => ta σ H fun vs H1 => ∃ (k1 k2 : Wkd) (xs ys : List V), vs = [k1.v, k2.v] ∧ k1.has K H1 xs ∧ k2.has K H1 ys ∧ R (ItzG K k1 k2 xs.length ys.length) H1
theorem pi_zipG {X : Cx} {e e2 : Expr} {ta : TA} {p pos tpos : Pos} {elts : List Expr} {kk : Nat} (hg : Gl X "zip") (hm : X.mg "zip" = none) (ha : PA X [e, e2] ta)
    (hs : starEach [e, e2] X.env = (false, eval e X.env) :: starEach [e2] X.env := by rfl) (hpl : (backTo pos (starEach [e2] X.env)).any (·.1) = false := by rfl) :
    PI X (.Tuple elts kk tpos) (.Call (.Name "zip" p) [e, e2] [] pos) (iZipG X.K ta) := by
  refine ⟨fun pins s σ H R I h => PyProof.Rows.Call_ (ld_blt I hg hm PyProof.Rows.boot_zip (PyProof.Rows.callWith_type1 (thn (ha.run pos pins s σ H _ I h) fun us s1 ⟨vs, H1, I1, r1, k1, k2, xs, ys, ev, q1, q2, q⟩ => ?_) hs hpl))⟩
  subst ev
  obtain ⟨u1, u2, rfl, r1, r2⟩ := vals2 r1
  obtain ⟨t1, rfl⟩ := Wkd.rel r1
  obtain ⟨t2, rfl⟩ := Wkd.rel r2
  obtain ⟨G1, B1, g1⟩ := k1.begins I1 q1 t1
  obtain ⟨G2, B2, g2⟩ := k2.begins I1 q2 t2
  have five : ∀ {b : Addr}, b ∈ [s1.heap.objs.size + 4, s1.heap.objs.size + 2, s1.heap.objs.size + 3, s1.heap.objs.size, s1.heap.objs.size + 1] → s1.heap.objs.size ≤ b := fun {b} hb => by
    simp only [List.mem_cons, List.not_mem_nil, or_false] at hb
    rcases hb with z | z | z | z | z <;> rw [z]
    · exact Nat.le_add_right _ _
    · exact Nat.le_add_right _ _
    · exact Nat.le_add_right _ _
    · exact Nat.le_refl _
    · exact Nat.le_add_right _ _
  refine zip_begins2 B1 B2 g1 g2 fun h' hz hTI hTO ha hb hsz hk => wpAny_pyIter_zip hz ?_
  refine ⟨_, [s1.heap.objs.size + 4, s1.heap.objs.size + 2, s1.heap.objs.size + 3, s1.heap.objs.size, s1.heap.objs.size + 1], _, _, H1, rfl, I1.kept (t' := s1.toks) hk,
    turn_zipG (k1 := k1) (k2 := k2) (n1 := xs.length) (n2 := ys.length) (t1 := t1) (t2 := t2) ⟨by simp, fun a ha hm => absurd (k1.lt I1 q1 a ha) (Nat.not_lt.mpr (five hm)), fun a ha hm => absurd (k2.lt I1 q2 a ha) (Nat.not_lt.mpr (five hm))⟩,
    ⟨hz, hTI, ⟨_, _, hTO⟩, Wkd.st_mk ha, Wkd.st_mk hb, Nat.zero_le _, Nat.zero_le _⟩, fun b hb => I1.fpOk (five hb) (I1.hok.fresh (five hb)), q⟩
end DL

set_option Elab.async false
set_option linter.all false
set_option maxRecDepth 100000
set_option maxHeartbeats 4000000
set_option autoImplicit false
namespace DL
open PySem L2

/-! ### enumerate of a text, a list or a tuple, from a number on -/
theorem Wkd.shift {P : Program} {w : World} {A : Around} {it : Addr} {fp : List Addr} {n : Nat} {φ : Nat → Value → Prop} {S : Nat → Heap → Prop} (D : Draws P w A it fp n φ S) (c : Nat) : Draws P w A it fp (n + c) (fun i v => φ (i - c) v) (fun i h => c ≤ i ∧ S (i - c) h) where
  live := fun i h s => D.live _ h s.2
  frame := fun i h h' s k => ⟨s.1, D.frame _ h h' s.2 k⟩
  item := fun i s Q E hi hs hQ => D.item (i - c) s Q E (by omega) hs.2 fun x h' tk hp s' sb => hQ x h' tk hp ⟨by omega, by rw [show i + 1 - c = i - c + 1 by omega]; exact s'⟩ sb
  done := fun s Q E hs hE => D.done s Q E (by have h2 := hs.2; rw [Nat.add_sub_cancel] at h2; exact h2) hE
def IteG (K : PySem.W.Frag) (k : Wkd) (n c : Nat) : It where
  go := fun i H => ∃ xs x, k.has K H xs ∧ xs.length = n ∧ xs[i]? = some x
  yld := fun i H v H' => ∃ T x, v = .ref T ∧ H T = none ∧ H' = upd H T (.tup [.int ((i + c : Nat)), x]) ∧ ∀ xs, k.has K H xs → xs[i]? = some x
  stop := fun i H => ∃ xs, k.has K H xs ∧ xs.length = n ∧ n ≤ i
theorem turn_enumG {P : Program} {w : World} {K : PySem.W.Frag} {elts : List Expr} {kk : Nat} {tpos : Pos} {k : Wkd} {n c : Nat} {t : Tok} {e it : Addr} (hne : e ≠ it) (h1 : ∀ a ∈ k.ads, a ≠ e ∧ a ≠ it) :
    Turn P w K (.Tuple elts kk tpos) (IteG K k n c) [e, it] e (fun i h => (∃ old, IsEnum h e it ((i + c : Nat) : Int) old) ∧ k.st t it i h ∧ i ≤ n) where
  mem := List.mem_cons_self
  obj := fun i h ⟨⟨old, he⟩, s1, _⟩ b hb => by
    rcases List.mem_cons.mp hb with z | hb
    · rw [z]; exact ⟨_, he, fun v q => nomatch q⟩
    · rw [List.mem_singleton.mp hb]; exact Wkd.st_obj s1
  keep := fun i h h' ⟨⟨old, he⟩, s1, l⟩ kp => ⟨⟨old, kp e (by simp) _ he⟩, Wkd.st_keep s1 fun o q => kp it (by simp) o q, l⟩
  item := by
    intro X hP hw hK hc i pins s σ H E I hf ⟨⟨old, he⟩, s1, l⟩ ⟨xs, x, q1, e1, hx⟩
    subst hP hw hK
    have hh : X.A.in1.handled = none := I.ok.hd hc
    obtain ⟨S, D, to_, of_⟩ := k.draws I q1 hh (it := it) (fun hm => (h1 _ hm).2 rfl) t
    have hi : i < xs.length := (List.getElem?_eq_some_iff.mp hx).1
    have hel : e < s.heap.objs.size := Heap.lt_size he
    refine wpAny_pyNext_enum_itemD (Wkd.shift D c) he ⟨Nat.le_add_left c i, by rw [Nat.add_sub_cancel]; exact to_ _ s1⟩ (by omega) hne (fun hm => (List.mem_cons.mp hm).elim hne fun hm => (h1 _ hm).1 rfl) fun v h' tk hv ho hst hT hsz hk => ?_
    rw [Nat.add_sub_cancel] at hv
    obtain ⟨x', hx', rx⟩ := hv
    obtain rfl := Option.some.inj (hx.symm.trans hx')
    refine ⟨_, rfl, wpAny_letOwnedTupleGo_enum (s := { s with heap := h', toks := tk + 1 }) ho fun h'' he' sb => ?_⟩
    have hT2 : h''.get? s.heap.objs.size = some { cls := .type "tuple", data := .seq #[.int ((i + c : Nat) : Int) tk, v] } := (sb.2 _ (Nat.ne_of_gt hel)).trans hT
    have new : ObjOk X.prog X.w (upd H s.heap.objs.size (.tup [.int ((i + c : Nat)), x])) h'' s.heap.objs.size (.tup [.int ((i + c : Nat)), x]) :=
      ⟨by show 2 ≤ sizeLine; decide, [.int ((i + c : Nat) : Int) tk, v], .cons ⟨_, rfl⟩ (.cons rx .nil), ⟨_, hT2, rfl, _, rfl⟩⟩
    have I1 : Inv X pins σ (upd H s.heap.objs.size (.tup [.int ((i + c : Nat)), x])) { s with heap := h'', toks := tk + 1 } :=
      I.turnedNew (ch := [e, it]) (fun b ob hb q => (sb.2 b (fun z => hb (by simp [z]))).trans (hk b ob (fun z => hb (by simp [z])) (fun z => hb (by simp [z])) q)) hf (Nat.le_refl _) new
    refine ⟨.ref s.heap.objs.size, _, I1, rfl, ⟨_, x, rfl, I.hok.fresh (Nat.le_refl _), rfl, fun ys hy => by rw [k.inj I q1 hy]; exact hx⟩, ⟨⟨v, ?_⟩, ?_, by omega⟩, fun b hb => ?_⟩
    · rw [show ((i + 1 + c : Nat) : Int) = ((i + c : Nat) : Int) + 1 by omega]
      exact he'
    · have h2 := hst.2
      rw [show i + c + 1 - c = i + 1 by omega] at h2
      exact Wkd.st_keep (of_ _ _ h2) fun o q => (sb.2 it (Ne.symm hne)).trans q
    · have hlt2 : b < s.heap.objs.size := by
        rcases List.mem_cons.mp hb with z | hb
        · rw [z]; exact hel
        · rw [List.mem_singleton.mp hb]; obtain ⟨o, q, _⟩ := Wkd.st_obj s1; exact Heap.lt_size q
      rw [upd_ne (Nat.ne_of_lt hlt2)]
      exact (hf b hb).1
  done := by
    intro X hP hw hK hc i pins s σ H E I hf ⟨⟨old, he⟩, s1, l⟩ ⟨xs, q1, e1, hend⟩
    subst hP hw hK e1
    have hh : X.A.in1.handled = none := I.ok.hd hc
    obtain ⟨S, D, to_, of_⟩ := k.draws I q1 hh (it := it) (fun hm => (h1 _ hm).2 rfl) t
    obtain rfl : i = xs.length := by omega
    obtain ⟨f0, f1, f2, f3, f4, f5⟩ := hf it (by simp)
    exact wpAny_pyNext_enum_endD D he (to_ _ s1) fun h' eb => ⟨rfl, I.turned (t' := s.toks) (fun b o hb q => eb b o hb q) f0 f1 f3 f4 f5⟩
  self := fun A i s Q E ⟨⟨_, he⟩, _⟩ h => wpAny_pyIter_enum he h
def iEnW (K : PySem.W.Frag) (c : Nat) (ta : TA) : TI := fun σ H R => ta σ H fun vs H1 => ∃ (k : Wkd) (xs : List V), vs = [k.v] ∧ k.has K H1 xs ∧ R (IteG K k xs.length c) H1
theorem enum_pie {X : Cx} {pins : List (Addr × Obj)} {σ : St} {H1 : Hp} {s1 : Shared} {h' : Heap} {R : It → Hp → Prop} {k : Wkd} {xs : List V} {c : Nat} {t : Tok} {p tpos : Pos} {elts : List Expr} {kk : Nat} (I1 : Inv X pins σ H1 s1) (q1 : k.has X.K H1 xs) (q : R (IteG X.K k xs.length c) H1)
    (he : IsEnum h' (s1.heap.objs.size + 1) s1.heap.objs.size ((c : Nat) : Int) .none) (ho : h'.get? s1.heap.objs.size = some (k.mk t)) (hk : ∀ b o, s1.heap.get? b = some o → h'.get? b = some o) :
    PIE X pins σ (.Tuple elts kk tpos) R (.ref (s1.heap.objs.size + 1)) { s1 with heap := h' } := by
  have two : ∀ b ∈ [s1.heap.objs.size + 1, s1.heap.objs.size], s1.heap.objs.size ≤ b := fun b hb => by
    rcases List.mem_cons.mp hb with z | hb
    · rw [z]; exact Nat.le_add_right _ _
    · rw [List.mem_singleton.mp hb]; exact Nat.le_refl _
  refine ⟨_, [s1.heap.objs.size + 1, s1.heap.objs.size], _, _, H1, rfl, I1.kept (t' := s1.toks) hk, turn_enumG (k := k) (n := xs.length) (c := c) (t := t) (Nat.succ_ne_self _) (fun a ha => ?_), ⟨⟨.none, by rw [Nat.zero_add]; exact he⟩, Wkd.st_mk ho, Nat.zero_le _⟩, fun b hb => I1.fpOk (two b hb) (I1.hok.fresh (two b hb)), q⟩
  have hl := k.lt I1 q1 a ha
  exact ⟨Nat.ne_of_lt (Nat.lt_succ_of_lt hl), Nat.ne_of_lt hl⟩
theorem pi_enumG {X : Cx} {e : Expr} {ta : TA} {p pos tpos : Pos} {elts : List Expr} {kk : Nat} (hg : Gl X "enumerate") (hm : X.mg "enumerate" = none) (ha : PA X [e] ta) (hs : starEach [e] X.env = [(false, eval e X.env)] := by rfl) :
    PI X (.Tuple elts kk tpos) (.Call (.Name "enumerate" p) [e] [] pos) (iEnW X.K 0 ta) := by
  refine ⟨fun pins s σ H R I h => PyProof.Rows.Call_ (ld_blt I hg hm PyProof.Rows.boot_enumerate (PyProof.Rows.callWith_type1 (thn (ha.run pos pins s σ H _ I h) fun us s1 ⟨vs, H1, I1, r1, k, xs, ev, q1, q⟩ => ?_) hs rfl))⟩
  subst ev
  obtain ⟨u, rfl, ru⟩ := vals1 r1
  obtain ⟨t, rfl⟩ := Wkd.rel ru
  obtain ⟨G, B, g⟩ := k.begins I1 q1 t
  exact call_enum1 B g fun h' he ho hk => wpAny_pyIter_enum he (enum_pie (p := p) I1 q1 q he ho hk)
/-! a built-in class called with keywords -/
theorem callWith_typeKw {M : Model} {A : Around} {E : Value → Shared → Prop} {s : Shared} {env : PySem.Env} {pos : Pos} {T : String} {e : Expr} {rest : List Expr} {kws : List Keyword} {Q : Value → Shared → Prop}
    (h : wpAny M A (spliced (backTo pos (starEach (e :: rest) env))) (fun vs s₁ => wpAny M A (evalAll ((backToKw pos (keywordEach kws env)).map (·.2)))
      (fun zs s₂ => wpAny M A (call (.type T) vs (((backToKw pos (keywordEach kws env)).filterMap (·.1)).zip zs)) Q E s₂) E s₁) E s)
    (he : backTo pos (starEach (e :: rest) env) = (false, eval e env) :: backTo pos (starEach rest env)) (hp : (backTo pos (starEach (e :: rest) env)).any (·.1) = false)
    (hall : (backToKw pos (keywordEach kws env)).all (·.1.isSome) = true) (hkw : (backToKw pos (keywordEach kws env)).any (·.1.isNone) = false) :
    wpAny M A (callWith pos (.type T) [] (backTo pos (starEach (e :: rest) env)) (backToKw pos (keywordEach kws env))) Q E s := by
  have ev : wpAny M A (evalArgs (.type T) true (backTo pos (starEach (e :: rest) env)) (backToKw pos (keywordEach kws env))) (fun a s₁ => wpAny M A (call (.type T) ([] ++ a.pos) a.kw) Q E s₁) E s := by
    rw [he] at h ⊢
    exact PyProof.Rows.evalArgs_kwB hall h
  unfold callWith
  refine wpAny_bind (wpAny_holding (wpAny_mono ev (fun a s1 h1 => wpAny_bind (wpAny_standAt ?_)) fun _ _ z => z))
  simp only [hp, hkw, Bool.or_false]
  refine wpAny_bind (wpAny_pure (wpAny_bind (wpAny_mono h1 (fun r s2 h2 => ?_) fun _ _ z => z)))
  exact wpAny_bind (wpAny_holding (wpAny_point (wpAny_pure h2)))
/-- enumerate(e, start=1) -/
theorem pi_enumS {X : Cx} {e : Expr} {ta : TA} {p pos tpos kp cp : Pos} {elts : List Expr} {kk j : Nat} (hg : Gl X "enumerate") (hm : X.mg "enumerate" = none) (ha : PA X [e] ta) (hs : starEach [e] X.env = [(false, eval e X.env)] := by rfl) :
    PI X (.Tuple elts kk tpos) (.Call (.Name "enumerate" p) [e] [⟨some "start", .Constant (.int 1) j cp, kp⟩] pos) (iEnW X.K 1 ta) := by
  refine ⟨fun pins s σ H R I h => wpAny_Call_Name_kw (ld_blt I hg hm PyProof.Rows.boot_enumerate (callWith_typeKw (thn (ha.run pos pins s σ H _ I h) fun us s1 ⟨vs, H1, I1, r1, k, xs, ev, q1, q⟩ => ?_) (by rw [hs]; rfl) (by rw [hs]; rfl) rfl rfl))⟩
  subst ev
  obtain ⟨u, rfl, ru⟩ := vals1 r1
  obtain ⟨t, rfl⟩ := Wkd.rel ru
  obtain ⟨G, B, g⟩ := k.begins I1 q1 t
  refine PyProof.Rows.kws_cons ((pe_int (X := X)).run pins s1 σ H1 (fun v H2 => v = .int 1 ∧ H2 = H1) I1 ⟨rfl, rfl⟩ |> fun w => thn w fun v s2 ⟨y, H2, I2, ry, ey, eH⟩ => ?_)
  subst ey eH
  obtain ⟨t1, rfl⟩ := ry
  obtain ⟨G, B, g⟩ := k.begins I2 q1 t
  exact PyProof.Rows.evalAll_nil (enum_begins_start B g (by decide) (by decide) fun h' he ho hsz hk => wpAny_pyIter_enum he (enum_pie (p := p) I2 q1 q he ho hk))

/-! ### the same over data -/
@[simp] def wkD : D → Option (List D)
  | .lst xs => some xs
  | .tup xs => some xs
  | .str z => some (z.cps.toList.map fun c => D.str ⟨#[c]⟩)
  | .byt b => some (b.toList.map fun c => D.int (c.toNat : Nat))
  | _ => none
theorem Rep.wkd {K : PySem.W.Frag} {cl : ClW} {F : Hp} {v : V} {d : D} {xs : List D} (r : Rep K cl F v d) (e : wkD d = some xs) : ∃ (k : Wkd) (us : List V), v = k.v ∧ k.has K F us ∧ Reps K cl F us xs := by
  cases d with
  | lst ys =>
    cases e
    obtain ⟨a, us, rfl, h1, h2⟩ := r.toLst
    exact ⟨.lst a, us, rfl, h1, h2⟩
  | tup ys =>
    cases e
    obtain ⟨a, us, rfl, h1, h2⟩ := r.toTup
    exact ⟨.tup a, us, rfl, h1, h2⟩
  | str z =>
    cases e
    obtain rfl := r.toStr
    refine ⟨.txt z, _, rfl, rfl, ?_⟩
    induction z.cps.toList with
    | nil => exact .nil
    | cons c l ih => exact .cons (.str _) ih
  | byt b =>
    cases e
    obtain rfl := r.toByt
    refine ⟨.byt b, _, rfl, rfl, ?_⟩
    induction b.toList with
    | nil => exact .nil
    | cons c l ih => exact .cons (.int _) ih
  | _ => cases e
theorem Wkd.same' {K : PySem.W.Frag} {k : Wkd} {H H' : Hp} {us : List V} (h : k.has K H us) (s : Same H H') : k.has K H' us := by
  cases k with
  | txt z => exact h
  | byt b => exact h
  | lst a => exact same_l s h
  | tup a => exact same_t s h
@[simp] def iZpW (τ τ' : DTE) : DTI := fun ρ M R X => τ ρ M (fun d M1 => τ' ρ M1 (fun e M2 => ∃ xs ys, wkD d = some xs ∧ wkD e = some ys ∧ R ((xs.zip ys).map fun p => D.tup [p.1, p.2]) M2) X) X
@[simp] def iEnN (c : Nat) (τ : DTE) : DTI := fun ρ M R X => τ ρ M (fun d M1 => ∃ xs, wkD d = some xs ∧ R (xs.zipIdx.map fun p => D.tup [.int ((p.2 + c : Nat)), p.1]) M1) X
section
variable {cl : ClW} {X : Cx} {W : WX} {a b : Expr} {pos : Pos} {τa τb : DTE}
theorem enum_low {tg it : Expr} {c : Nat} (h : PI X tg it (iEnW X.K c (lowA X.K cl W (dCons τa dNil)))) : DI cl X W tg it (iEnN c τa) :=
  ⟨pi_imp h fun σ H R ⟨F, ρ, M, Rd, Xd, g, s, q, p, w⟩ =>
    ⟨F, ρ, M, fun ds M1 => ∃ d xs, ds = [d] ∧ wkD d = some xs ∧ Rd (xs.zipIdx.map fun p => D.tup [.int ((p.2 + c : Nat)), p.1]) M1, Xd, g, s, (by
      unfold iEnN at q
      unfold dCons dNil
      have same : (fun d M1 => ∃ xs, wkD d = some xs ∧ Rd (xs.zipIdx.map fun p => D.tup [.int ((p.2 + c : Nat)), p.1]) M1) = (fun d M1 => ∃ d' xs, [d] = [d'] ∧ wkD d' = some xs ∧ Rd (xs.zipIdx.map fun p => D.tup [.int ((p.2 + c : Nat)), p.1]) M1) := by
        funext d M1
        simp
      rw [same] at q
      exact q), fun vs H' F' ds M' sm g' r ⟨d, xs, e1, e2, q'⟩ => (by
      subst e1
      obtain ⟨v, ws, rfl, r1, r2⟩ := r.inv
      obtain rfl := r2.inv0
      obtain ⟨k, us, rfl, h1, h2⟩ := r1.wkd e2
      refine ⟨k, us, rfl, Wkd.same' h1 g'.sub, p _ _ F' _ M' sm g' (fun i F2 H2 M2 sm2 g2 => ⟨fun d0 hd => ?_, fun hl => ⟨us, Wkd.same' h1 (sm2.trans g2.sub), rfl, by rw [h2.length]; simpa using hl⟩⟩) q'⟩
      rw [List.getElem?_map, List.getElem?_zipIdx] at hd
      cases e3 : xs[i]? with
      | none => rw [e3] at hd; cases hd
      | some d1 =>
        rw [e3] at hd
        cases hd
        obtain ⟨v0, h3, h4⟩ := h2.get e3
        refine ⟨⟨us, v0, Wkd.same' h1 (sm2.trans g2.sub), rfl, h3⟩, fun x H3 ⟨T, x0, ex, hT, eH, hy⟩ => ?_⟩
        subst ex eH
        obtain rfl := Option.some.inj (h3.symm.trans (hy us (Wkd.same' h1 (sm2.trans g2.sub))))
        have sm3 : Same F2 (upd F2 T (.tup [.int ((i + c : Nat)), v0])) := same_new (g2.freshF hT)
        refine ⟨_, sm3, g2.new hT, .tup (SqT1.of upd_same) (.cons ?_ (.one (h4.mono (sm2.trans sm3))))⟩
        simpa using Rep.int ((i + c : Nat) : Int)), w⟩⟩
theorem di_enumW {elts : List Expr} {kk : Nat} {tpos p : Pos} (hg : Gl X "enumerate") (hm : X.mg "enumerate" = none) (ha : DE cl X W a τa) (hs : starEach [a] X.env = [(false, eval a X.env)] := by rfl) :
    DI cl X W (.Tuple elts kk tpos) (.Call (.Name "enumerate" p) [a] [] pos) (iEnN 0 τa) := enum_low (pi_enumG hg hm (da_cons (W := W) (cl := cl) ha da_nil hs).pa hs)
theorem di_enumS {elts : List Expr} {kk j : Nat} {tpos p kp cp : Pos} (hg : Gl X "enumerate") (hm : X.mg "enumerate" = none) (ha : DE cl X W a τa) (hs : starEach [a] X.env = [(false, eval a X.env)] := by rfl) :
    DI cl X W (.Tuple elts kk tpos) (.Call (.Name "enumerate" p) [a] [⟨some "start", .Constant (.int 1) j cp, kp⟩] pos) (iEnN 1 τa) := enum_low (pi_enumS hg hm (da_cons (W := W) (cl := cl) ha da_nil hs).pa hs)
theorem di_zipG {elts : List Expr} {kk : Nat} {tpos p : Pos} (hg : Gl X "zip") (hm : X.mg "zip" = none) (ha : DE cl X W a τa) (hb : DE cl X W b τb)
    (hs : starEach [a, b] X.env = (false, eval a X.env) :: starEach [b] X.env := by rfl) (hs2 : starEach [b] X.env = [(false, eval b X.env)] := by rfl) (hpl : (backTo pos (starEach [b] X.env)).any (·.1) = false := by rfl) :
    DI cl X W (.Tuple elts kk tpos) (.Call (.Name "zip" p) [a, b] [] pos) (iZpW τa τb) :=
  ⟨pi_imp (pi_zipG hg hm (da_cons (W := W) (cl := cl) ha (da_cons hb da_nil hs2) hs).pa hs hpl) fun σ H R ⟨F, ρ, M, Rd, Xd, g, s, q, p, w⟩ =>
    ⟨F, ρ, M, fun ds M1 => ∃ d e xs ys, ds = [d, e] ∧ wkD d = some xs ∧ wkD e = some ys ∧ Rd ((xs.zip ys).map fun p => D.tup [p.1, p.2]) M1, Xd, g, s, (by
      unfold iZpW at q
      unfold dCons dNil
      have same : (fun d M1 => τb ρ M1 (fun e M2 => ∃ xs ys, wkD d = some xs ∧ wkD e = some ys ∧ Rd ((xs.zip ys).map fun p => D.tup [p.1, p.2]) M2) Xd) =
          (fun d M1 => τb ρ M1 (fun e M2 => ∃ d' e' xs ys, [d, e] = [d', e'] ∧ wkD d' = some xs ∧ wkD e' = some ys ∧ Rd ((xs.zip ys).map fun p => D.tup [p.1, p.2]) M2) Xd) := by
        funext d M1
        congr 1
        funext e M2
        simp [and_assoc]
      rw [same] at q
      exact q), fun vs H' F' ds M' sm g' r ⟨d, e, xs, ys, e0, e1, e2, q'⟩ => (by
      subst e0
      obtain ⟨v, ws, rfl, r1, r2⟩ := r.inv
      obtain ⟨v2, ws, rfl, r3, r4⟩ := r2.inv
      obtain rfl := r4.inv0
      obtain ⟨k1, us, rfl, h1, h2⟩ := r1.wkd e1
      obtain ⟨k2, zs, rfl, i1, i2⟩ := r3.wkd e2
      refine ⟨k1, k2, us, zs, rfl, Wkd.same' h1 g'.sub, Wkd.same' i1 g'.sub, p _ _ F' _ M' sm g' (fun i F2 H2 M2 sm2 g2 => ⟨fun d0 hd => ?_, fun hl => ⟨us, zs, Wkd.same' h1 (sm2.trans g2.sub), Wkd.same' i1 (sm2.trans g2.sub), rfl, rfl, ?_⟩⟩) q'⟩
      · rw [List.getElem?_map] at hd
        obtain ⟨⟨d1, d2⟩, hz, rfl⟩ := Option.map_eq_some_iff.mp hd
        obtain ⟨z1, z2⟩ := List.getElem?_zip_eq_some.mp hz
        obtain ⟨v1, h3, h4⟩ := h2.get z1
        obtain ⟨v2, i3, i4⟩ := i2.get z2
        refine ⟨⟨us, zs, v1, v2, Wkd.same' h1 (sm2.trans g2.sub), Wkd.same' i1 (sm2.trans g2.sub), rfl, rfl, h3, i3⟩, fun x H3 ⟨T, x0, y0, ex, hT, eH, hx, hy⟩ => ?_⟩
        subst ex eH
        obtain rfl := Option.some.inj (h3.symm.trans (hx us (Wkd.same' h1 (sm2.trans g2.sub))))
        obtain rfl := Option.some.inj (i3.symm.trans (hy zs (Wkd.same' i1 (sm2.trans g2.sub))))
        have sm3 : Same F2 (upd F2 T (.tup [v1, v2])) := same_new (g2.freshF hT)
        exact ⟨_, sm3, g2.new hT, .tup (SqT1.of upd_same) (.cons (h4.mono (sm2.trans sm3)) (.one (i4.mono (sm2.trans sm3))))⟩
      · rw [h2.length, i2.length]
        simp at hl
        omega), w⟩⟩
end
end DL

set_option Elab.async false
set_option linter.all false
set_option maxRecDepth 100000
set_option maxHeartbeats 4000000
set_option autoImplicit false
namespace DL
open PySem L2

/-! ### a dict of the module: texts by texts -/
/-- at d: the dict with these keys and values, in their order -/
structure KTab (K : PySem.W.Frag) (w : World) (d : Addr) (tb : List (Str × Str)) : Prop where
  kd : ∃ es n, KDict K w d es n
  get : ∀ z : Str, match tb.lookup z with
    | some v => ∃ t, PySem.W.nsIn K d z = some (some (.str v t))
    | none => PySem.W.nsIn K d z = some none
/-- the dict's name in the module, what it holds -/
abbrev TabN : Type := Str × List (Str × Str)
def tabVB (K : PySem.W.Frag) (d : Addr) (tb : List (Str × Str)) : Bool := tb.all fun q => match PySem.W.nsIn K d q.1 with
  | some (some (.str v _)) => decide (v = q.2)
  | _ => false
def tabOb (ts : List TabN) (K : PySem.W.Frag) : List (Option (List (Option (Str × Int)))) × Bool := (ts.map fun t => He.dicW K (He.ga K t.1), ts.all fun t => tabVB K (He.ga K t.1) t.2)
def tabVal (ts : List TabN) (w : World) : List (Option (List (Option (Str × Int)))) × Bool := (ts.map fun t => some (He.keysIn w.params (t.2.map (·.1))), true)
theorem keyOf_str {e : DictEntry} {x : Str} {i : Int} (h : He.keyOf e = some (x, i)) : ∃ t, e.key = .str x t := by
  unfold He.keyOf at h
  split at h
  · rename_i y t q
    have := Option.some.inj h
    cases this
    exact ⟨t, q⟩
  · cases h
theorem ktab_of {ts : List TabN} {K : PySem.W.Frag} {w : World} (h : tabOb ts K = tabVal ts w) : ∀ t ∈ ts, KTab K w (He.ga K t.1) t.2 := by
  intro t ht
  have h1 : ts.map (fun t => He.dicW K (He.ga K t.1)) = ts.map fun t => some (He.keysIn w.params (t.2.map (·.1))) := congrArg Prod.fst h
  have h2 : (ts.all fun t => tabVB K (He.ga K t.1) t.2) = true := congrArg Prod.snd h
  have e : He.dicW K (He.ga K t.1) = some (He.keysIn w.params (t.2.map (·.1))) := by
    obtain ⟨i, hi⟩ := List.mem_iff_getElem?.mp ht
    have := congrArg (fun l => l[i]?) h1
    simp only [List.getElem?_map, hi, Option.map_some] at this
    exact Option.some.inj this
  have v := List.all_eq_true.mp h2 t ht
  obtain ⟨es, n, D⟩ := He.dicW_ok e
  refine ⟨⟨es, n, D⟩, fun z => ?_⟩
  have keys : es.toList.map He.keyOf = He.keysIn w.params (t.2.map (·.1)) := by
    have e1 := e
    unfold He.dicW at e1
    rw [D.at_] at e1
    simp only at e1
    split at e1
    · exact Option.some.inj e1
    · cases e1
  cases q : t.2.lookup z with
  | some u =>
    have hm : (z, u) ∈ t.2 := by
      have : ∀ (l : List (Str × Str)), l.lookup z = some u → (z, u) ∈ l := fun l => by
        induction l with
        | nil => intro h; cases h
        | cons p r ih =>
          obtain ⟨a, b⟩ := p
          intro h
          rw [List.lookup_cons] at h
          by_cases c : z = a
          · rw [show (z == a) = true by simpa using c] at h
            cases h
            rw [c]
            exact List.mem_cons_self
          · rw [show (z == a) = false by simpa using c] at h
            exact List.mem_cons_of_mem _ (ih h)
      exact this _ q
    have v2 := List.all_eq_true.mp v _ hm
    simp only at v2 ⊢
    split at v2
    · rename_i y t' e2
      have : y = u := of_decide_eq_true v2
      subst this
      exact ⟨t', e2⟩
    · cases v2
  | none =>
    have kn : ∀ e ∈ es.toList, ∃ x t', e.key = .str x t' ∧ x ∈ t.2.map (·.1) := fun e he => by
      have hm : He.keyOf e ∈ He.keysIn w.params (t.2.map (·.1)) := keys ▸ List.mem_map_of_mem he
      obtain ⟨x, hx, ex⟩ := List.mem_map.mp hm
      obtain ⟨t', et⟩ := keyOf_str ex.symm
      exact ⟨x, t', et, hx⟩
    have off : z ∉ t.2.map (·.1) := by
      have : ∀ (l : List (Str × Str)), l.lookup z = none → z ∉ l.map (·.1) := fun l => by
        induction l with
        | nil => intro _ h; cases h
        | cons p r ih =>
          obtain ⟨a, b⟩ := p
          intro h hm
          rw [List.lookup_cons] at h
          by_cases c : z = a
          · rw [show (z == a) = true by simpa using c] at h
            cases h
          · rw [show (z == a) = false by simpa using c] at h
            rcases List.mem_cons.mp hm with e | e
            · exact c e
            · exact ih h e
      exact this _ q
    have f1 : es.toList.find? (·.key.isStr z) = none := List.find?_eq_none.mpr fun e he => by
      obtain ⟨x, t', e1, e2⟩ := kn e he
      rw [e1]
      have : x ≠ z := fun c => off (c ▸ e2)
      simp [Value.isStr, this]
    have f2 : es.toList.any (·.refKey) = false := List.any_eq_false.mpr fun e he => by
      obtain ⟨x, t', e1, e2⟩ := kn e he
      simp [DictEntry.refKey, e1]
    simp only
    unfold PySem.W.nsIn
    rw [D.at_]
    simp only [f1, f2]
    rfl

/-! ### reading it -/
def dInTab (tb : List (Str × Str)) (τ : DTE) : DTE := fun ρ M Q X => τ ρ M (fun d M1 => ∃ z, d = .str z ∧ Q (.bl (tb.lookup z).isSome) M1) X
def dNotInTab (tb : List (Str × Str)) (τ : DTE) : DTE := fun ρ M Q X => τ ρ M (fun d M1 => ∃ z, d = .str z ∧ Q (.bl (!(tb.lookup z).isSome)) M1) X
def dIxTab (tb : List (Str × Str)) (τ : DTE) : DTE := fun ρ M Q X => τ ρ M (fun d M1 => ∃ z v, d = .str z ∧ tb.lookup z = some v ∧ Q (.str v) M1) X
section
variable {cl : ClW} {X : Cx} {W : WX} {x : Str} {d : Addr} {tb : List (Str × Str)} {a : Expr} {τ : DTE} {p pos : Pos}
theorem ktab_some (T : KTab X.K X.w d tb) {z v : Str} (e : tb.lookup z = some v) : ∃ t, PySem.W.nsIn X.K d z = some (some (.str v t)) := by
  have := T.get z
  rw [e] at this
  exact this
theorem ktab_is (T : KTab X.K X.w d tb) (z : Str) : ∃ r, PySem.W.nsIn X.K d z = some r ∧ r.isSome = (tb.lookup z).isSome := by
  have := T.get z
  cases e : tb.lookup z with
  | none => rw [e] at this; exact ⟨_, this, rfl⟩
  | some v => rw [e] at this; obtain ⟨t, h⟩ := this; exact ⟨_, h, rfl⟩
theorem d_inTab (T : KTab X.K X.w d tb) (hg : Gl X x) (hm : X.mg x = some (.ref d)) (ha : DE cl X W a τ) (hdb : (x == ("__debug__" : Str)) = false := by decide) (hb : behindInMarks .In (.Name x p) = false := by rfl) :
    DE cl X W (.Compare a [.In] [.Name x p] pos) (dInTab tb τ) := by
  obtain ⟨es, n, D⟩ := T.kd
  refine ⟨pe_imp (pe_cmpR (op_in_kd D) ha.pe (pe_glob (v := .ref d) hg hm rfl hdb) hb) fun σ H Q ⟨F, ρ, M, Qd, Xd, g, s, q, pp, w⟩ => ⟨F, ρ, M, _, Xd, g, s, q, fun v H1 F1 y M1 sm g1 r ⟨z, e1, q1⟩ => ?_, w⟩⟩
  subst e1
  obtain rfl := r.toStr
  obtain ⟨r0, h1, h2⟩ := ktab_is T z
  exact ⟨z, r0, rfl, rfl, h1, by rw [h2]; exact pp _ _ F1 _ M1 sm g1 (.bl _) q1⟩
theorem d_notInTab (T : KTab X.K X.w d tb) (hg : Gl X x) (hm : X.mg x = some (.ref d)) (ha : DE cl X W a τ) (hdb : (x == ("__debug__" : Str)) = false := by decide) (hb : behindInMarks .NotIn (.Name x p) = false := by rfl) :
    DE cl X W (.Compare a [.NotIn] [.Name x p] pos) (dNotInTab tb τ) := by
  obtain ⟨es, n, D⟩ := T.kd
  refine ⟨pe_imp (pe_cmpR (op_notIn_kd D) ha.pe (pe_glob (v := .ref d) hg hm rfl hdb) hb) fun σ H Q ⟨F, ρ, M, Qd, Xd, g, s, q, pp, w⟩ => ⟨F, ρ, M, _, Xd, g, s, q, fun v H1 F1 y M1 sm g1 r ⟨z, e1, q1⟩ => ?_, w⟩⟩
  subst e1
  obtain rfl := r.toStr
  obtain ⟨r0, h1, h2⟩ := ktab_is T z
  exact ⟨z, r0, rfl, rfl, h1, by rw [h2]; exact pp _ _ F1 _ M1 sm g1 (.bl _) q1⟩
theorem d_tinTab (T : KTab X.K X.w d tb) (hg : Gl X x) (hm : X.mg x = some (.ref d)) (ha : DE cl X W a τ) (hdb : (x == ("__debug__" : Str)) = false := by decide) (hb : behindInMarks .In (.Name x p) = false := by rfl) :
    DT cl X W (.Compare a [.In] [.Name x p] pos) (dTest (dInTab tb τ)) := by
  obtain ⟨es, n, D⟩ := T.kd
  refine ⟨pt_imp (pt_cmpR (op_in_kd D) ha.pe (pe_glob (v := .ref d) hg hm rfl hdb) hb) fun σ H Q ⟨F, ρ, M, Qd, Xd, g, s, q, pp, w⟩ => ⟨F, ρ, M, _, Xd, g, s, q, fun v H1 F1 y M1 sm g1 r ⟨z, e1, q1⟩ => ?_, w⟩⟩
  subst e1
  obtain rfl := r.toStr
  obtain ⟨r0, h1, h2⟩ := ktab_is T z
  exact ⟨z, r0, rfl, rfl, h1, by rw [h2]; exact PostT.test pp _ _ F1 _ M1 sm g1 (.bl _) q1⟩
theorem d_tnotInTab (T : KTab X.K X.w d tb) (hg : Gl X x) (hm : X.mg x = some (.ref d)) (ha : DE cl X W a τ) (hdb : (x == ("__debug__" : Str)) = false := by decide) (hb : behindInMarks .NotIn (.Name x p) = false := by rfl) :
    DT cl X W (.Compare a [.NotIn] [.Name x p] pos) (dTest (dNotInTab tb τ)) := by
  obtain ⟨es, n, D⟩ := T.kd
  refine ⟨pt_imp (pt_cmpR (op_notIn_kd D) ha.pe (pe_glob (v := .ref d) hg hm rfl hdb) hb) fun σ H Q ⟨F, ρ, M, Qd, Xd, g, s, q, pp, w⟩ => ⟨F, ρ, M, _, Xd, g, s, q, fun v H1 F1 y M1 sm g1 r ⟨z, e1, q1⟩ => ?_, w⟩⟩
  subst e1
  obtain rfl := r.toStr
  obtain ⟨r0, h1, h2⟩ := ktab_is T z
  exact ⟨z, r0, rfl, rfl, h1, by rw [h2]; exact PostT.test pp _ _ F1 _ M1 sm g1 (.bl _) q1⟩
theorem d_ixTab (T : KTab X.K X.w d tb) (hg : Gl X x) (hm : X.mg x = some (.ref d)) (ha : DE cl X W a τ) (hs : PlainIx a) (hdb : (x == ("__debug__" : Str)) = false := by decide) : DE cl X W (.Subscript (.Name x p) a pos) (dIxTab tb τ) := by
  obtain ⟨es, n, D⟩ := T.kd
  refine ⟨pe_imp (pe_ix ix_kdict (pe_glob (v := .ref d) hg hm rfl hdb) ha.pe hs) fun σ H Q ⟨F, ρ, M, Qd, Xd, g, s, q, pp, w⟩ => ⟨F, ρ, M, _, Xd, g, s, q, fun v H1 F1 y M1 sm g1 r ⟨z, u, e1, e2, q1⟩ => ?_, w⟩⟩
  subst e1
  obtain rfl := r.toStr
  obtain ⟨t, h1⟩ := ktab_some T e2
  exact ⟨d, z, .str u, rfl, rfl, ⟨es, n, _, D.at_, D.lit, h1, t, rfl⟩, pp _ _ F1 _ M1 sm g1 (.str u) q1⟩
end

/-! ### the law's head with such dicts -/
abbrev AlK : Type := (He.AlD × Bool) × (List (Option (List (Option (Str × Int)))) × Bool)
def obsK (n : Nat) (ts : List TabN) (fa : List He.Fa) (fn : List He.DefD) (ex : PySem.W.Frag → Bool) (g : Addr → Option Obj) : AlK := (obsR n fa fn ex g, tabOb ts (He.frG g (List.range n)))
def hookK (n : Nat) (ts : List TabN) (fa : List He.Fa) (fn : List He.DefD) (ex : PySem.W.Frag → Bool) : PySem.W.Hook where
  α := AlK
  obs := fun s => obsK n ts fa fn ex s.heap.get?
  val := fun w => ((He.valD fn, true), tabVal ts w)
  says := fun w h => ∃ K : PySem.W.Frag, K.In h ∧ He.SaysD fa fn K ∧ ex K = true ∧ ∀ t ∈ ts, KTab K w (He.ga K t.1) t.2
  of := fun _ _ e => ⟨_, He.frG_in, congrArg (fun z : AlK => z.1.1) e, congrArg (fun z : AlK => z.1.2) e, ktab_of (congrArg (fun z : AlK => z.2) e)⟩
  keeps := fun _ _ _ ⟨K, hK, c⟩ k => ⟨K, PySem.W.Frag.In.keeps hK k, c⟩
theorem obsK_eq {n : Nat} {ts : List TabN} {fa : List He.Fa} {fn : List He.DefD} {ex : PySem.W.Frag → Bool} {g : Addr → Option Obj} {s : Shared} (h : ∀ a, g a = s.heap.get? a) : obsK n ts fa fn ex g = (hookK n ts fa fn ex).obs s := by
  have e : g = s.heap.get? := funext h
  rw [e] <;> rfl
open PySem.W PySem.Calls PyProof.Rows HandSHeadRun in
theorem runK_of {r : OpenRow} {q : Program} {n : Nat} {ts : List TabN} {fa : List He.Fa} {fn : List He.DefD} {ex : PySem.W.Frag → Bool} {M : Nat} {loose : List PySem.Str} {w : World}
    (h1 : ∀ os, (HandSHeadRun.endF (stepQ (denQ tabQ) r.prog w) M r.prog w os).map (fun s => (looksF r.prog (boot_heap w.params) s.abs, seenQ q loose (importedModules r.prog.main.body) (fun s => xlAt q [] s && recOk r.toRowW.records s) s.abs)) = some (true, openGood q loose))
    (h2 : ∀ os, (HandSHeadRun.endF (stepQ (denQ tabQ) r.prog w) M r.prog w os).map (fun s => fa.all fun f => f.ok (He.frG (getT s) (List.range n))) = some true)
    (h3 : ∀ os, (HandSHeadRun.endF (stepQ (denQ tabQ) r.prog w) M r.prog w os).map (fun s => (fn.all fun d => d.ok (He.frG (getT s) (List.range n)), fn.map fun d => He.fnW (He.frG (getT s) (List.range n)) d.at_)) = some (true, fn.map He.DefD.val))
    (h4 : ∀ os, (HandSHeadRun.endF (stepQ (denQ tabQ) r.prog w) M r.prog w os).map (fun s => ex (He.frG (getT s) (List.range n))) = some true)
    (h5 : ∀ os, (HandSHeadRun.endF (stepQ (denQ tabQ) r.prog w) M r.prog w os).map (fun s => tabOb ts (He.frG (getT s) (List.range n))) = some (tabVal ts w)) :
    RunEq r q (hookK n ts fa fn ex) (fun s => obsK n ts fa fn ex (getT s)) M loose w := by
  intro os
  have a := runR_of (q := q) h1 h2 h3 h4 os
  have b := h5 os
  cases e : HandSHeadRun.endF (stepQ (denQ tabQ) r.prog w) M r.prog w os with
  | none => rw [e] at b; cases b
  | some s =>
    rw [e] at a b
    have a1 := Option.some.inj a
    have b1 : tabOb ts (He.frG (getT s) (List.range n)) = tabVal ts w := Option.some.inj b
    have c1 : looksF r.prog (boot_heap w.params) s.abs = true := congrArg (fun z => z.1) a1
    have c2 : HandSHeadRun.seenQ q loose (importedModules r.prog.main.body) (fun s => xlAt q [] s && recOk r.toRowW.records s) s.abs = openGood q loose := congrArg (fun z => z.2.1) a1
    have c3 : obsR n fa fn ex (getT s) = (He.valD fn, true) := congrArg (fun z => z.2.2) a1
    exact congrArg some (Prod.ext c1 (Prod.ext c2 (Prod.ext c3 b1)))
end DL

set_option Elab.async false
set_option linter.all false
set_option maxRecDepth 100000
set_option maxHeartbeats 4000000
set_option autoImplicit false
namespace DL
open PySem L2

/-! ### l.count(y) -/
def rCnt (K : PySem.W.Frag) : V → List V → Hp → VK → Prop := fun x xs H Q => ∃ (a : Addr) (ys : List V) (y : V), x = V.ref a ∧ xs = [y] ∧ SqL K H a ys ∧ flatV y = true ∧ ys.all flatV = true ∧ Q (.int (ys.countP fun z => eqV z y : Nat)) H
theorem count_vals {y : V} : ∀ {ys : List V} {its : List Value}, Vals ys its → ys.all flatV = true → its.countP (eqU y) = ys.countP fun z => eqV z y
  | [], [], _, _ => rfl
  | x :: xs, u :: us, h, f => by
    cases h with
    | cons r rs =>
      rw [List.all_cons, Bool.and_eq_true] at f
      rw [List.countP_cons, List.countP_cons, count_vals rs f.2, eqU_of r f.1]
  | [], _ :: _, h, _ => by cases h
  | _ :: _, [], h, _ => by cases h
theorem mt_count {X : Cx} : MtR X "list.count" (rCnt X.K) := by
  intro pins s σ H x xs v us Q I rx rxs h
  obtain ⟨a, ys, y, rfl, rfl, hs, fy, fys, q⟩ := h
  obtain rfl : v = Value.ref a := rx
  obtain ⟨uy, rfl, ry⟩ := vals1 rxs
  obtain ⟨its, rv, ⟨⟨cls, dd, data, sl⟩, n, ho, hc, hdn, hd⟩, hlen⟩ := I.list hs
  simp only at hc hd
  subst hc hd
  refine call_meets PySem.F.slot_list_count ⟨_, ho, rfl⟩ PySem.F.entry_list_count (PySem.F.args_list_count_2 _ _) (SeqAt.list_countAt a its.toArray n dd sl uy (eqU y)) ⟨ho, fun u' hu' => mem_eqAt ry fy rv fys u' (by simpa using hu'), ?_⟩
  have e : its.toArray.toList.countP (eqU y) = ys.countP fun z => eqV z y := count_vals rv fys
  rw [e]
  exact ⟨.int (ys.countP fun z => eqV z y : Nat), H, I.tok _, ⟨_, rfl⟩, q⟩
section
variable {K : PySem.W.Frag} {cl : ClW}
def φCount : D → List D → Mem → DV → Prop := fun o ds M Q => ∃ xs y, vw M o = .lst xs ∧ ds = [y] ∧ flatD y = true ∧ xs.all flatD = true ∧ Q (.int (xs.countP fun z => eqFD z y : Nat)) M
theorem cnt_reps {F : Hp} {u : V} {y : D} (r1 : Rep K cl F u y) (fy : flatD y = true) : ∀ (vs : List V) (ys : List D), Reps K cl F vs ys → ys.all flatD = true → (vs.countP fun z => eqV z u) = ys.countP fun z => eqFD z y
  | [], [], _, _ => rfl
  | v :: vs, d :: ds, h, f => by
    cases h with
    | cons r rs =>
      rw [List.all_cons, Bool.and_eq_true] at f
      rw [List.countP_cons, List.countP_cons, cnt_reps r1 fy vs ds rs f.2, eq_of r r1 f.1 fy]
  | [], _ :: _, h, _ => by cases h
  | _ :: _, [], h, _ => by cases h
theorem lm_count : LMt K cl (rCnt K) φCount := by
  intro F H M x xs d ds Q Qd g rx rs h p
  obtain ⟨ys, y, hv, rfl, fy, fys, q⟩ := h
  have vv := vw_ok g rx
  rw [hv] at vv
  obtain ⟨a, vs, rfl, h1, h2⟩ := vv.lst g.sub
  obtain ⟨u, ws, rfl, r1, r2⟩ := rs.inv
  obtain rfl := r2.inv0
  obtain ⟨f1, _⟩ := flats_of r1 fy h2 fys
  refine ⟨a, vs, u, rfl, rfl, h1, (flat_of (H := F) (.inl r1) fy).1, f1, ?_⟩
  rw [cnt_reps r1 fy vs ys h2 fys]
  exact p _ _ F _ _ (Same.refl F) g (.int _) q
end
/-! ### str of a whole number or of a text -/
def strBF : List D → Option D
  | [.int i] => if i.natAbs.log2 < 1920 then some (.str (toString i)) else none
  | [.str a] => some (.str a)
  | _ => none
def rStrB : List V → Hp → VK → Prop := fun xs H Q => (∃ i, xs = [.int i] ∧ i.natAbs.log2 < 1920 ∧ Q (.str (toString i)) H) ∨ ∃ a, xs = [.str a] ∧ Q (.str a) H
theorem call_strB {X : Cx} : CallR X (.type "str") rStrB := fun pins s σ H vs us Q I r h => h.elim (fun h => call_str_int pins s σ H vs us Q I r h) fun h => SkE.call_str_str pins s σ H vs us Q I r h
section
variable {K : PySem.W.Frag} {cl : ClW}
theorem lc_strB : LCall K cl rStrB strBF := by
  intro F H M xs ds z Q Qd g r h p q
  match hm : ds.map (vw M), h with
  | [.int i], h =>
    obtain ⟨v, rfl, hw⟩ := reps1 g r hm
    obtain rfl := hw.int
    simp only [strBF] at h
    split at h
    · cases h
      exact .inl ⟨i, rfl, by assumption, p.val g (.str _) q⟩
    · cases h
  | [.str a], h =>
    obtain ⟨v, rfl, hw⟩ := reps1 g r hm
    obtain rfl := hw.str
    cases h
    exact .inr ⟨a, rfl, p.val g (.str _) q⟩
end
end DL

set_option Elab.async false
set_option linter.all false
set_option maxRecDepth 100000
set_option maxHeartbeats 4000000
set_option autoImplicit false
namespace DL
open PySem L2

/-! ### str of any plain data -/
def shG (d : D) : Option D := match toPyX d with
  | some p => if p.showable && decide (p.depth ≤ 100) && decide (p.shown.length ≤ sizeLine) then some (.str p.shown) else none
  | none => none
def strGF : List D → Option D
  | [.bl b] => some (.str (if b then "True" else "False"))
  | [.int i] => if i.natAbs.log2 < 1920 then some (.str (toString i)) else none
  | [.str a] => some (.str a)
  | [.lst xs] => shG (.lst xs)
  | [.tup xs] => shG (.tup xs)
  | [.dK ks xs] => shG (.dK ks xs)
  | _ => none
def rStrG (K : PySem.W.Frag) (cl : ClW) : List V → Hp → VK → Prop := fun xs H Q => rStrB xs H Q ∨ (∃ b : Bool, xs = [.bl b] ∧ Q (.str (if b then "True" else "False")) H) ∨
  ∃ a d p, xs = [.ref a] ∧ Rep K cl H (.ref a) d ∧ toPyX d = some p ∧ p.showable = true ∧ p.depth ≤ 100 ∧ p.shown.length ≤ sizeLine ∧ Q (.str p.shown) H
section
variable {K : PySem.W.Frag} {cl : ClW} {X : Cx}
theorem call_strG (sm : SmOk X.K) {k : Nat} (c : RoomG k X.A) : CallR X (.type "str") (rStrG X.K cl) := by
  intro pins s σ H xs us Q I r h
  rcases h with h | ⟨b, rfl, q⟩ | ⟨a, d, p, rfl, hr, hp, hs, hd, hz, q⟩
  · exact call_strB pins s σ H xs us Q I r h
  · obtain ⟨u, rfl, ru⟩ := vals1 r
    obtain rfl : u = Value.bool b := ru
    exact PySem.P.str_of_bool ⟨.str (if b then "True" else "False"), H, I.tok _, ⟨_, rfl⟩, q⟩
  · obtain ⟨u, rfl, ru⟩ := vals1 r
    have un := c.room.un
    obtain ⟨as, rd, ns⟩ := reads_of I sm hr ru hp
    obtain rfl : u = Value.ref a := ru
    exact PySem.str_of_reads rd hs (fun _ => ns) c.gd (by omega) (fun _ _ e => e) (fun h' t tk kp => ⟨.str _, H, I.kept (t' := tk) kp, ⟨_, rfl⟩, q⟩) hz
theorem shG_some {d z : D} (h : shG d = some z) : ∃ p, toPyX d = some p ∧ p.showable = true ∧ p.depth ≤ 100 ∧ p.shown.length ≤ sizeLine ∧ z = .str p.shown := by
  unfold shG at h
  split at h
  · rename_i p hp
    split at h
    · rename_i hc
      simp only [Bool.and_eq_true, decide_eq_true_eq] at hc
      cases h
      exact ⟨p, hp, hc.1.1, hc.1.2, hc.2, rfl⟩
    · cases h
  · cases h
theorem lc_strG : LCall K cl (rStrG K cl) strGF := by
  intro F H M xs ds z Q Qd g r h p q
  match ds, r, h with
  | [d], r, h =>
    obtain ⟨v, ws, rfl, r1, r2⟩ := r.inv
    obtain rfl := r2.inv0
    cases hv : vw M d with
    | lst ys =>
      have hw := vw_ok g r1
      rw [hv] at hw
      obtain ⟨a, vs, rfl, h1, h2⟩ := hw.lst g.sub
      simp only [List.map_cons, List.map_nil, hv, strGF] at h
      obtain ⟨pd, e1, e2, e3, e4, rfl⟩ := shG_some h
      exact .inr (.inr ⟨a, _, pd, rfl, .lst h1 (h2.mono g.sub), e1, e2, e3, e4, p.val g (.str _) q⟩)
    | dK ks ys =>
      have hw := vw_ok g r1
      rw [hv] at hw
      obtain ⟨a, vs, rfl, h1, h0, h2⟩ := hw.dK g.sub
      simp only [List.map_cons, List.map_nil, hv, strGF] at h
      obtain ⟨pd, e1, e2, e3, e4, rfl⟩ := shG_some h
      exact .inr (.inr ⟨a, _, pd, rfl, .dK h1 h0 (h2.mono g.sub), e1, e2, e3, e4, p.val g (.str _) q⟩)
    | tup ys =>
      simp only [List.map_cons, List.map_nil, hv, strGF] at h
      obtain ⟨pd, e1, e2, e3, e4, rfl⟩ := shG_some h
      cases d with
      | tup zs =>
        obtain rfl : zs = ys := by simpa [vw] using hv
        obtain ⟨a, vs, rfl, _⟩ := r1.toTup
        exact .inr (.inr ⟨a, _, pd, rfl, r1.mono g.sub, e1, e2, e3, e4, p.val g (.str _) q⟩)
      | ref b =>
        exfalso
        cases hb : M b with
        | none =>
          have : vw M (.ref b) = .ref b := by show (M b).getD _ = _; rw [hb]; rfl
          rw [this] at hv
          cases hv
        | some e =>
          have : vw M (.ref b) = e := vw_ref hb
          rw [this] at hv
          subst hv
          exact (g.cell b _ hb).2
      | _ => cases hv
    | int i =>
      obtain rfl := ((hv ▸ vw_ok g r1 : Vw K cl F H v (.int i))).int
      simp only [List.map_cons, List.map_nil, hv, strGF] at h
      split at h
      · cases h
        exact .inl (.inl ⟨i, rfl, by assumption, p.val g (.str _) q⟩)
      · cases h
    | str a =>
      obtain rfl := ((hv ▸ vw_ok g r1 : Vw K cl F H v (.str a))).str
      simp only [List.map_cons, List.map_nil, hv, strGF] at h
      cases h
      exact .inl (.inr ⟨a, rfl, p.val g (.str _) q⟩)
    | bl b =>
      obtain rfl := ((hv ▸ vw_ok g r1 : Vw K cl F H v (.bl b))).bl
      simp only [List.map_cons, List.map_nil, hv, strGF] at h
      cases h
      exact .inr (.inl ⟨b, rfl, p.val g (.str _) q⟩)
    | _ => simp [hv, strGF] at h
  | [], _, h => cases h
  | d :: e :: l, _, h =>
    cases hv : vw M d <;> simp [hv, strGF] at h
end
end DL

set_option Elab.async false
set_option linter.all false
set_option maxRecDepth 100000
set_option maxHeartbeats 4000000
set_option autoImplicit false
namespace DL
open PySem L2

/-! ### exceptions as values: an instance that was not raised -/
/-- how it stands in the heap -/
theorem xo_inst {P : Program} {w : World} {H : Hp} {h : Heap} {a C : Addr} {fs : List (Str × V)} (ok : HOk P w H h) (x : XoAt H a C fs) :
    ∃ (oe : Obj) (od : Option Obj), PySem.W.InstAt h a oe C od ∧ ((∃ (ob : Obj) (mA : Str → Option Value), od = some ob ∧ (∀ n, RelO (fs.lookup n) (mA n)) ∧ ∀ n, PySem.W.lookIn n ob = some (mA n)) ∨ (od = none ∧ fs = [])) := by
  rcases x with ⟨dd, x1, x2⟩ | ⟨rfl, x1⟩
  · obtain ⟨t, e⟩ := exo_at ok x1
    obtain ⟨mA, ns, r⟩ := exd_at ok x2
    obtain ⟨ob, ho, hl⟩ := lookIn_ns ns
    exact ⟨_, some ob, ⟨e, rfl, rfl, ho⟩, .inl ⟨ob, mA, rfl, r, hl⟩⟩
  · obtain ⟨t, e⟩ := exo_at ok x1
    exact ⟨_, none, ⟨e, rfl, rfl, trivial⟩, .inr ⟨rfl, rfl⟩⟩

/-! #### making one -/
/-- C(e, ..) with an own __init__ -/
def tMkX (C : Addr) (sp : Sp) (ta : TA) : TE := fun σ H Q => ta σ H fun vs H1 => vs.length ≤ 1000 ∧ ∀ a, H1 a = none → sp (.ref a :: vs) (L2.upd H1 a (exo a C none)) (fun v H2 => v = .non ∧ Q (.ref a) H2) (fun _ _ _ => False)
section
variable {X : Cx} {e : Expr} {es : List Expr} {ta : TA} {p pos : Pos}
theorem pe_mkx {CX : CXT} {x : Str} {C fI : Addr} {k : Nat} {fd : FuncData} {ps : List Str} {sp : Sp} (T : OexC X.K C) (iC : PySem.W.findIn X.K (.ref C) "__init__" = some (some (.ref fI))) (tI : PySem.W.typeIn X.K (.ref fI) = some (.type "function"))
    (F1 : FnOk X.prog X.w X.K X.mg X.base CX k fI fd ps sp) (room : Room (k + 1) X.A) (bind : Binds X.K fd ps []) (pass : Passes CX X (fun _ _ _ => False)) (hg : Gl X x) (hm : X.mg x = some (.ref C)) (ha : PA X (e :: es) ta)
    (hdb : (x == ("__debug__" : Str)) = false := by decide) (hs : starEach (e :: es) X.env = (false, eval e X.env) :: starEach es X.env := by rfl) (hpl : (backTo pos (starEach es X.env)).any (·.1) = false := by rfl) :
    PE X (.Call (.Name x p) (e :: es) [] pos) (tMkX C sp ta) := by
  refine ⟨fun pins s σ H Q I want => ?_⟩
  obtain ⟨c1, c2, c3, c4, bm, c6, c7, c8, c9, c10, c11, c12, c13, c14, c15, look, tail⟩ := T.cls
  refine wpAny_Call_Name_kw (ld_glob I hg hm ?_ hdb)
  refine PySem.W.callWith_K (h₀ := X.base) I.ok.mod.kin T.kC (thn (ha.run pos pins s σ H _ I want) fun us s1 ⟨vs, H1, J, rv, few, made⟩ => ⟨J.kIn, ?_⟩) hs hpl
  show wpAny _ _ (call (.ref C) us) _ _ _
  obtain ⟨h1, gs, dr, tk, os⟩ := s1
  have below : h1.objs.size ≤ h1.objs.size + 1 := Nat.le_succ _
  have todo := made _ (J.hok.fresh below)
  have keep : ∀ b u, h1.get? b = some u → ((h1.push (PySem.W.kdv_tup us)).push (PySem.HandSPX.excO C h1.objs.size)).get? b = some u := fun b u z => Heap.get?_push_of_some _ (Heap.get?_push_of_some _ z)
  have there : ((h1.push (PySem.W.kdv_tup us)).push (PySem.HandSPX.excO C h1.objs.size)).get? (h1.objs.size + 1) = some (PySem.HandSPX.excO C h1.objs.size) := by heap_get
  have J2 := J.laid (t' := tk) (a := h1.objs.size + 1) (o := exo (h1.objs.size + 1) C none) keep below (exo_ok there)
  have rv2 : Vals (V.ref (h1.objs.size + 1) :: vs) (Value.ref (h1.objs.size + 1) :: us) := .cons rfl rv
  have len : (Value.ref (h1.objs.size + 1) :: us).length = ps.length := by rw [← rv2.length]; exact F1.len _ _ _ _ todo
  have few2 : us.length ≤ sizeLine := by rw [← rv.length, sizeLine_eq]; omega
  have bnd := bind _ (Value.ref (h1.objs.size + 1) :: us) J2.kIn (by simpa using len)
  rw [List.append_nil] at bnd
  refine wpAny_call (PySem.HandSPX.call_own PySem.F.excBase_ValueError (fun Y => PySem.HandSPX.refsVE_contains Y bm tail) (J.kIn _ _ look) (PySem.W.looks_findIn J.kIn iC) (fun self => PySem.W.bind_fn J.kIn self tI) few2
    (codeAny_mono (F1.run _ X.stack _ _ _ _ _ _ (fun _ _ _ => False) (room.make C us []) (J2.env0.make C us []) bnd rv2 todo) fun r s' end_ => ?_))
  cases r with
  | error er => exact pass pins σ _ _ er s' J2 end_
  | ok fl =>
    cases fl with
    | ret u =>
      obtain ⟨v, H2, z1, z2, z3, z4, z5, ev, q⟩ := end_
      subst ev
      exact ⟨z5, .ref _, H2, J2.call' (ch := []) z1 z3 z4 z2 (fun b z => absurd z (by simp)), rfl, q⟩
    | next => exact False.elim end_
    | brk => exact False.elim end_
    | cont => exact False.elim end_
/-- C(), without an own __init__ -/
theorem pe_mkx0 {C : Addr} {bmB : List Value} {B newId initId : String} {x : Str} (F : ExcBaseFacts B newId initId bmB) (own : PySem.W.excIn X.K C bmB newId = true) (hm : X.mg x = some (.ref C)) (kp : PySem.W.keepIn X.K (.ref C) = true) (hg : Gl X x)
    (hdb : (x == ("__debug__" : Str)) = false := by decide) : PE X (.Call (.Name x p) [] [] pos) (fun σ H Q => ∀ a, H a = none → Q (.ref a) (L2.upd H a (exo a C none))) := by
  refine ⟨fun pins s σ H Q I want => ?_⟩
  refine wpAny_Call_Name_kw (ld_glob I hg hm ?_ hdb)
  refine PySem.W.callWith_K0 (first := []) I.kIn kp ?_
  show wpAny _ _ (call (.ref C) []) _ _ _
  obtain ⟨b1, b2, b3, b4, b5, b6, b7, b8, b9, b10, b11, b12, b13, b14, b15, b16, b17, k1, k2, k3, k4⟩ := exc_obj I.kIn own
  refine wpAny_call_exc_subT F k4 k1 k2 k3 (fun h2 a new => ?_) (Nat.zero_le _)
  obtain ⟨t, z, _, _⟩ := new.there
  have na : H a = none := I.hok.gone new.new
  exact ⟨.ref a, _, I.laidN new.keeps new.new na (exo_ok z), rfl, want a na⟩
end
/-- C(e, ..), the exception as a value -/
def dMakeX (c : Nat) (fs : List Str) (α : DTA) : DTE := fun ρ M Q X => α ρ M (fun ds M1 => ds.length = fs.length ∧ Q (.xob c fs.reverse ds.reverse) M1) X
def dMakeX0 (c : Nat) : DTE := fun ρ M Q X => Q (.xob c [] []) M
section
variable {cl : ClW} {X : Cx} {W : WX} {k : Nat} {x : Str} {c : Nat} {fs : List Str} {e : Expr} {es : List Expr} {α : DTA} {p pos : Pos}
theorem d_makeX (cp : Cap X W k) (hk : 2 ≤ k) (T : ExcK X.prog X.w X.K X.mg X.base x (cl c) fs) (hf : fs.length ≤ 900) (hg : Gl X x) (ha : DA cl X W (e :: es) α)
    (hdb : (x == ("__debug__" : Str)) = false := by decide) (hs : starEach (e :: es) X.env = (false, eval e X.env) :: starEach es X.env := by rfl) (hpl : (backTo pos (starEach es X.env)).any (·.1) = false := by rfl) :
    DE cl X W (.Call (.Name x p) (e :: es) [] pos) (dMakeX c fs α) := by
  obtain ⟨fI, fd, ps, iC, tI, F1, hb⟩ := T.ini
  refine ⟨pe_imp (pe_mkx T.oex iC tI F1 (cp.hr.mono hk).room hb (fun pins σ H s e s' I h => ?_) hg T.gl ha.pa hdb hs hpl) fun σ H Q ⟨F, ρ, M, Qd, Xd, g, s, q, p, w⟩ => ?_⟩
  · obtain ⟨_, _, _, _, _, _, _, _, _, _, _, _, h⟩ := h
    exact h.elim
  · refine ⟨F, ρ, M, _, Xd, g, s, q, fun vs H1 F1 ds M1 sm g1 r1 ⟨hl, q1⟩ => ⟨by rw [r1.length, hl]; omega, fun a na => ?_⟩, w⟩
    refine ⟨a, vs, rfl, by rw [r1.length, hl], upd_same, fun d H' nd hne h1 h2 h3 => ⟨rfl, ?_⟩⟩
    rw [upd_ne hne] at nd
    have gA : Good X.K cl (L2.upd F1 a (exo a (cl c) (some d))) (L2.upd H1 a (exo a (cl c) (some d))) M1 := g1.new na fun ps z => by unfold exo at z; cases z
    have ndA : L2.upd H1 a (exo a (cl c) (some d)) d = none := by rw [upd_ne hne]; exact nd
    have gB := gA.new (o := exd d (fs.reverse.zip vs.reverse)) ndA fun ps z => by unfold exd at z; cases z
    have eH : L2.upd (L2.upd H1 a (exo a (cl c) (some d))) d (exd d (fs.reverse.zip vs.reverse)) = H' := by
      funext b
      by_cases hb : b = d
      · rw [hb, upd_same, h2]
      · rw [upd_ne hb]
        by_cases hb2 : b = a
        · rw [hb2, upd_same, h1]
        · rw [upd_ne hb2, h3 b hb2 hb, upd_ne hb2]
    rw [eH] at gB
    have smA : Same F1 (L2.upd F1 a (exo a (cl c) (some d))) := same_new (g1.freshF na)
    have smB : Same (L2.upd F1 a (exo a (cl c) (some d))) (L2.upd (L2.upd F1 a (exo a (cl c) (some d))) d (exd d (fs.reverse.zip vs.reverse))) := same_new (gA.freshF ndA)
    exact p _ _ _ _ _ ((sm.trans smA).trans smB) gB (.xob (.inl ⟨d, by rw [upd_ne (Ne.symm hne), upd_same], upd_same⟩) (by rw [List.length_reverse, List.length_reverse, r1.length, hl]) (r1.mono (smA.trans smB)).reverse) q1
theorem d_makeX0 {bmB : List Value} {B newId initId : String} (F : ExcBaseFacts B newId initId bmB) (own : PySem.W.excIn X.K (cl c) bmB newId = true) (hm : X.mg x = some (.ref (cl c))) (kp : PySem.W.keepIn X.K (.ref (cl c)) = true) (hg : Gl X x) (hdb : (x == ("__debug__" : Str)) = false := by decide) :
    DE cl X W (.Call (.Name x p) [] [] pos) (dMakeX0 c) := by
  refine ⟨pe_imp (pe_mkx0 F own hm kp hg hdb) fun σ H Q ⟨F, ρ, M, Qd, Xd, g, s, q, p, w⟩ a na => ?_⟩
  have gA : Good X.K cl (L2.upd F a (exo a (cl c) none)) (L2.upd H a (exo a (cl c) none)) M := g.new na fun ps z => by unfold exo at z; cases z
  exact p _ _ _ _ _ (same_new (g.freshF na)) gA (.xob (.inr ⟨rfl, upd_same⟩) rfl .nil) q
end

/-! #### a field -/
def tXo (K : PySem.W.Frag) (n : Str) (te : TE) : TE := fun σ H Q => te σ H fun x H1 => ∃ (a C : Addr) (fs : List (Str × V)) (v : V), x = .ref a ∧ XoAt H1 a C fs ∧ XfC K C ∧ PySem.W.findIn K (.ref C) n = some none ∧ fs.lookup n = some v ∧ Q v H1
theorem pe_xo {X : Cx} {e : Expr} {te : TE} {pos : Pos} {n : Str} (he : PE X e te) (hb : attributeBase e n X.env (eval e X.env) = eval e X.env := by rfl) : PE X (.Attribute e n pos) (tXo X.K n te) := by
  refine ⟨fun pins s σ H Q I want => attr_of hb (thn (he.run pins s σ H _ I want) fun u s1 ⟨x, H1, J, rx, a, C, fs, v, ex, xo, T, no, l, q⟩ => ?_)⟩
  subst ex
  obtain rfl : u = Value.ref a := rx
  obtain ⟨oe, od, at_, ⟨ob, mA, rfl, rel, look⟩ | ⟨rfl, rfl⟩⟩ := xo_inst J.hok xo
  · obtain ⟨y, hy, ry⟩ := RelO.some_of (v := v) (o := mA n) (by rw [← l]; exact rel n)
    exact HandSPX.exc_get J.kIn at_ T.ga T.gg T.exC (PySem.W.findObj_own T.hdC no rfl (by rw [look, hy])) (handed_of ry) ⟨v, H1, J.tok _, ry, q⟩
  · cases l
def xoF (cs : List Nat) (f : Str) : D → Option D
  | .xob c ns ds => if c ∈ cs then lookN f ns ds else none
  | _ => none
theorem xoF_some {cs : List Nat} {f : Str} {d v : D} (h : xoF cs f d = some v) : ∃ c ns ds, d = .xob c ns ds ∧ c ∈ cs ∧ lookN f ns ds = some v := by
  cases d with
  | xob c ns ds =>
    by_cases hc : c ∈ cs
    · rw [xoF, if_pos hc] at h
      exact ⟨c, ns, ds, rfl, hc, h⟩
    · rw [xoF, if_neg hc] at h
      cases h
  | _ => cases h
@[simp] def dXo (cs : List Nat) (f : Str) (τ : DTE) : DTE := fun ρ M Q X => τ ρ M (fun d M1 => ∃ v, xoF cs f d = some v ∧ Q v M1) X
theorem d_xo {cl : ClW} {X : Cx} {W : WX} {e : Expr} {τ : DTE} {f : Str} {cs : List Nat} {pos : Pos} (T : XfOk X.K cl cs f) (he : DE cl X W e τ) (hb : attributeBase e f X.env (eval e X.env) = eval e X.env := by rfl) : DE cl X W (.Attribute e f pos) (dXo cs f τ) := by
  refine ⟨pe_imp (pe_xo he.pe hb) fun σ H Q ⟨F, ρ, M, Qd, Xd, g, s, q, p, w⟩ => ⟨F, ρ, M, _, Xd, g, s, q, fun v H1 F1 d M1 sm g1 r1 ⟨v2, e2, q1⟩ => ?_, w⟩⟩
  obtain ⟨c, ns, ds, rfl, hc, e3⟩ := xoF_some e2
  obtain ⟨t1, t2⟩ := T c hc
  cases r1 with
  | @xob a _ _ vs _ h1 h2 h3 =>
    obtain ⟨y, y1, y2⟩ := reps_lookN h3 e3
    exact ⟨a, cl c, _, y, rfl, h1.mono g1.sub, t1, t2, by rw [lookN_zip]; exact y1, p _ _ _ _ _ sm g1 y2 q1⟩

/-! #### isinstance -/
def rIsO (K : PySem.W.Frag) : List V → Hp → VK → Prop := fun xs H Q => ∃ (a C : Addr) (fs : List (Str × V)) (c : V) (cv : Value) (b : Bool), xs = [.ref a, c] ∧ XoAt H a C fs ∧ ExcC K C ∧ (∀ u, RelV c u → u = cv) ∧ (∀ x, cv ≠ .ref x → True) ∧ PySem.W.kitOne K (.ref C) cv = some b ∧ Q (.bl b) H
theorem call_isO {X : Cx} : CallR X (.builtin "isinstance") (rIsO X.K) := by
  intro pins s σ H xs us Q I r ⟨a, C, fs, c, cv, b, e1, xo, T, ec, _, kit, q⟩
  subst e1
  obtain ⟨u1, u2, rfl, r1, r2⟩ := vals2 r
  obtain rfl : u1 = Value.ref a := r1
  obtain rfl := ec _ r2
  obtain ⟨oe, od, at_, ⟨ob, mA, rfl, _, _⟩ | ⟨rfl, _⟩⟩ := xo_inst I.hok xo
  · exact PySem.W.kia_one (kitx_exc T) I.kIn at_ kit (fun z => nomatch z) fun tk => ⟨.bl b, H, I.kept (t' := tk) fun _ _ z => z, rfl, q⟩
  · exact PySem.W.kia_one (PySem.W.handS_kitx_exc T.hg T.hk T.hs T.hd T.ha T.hn T.ht T.hm) I.kIn at_ kit (fun z => nomatch z) fun tk => ⟨.bl b, H, I.kept (t' := tk) fun _ _ z => z, rfl, q⟩
/-- by tables: own classes, built-in ones -/
def isoX (tb : List ((Nat × Nat) × Bool)) (ut : List (Nat × String)) : List D → Option D
  | [.xob c _ _, .cls k] => (mtT tb c k).map D.bl
  | [.xob c _ _, .ty n] => if (c, n) ∈ ut then some (.bl true) else none
  | _ => none
theorem vw_xob {K : PySem.W.Frag} {cl : ClW} {F H : Hp} {v : V} {c : Nat} {ns : List Str} {ds : List D} (h : Vw K cl F H v (.xob c ns ds)) : ∃ a vs, v = .ref a ∧ XoAt F a (cl c) (ns.zip vs) ∧ ns.length = vs.length ∧ Reps K cl F vs ds := by
  rcases h with h | ⟨_, _, h⟩
  · cases h with
    | xob h1 h2 h3 => exact ⟨_, _, rfl, h1, h2, h3⟩
  · exact h.elim
theorem lc_isO {K : PySem.W.Frag} {cl : ClW} {tb : List ((Nat × Nat) × Bool)} {ut : List (Nat × String)} (ok : IsxOk K cl tb) (ok2 : UtOk K cl ut) : LCall K cl (rIsO K) (isoX tb ut) := by
  intro F H M xs ds z Q Qd g r h p q
  generalize e : ds.map (vw M) = es at h
  unfold isoX at h
  split at h
  · rename_i c ns ds' k
    obtain ⟨v, u, h1, hv, hw⟩ := reps2 g r e
    obtain ⟨b, hb, rfl⟩ := Option.map_eq_some_iff.mp h
    obtain rfl := hw.cls
    obtain ⟨a, vs, rfl, x1, _, _⟩ := vw_xob hv
    exact ⟨a, cl c, _, .ref (cl k), .ref (cl k), b, h1, x1.mono g.sub, (ok _ _ _ hb).1, fun u hu => hu, fun _ _ => trivial, (ok _ _ _ hb).2, p.val g (.bl b) q⟩
  · rename_i c ns ds' n
    split at h
    · rename_i hm
      obtain ⟨v, u, h1, hv, hw⟩ := reps2 g r e
      cases h
      obtain rfl := hw.ty
      obtain ⟨a, vs, rfl, x1, _, _⟩ := vw_xob hv
      exact ⟨a, cl c, _, .ty n, .type n, true, h1, x1.mono g.sub, (ok2 _ hm).1, fun u hu => hu, fun _ _ => trivial, (ok2 _ hm).2, p.val g (.bl true) q⟩
    · cases h
  · cases h
theorem d_isO {cl : ClW} {X : Cx} {W : WX} {tb : List ((Nat × Nat) × Bool)} {ut : List (Nat × String)} {e : Expr} {es : List Expr} {α : DTA} {p pos : Pos} (ok : IsxOk X.K cl tb) (ok2 : UtOk X.K cl ut) (hg : Gl X "isinstance") (hm : X.mg "isinstance" = none)
    (ha : DA cl X W (e :: es) α) (hs : starEach (e :: es) X.env = (false, eval e X.env) :: starEach es X.env := by rfl) (hpl : (backTo pos (starEach es X.env)).any (·.1) = false := by rfl) :
    DE cl X W (.Call (.Name "isinstance" p) (e :: es) [] pos) (dCB (isoX tb ut) α) :=
  d_callB call_isO (lc_isO ok ok2) hg hm (by decide +kernel) ha (by decide) (by decide) hs hpl

/-! #### a method of its class -/
section
variable {P : Program} {w : World} {A : Around} {E : Value → Shared → Prop} {s : Shared} {K : PySem.W.Frag} {x C f : Addr} {ox : Obj} {od : Option Obj} {m : Str}
theorem exc_method {pl : Sem Bool} {Q : Value × List Value → Shared → Prop} (kin : K.In s.heap) (at_ : PySem.W.InstAt s.heap x ox C od) (T : XfC K C) (here_ : PySem.W.findIn K (.ref C) m = some (some (.ref f))) (tf : PySem.W.typeIn K (.ref f) = some (.type "function"))
    (own : PySem.W.shadowIn od m = some false) (q : Q (.ref f, [.ref x]) s) : wpAny (model P w) A (getMethod (.ref x) m pl) Q E s := by
  have same_ : (Manifest.canonical "BaseException.__getattribute__" != "object.__getattribute__") = false := by decide +kernel
  have L0 := at_.type (M := model P w)
  unfold getMethod specialOf
  refine wpAny_bind (wpAny_bind (L0.here ((PySem.W.looks_findIn kin T.ga).here ?_)))
  dsimp only
  rw [same_, if_neg Bool.false_ne_true]
  refine wpAny_bind (wpAny_bind (L0.here ((PySem.W.looks_findIn kin T.gg).here ?_)))
  refine wpAny_bind (wpAny_bind (L0.here ((PySem.W.looks_findIn kin here_).here ?_)))
  refine wpAny_bind ((PySem.W.looks_typeIn kin tf).here ?_)
  rw [if_neg (by decide +kernel)]
  refine wpAny_bind (wpAny_loadPart at_.at_ ?_)
  have hd := at_.dict
  cases e : ox.dict with
  | none => exact wpAny_bind (wpAny_rule (wpAny_pure q))
  | some dx =>
    rw [e] at hd
    cases od with
    | none => exact hd.elim
    | some ob =>
      obtain ⟨y, y1, y2⟩ := Option.map_eq_some_iff.mp own
      refine wpAny_bind (wpAny_bind (wpAny_loadPart hd ?_))
      rw [PySem.W.nsLook_of y1]
      refine wpAny_pure ?_
      rw [y2]
      exact wpAny_bind (wpAny_rule (wpAny_pure q))
end
/-- what a class says of such a method, and its promise -/
structure MethX (cl : ClW) (P : Program) (w : World) (K : PySem.W.Frag) (mg : Str → Option Value) (base : Heap) (k c : Nat) (m : Str) (spd : SpD) : Prop where
  xf : XfC K (cl c)
  ex : ∃ f fd ps, PySem.W.findIn K (.ref (cl c)) m = some (some (.ref f)) ∧ PySem.W.typeIn K (.ref f) = some (.type "function") ∧ PySem.W.keepIn K (.ref f) = true ∧ Binds K fd ps [] ∧ FnG cl P w K mg base k f fd ps spd
/-- o.m(), o an exception -/
def dMethX (tb : List (Nat × SpD)) (m : Str) (τ : DTE) : DTE := fun ρ M Q X => τ ρ M (fun o M1 => ∃ c ns ds spd, o = .xob c ns ds ∧ tb.lookup c = some spd ∧ m ∉ ns ∧ spd [o] M1 Q (fun c' ns es M3 => X c' ns es ρ M3)) X
section
variable {cl : ClW} {X : Cx} {W : WX} {k : Nat} {m : Str} {o : Expr} {τ : DTE} {apos pos : Pos}
theorem notin_zip {fs : List Str} {vs : List V} {m : Str} (h : m ∉ fs) : (fs.zip vs).lookup m = none := by
  induction fs generalizing vs with
  | nil => rfl
  | cons f r ih =>
    cases vs with
    | nil => rfl
    | cons v t =>
      have n1 : (m == f) = false := beq_false_of_ne fun z => h (by rw [z]; simp)
      rw [List.zip_cons_cons, List.lookup_cons, n1]
      exact ih fun z => h (by simp [z])
theorem d_methX {tb : List (Nat × SpD)} {pl : Sem Bool} (cp : Cap X W k) (hm : ∀ c spd, tb.lookup c = some spd → MethX cl X.prog X.w X.K X.mg X.base k c m spd) (ho : DE cl X W o τ)
    (ht : eval (.Call (.Attribute o m apos) [] [] pos) X.env = (do
      let ov ← eval o X.env
      standAt apos.atName
      let (f, first) ← holding [ov] (getMethod ov m pl)
      callWith pos f first (backTo pos (starEach [] X.env)) (backToKw pos (keywordEach [] X.env))) := by rfl) :
    DE cl X W (.Call (.Attribute o m apos) [] [] pos) (dMethX tb m τ) := ⟨⟨fun pins s σ H Q I h => by
  obtain ⟨F, ρ, M, Qd, Xd, g, sl, q, p, w⟩ := h
  refine PySem.W.methodCall_KW (pl := pl) (thn (ho.pe.run pins s σ H (fun v H1 => ∃ F' M' o, Same F F' ∧ Good X.K cl F' H1 M' ∧ Rep X.K cl F' v o ∧ ∃ c ns ds spd, o = .xob c ns ds ∧ tb.lookup c = some spd ∧ m ∉ ns ∧ spd [o] M' Qd (fun c' ns es M3 => Xd c' ns es ρ M3)) I
    ⟨F, ρ, M, _, Xd, g, sl, q, fun v H' F' d M' sm g' r q' => ⟨F', M', d, sm, g', r, q'⟩, w⟩) fun u s1 ⟨v, H1, I1, rv, F1, M1, od, sm1, g1, r1, c, ns, ds, spd, e1, e2, e3, q1⟩ => ?_) ht
  obtain ⟨xf, f, fd, ps, m1, m2, m3, hb, G⟩ := hm c spd e2
  have r1' := r1
  rw [e1] at r1'
  cases r1' with
  | @xob a _ _ vs _ x1 x2 x3 =>
    obtain rfl : u = Value.ref a := rv
    obtain ⟨oe, od2, at_, hh⟩ := xo_inst I1.hok (x1.mono g1.sub)
    have own : PySem.W.shadowIn od2 m = some false := by
      rcases hh with ⟨ob, mA, rfl, rel, look⟩ | ⟨rfl, _⟩
      · have nm : mA m = none := RelO.none_of (by rw [← notin_zip (vs := vs) e3]; exact rel m)
        show (PySem.W.lookIn m ob).map (·.isSome) = some false
        rw [look, nm]; rfl
      · rfl
    refine exc_method I1.kIn at_ xf m1 m2 own ?_
    exact PySem.W.callWith_K0 (first := [.ref a]) I1.kIn m3 (run_g (us := [.ref a]) (vs := [.ref a]) cp G hb .nil I1 (.cons rfl .nil) (low_call g1 (sl.mono sm1) (.one r1) q1 (p.mono sm1) (w.mono sm1)))⟩⟩
end

/-! #### the facts, as truth values -/
def xmB (K : PySem.W.Frag) (C : Addr) (m : Str) (f : Addr) : Bool := xfB K C && (He.eqO (PySem.W.findIn K (.ref C) m) (some (some (.ref f))) && (PySem.W.typeIn K (.ref f) == some (.type "function")))
theorem FnC.methX {cl : ClW} {P : Program} {w : World} {K : PySem.W.Frag} {mg : Str → Option Value} {base : Heap} {k c : Nat} {x qual m : Str} {params : Arguments} {body : List Stmt} {scope : Scope} {f : Addr} {ps : List Str} {spd : SpD} (C : FnC cl P w K mg base k x qual params body scope f ps spd)
    (h : xmB K (cl c) m f = true) (hb : HBind x qual params body scope ps) {j : Nat} (hj : k ≤ j) : MethX cl P w K mg base j c m spd := by
  obtain ⟨fd, F, G⟩ := C
  obtain ⟨h1, h⟩ := and2 h
  obtain ⟨h2, h3⟩ := and2 h
  exact ⟨xfB_ok h1, f, fd, ps, He.eqO_ok h2, beq_iff_eq.mp h3, F.kp, F.bindsN hb, G.mono hj⟩
abbrev veBm : List Value := [.type "ValueError", .type "Exception", .type "BaseException", .type "object"]
def x0B (K : PySem.W.Frag) (C : Addr) : Bool := PySem.W.excIn K C veBm "ValueError.__new__" && PySem.W.keepIn K (.ref C)
theorem d_makeV0 {cl : ClW} {X : Cx} {W : WX} {x : Str} {c : Nat} {p pos : Pos} (h : x0B X.K (cl c) = true) (hm : X.mg x = some (.ref (cl c))) (hg : Gl X x) (hdb : (x == ("__debug__" : Str)) = false := by decide) : DE cl X W (.Call (.Name x p) [] [] pos) (dMakeX0 c) :=
  d_makeX0 PySem.F.excBase_ValueError (and2 h).1 hm (and2 h).2 hg hdb
/-- each class once, then the pairs -/
def isxoB (K : PySem.W.Frag) (cl : Nat → Addr) (xs : List Nat) (tb : List ((Nat × Nat) × Bool)) : Bool := (xs.all fun c => excCB K (cl c)) && (tb.all fun p => xs.contains p.1.1 && (PySem.W.kitOne K (.ref (cl p.1.1)) (.ref (cl p.1.2)) == some p.2))
theorem isxoB_ok {K : PySem.W.Frag} {cl : Nat → Addr} {xs : List Nat} {tb : List ((Nat × Nat) × Bool)} (h : isxoB K cl xs tb = true) : IsxOk K cl tb := fun c k b e => by
  obtain ⟨h1, h2⟩ := and2 h
  obtain ⟨h3, h4⟩ := and2 (List.all_eq_true.mp h2 _ (mtT_mem e))
  exact ⟨excCB_ok (List.all_eq_true.mp h1 c (by simpa using h3)), beq_iff_eq.mp h4⟩
theorem ab_ {a b : Bool} (h : a = true) (k : b = true) : (a && b) = true := by rw [h, k]; rfl
/-- the facts in several runs -/
theorem run_and {α : Type} {o : Option α} {f g : α → Bool} (h1 : o.map f = some true) (h2 : o.map g = some true) : o.map (fun s => f s && g s) = some true := by
  cases o with
  | none => cases h1
  | some a => exact congrArg some (ab_ (Option.some.inj h1) (Option.some.inj h2))
theorem run_imp {α : Type} {o : Option α} {f h : α → Bool} (s : ∀ a, f a = true → h a = true) (h1 : o.map f = some true) : o.map h = some true := by
  cases o with
  | none => cases h1
  | some a => exact congrArg some (s a (Option.some.inj h1))
/-- some classes of the table -/
def isxpB (K : PySem.W.Frag) (cl : Nat → Addr) (ys : List Nat) (tb : List ((Nat × Nat) × Bool)) : Bool := (ys.all fun c => excCB K (cl c)) && (tb.all fun p => !(ys.contains p.1.1) || (PySem.W.kitOne K (.ref (cl p.1.1)) (.ref (cl p.1.2)) == some p.2))
theorem isxpB_ok {K : PySem.W.Frag} {cl : Nat → Addr} {tb : List ((Nat × Nat) × Bool)} (yss : List (List Nat)) (h : ∀ ys ∈ yss, isxpB K cl ys tb = true) (cov : (tb.all fun p => yss.any fun ys => ys.contains p.1.1) = true) : IsxOk K cl tb := fun c k b e => by
  have hm := mtT_mem e
  obtain ⟨ys, hy, hc⟩ := List.any_eq_true.mp (List.all_eq_true.mp cov _ hm)
  obtain ⟨h1, h2⟩ := and2 (h ys hy)
  have h3 := List.all_eq_true.mp h2 _ hm
  rw [hc] at h3
  exact ⟨excCB_ok (List.all_eq_true.mp h1 c (by simpa using hc)), beq_iff_eq.mp (by simpa using h3)⟩
end DL

set_option Elab.async false
set_option linter.all false
set_option maxRecDepth 100000
set_option maxHeartbeats 4000000
set_option autoImplicit false
/-! sorted(..) of bytes -/
namespace DLC
open PySem PySem.W Builtin PyProof.Rows SeqAt
theorem order_lt : ∀ (xs ys : List UInt8), (Builtin.Bytes.order xs ys == .lt) = decide (xs.map UInt8.toNat < ys.map UInt8.toNat)
  | [], [] => by simp [Bytes.order]
  | [], y :: ys => by simp [Bytes.order]
  | x :: xs, [] => by simp [Bytes.order]
  | x :: xs, y :: ys => by
    simp only [Bytes.order, List.map_cons, List.cons_lt_cons_iff]
    have e1 : x < y ↔ x.toNat < y.toNat := Iff.rfl
    have e2 : x > y ↔ y.toNat < x.toNat := Iff.rfl
    by_cases h1 : x < y
    · rw [if_pos h1]
      have := e1.mp h1
      simp [this]
    · rw [if_neg h1]
      by_cases h2 : x > y
      · rw [if_pos h2]
        have a := e2.mp h2
        have b : ¬ x.toNat < y.toNat := by omega
        have c : ¬ x.toNat = y.toNat := by omega
        simp [b, c]
      · rw [if_neg h2, order_lt xs ys]
        have b : ¬ x.toNat < y.toNat := fun z => h1 (e1.mpr z)
        have c : ¬ y.toNat < x.toNat := fun z => h2 (e2.mpr z)
        have d : x.toNat = y.toNat := by omega
        simp [d]
@[reducible] def bytKind : PyProof.Rows.KeyKind where
  α := List Nat
  blt a b := decide (a < b)
  irrefl a := by simpa using List.lt_irrefl a
  trans a b c h1 h2 := by simp only [decide_eq_true_eq] at *; exact List.lt_trans h1 h2
  negTrans a b c h := by
    simp only [decide_eq_true_eq] at *
    by_cases hab : a < b
    · exact .inl hab
    · exact .inr (List.lt_of_le_of_lt (List.not_lt.mp hab) h)
  total a b h1 h2 := by simp only [decide_eq_false_iff_not] at *; exact List.le_antisymm (List.not_lt.mp h2) (List.not_lt.mp h1)
  keyOf v := match v with | .bytes x _ => some (x.toList.map UInt8.toNat) | _ => none
  dflt := []
section
variable {prog : Program} {w : World} {A : Around} {E : Value → Shared → Prop} {s : Shared}
theorem oneLt_bytes {b c : Array UInt8} {t u : Tok} {Q : Bool → Shared → Prop} (h : Q (decide (b.toList.map UInt8.toNat < c.toList.map UInt8.toNat)) s) : wpAny (model prog w) A (oneLt' true (.bytes b t) (.bytes c u)) Q E s := by
  rw [oneLt'_eq]
  simp only [if_true]
  refine wpAny_bind (wpAny_cRoomFor_byValue rfl ?_)
  refine wpAny_bind (wpAny_callSpecialIfBound?_slot (typeIs_bytes s b t) slot_bytes_lt (call_gives slot_bytes_lt (typeIs_bytes s b t) entry_bytes_lt (args_bytes_lt_2 _ _) (gives_bytes_lt b c t u) ?_))
  refine wpAny_truthy_bool ?_
  rw [order_lt]
  exact h
theorem sortsAt_bytes {vs : List Value} (h : ∀ v ∈ vs, ∃ b t, v = .bytes b t) : SortsAt prog w A s bytKind vs := by
  refine ⟨fun v hv => ?_, oneType', fun E x y a b Q ha hb q => ?_, fun h2 E Q q => PySem.W.kas_kind (T := .type "bytes") h2 (fun v hv => ?_) rfl rfl q⟩
  · obtain ⟨b, t, rfl⟩ := h v hv
    exact ⟨_, rfl⟩
  · cases x <;> simp only [bytKind, reduceCtorEq, Option.some.injEq] at ha
    cases y <;> simp only [bytKind, reduceCtorEq, Option.some.injEq] at hb
    cases ha; cases hb
    exact oneLt_bytes q
  · obtain ⟨b, t, rfl⟩ := h v hv
    exact Looks.of_pure rfl
end
end DLC

set_option Elab.async false
set_option linter.all false
set_option maxRecDepth 100000
set_option maxHeartbeats 4000000
set_option autoImplicit false
namespace DL
open PySem L2 PyProof.Rows

/-! ### sorted(e): bytes, or plain data of one shape -/
def keyB : D → List Nat
  | .byt x => x.toList.map UInt8.toNat
  | _ => []
def leByt (a b : D) : Bool := !decide (keyB b < keyB a)
inductive SortBy : List D → (D → D → Bool) → Prop where
  | byt (bs : List (Array UInt8)) : SortBy (bs.map D.byt) leByt
  | py (xs : List D) (enc : D → PyData) : (∀ x ∈ xs, toPyX x = some (enc x)) → PySem.W.AllAlike (xs.map enc) → PySem.W.Sortable (xs.map enc) → (∀ x ∈ xs, (enc x).depth ≤ 32) → SortBy xs (PySem.W.dataLe false enc)
def dSorted (τ : DTE) : DTE := fun ρ M Q X => τ ρ M (fun d M1 => ∃ (xs : List D) (le : D → D → Bool), vw M1 d = .lst xs ∧ xs.length ≤ sizeLine ∧ SortBy xs le ∧ Q (.lst (xs.mergeSort le)) M1) X
theorem zip_sort {α β : Type} {le : β → β → Bool} {vs : List α} {xs : List β} (h : vs.length = xs.length) : ((vs.zip xs).mergeSort fun p q => le p.2 q.2).map (·.2) = xs.mergeSort le := by
  rw [List.map_mergeSort (s := le) (fun a _ b _ => rfl), List.map_snd_zip (by omega)]
section
variable {cl : ClW} {X : Cx} {W : WX} {e : Expr} {τ : DTE} {p pos : Pos} {k : Nat}
theorem zipR {K : PySem.W.Frag} {F : Hp} {vs : List V} {us : List Value} {xs : List D} (r : Vals vs us) (r2 : Reps K cl F vs xs) : PySem.W.EachIs (fun v (b : V × D) => RelV b.1 v ∧ Rep K cl F b.1 b.2 ∧ b.2 ∈ xs) us (vs.zip xs) := by
  have l1 := r.length
  have l2 := r2.length
  refine PySem.W.EachIs.of_zip (by rw [List.length_zip]; omega) fun pr hpr => ?_
  obtain ⟨jx, hj⟩ := List.mem_iff_getElem?.mp hpr
  obtain ⟨e1, e2⟩ := List.getElem?_zip_eq_some.mp hj
  obtain ⟨e3, e4⟩ := List.getElem?_zip_eq_some.mp e2
  obtain ⟨u, k1, k2⟩ := r.get e3
  rw [e1] at k1
  obtain ⟨v', k3, k4⟩ := r2.get e4
  rw [e3] at k3
  have a1 := Option.some.inj k1
  have a3 := Option.some.inj k3
  exact ⟨by rw [a1]; exact k2, by rw [a3]; exact k4, List.mem_of_getElem? e4⟩
theorem d_sorted (c : Cap X W k) (sm : SmOk X.K) (hu : X.A.units + 64 < cLine) (hg : Gl X "sorted") (hm : X.mg "sorted" = none) (he : DE cl X W e τ) (hs : starEach [e] X.env = (false, eval e X.env) :: starEach [] X.env := by rfl) : DE cl X W (.Call (.Name "sorted" p) [e] [] pos) (dSorted τ) := by
  refine ⟨⟨fun pins s σ H Q I ⟨F, ρ, M, Qd, Xd, g, sl, t, pq, w⟩ => ?_⟩⟩
  refine wpAny_Call_Name_kw (ld_blt I hg hm (by rfl) ?_ (by decide) (by decide))
  have arg : DA cl X W [e] (dCons τ dNil) := da_cons he da_nil hs
  refine PyProof.Rows.callWith_builtin1 (thn (arg.pa.run pos pins s σ H (fun vs H1 => ∃ F1 M1 v d, vs = [v] ∧ Same F F1 ∧ Good X.K cl F1 H1 M1 ∧ Rep X.K cl F1 v d ∧ ∃ (xs : List D) (le : D → D → Bool), vw M1 d = .lst xs ∧ xs.length ≤ sizeLine ∧ SortBy xs le ∧ Qd (.lst (xs.mergeSort le)) M1) I
    ⟨F, ρ, M, fun ds M1 => ∃ d, ds = [d] ∧ ∃ (xs : List D) (le : D → D → Bool), vw M1 d = .lst xs ∧ xs.length ≤ sizeLine ∧ SortBy xs le ∧ Qd (.lst (xs.mergeSort le)) M1, Xd, g, sl, ?_, fun vs H' F' ds M' sm' g' r ⟨d, ed, q⟩ => ?_, w⟩) fun us s1 ⟨vs, H1, I1, r1, F1, M1, v, d, ev, sm', g1, rd, xs, le, hv, hl, hk, q⟩ => ?_) hs rfl
  · have same : (fun (d : D) (M1 : Mem) => ∃ (xs : List D) (le : D → D → Bool), vw M1 d = .lst xs ∧ xs.length ≤ sizeLine ∧ SortBy xs le ∧ Qd (.lst (xs.mergeSort le)) M1) = (fun d M1 => ∃ d', [d] = [d'] ∧ ∃ (xs : List D) (le : D → D → Bool), vw M1 d' = .lst xs ∧ xs.length ≤ sizeLine ∧ SortBy xs le ∧ Qd (.lst (xs.mergeSort le)) M1) := by
      funext d M1
      simp
    unfold dSorted at t
    unfold dCons dNil
    rw [same] at t
    exact t
  · subst ed
    obtain ⟨v, ws, rfl, r1, r2⟩ := r.inv
    obtain rfl := r2.inv0
    exact ⟨F', M', v, d, rfl, sm', g', r1, q⟩
  · subst ev
    have hw := vw_ok g1 rd
    rw [hv] at hw
    obtain ⟨a, vs, rfl, h1, h2⟩ := hw.lst g1.sub
    obtain ⟨u, rfl, ru⟩ := vals1 r1
    obtain rfl : u = Value.ref a := ru
    obtain ⟨its, rvs, hil, hz⟩ := I1.list h1
    have lv := h2.length
    have li := rvs.length
    have zr := zipR rvs h2
    have fin : ∀ out : List Value, PySem.W.EachIs (fun v (b : V × D) => RelV b.1 v ∧ Rep X.K cl F1 b.1 b.2 ∧ b.2 ∈ xs) out ((vs.zip xs).mergeSort fun p q => le p.2 q.2) → EP X pins σ Q (.ref (s1.heap.objs.size + 1)) { s1 with heap := sortedAll s1.heap its out.toArray } := fun out hout => by
      obtain ⟨w1, w2⟩ := each_vals (K := X.K) (cl := cl) (F := F1) (fun v b z => ⟨z.1, z.2.1⟩) hout
      rw [zip_sort (by omega)] at w2
      have pm1 := List.mergeSort_perm (vs.zip xs) (fun p q => le p.2 q.2)
      have hl2 : (((vs.zip xs).mergeSort fun p q => le p.2 q.2).map (·.1)).length ≤ sizeLine := by
        rw [List.length_map, pm1.length_eq, List.length_zip]; omega
      obtain ⟨ep, he'⟩ := PyProof.Rows.sortedAll_at s1.heap its out.toArray
      refine ⟨.ref _, upd H1 (s1.heap.objs.size + 1) (.lst (((vs.zip xs).mergeSort fun p q => le p.2 q.2).map (·.1))), I1.laid (t' := s1.toks) (fun _ _ => PyProof.Rows.sortedAll_old) (Nat.le_succ _) ⟨hl2, out, ep, w1, by simpa using he'⟩, rfl, ?_⟩
      exact (pq.mono sm').newL g1 w2 q (I1.hok.fresh (Nat.le_succ _))
    cases hk with
    | byt bs =>
      have hb : ∀ v ∈ its, ∃ b t, v = Value.bytes b t := fun v hv => by
        obtain ⟨b, hb, r, r2, r3⟩ := zr.left v hv
        obtain ⟨x, hx, ex⟩ := List.mem_map.mp r3
        rw [← ex] at r2
        rw [r2.toByt] at r
        obtain ⟨t, rfl⟩ := r
        exact ⟨_, _, rfl⟩
      refine PySem.W.sorted_vals (κ := DLC.bytKind) hil.isList (DLC.sortsAt_bytes hb) (by omega) (fin _ ?_)
      have z := PySem.W.sortVals_each (κ := DLC.bytKind) (rev := false) (ks := its) (fun b : V × D => keyB b.2) zr ?_
      · exact z
      · refine (PySem.W.each_mem zr).mono fun v b ⟨⟨r, r2, r3⟩, _⟩ => ?_
        obtain ⟨x, hx, ex⟩ := List.mem_map.mp r3
        rw [← ex] at r2 ⊢
        rw [r2.toByt] at r
        obtain ⟨t, rfl⟩ := r
        rfl
    | py _ enc h1 h2 h3 h4 =>
      have hr : PySem.W.EachIs (fun v (b : V × D) => ∃ as, PySem.Reads s1.heap v (enc b.2) as) its (vs.zip xs) := zr.mono fun v b ⟨r, r2, r3⟩ => by
        obtain ⟨as, k1, _⟩ := reads_of I1 sm (r2.mono g1.sub) r (h1 _ r3)
        exact ⟨as, k1⟩
      have em : (vs.zip xs).map (fun b => enc b.2) = xs.map enc := by
        rw [show (fun b : V × D => enc b.2) = enc ∘ (·.2) from rfl, ← List.map_map, List.map_snd_zip (by omega)]
      refine PySem.W.sorted_data (enc := fun b : V × D => enc b.2) hil.isList zr hr (by rw [em]; exact h2) (by rw [em]; exact h3) (by rw [List.length_zip]; omega) (fun b hb => ?_) fun out ho heach => fin out ?_
      · have hb2 : b.2 ∈ xs := (List.of_mem_zip (show (b.1, b.2) ∈ vs.zip xs from hb)).2
        have := h4 _ hb2
        omega
      · exact heach
end
end DL

set_option Elab.async false
set_option linter.all false
set_option maxRecDepth 100000
set_option maxHeartbeats 4000000
set_option autoImplicit false
namespace DL
open PySem L2
open PySem.SeqAt

/-! ### == and != of data with bytes in it -/
mutual
def eqY : Nat → D → D → Option Bool
  | _, .byt a, .byt b => some (a == b)
  | _, .byt _, .non => some false
  | _, .non, .byt _ => some false
  | n + 1, .lst xs, .lst ys => if xs.length = ys.length then eqYs n xs ys else some false
  | n + 1, .tup xs, .tup ys => eqYs n xs ys
  | n, d, e => if plX n d && plX n e then some (eqX d e) else none
def eqYs : Nat → List D → List D → Option Bool
  | _, [], [] => some true
  | n, x :: xs, y :: ys => match eqY n x y, eqYs n xs ys with
    | some a, some b => some (a && b)
    | _, _ => none
  | _, [], _ :: _ => some false
  | _, _ :: _, [] => some false
end
theorem eqYs_cons {n : Nat} {x y : D} {xs ys : List D} {b : Bool} (h : eqYs n (x :: xs) (y :: ys) = some b) : ∃ c e, eqY n x y = some c ∧ eqYs n xs ys = some e ∧ b = (c && e) := by
  rw [eqYs] at h
  cases h1 : eqY n x y with
  | none => rw [h1] at h; simp at h
  | some c =>
    cases h2 : eqYs n xs ys with
    | none => rw [h1, h2] at h; simp at h
    | some e => rw [h1, h2] at h; simp at h; exact ⟨c, e, rfl, rfl, h.symm⟩
/-- the cases of eqY -/
theorem eqY_cases {n : Nat} {d e : D} {b : Bool} (h : eqY n d e = some b) :
    (∃ x y, d = .byt x ∧ e = .byt y ∧ b = (x == y)) ∨ (∃ x, d = .byt x ∧ e = .non ∧ b = false) ∨ (∃ x, d = .non ∧ e = .byt x ∧ b = false) ∨
    (∃ m xs ys, n = m + 1 ∧ d = .lst xs ∧ e = .lst ys ∧ ((xs.length = ys.length ∧ eqYs m xs ys = some b) ∨ (xs.length ≠ ys.length ∧ b = false))) ∨
    (∃ m xs ys, n = m + 1 ∧ d = .tup xs ∧ e = .tup ys ∧ eqYs m xs ys = some b) ∨ (plX n d = true ∧ plX n e = true ∧ b = eqX d e) := by
  rw [eqY.eq_def] at h
  split at h
  · cases h; exact .inl ⟨_, _, rfl, rfl, rfl⟩
  · cases h; exact .inr (.inl ⟨_, rfl, rfl, rfl⟩)
  · cases h; exact .inr (.inr (.inl ⟨_, rfl, rfl, rfl⟩))
  · refine .inr (.inr (.inr (.inl ⟨_, _, _, rfl, rfl, rfl, ?_⟩)))
    split at h
    · exact .inl ⟨by assumption, h⟩
    · cases h; exact .inr ⟨by assumption, rfl⟩
  · exact .inr (.inr (.inr (.inr (.inl ⟨_, _, _, rfl, rfl, rfl, h⟩))))
  · split at h
    · rename_i hp
      rw [Bool.and_eq_true] at hp
      cases h
      exact .inr (.inr (.inr (.inr (.inr ⟨hp.1, hp.2, rfl⟩))))
    · cases h
section
variable {X : Cx} {pins : List (Addr × Obj)} {σ : St} {H : Hp} {s : Shared} {cl : ClW}
theorem sameYs (n : Nat) (ih : ∀ (d e : D) (x : V) (b : Bool), Rep X.K cl H x d → Rep X.K cl H x e → eqY n d e = some b → b = true) : ∀ {vs : List V} {ds es : List D} {b : Bool}, Reps X.K cl H vs ds → Reps X.K cl H vs es → eqYs n ds es = some b → b = true
  | [], _, _, b, .nil, .nil, h => by rw [eqYs] at h; cases h; rfl
  | v :: vs, d :: ds, e :: es, b, .cons r1 r2, .cons q1 q2, h => by
    obtain ⟨c, f, h1, h2, rfl⟩ := eqYs_cons h
    rw [ih d e v c r1 q1 h1, sameYs n ih r2 q2 h2]; rfl
theorem sameY (I : Inv X pins σ H s) : ∀ (n : Nat) (d e : D) (x : V) (v : Value) (b : Bool), RelV x v → Rep X.K cl H x d → Rep X.K cl H x e → eqY n d e = some b → b = true := by
  intro n
  induction n with
  | zero =>
    intro d e x v b rv r1 r2 h
    rcases eqY_cases h with ⟨a, c, rfl, rfl, rfl⟩ | ⟨a, rfl, rfl, rfl⟩ | ⟨a, rfl, rfl, rfl⟩ | ⟨m, _, _, hm, _⟩ | ⟨m, _, _, hm, _⟩ | ⟨p1, p2, rfl⟩
    · have := r1.toByt; rw [r2.toByt] at this; cases this; simp
    · have := r1.toByt; rw [r2.toNon] at this; cases this
    · have := r1.toNon; rw [r2.toByt] at this; cases this
    · cases hm
    · cases hm
    · rw [side_inj I 0 d e v (side_of I r1 p1 rv) (side_of I r2 p2 rv) p1 p2]
      exact eqX_refl 0 e p2
  | succ n ih =>
    intro d e x v b rv r1 r2 h
    rcases eqY_cases h with ⟨a, c, rfl, rfl, rfl⟩ | ⟨a, rfl, rfl, rfl⟩ | ⟨a, rfl, rfl, rfl⟩ | ⟨m, xs, ys, hm, rfl, rfl, h2⟩ | ⟨m, xs, ys, hm, rfl, rfl, h2⟩ | ⟨p1, p2, rfl⟩
    · have := r1.toByt; rw [r2.toByt] at this; cases this; simp
    · have := r1.toByt; rw [r2.toNon] at this; cases this
    · have := r1.toNon; rw [r2.toByt] at this; cases this
    · cases hm
      obtain ⟨a, vs, rfl, h3, h4⟩ := r1.toLst
      obtain ⟨a', vs', e1, h5, h6⟩ := r2.toLst
      cases e1
      obtain rfl := I.list_inj h3 h5
      rcases h2 with ⟨_, h2⟩ | ⟨hn, _⟩
      · obtain ⟨its, rv2, _, _⟩ := I.list h3
        have : ∀ {vs : List V} {us : List Value} {ds es : List D} {b : Bool}, Vals vs us → Reps X.K cl H vs ds → Reps X.K cl H vs es → eqYs n ds es = some b → b = true := by
          intro vs
          induction vs with
          | nil => intro us ds es b _ r q h; cases r; cases q; rw [eqYs] at h; cases h; rfl
          | cons v vs ihv =>
            intro us ds es b rr r q h
            cases rr with
            | cons rr1 rr2 =>
              cases r with
              | cons r1 r2 =>
                cases q with
                | cons q1 q2 =>
                  obtain ⟨c, f, k1, k2, rfl⟩ := eqYs_cons h
                  rw [ih _ _ _ _ _ rr1 r1 q1 k1, ihv rr2 r2 q2 k2]; rfl
        exact this rv2 h4 h6 h2
      · exact absurd (h4.length.symm.trans h6.length) hn
    · cases hm
      obtain ⟨a, vs, rfl, h3, h4⟩ := r1.toTup
      obtain ⟨a', vs', e1, h5, h6⟩ := r2.toTup
      cases e1
      obtain rfl := I.tuple_inj h3 h5
      obtain ⟨its, rv2, _, _⟩ := I.tuple h3
      have : ∀ {vs : List V} {us : List Value} {ds es : List D} {b : Bool}, Vals vs us → Reps X.K cl H vs ds → Reps X.K cl H vs es → eqYs n ds es = some b → b = true := by
        intro vs
        induction vs with
        | nil => intro us ds es b _ r q h; cases r; cases q; rw [eqYs] at h; cases h; rfl
        | cons v vs ihv =>
          intro us ds es b rr r q h
          cases rr with
          | cons rr1 rr2 =>
            cases r with
            | cons r1 r2 =>
              cases q with
              | cons q1 q2 =>
                obtain ⟨c, f, k1, k2, rfl⟩ := eqYs_cons h
                rw [ih _ _ _ _ _ rr1 r1 q1 k1, ihv rr2 r2 q2 k2]; rfl
      exact this rv2 h4 h6 h2
    · rw [side_inj I (n + 1) d e v (side_of I r1 p1 rv) (side_of I r2 p2 rv) p1 p2]
      exact eqX_refl (n + 1) e p2
theorem eqP_of_rcY {A : Around} {v u : Value} {x : V} {k : Bool} {d : D} (rv : RelV x v) (rd : Rep X.K cl H x d) (h : RcP X.prog X.w A s v u k) (hs : v = u → k = true) : EqP X.prog X.w A s v u k := fun E Q q => by
  unfold eqBool
  refine wpAny_holding (wpAny_ite_split (fun e => ?_) (fun _ => ?_))
  · have hv : v = u := by
      first
        | exact eq_of_beq e
        | skip
    have := hs hv
    subst this
    exact wpAny_bind (wpAny_rule (wpAny_pure q))
  · cases rd with
    | non => obtain rfl := (show v = Value.none from rv); exact wpAny_bind (h E _ (wpAny_truthy_bool q))
    | bl b => obtain rfl := (show v = Value.bool b from rv); exact wpAny_bind (h E _ (wpAny_truthy_bool q))
    | int i => obtain ⟨t, rfl⟩ := rv; exact wpAny_bind (h E _ (wpAny_truthy_bool q))
    | str i => obtain ⟨t, rfl⟩ := rv; exact wpAny_bind (h E _ (wpAny_truthy_bool q))
    | byt i => obtain ⟨t, rfl⟩ := rv; exact wpAny_bind (h E _ (wpAny_truthy_bool q))
    | ty n => obtain rfl := (show v = Value.type n from rv); exact wpAny_bind (h E _ (wpAny_truthy_bool q))
    | _ => obtain rfl := (show v = Value.ref _ from rv); exact wpAny_bind (h E _ (wpAny_truthy_bool q))
theorem eqL_Y {A : Around} {n : Nat} (ih : ∀ (d e : D) (x y : V) (v u : Value) (b : Bool), Rep X.K cl H x d → Rep X.K cl H y e → RelV x v → RelV y u → eqY n d e = some b → EqP X.prog X.w A s v u b) :
    ∀ {vs ws : List V} {us ts : List Value} {ds es : List D} {b : Bool}, Vals vs us → Reps X.K cl H vs ds → Vals ws ts → Reps X.K cl H ws es → eqYs n ds es = some b → ∃ bs : List Bool, EqL X.prog X.w A s (us.zip ts) bs ∧ bs.length = min ds.length es.length ∧ b = (bs.all id && ds.length == es.length)
  | _, _, _, _, _, _, b, .nil, .nil, .nil, .nil, h => by rw [eqYs] at h; cases h; exact ⟨[], .nil, rfl, rfl⟩
  | _, _, _, _, _, _, b, .nil, .nil, .cons _ _, .cons _ _, h => by rw [eqYs] at h; cases h; exact ⟨[], .nil, by simp, by simp⟩
  | _, _, _, _, _, _, b, .cons _ _, .cons _ _, .nil, .nil, h => by rw [eqYs] at h; cases h; exact ⟨[], by first | exact .nil | (rw [List.zip_nil_right]; exact .nil), by simp, by simp⟩
  | _, _, _, _, _, _, b, .cons a1 a2, .cons r1 r2, .cons c1 c2, .cons q1 q2, h => by
    obtain ⟨c, f, h1, h2, rfl⟩ := eqYs_cons h
    obtain ⟨bs, k1, k2, rfl⟩ := eqL_Y ih a2 r2 c2 q2 h2
    refine ⟨c :: bs, ?_, by simp [k2], ?_⟩
    · rw [List.zip_cons_cons]
      exact .cons (ih _ _ _ _ _ _ _ r1 q1 a1 c1 h1) k1
    · simp only [List.all_cons, id, Bool.and_assoc, List.length_cons]
      congr 2
      rw [Bool.eq_iff_iff]; simp
theorem rc_lstsY {A : Around} {a b : Addr} {us ts : List Value} {bs : List Bool} (h1 : s.heap.IsList a us.toArray) (k1 : s.heap.IsList b ts.toArray) (hl : us.length = ts.length) (L : EqL X.prog X.w A.in1 s (us.zip ts) bs) (hz : bs.length = us.length) (hA : A.units < cLine) : RcP X.prog X.w A s (.ref a) (.ref b) (bs.all id) := fun E Q r => by
  refine SeqAt.rcP_lists (e := fun j => bs.getD j false) h1 k1 (by simp; omega) hA (fun j j1 j2 => ?_) E Q ?_
  · simp at j1 j2
    obtain ⟨b', e1, e2⟩ := eqL_at L j (us[j], ts[j]) (by simp [List.getElem?_zip_eq_some, j1, j2])
    have : bs.getD j false = b' := by simp [List.getD, e1]
    simp only [this]
    simpa using e2
  · rw [range_all bs _ us.toArray.size (by simp; omega) (fun j hj => by simp at hj; rw [List.getElem?_eq_getElem (by omega)]; simp [List.getD, List.getElem?_eq_getElem (show j < bs.length by omega)])]
    exact r
theorem rcY (I : Inv X pins σ H s) : ∀ (n : Nat) (A : Around), A.units + n < cLine → ∀ (d e : D) (x y : V) (v u : Value) (b : Bool), Rep X.K cl H x d → Rep X.K cl H y e → RelV x v → RelV y u → eqY n d e = some b → RcP X.prog X.w A s v u b := by
  intro n
  induction n with
  | zero =>
    intro A hu d e x y v u b r1 r2 rv ru h
    have hA : A.units < cLine := by omega
    rcases eqY_cases h with ⟨a, c, rfl, rfl, rfl⟩ | ⟨a, rfl, rfl, rfl⟩ | ⟨a, rfl, rfl, rfl⟩ | ⟨m, _, _, hm, _⟩ | ⟨m, _, _, hm, _⟩ | ⟨p1, p2, rfl⟩
    · obtain rfl := r1.toByt; obtain rfl := r2.toByt
      obtain ⟨t, rfl⟩ := rv; obtain ⟨t2, rfl⟩ := ru
      exact fun E Q q => DLC.rc_bytes hA q
    · obtain rfl := r1.toByt; obtain rfl := r2.toNon
      obtain ⟨t, rfl⟩ := rv; cases (show u = Value.none from ru)
      exact fun E Q q => DLC.rc_bytes_none q
    · obtain rfl := r1.toNon; obtain rfl := r2.toByt
      obtain ⟨t, rfl⟩ := ru; cases (show v = Value.none from rv)
      exact fun E Q q => DLC.rc_none_bytes q
    · cases hm
    · cases hm
    · exact rcX I 0 A hu d e v u (side_of I r1 p1 rv) (side_of I r2 p2 ru) p1 p2
  | succ n ih =>
    intro A hu d e x y v u b r1 r2 rv ru h
    have hA : A.units < cLine := by omega
    have ihE : ∀ (d e : D) (x y : V) (v u : Value) (b : Bool), Rep X.K cl H x d → Rep X.K cl H y e → RelV x v → RelV y u → eqY n d e = some b → EqP X.prog X.w A.in1 s v u b := fun d e x y v u b r1 r2 rv ru h =>
      eqP_of_rcY rv r1 (ih A.in1 (by show A.units + 1 + n < cLine; omega) d e x y v u b r1 r2 rv ru h) fun z => by
        subst z
        obtain rfl := relV_inj rv ru
        exact sameY I n d e x v b rv r1 r2 h
    rcases eqY_cases h with ⟨a, c, rfl, rfl, rfl⟩ | ⟨a, rfl, rfl, rfl⟩ | ⟨a, rfl, rfl, rfl⟩ | ⟨m, xs, ys, hm, rfl, rfl, h2⟩ | ⟨m, xs, ys, hm, rfl, rfl, h2⟩ | ⟨p1, p2, rfl⟩
    · obtain rfl := r1.toByt; obtain rfl := r2.toByt
      obtain ⟨t, rfl⟩ := rv; obtain ⟨t2, rfl⟩ := ru
      exact fun E Q q => DLC.rc_bytes hA q
    · obtain rfl := r1.toByt; obtain rfl := r2.toNon
      obtain ⟨t, rfl⟩ := rv; cases (show u = Value.none from ru)
      exact fun E Q q => DLC.rc_bytes_none q
    · obtain rfl := r1.toNon; obtain rfl := r2.toByt
      obtain ⟨t, rfl⟩ := ru; cases (show v = Value.none from rv)
      exact fun E Q q => DLC.rc_none_bytes q
    · cases hm
      obtain ⟨a, vs, rfl, h3, h4⟩ := r1.toLst
      obtain ⟨a', ws, rfl, h5, h6⟩ := r2.toLst
      cases (show v = Value.ref a from rv)
      cases (show u = Value.ref a' from ru)
      obtain ⟨us, r3, p3, _⟩ := I.list h3
      obtain ⟨ts, r4, p4, _⟩ := I.list h5
      have l1 := r3.length
      have l2 := r4.length
      have l3 := h4.length
      have l4 := h6.length
      rcases h2 with ⟨hl, h2⟩ | ⟨hn, rfl⟩
      · obtain ⟨bs, L, hz, rfl⟩ := eqL_Y ihE r3 h4 r4 h6 h2
        have e : (bs.all id && xs.length == ys.length) = bs.all id := by simp [hl]
        rw [e]
        exact rc_lstsY p3.isList p4.isList (by omega) L (by omega) hA
      · exact .of (.lists_lengths p3.isList p4.isList (by simp; omega) hA)
    · cases hm
      obtain ⟨a, vs, rfl, h3, h4⟩ := r1.toTup
      obtain ⟨a', ws, rfl, h5, h6⟩ := r2.toTup
      cases (show v = Value.ref a from rv)
      cases (show u = Value.ref a' from ru)
      obtain ⟨us, r3, p3, _⟩ := I.tuple h3
      obtain ⟨ts, r4, p4, _⟩ := I.tuple h5
      have l1 := r3.length
      have l2 := r4.length
      have l3 := h4.length
      have l4 := h6.length
      obtain ⟨bs, L, hz, rfl⟩ := eqL_Y ihE r3 h4 r4 h6 h2
      have r := rcp_tups (A := A) bs p3 p4 hA L
      simp only [List.size_toArray] at r
      rw [← l1, ← l2, l3, l4] at r
      exact r
    · exact rcX I (n + 1) A hu d e v u (side_of I r1 p1 rv) (side_of I r2 p2 ru) p1 p2
/-- x == y -/
@[simp] def bEqY : DB2 := fun d e _ M Q _ => ∃ d' e' n b, Dv M d d' ∧ Dv M e e' ∧ n ≤ 60 ∧ eqY n d' e' = some b ∧ Q (.bl b) M
theorem bin_eqY {W : WX} (hu : X.A.units + 64 < cLine) : BinG cl X W (compareOp .Eq) bEqY := fun pins s σ H F ρ M v u x y d e Q Qd Xd I rx ry g sl r1 r2 q p w => by
  obtain ⟨d', e', n, b, t1, t2, hn, h, q⟩ := q
  exact rcY I n X.A (by omega) d' e' x y v u b (rep_deep g t1 r1) (rep_deep g t2 r2) rx ry h _ _ ⟨.bl _, H, I, rfl, p.val g (.bl _) q⟩
/-- x != y, bytes or None, or two lists -/
@[simp] def bNeY : DB2 := fun d e _ M Q _ => ∃ d' e', Dv M d d' ∧ Dv M e e' ∧ ((∃ a b, d' = .byt a ∧ e' = .byt b ∧ Q (.bl (a != b)) M) ∨ (∃ a, d' = .byt a ∧ e' = .non ∧ Q (.bl true) M) ∨ (∃ a, d' = .non ∧ e' = .byt a ∧ Q (.bl true) M) ∨
  ∃ xs ys n b, d' = .lst xs ∧ e' = .lst ys ∧ n ≤ 60 ∧ eqY (n + 1) d' e' = some b ∧ Q (.bl (!b)) M)
theorem bin_neY {W : WX} (hu : X.A.units + 64 < cLine) : BinG cl X W (compareOp .NotEq) bNeY := fun pins s σ H F ρ M v u x y d e Q Qd Xd I rx ry g sl r1 r2 q p w => by
  obtain ⟨d', e', t1, t2, q⟩ := q
  have r1 := rep_deep g t1 r1
  have r2 := rep_deep g t2 r2
  have hA : X.A.units < cLine := by omega
  rcases q with ⟨a, b, rfl, rfl, q⟩ | ⟨a, rfl, rfl, q⟩ | ⟨a, rfl, rfl, q⟩ | ⟨xs, ys, n, b, rfl, rfl, hn, h, q⟩
  · obtain rfl := r1.toByt; obtain rfl := r2.toByt
    obtain ⟨t, rfl⟩ := rx; obtain ⟨t2, rfl⟩ := ry
    exact DLC.rcn_bytes hA ⟨.bl _, H, I, rfl, p.val g (.bl _) q⟩
  · obtain rfl := r1.toByt; obtain rfl := r2.toNon
    obtain ⟨t, rfl⟩ := rx; cases (show u = Value.none from ry)
    exact DLC.rcn_bytes_none ⟨.bl _, H, I, rfl, p.val g (.bl _) q⟩
  · obtain rfl := r1.toNon; obtain rfl := r2.toByt
    obtain ⟨t, rfl⟩ := ry; cases (show v = Value.none from rx)
    exact DLC.rcn_none_bytes ⟨.bl _, H, I, rfl, p.val g (.bl _) q⟩
  · obtain ⟨a, vs, rfl, h3, h4⟩ := r1.toLst
    obtain ⟨a', ws, rfl, h5, h6⟩ := r2.toLst
    cases (show v = Value.ref a from rx)
    cases (show u = Value.ref a' from ry)
    obtain ⟨us, r3, p3, _⟩ := I.list h3
    obtain ⟨ts, r4, p4, _⟩ := I.list h5
    have l1 := r3.length
    have l2 := r4.length
    have l3 := h4.length
    have l4 := h6.length
    have fin : EP X pins σ Q (.bool (!b)) s := ⟨.bl _, H, I, rfl, p.val g (.bl _) q⟩
    have ihE : ∀ (d e : D) (x y : V) (v u : Value) (b : Bool), Rep X.K cl H x d → Rep X.K cl H y e → RelV x v → RelV y u → eqY n d e = some b → EqP X.prog X.w X.A.in1 s v u b := fun d e x y v u b r1 r2 rv ru h =>
      eqP_of_rcY rv r1 (rcY I n X.A.in1 (by show X.A.units + 1 + n < cLine; omega) d e x y v u b r1 r2 rv ru h) fun z => by
        subst z
        obtain rfl := relV_inj rv ru
        exact sameY I n d e x v b rv r1 r2 h
    by_cases hl : xs.length = ys.length
    · have h2 : eqYs n xs ys = some b := by rw [eqY, if_pos hl] at h; exact h
      obtain ⟨bs, L, hz, rfl⟩ := eqL_Y ihE r3 h4 r4 h6 h2
      have e : (bs.all id && xs.length == ys.length) = bs.all id := by simp [hl]
      rw [e] at fin
      obtain ⟨⟨c1, d1, x1, s1⟩, ho, hc, m1, hd⟩ := id p3.isList
      obtain ⟨⟨c2, d2, x2, s2⟩, ho2, hc2, m2, hd2⟩ := id p4.isList
      simp only at hc hd hc2 hd2
      subst hc hd hc2 hd2
      exact wpAny_richCompare_same_room (op := .NotEq) ⟨_, ho, rfl⟩ ⟨_, ho2, rfl⟩ PySem.F.slot_list_ne (call_meetsIn PySem.F.slot_list_ne ⟨_, ho, rfl⟩ PySem.F.entry_list_ne (PySem.F.args_list_ne_2 _ _) (lst_ne a a' us.toArray ts.toArray m1 m2 d1 d2 s1 s2 (by simp; omega) bs)
        ⟨ho, ho2, L, show Value.bool _ ≠ Value.notImplemented ∧ EP X pins σ Q (.bool _) s from ⟨(fun z => nomatch z), fin⟩⟩) hA
    · have e : b = false := by rw [eqY, if_neg hl] at h; exact (Option.some.inj h).symm
      subst e
      exact RcNeAt.lists_lengths p3.isList p4.isList (by simp; omega) hA _ _ _ _ fin
end
end DL

set_option Elab.async false
set_option linter.all false
set_option maxRecDepth 100000
set_option maxHeartbeats 4000000
set_option autoImplicit false
namespace DL
open PySem L2 PyProof.Rows

/-! ### range with a step of two; list(range(a, b, c)) -/
theorem rgC2 {i j : Int} (h1 : -(2 ^ 60) ≤ i) (h2 : i < 2 ^ 60) (h3 : -(2 ^ 60) ≤ j) (h4 : j < 2 ^ 60) : RgC i j 2 ((j - i + 1) / 2).toNat := by
  have e : Builtin.Range.rangeSize i j 2 = ((j - i + 1) / 2).toNat := by
    unfold Builtin.Range.rangeSize
    rw [if_pos (by decide)]
    split <;> omega
  refine ⟨by decide, by decide, ?_, e⟩
  unfold Builtin.Range.small
  rw [e]
  simp only [Builtin.Range.rangeFitsLong, Bool.and_eq_true, Bool.or_eq_true, decide_eq_true_eq, beq_iff_eq, show (2 : Int) > 0 by decide, if_true]
  omega
def rgW (a c : Int) (n : Nat) : List V := (List.range n).map fun i => V.int (a + (i : Nat) * c)
theorem vals_rgW {a c : Int} {n : Nat} {acc : Array Value} (h : ItemsOf (fun i v => ∃ t, v = .int (a + i * c) t) acc n) : Vals (rgW a c n) acc.toList := by
  have e : acc.toList.length = n := by rw [Array.length_toList]; exact h.1
  unfold rgW
  rw [← e]
  exact vals_of_get acc.toList _ fun j u hj => h.2 j u (by rw [← hj, Array.getElem?_toList])
section
variable {X : Cx} {a b c : Expr} {ta : TA} {p1 p2 p3 p4 : Pos}
theorem pe_listRg3 (hc : X.calm = true) (hg : Gl X "list") (hm : X.mg "list" = none) (hg2 : Gl X "range") (hm2 : X.mg "range" = none) (ha : PA X [a, b, c] ta)
    (hs : starEach [a, b, c] X.env = (false, eval a X.env) :: starEach [b, c] X.env := by rfl) (hpl : (backTo p2 (starEach [b, c] X.env)).any (·.1) = false := by rfl)
    (na : starEach [.Call (.Name "range" p1) [a, b, c] [] p2] X.env = (false, eval (.Call (.Name "range" p1) [a, b, c] [] p2) X.env) :: starEach [] X.env := by rfl) :
    PE X (.Call (.Name "list" p3) [.Call (.Name "range" p1) [a, b, c] [] p2] [] p4) (fun σ H Q => ta σ H fun vs H1 => ∃ (i j k : Int) (n : Nat), vs = [.int i, .int j, .int k] ∧ RgC i j k n ∧ n ≤ 2 ^ 24 ∧ ∀ q, H1 q = none → Q (.ref q) (upd H1 q (.lst (rgW i k n)))) := by
  refine ⟨fun pins s σ H Q I h => ?_⟩
  refine Call_ (ld_blt I hg hm boot_list (PyProof.Rows.callWith_type1 (args_cons (Call_ (ld_blt I hg2 hm2 boot_range (PyProof.Rows.callWith_type1 (thn (ha.run p2 pins s σ H _ I h) fun us s1 ⟨vs, H1, I1, r1, q1⟩ => ?_) hs hpl))) na) na))
  obtain ⟨i, j, k, n, e, ⟨c0, c1, c2, c3⟩, hn, q⟩ := q1
  subst e
  cases r1 with
  | cons r rr =>
    cases rr with
    | cons r' rr =>
      cases rr with
      | cons r'' rr =>
        cases rr
        obtain ⟨t, rfl⟩ := r
        obtain ⟨t', rfl⟩ := r'
        obtain ⟨t'', rfl⟩ := r''
        refine call_range_3 c0 ?_ (.inl (PyProof.noPylong_small c1))
        have I2 : Inv X pins σ H1 { s1 with heap := s1.heap.push { cls := .type "range", data := .fields #[.int i t, .int j t', .int k t''] } } := I1.kept (t' := s1.toks) fun b o e => Heap.get?_push_of_some _ e
        refine args_nil (call_list_range (n := n) (I2.ok.hd hc) (IsRange.new ..) c2 c3 hn fun h' tk acc c' hk e' hi => ?_)
        have hl : (rgW i k n).length ≤ sizeLine := by unfold rgW; rw [List.length_map, List.length_range, sizeLine_eq]; omega
        refine ⟨.ref _, upd H1 _ (.lst (rgW i k n)), I2.laid hk (Nat.le_refl _) (show ObjOk X.prog X.w _ _ _ (.lst (rgW i k n)) from ⟨hl, acc.toList, c', vals_rgW hi, ?_⟩), rfl, q _ (I2.hok.fresh (Nat.le_refl _))⟩
        rw [Array.toArray_toList]; exact e'
end
/-- the numbers of a range -/
def rgD (a c : Int) (n : Nat) : List D := (List.range n).map fun i => D.int (a + (i : Nat) * c)
@[simp] def dListRg3 (α : DTA) : DTE := fun ρ M Q X => α ρ M (fun ds M1 => ∃ (i j k : Int) (n : Nat), ds = [.int i, .int j, .int k] ∧ RgC i j k n ∧ n ≤ 2 ^ 24 ∧ Q (.lst (rgD i k n)) M1) X
@[simp] def iR3 (α : DTA) : DTI := fun ρ M R X => α ρ M (fun ds M1 => ∃ (i j k : Int) (n : Nat), ds = [.int i, .int j, .int k] ∧ RgC i j k n ∧ R (rgD i k n) M1) X
theorem reps_rg {K : PySem.W.Frag} {cl : ClW} {F : Hp} {a c : Int} {n : Nat} : Reps K cl F (rgW a c n) (rgD a c n) := by
  unfold rgW rgD
  induction List.range n with
  | nil => exact .nil
  | cons i l ih => exact .cons (.int _) ih
section
variable {cl : ClW} {X : Cx} {W : WX} {a b c : Expr} {α : DTA} {p1 p2 p3 p4 p pos : Pos}
theorem ints3 {K : PySem.W.Frag} {F : Hp} {vs : List V} {i j k : Int} (r : Reps K cl F vs [.int i, .int j, .int k]) : vs = [.int i, .int j, .int k] := by
  obtain ⟨v, ws, rfl, r1, r2⟩ := r.inv
  obtain ⟨v2, ws, rfl, r3, r4⟩ := r2.inv
  obtain ⟨v3, ws, rfl, r5, r6⟩ := r4.inv
  obtain rfl := r6.inv0
  rw [r1.toInt, r3.toInt, r5.toInt]
theorem d_listRg3 (hc : X.calm = true) (hg : Gl X "list") (hm : X.mg "list" = none) (hg2 : Gl X "range") (hm2 : X.mg "range" = none) (ha : DA cl X W [a, b, c] α)
    (hs : starEach [a, b, c] X.env = (false, eval a X.env) :: starEach [b, c] X.env := by rfl) (hpl : (backTo p2 (starEach [b, c] X.env)).any (·.1) = false := by rfl)
    (na : starEach [.Call (.Name "range" p1) [a, b, c] [] p2] X.env = (false, eval (.Call (.Name "range" p1) [a, b, c] [] p2) X.env) :: starEach [] X.env := by rfl) :
    DE cl X W (.Call (.Name "list" p3) [.Call (.Name "range" p1) [a, b, c] [] p2] [] p4) (dListRg3 α) :=
  ⟨pe_imp (pe_listRg3 hc hg hm hg2 hm2 ha.pa hs hpl na) fun σ H Q ⟨F, ρ, M, Qd, Xd, g, s, t, p, w⟩ => ⟨F, ρ, M, _, Xd, g, s, t, fun vs H' F' ds M' sm g' r ⟨i, j, k, n, e, h1, h2, q⟩ => by
    subst e
    exact ⟨i, j, k, n, ints3 r, h1, h2, fun b hb => (p.mono sm).newL g' reps_rg q hb⟩, w⟩⟩
theorem walks_rgC {K : PySem.W.Frag} {F : Hp} (lo c : Int) (n : Nat) : Walks K cl (Itc lo c n) F (rgD lo c n) := fun i F2 H2 M2 sm2 g2 => by
  unfold rgD
  refine ⟨fun d hd => ?_, fun hl => (show n ≤ i by simpa using hl)⟩
  rw [List.getElem?_map] at hd
  cases e : (List.range n)[i]? with
  | none => rw [e] at hd; cases hd
  | some j =>
    obtain ⟨hj, ej⟩ := List.getElem?_eq_some_iff.mp e
    rw [List.getElem_range] at ej
    subst ej
    rw [e] at hd
    cases hd
    refine ⟨(show i < n by simpa using hj), fun x H3 ⟨e1, e2⟩ => ?_⟩
    subst e1 e2
    exact ⟨F2, Same.refl F2, g2, .int _⟩
theorem di_range3 {tg : Expr} (hg : Gl X "range") (hm : X.mg "range" = none) (ha : DA cl X W [a, b, c] α)
    (hs : starEach [a, b, c] X.env = (false, eval a X.env) :: starEach [b, c] X.env := by rfl) (hpl : (backTo pos (starEach [b, c] X.env)).any (·.1) = false := by rfl) : DI cl X W tg (.Call (.Name "range" p) [a, b, c] [] pos) (iR3 α) :=
  ⟨pi_imp (pi_range3 hg hm ha.pa hs hpl) fun σ H R ⟨F, ρ, M, Rd, Xd, g, s, q, p, w⟩ =>
    ⟨F, ρ, M, _, Xd, g, s, q, fun vs H' F' ds M' sm g' r ⟨i, j, k, n, e, h1, q'⟩ => by
      subst e
      exact ⟨i, j, k, n, ints3 r, h1, p _ _ F' _ M' sm g' (walks_rgC i k n) q'⟩, w⟩⟩
end
end DL

set_option Elab.async false
set_option linter.all false
set_option maxRecDepth 100000
set_option maxHeartbeats 4000000
set_option autoImplicit false
namespace DL
open PySem L2 PyProof.Rows

/-! ### list(range(a, b)) -/
theorem rgC1 {i j : Int} (h1 : -(2 ^ 60) ≤ i) (h2 : i < 2 ^ 60) (h3 : -(2 ^ 60) ≤ j) (h4 : j < 2 ^ 60) : RgC i j 1 (j - i).toNat := by
  have e : Builtin.Range.rangeSize i j 1 = (j - i).toNat := by
    rw [PySem.rangeSize_one]
    split <;> omega
  exact ⟨by decide, by decide, PySem.small_one (by omega) (by omega) (by omega) (by omega), e⟩
section
variable {X : Cx} {a b : Expr} {ta : TA} {p1 p2 p3 p4 : Pos}
theorem pe_listRg2 (hc : X.calm = true) (hg : Gl X "list") (hm : X.mg "list" = none) (hg2 : Gl X "range") (hm2 : X.mg "range" = none) (ha : PA X [a, b] ta)
    (hs : starEach [a, b] X.env = (false, eval a X.env) :: starEach [b] X.env := by rfl) (hpl : (backTo p2 (starEach [b] X.env)).any (·.1) = false := by rfl)
    (na : starEach [.Call (.Name "range" p1) [a, b] [] p2] X.env = (false, eval (.Call (.Name "range" p1) [a, b] [] p2) X.env) :: starEach [] X.env := by rfl) :
    PE X (.Call (.Name "list" p3) [.Call (.Name "range" p1) [a, b] [] p2] [] p4) (fun σ H Q => ta σ H fun vs H1 => ∃ (i j : Int) (n : Nat), vs = [.int i, .int j] ∧ RgC i j 1 n ∧ n ≤ 2 ^ 24 ∧ ∀ q, H1 q = none → Q (.ref q) (upd H1 q (.lst (rgW i 1 n)))) := by
  refine ⟨fun pins s σ H Q I h => ?_⟩
  refine Call_ (ld_blt I hg hm boot_list (PyProof.Rows.callWith_type1 (args_cons (Call_ (ld_blt I hg2 hm2 boot_range (PyProof.Rows.callWith_type1 (thn (ha.run p2 pins s σ H _ I h) fun us s1 ⟨vs, H1, I1, r1, q1⟩ => ?_) hs hpl))) na) na))
  obtain ⟨i, j, n, e, ⟨c0, c1, c2, c3⟩, hn, q⟩ := q1
  subst e
  cases r1 with
  | cons r rr =>
    cases rr with
    | cons r' rr =>
        cases rr
        obtain ⟨t, rfl⟩ := r
        obtain ⟨t', rfl⟩ := r'
        refine call_range_2 ?_
        have I2 : Inv X pins σ H1 { s1 with heap := s1.heap.push { cls := .type "range", data := .fields #[.int i t, .int j t', .int 1 s1.toks] }, toks := s1.toks + 1 } := I1.kept (t' := s1.toks + 1) fun b o e => Heap.get?_push_of_some _ e
        refine args_nil (call_list_range (n := n) (I2.ok.hd hc) (IsRange.new ..) c2 c3 hn fun h' tk acc c' hk e' hi => ?_)
        have hl : (rgW i 1 n).length ≤ sizeLine := by unfold rgW; rw [List.length_map, List.length_range, sizeLine_eq]; omega
        refine ⟨.ref _, upd H1 _ (.lst (rgW i 1 n)), I2.laid hk (Nat.le_refl _) (show ObjOk X.prog X.w _ _ _ (.lst (rgW i 1 n)) from ⟨hl, acc.toList, c', vals_rgW hi, ?_⟩), rfl, q _ (I2.hok.fresh (Nat.le_refl _))⟩
        rw [Array.toArray_toList]; exact e'
end
@[simp] def dListRg2 (α : DTA) : DTE := fun ρ M Q X => α ρ M (fun ds M1 => ∃ (i j : Int) (n : Nat), ds = [.int i, .int j] ∧ RgC i j 1 n ∧ n ≤ 2 ^ 24 ∧ Q (.lst (rgD i 1 n)) M1) X
section
variable {cl : ClW} {X : Cx} {W : WX} {a b : Expr} {α : DTA} {p1 p2 p3 p4 p pos : Pos}
theorem ints2 {K : PySem.W.Frag} {F : Hp} {vs : List V} {i j : Int} (r : Reps K cl F vs [.int i, .int j]) : vs = [.int i, .int j] := by
  obtain ⟨v, ws, rfl, r1, r2⟩ := r.inv
  obtain ⟨v2, ws, rfl, r3, r4⟩ := r2.inv
  obtain rfl := r4.inv0
  rw [r1.toInt, r3.toInt]
theorem d_listRg2 (hc : X.calm = true) (hg : Gl X "list") (hm : X.mg "list" = none) (hg2 : Gl X "range") (hm2 : X.mg "range" = none) (ha : DA cl X W [a, b] α)
    (hs : starEach [a, b] X.env = (false, eval a X.env) :: starEach [b] X.env := by rfl) (hpl : (backTo p2 (starEach [b] X.env)).any (·.1) = false := by rfl)
    (na : starEach [.Call (.Name "range" p1) [a, b] [] p2] X.env = (false, eval (.Call (.Name "range" p1) [a, b] [] p2) X.env) :: starEach [] X.env := by rfl) :
    DE cl X W (.Call (.Name "list" p3) [.Call (.Name "range" p1) [a, b] [] p2] [] p4) (dListRg2 α) :=
  ⟨pe_imp (pe_listRg2 hc hg hm hg2 hm2 ha.pa hs hpl na) fun σ H Q ⟨F, ρ, M, Qd, Xd, g, s, t, p, w⟩ => ⟨F, ρ, M, _, Xd, g, s, t, fun vs H' F' ds M' sm g' r ⟨i, j, n, e, h1, h2, q⟩ => by
    subst e
    exact ⟨i, j, n, ints2 r, h1, h2, fun b hb => (p.mono sm).newL g' reps_rg q hb⟩, w⟩⟩
end
end DL

set_option Elab.async false
set_option linter.all false
set_option maxRecDepth 100000
set_option maxHeartbeats 4000000
set_option autoImplicit false
namespace DL
open PySem L2 PySem.W

/-! ### lists of whole numbers in order -/
def rLtD (K : PySem.W.Frag) : R2 := fun x y H Q => ∃ d e, Dp K H x d ∧ Dp K H y e ∧ alike d e = true ∧ d ≠ .none ∧ d.depth ≤ 64 ∧ Q (.bl (dataLt d e)) H
theorem op_ltD {X : Cx} (hu : X.A.units + 64 < cLine) : OpR X (compareOp .Lt) (rLtD X.K) := by
  intro pins s σ H x y v u Q I rx ry h
  obtain ⟨d, e, hd, he, al, nn, dp, q⟩ := h
  obtain ⟨as, r1⟩ := Dp.reads I d x v hd rx
  obtain ⟨bs, r2⟩ := Dp.reads I e y u he ry
  exact rcLt_alike d e _ s v u as bs r1 r2 al nn (by have : min d.depth e.depth ≤ d.depth := Nat.min_le_left _ _; omega) _ _ _ _ ⟨.bl _, H, I, rfl, q⟩
def ltL : D → D → Option D
  | .lst xs, .lst ys => match intsOf xs, intsOf ys with
    | some a, some b => some (.bl (decide (a < b)))
    | _, _ => none
  | _, _ => none
theorem toPys_ints (ns : List Int) : toPys (ns.map D.int) = some (ns.map PyData.int) := by
  induction ns with
  | nil => rfl
  | cons n ns ih => rw [List.map_cons, toPys, ih]; rfl
theorem lop_ltL {K : PySem.W.Frag} {cl : ClW} : LOp K cl (rLtD K) ltL := by
  intro F H M x y d e z Q Qd g hx hy h p q
  unfold ltL at h
  split at h
  · rename_i xs ys
    cases e1 : intsOf xs with
    | none => rw [e1] at h; cases h
    | some a =>
      cases e2 : intsOf ys with
      | none => rw [e1, e2] at h; cases h
      | some b =>
        rw [e1, e2] at h
        cases h
        have k1 : toPy (.lst xs) = some (.list (a.map .int)) := by rw [intsOf_eq e1, toPy, toPys_ints]; rfl
        have k2 : toPy (.lst ys) = some (.list (b.map .int)) := by rw [intsOf_eq e2, toPy, toPys_ints]; rfl
        refine ⟨_, _, dp_vw g.sub hx k1, dp_vw g.sub hy k2, by rw [alike]; exact alike_ints a b, (fun z => nomatch z), by rw [PyData.depth, depth_ints]; omega, ?_⟩
        rw [dataLt_list]
        have := dataLt_ints a b
        unfold rowLt at this
        rw [this]
        exact p.val g (.bl _) q
  · cases h
end DL

set_option Elab.async false
set_option linter.all false
set_option maxRecDepth 100000
set_option maxHeartbeats 4000000
set_option autoImplicit false
/-! f(lambda: e), f(lambda x=0: e): a thunk handed to a def that calls it. -/
namespace DL
open PySem PySem.Spec PyProof.Rows L2 LamX

abbrev lamFd (q : Str) (params : Arguments) (body : Expr) (scope : Scope) (clo : List (Str × Addr)) (dV doc pm cv ctv : Value) : FuncData := PySem.W.kdv_fn "<lambda>" q params (.expr body) scope clo dV doc pm cv ctv
/-- the defaults of a lambda: none, or one whole number -/
inductive LamDf (params : Arguments) (body : Expr) (scope : Scope) (env : PySem.Env) : Prop
  | no : defaultsOf params env = ([], []) → (∀ (q : Str) (cl : List (Str × Addr)) (pm cv ctv : Value), bindArgs (lamFd q params body scope cl .none .none pm cv ctv) ⟨[], []⟩ = pure []) → LamDf params body scope env
  | one (y : Str) (i : Int) (j : Nat) (p : Pos) : defaultsOf params env = ([eval (.Constant (.int i) j p) env], []) → scope.names.lookup y = some .local →
      (∀ (q : Str) (cl : List (Str × Addr)) (doc pm cv ctv : Value) (T : Addr) (t : Tok), ∃ k, bindArgs (lamFd q params body scope cl (.ref T) doc pm cv ctv) ⟨[], []⟩ = seqItems? (.ref T) >>= k ∧ k (some #[.int i t]) = pure [(y, .int i t)]) → LamDf params body scope env
/-- what was there, is there still -/
def KpO (fs : List Addr) (H : Hp) (s s2 : Shared) : Prop := ∀ b o, s.heap.get? b = some o → H b = none → b ∉ fs → s2.heap.get? b = some o
/-- called without arguments, fd binds -/
def BindsL (fs : List Addr) (H : Hp) (s : Shared) (scope : Scope) (fd : FuncData) : Prop := ∀ s2, KpO fs H s s2 → ∃ bs : List (Str × Value), (∀ b ∈ bs, scope.names.lookup b.1 = some .local) ∧
  ∀ (M : Model) (A : Around) (E : Value → Shared → Prop) (R : List (Str × Value) → Shared → Prop), R bs s2 → wpAny M A (bindArgs fd ⟨[], []⟩) R E s2
section
variable {X : Cx} {pins : List (Addr × Obj)} {σ : L2.St} {H : Hp} {s : Shared}
theorem lam_makeD {T : List (Addr × Str)} {c P : Addr} {params : Arguments} {body : Expr} {scope : Scope} {pos : Pos} {Q : Value → Shared → Prop} (I : Inv X pins σ H s) (TB : TabB X.base X.mg c P) (hcode : X.env.code = .ref c)
    (hm : (P, X.env.qual ++ "<lambda>") ∈ T) (hu : ∀ p ∈ T, p.1 = P → p.2 = X.env.qual ++ "<lambda>") (hT : Tabs T H) (df : LamDf params body scope X.env) (hfree : ∀ y ∈ scope.names, y.2 = .free → ∃ c, X.env.cells.lookup y.1 = some c)
    (h : ∀ (f c' : Addr) (dV doc pm ctv : Value) (H1 : Hp) (s' : Shared), Inv X pins σ H1 s' → ExtN H H1 → Tabs T H1 →
      s'.heap.get? f = some { cls := .type "function", data := .func (lamFd (X.env.qual ++ "<lambda>") params body scope (cloFrom X.env.cells scope.names []) dV doc pm (.ref c') ctv) } → H1 f = none → f ∉ frs X.stack → H1 c' = some (CodeO c' (X.env.qual ++ "<lambda>")) →
      BindsL (frs X.stack) H1 s' scope (lamFd (X.env.qual ++ "<lambda>") params body scope (cloFrom X.env.cells scope.names []) dV doc pm (.ref c') ctv) → Q (.ref f) s') :
    wpAny (model X.prog X.w) X.A (eval (.Lambda params body scope pos) X.env) Q X.xe s := by
  cases df with
  | no hdef hb =>
    refine lam_make2 I TB hcode hm hu hT hdef hfree fun f c' pm ctv H1 s' I1 e t hf hn hfr hc => h f c' .none .none pm ctv H1 s' I1 e t hf hn hfr hc fun s2 _ => ⟨[], (fun _ z => nomatch z), fun M A E R r => ?_⟩
    rw [hb]
    exact wpAny_pure r
  | one y i j p hdef hy hb =>
    obtain ⟨ps, hP0, ht, ha⟩ := hT _ hm
    rw [PySem.arm_eval_Lambda, hdef]
    show wpAny _ _ (do let dv ← evalAll [eval (.Constant (.int i) j p) X.env]; let kdv ← holding dv (evalAllOpt []); makeFunction "<lambda>" (X.env.qual ++ "<lambda>") params (.expr body) scope X.env dv kdv [] pos pos.line) _ _ s
    refine wpAny_bind (wpAny_evalAll_cons (thn ((pe_int (X := X) (i := i) (j := j) (pos := p)).run pins s σ H (fun v H' => v = .int i ∧ H' = H) I ⟨rfl, rfl⟩) fun u s0 ⟨v, H', I0, r0, ev, eH⟩ => wpAny_evalAll_nil ?_))
    subst ev eH
    obtain ⟨t, rfl⟩ := r0
    refine wpAny_bind (wpAny_holding (wpAny_pure ?_))
    rw [PySem.makeFunction_eq]
    simp only [List.zip_nil_right, List.filterMap_nil, List.isEmpty_nil, List.isEmpty_cons, if_true, pure_bind, Bool.false_eq_true, if_false]
    refine wpAny_bind (wpAny_newTextTuple ?_)
    have IT : Inv X pins σ H' { s0 with heap := s0.heap.push { cls := .type "tuple", data := .seq [Value.int i t].toArray } } := I0.kept (t' := s0.toks) fun b o e => Heap.get?_push_of_some _ e
    have bP : (s0.heap.push { cls := .type "tuple", data := .seq [Value.int i t].toArray }).BuiltinsAt X.mg P := TB.bm.keeps IT.bk
    have hP' := IT.hok P _ hP0
    have tT : (s0.heap.push { cls := .type "tuple", data := .seq [Value.int i t].toArray }).get? s0.heap.objs.size = some { cls := .type "tuple", data := .seq [Value.int i t].toArray } := Heap.get?_push_size _ rfl
    have nT : H' s0.heap.objs.size = none := I0.hok.fresh (Nat.le_refl _)
    have nofr0 : ∀ f, s0.heap.objs.size ≤ f → f ∉ frs X.stack := fun f hf z => by
      rcases List.mem_cons.mp (I0.stkSub _ z) with e | e
      · have h1 := I0.lt
        rw [← e] at h1
        exact Nat.lt_irrefl _ (Nat.lt_of_lt_of_le h1 hf)
      · exact I0.nofs hf e
    have sz0 : s0.heap.objs.size ≤ (s0.heap.push { cls := .type "tuple", data := .seq [Value.int i t].toArray }).objs.size := by rw [Heap.size_push]; omega
    have bind : ∀ {H1 : Hp} {s1 : Shared} {cl : List (Str × Addr)} {doc pm cv ctv : Value}, H1 s0.heap.objs.size = none → s1.heap.get? s0.heap.objs.size = some { cls := .type "tuple", data := .seq [Value.int i t].toArray } →
        BindsL (frs X.stack) H1 s1 scope (lamFd (X.env.qual ++ "<lambda>") params body scope cl (.ref s0.heap.objs.size) doc pm cv ctv) := fun {H1 s1 cl doc pm cv ctv} n1 g1 s2 kp => by
      refine ⟨[(y, .int i t)], fun b hb => by rw [List.mem_singleton.mp hb]; exact hy, fun M A E R r => ?_⟩
      obtain ⟨k, e1, e2⟩ := hb (X.env.qual ++ "<lambda>") cl doc pm cv ctv s0.heap.objs.size t
      rw [e1]
      refine wpAny_bind (wpAny_seqItems (kp _ _ g1 n1 (nofr0 _ (Nat.le_refl _))) rfl ?_)
      show wpAny _ _ (k (some #[.int i t])) _ _ _
      rw [e2]
      exact wpAny_pure r
    cases hc : codeAmong pos ps.toList with
    | none =>
      refine PySem.W.kdv_makeTail (mg := X.mg) (c := c) (P := P) (ps := ps) (closure_ok hfree) IT.ok.glob (IT.mod.glob.keeps IT.bk) hcode (TB.code.keeps IT.bk) hP' ht hc TB.gP bP fun c' ctv doc h' tk hx hge hlt hrec htb => ?_
      obtain ⟨c2, oc, vs, t2, e2, hoc, hd, hv⟩ := hrec
      cases e2
      have hsz : s0.heap.objs.size ≤ h'.objs.size := Nat.le_trans sz0 (Nat.le_trans hge (Nat.le_of_lt hlt))
      have nC : H' c' = none := IT.hok.fresh hge
      have I1 := inv_table (q := X.env.qual ++ "<lambda>") (t' := tk) (more := #[rawInt pos.line, rawInt pos.col, .ref c']) (h' := h'.push (PySem.W.kdv_obj "<lambda>" (X.env.qual ++ "<lambda>") params (.expr body) scope (cloFrom X.env.cells scope.names []) (.ref s0.heap.objs.size) doc ((X.mg "__name__").getD .none) c' ctv)) IT hP0
        (fun b o hb e => Heap.get?_push_of_some _ (hx b o hb e)) (Heap.get?_push_of_some _ htb) hge ⟨oc, vs, t2, Heap.get?_push_of_some _ hoc, hd, hv⟩
      have hE : ExtN H' (upd (upd H' P (.tbl (ps ++ #[rawInt pos.line, rawInt pos.col, .ref c']))) c' (CodeO c' (X.env.qual ++ "<lambda>"))) := fun b o e n => by
        rw [upd_ne (ne_of_none e nC), upd_ne (fun z => n ps (Option.some.inj (e.symm.trans (by rw [z]; exact hP0))))]
        exact e
      have eL : (ps ++ #[rawInt pos.line, rawInt pos.col, .ref c']).toList = ps.toList ++ [rawInt pos.line, rawInt pos.col, .ref c'] := by simp
      have nP : s0.heap.objs.size ≠ P := fun z => by rw [z, hP0] at nT; cases nT
      have n0 : s0.heap.objs.size ≠ c' := Nat.ne_of_lt (Nat.lt_of_lt_of_le (by rw [Heap.size_push]; omega) hge)
      refine h h'.objs.size c' (.ref s0.heap.objs.size) doc ((X.mg "__name__").getD .none) ctv _ _ I1 hE (fun p hp => ?_) (Heap.get?_push_size _ rfl) ?_ (nofr0 _ hsz) upd_same (bind (by rw [upd_ne n0, upd_ne nP]; exact nT) (Heap.get?_push_of_some _ (hx _ _ nP tT)))
      · by_cases hb : p.1 = P
        · rw [hu p hp hb, hb]
          refine ⟨_, by rw [upd_ne (ne_of_none hP0 nC), upd_same], by rw [eL]; exact PySem.TriplesOk_snoc _ _ _ _ ht, fun p' cv hcv => ?_⟩
          rw [eL] at hcv
          rcases among_app _ ht hcv with z | z
          · obtain ⟨c0, e1, e2⟩ := ha p' cv z
            exact ⟨c0, e1, hE _ _ e2 codeO_ne⟩
          · exact ⟨c', z, upd_same⟩
        · obtain ⟨ps', a1, a2, a3⟩ := hT p hp
          refine ⟨ps', by rw [upd_ne (ne_of_none a1 nC), upd_ne hb]; exact a1, a2, fun p' cv hcv => ?_⟩
          obtain ⟨c0, e1, e2⟩ := a3 p' cv hcv
          exact ⟨c0, e1, hE _ _ e2 codeO_ne⟩
      · have n1 : h'.objs.size ≠ c' := Nat.ne_of_gt hlt
        have n2 : h'.objs.size ≠ P := Nat.ne_of_gt (Nat.lt_of_lt_of_le (Heap.lt_size hP') (Nat.le_trans hge (Nat.le_of_lt hlt)))
        rw [upd_ne n1, upd_ne n2]
        exact I0.hok.fresh hsz
    | some cv =>
      obtain ⟨c', e, hco⟩ := ha pos cv hc
      subst e
      refine PySem.W.kdv_makeTailHit (mg := X.mg) (c := c) (P := P) (ps := ps) (closure_ok hfree) IT.ok.glob (IT.mod.glob.keeps IT.bk) hcode (TB.code.keeps IT.bk) hP' ht hc bP fun ctv doc h' tk hx hsz => ?_
      have I1 : Inv X pins σ H' { s0 with heap := h'.push (PySem.W.kdv_obj "<lambda>" (X.env.qual ++ "<lambda>") params (.expr body) scope (cloFrom X.env.cells scope.names []) (.ref s0.heap.objs.size) doc ((X.mg "__name__").getD .none) c' ctv), toks := tk } := IT.kept (t' := tk) fun b o e => Heap.get?_push_of_some _ (hx b o e)
      exact h h'.objs.size c' (.ref s0.heap.objs.size) doc ((X.mg "__name__").getD .none) ctv H' _ I1 (ExtN.refl H') hT (Heap.get?_push_size _ rfl) (I0.hok.fresh (Nat.le_trans sz0 hsz)) (nofr0 _ (Nat.le_trans sz0 hsz)) hco (bind nT (Heap.get?_push_of_some _ (hx _ _ tT)))
end
/-! ### the lambda's names: captured ones, globals, and parameters that the maker does not know -/
structure LamS2 (N : List Str) (sc scope : Scope) : Prop where
  kind : scope.kind = .function
  co : scope.isCoroutine = false
  gen : scope.isGenerator = false
  own : ∀ y ∈ scope.names, y.2 ≠ .cell ∧ (y.2 = .local → y.1 ∉ N)
  free : ∀ y ∈ scope.names, y.2 = .free → sc.names.lookup y.1 = some .cell ∨ sc.names.lookup y.1 = some .free
def lamSB2 (N : List Str) (sc scope : Scope) : Bool :=
  decide (scope.kind = .function) && !scope.isCoroutine && !scope.isGenerator && scope.names.all fun y => !decide (y.2 = .cell) && (!decide (y.2 = .local) || !decide (y.1 ∈ N)) && (!decide (y.2 = .free) || decide (sc.names.lookup y.1 = some .cell) || decide (sc.names.lookup y.1 = some .free))
theorem lamS2_by {N : List Str} {sc scope : Scope} (h : lamSB2 N sc scope = true) : LamS2 N sc scope := by
  unfold lamSB2 at h
  simp only [Bool.and_eq_true, Bool.or_eq_true, Bool.not_eq_true', decide_eq_true_eq, decide_eq_false_iff_not, List.all_eq_true] at h
  obtain ⟨⟨⟨h1, h2⟩, h3⟩, h4⟩ := h
  refine ⟨h1, h2, h3, fun y hy => ⟨(h4 y hy).1.1, fun e => ?_⟩, fun y hy e => ?_⟩
  · rcases (h4 y hy).1.2 with z | z
    · exact absurd e z
    · exact z
  · rcases (h4 y hy).2 with (z | z) | z
    · exact absurd e z
    · exact .inl z
    · exact .inr z
theorem LamS2.has {X : Cx} {scope : Scope} (L : LamS2 X.N X.env.scope scope) (ok : X.Ok) : ∀ y ∈ scope.names, y.2 = .free → ∃ c, X.env.cells.lookup y.1 = some c := fun y hy e => by
  rcases L.free y hy e with k | k
  · exact ok.has _ (.inl k)
  · exact ok.has _ (.inr k)
section
variable {X : Cx} {pins : List (Addr × Obj)} {σ : L2.St} {H HZ : Hp} {s s1 : Shared}
theorem lam_startD {A : Around} {outer : List PySem.Env} {E : XK} {scope : Scope} {f c' : Addr} {h₁ : Heap} {tk : Nat} {mm : Str → Option Value} (I : Inv X pins σ H s) (L : LamS2 X.N X.env.scope scope) (e0 : Env0 X.prog X.w X.K X.mg X.base A outer s1 HZ) (hd : A.handled = none)
    (un : Un (frs X.stack) [] H HZ s.heap s1.heap) (hns : h₁.Ns s1.heap.objs.size mm) (kp : ∀ b o, s1.heap.get? b = some o → h₁.get? b = some o) :
    Inv (lamCx X A outer s1 HZ E scope f c') [] σ HZ { s1 with heap := h₁, toks := tk } := by
  have hfree := L.has I.ok
  have cm : ∀ {y c}, (cloFrom X.env.cells scope.names []).lookup y = some c → X.env.cells.lookup y = some c := fun {y c} e => by
    rcases cloFrom_mem (PySem.mem_of_lookup e) with hm | ⟨h1, h2⟩
    · cases hm
    · obtain ⟨c1, hc⟩ := hfree _ h1 rfl
      have hc : X.env.cells.lookup y = some c1 := hc
      have e2 : c = c1 := by
        rw [h2, hc] <;> rfl
      rw [e2]
      exact hc
  have look : ∀ {y}, scope.names.lookup y = some .free → ∃ c, (cloFrom X.env.cells scope.names []).lookup y = some c := fun {y} hl => by
    have hy : (y, NameKind.free) ∈ scope.names := PySem.mem_of_lookup hl
    exact mem_lookup (cloFrom_has (cells := X.env.cells) (acc := []) hy)
  have cellK : ∀ {c : Addr} {v : Option Value}, H c = none → s.heap.IsCell c v → h₁.IsCell c v := fun {c v} n ⟨o, ho, hd⟩ => by
    obtain ⟨sl, q⟩ := un.any ho n (by simp)
    exact ⟨_, kp _ _ q, hd⟩
  have noA : ∀ b : Addr, b ∉ (lamCx X A outer s1 HZ E scope f c').ex := fun b z => absurd (show b ∈ ([] : List Addr) from z) (by simp)
  refine ⟨⟨e0.mod, L.kind, rfl, rfl, Nat.le_refl _, fun y z c e1 e2 => I.ok.inj y z c (cm e1) (cm e2), fun y hy => ?_, fun y c z _ => ?_, fun _ => hd, Around.frames_deeper e0.frames, .inr ⟨rfl, rfl⟩, fun b z => absurd z (noA b), e0.bs, e0.bsz, fun b _ _ => noA b,
      fun b z => absurd z (noA b), e0.funs, e0.frf⟩,
    rfl, e0.bare, Un.kept kp, ⟨_, hns, fun i y v e1 e2 e3 => ?_⟩, fun y c e => ?_, e0.hok.fresh (Nat.le_refl _), fun y c e => ?_, fun q hq => absurd (show q ∈ ([] : List (Addr × Obj)) ++ [] from hq) (by simp), e0.hok.kept kp, I.len⟩
  · have hy : scope.names.lookup y = some .cell ∨ scope.names.lookup y = some .free := hy
    rcases hy with hy | hy
    · exact absurd rfl (L.own _ (PySem.mem_of_lookup hy)).1
    · exact look hy
  · have z : false = true := z
    cases z
  · have e3 : Vis scope y := e3
    rcases e3 with k | k | k
    · exact absurd (List.mem_of_getElem? (show X.N[i]? = some y from e1)) ((L.own _ (PySem.mem_of_lookup k)).2 rfl)
    · exact absurd rfl (L.own _ (PySem.mem_of_lookup k)).1
    · obtain ⟨m, hn, hl⟩ := I.loc
      have hvis : Vis X.env.scope y := (L.free _ (PySem.mem_of_lookup k) rfl).elim (fun k => .inr (.inl k)) (fun k => .inr (.inr k))
      obtain ⟨w', r, q⟩ := hl i y v e1 e2 hvis
      obtain ⟨c2, h2⟩ := look k
      refine ⟨w', r, .inr ⟨.inr k, c2, h2, ?_⟩⟩
      have c1 := cm h2
      rcases q with ⟨k', _⟩ | ⟨_, c3, e', z⟩
      · have k' : X.env.scope.names.lookup y = some .local := k'
        rcases L.free _ (PySem.mem_of_lookup k) rfl with k2 | k2 <;> rw [show X.env.scope.names.lookup y = _ from k2] at k' <;> cases k'
      · rw [c1] at e'
        cases e'
        exact cellK (I.freeC y _ c1) z
  · obtain ⟨w', z⟩ := I.cell y c (cm e)
    exact ⟨w', cellK (I.freeC y c (cm e)) z⟩
  · obtain ⟨v, o, ho, hd⟩ := I.cell y c (cm e)
    exact un.free c o ho (I.freeC y c (cm e)) (by simp)
end
/-- the slots as two rows -/
theorem slots_pack {K : PySem.W.Frag} {cl : ClW} {F0 : Hp} : ∀ {ρ : DL.Env} {σ : L2.St}, Slots K cl F0 σ ρ → ∃ vs ds, Reps K cl F0 vs ds ∧ ∀ F, Reps K cl F vs ds → Slots K cl F σ ρ
  | [], σ, h => ⟨[], [], .nil, fun F _ => ⟨h.len, fun i d e => by simp at e⟩⟩
  | o :: ρ, [], h => by have := h.len; simp at this
  | o :: ρ, u :: σ, h => by
    obtain ⟨vs, ds, r, k⟩ := slots_pack (ρ := ρ) (σ := σ) ⟨by have := h.len; simpa using this, fun i d e => by
      have := h.get (i + 1) d (by simpa using e)
      simpa using this⟩
    cases o with
    | none =>
      refine ⟨vs, ds, r, fun F rF => ⟨h.len, fun i d e => ?_⟩⟩
      cases i with
      | zero => simp at e
      | succ i =>
        have := (k F rF).get i d (by simpa using e)
        simpa using this
    | some d0 =>
      obtain ⟨v, e1, r1⟩ := h.get 0 d0 rfl
      obtain rfl : u = some v := by simpa using e1
      refine ⟨v :: vs, d0 :: ds, .cons r1 r, fun F rF => ?_⟩
      obtain ⟨v2, ws, e2, r2, r3⟩ := rF.inv
      obtain ⟨rfl, rfl⟩ := List.cons.inj e2
      refine ⟨h.len, fun i d e => ?_⟩
      cases i with
      | zero =>
        simp at e
        subst e
        exact ⟨v, rfl, r2⟩
      | succ i =>
        have := (k F r3).get i d (by simpa using e)
        simpa using this
/-- what a thunk does -/
abbrev THD := Mem → DV → DEK → Prop
/-- the thunk in the slot i is called -/
def dAct (i : Nat) (d0 : D) (TH : THD) : DTE := fun ρ M Q X => ρ[i]? = some (some d0) ∧ TH M Q (fun c ns es M2 => X c ns es ρ M2)
theorem Rep.toThk {K : PySem.W.Frag} {cl : ClW} {F : Hp} {v : V} {f c : Addr} {q : Str} {vs : List V} {ds : List D} (h : Rep K cl F v (.thk f c q vs ds)) : v = .ref f ∧ F c = some (CodeO c q) ∧ Reps K cl F vs ds := by
  cases h with
  | thk h1 h2 => exact ⟨rfl, h1, h2⟩
section
variable {cl : ClW} {X : Cx} {pins : List (Addr × Obj)} {σ : L2.St} {H : Hp} {s : Shared}
theorem d_act {Eg : XK} {Ng : List Str} {qg : Str} {sg : Scope} {g f c' : Addr} {cdg dV doc pm ctv : Value} {params : Arguments} {body : Expr} {scope : Scope} {k i : Nat} {a : Str} {pn : List (Addr × Obj)} {xe : Value → Shared → Prop} {W : WX} {τ : DTE} {p1 p2 : Pos} {vs : List V} {ds : List D} {ρ0 : DL.Env}
    (I : Inv X pins σ H s) (L : LamS2 X.N X.env.scope scope) (hf : s.heap.get? f = some { cls := .type "function", data := .func (lamFd (X.env.qual ++ "<lambda>") params body scope (cloFrom X.env.cells scope.names []) dV doc pm (.ref c') ctv) }) (hfn : H f = none) (hfr : f ∉ frs X.stack)
    (hb : BindsL (frs X.stack) H s scope (lamFd (X.env.qual ++ "<lambda>") params body scope (cloFrom X.env.cells scope.names []) dV doc pm (.ref c') ctv)) (pk : ∀ F, Reps X.K cl F vs ds → Slots X.K cl F σ ρ0)
    (cZ : Cap ((cxOf (L2.CX X.prog X.w) X.prog X.w X.K X.mg X.base Ng qg sg g cdg X.A X.stack s H Eg).tr pn xe) W (k + 1))
    (hbody : ∀ (A : Around) (outer : List PySem.Env) (s : Shared) (H : Hp) (E : XK), Cap (lamCx X A outer s H E scope f c') (fun cls d _ H => E cls d H) k → DE cl (lamCx X A outer s H E scope f c') (fun cls d _ H => E cls d H) body τ)
    (hN : Ng[i]? = some a) (hv : Vis sg a) (hd : (a == ("__debug__" : Str)) = false := by decide) (hcd : (a == ("__classdict__" : Str)) = false := by decide) :
    DE cl ((cxOf (L2.CX X.prog X.w) X.prog X.w X.K X.mg X.base Ng qg sg g cdg X.A X.stack s H Eg).tr pn xe) W (.Call (.Name a p1) [] [] p2) (dAct i (.thk f c' (X.env.qual ++ "<lambda>") vs ds) (fun M Q E => τ ρ0 M Q (fun c ns es _ M2 => E c ns es M2))) := by
  refine ⟨⟨fun pinsZ sZ σZ HZ Q IZ ⟨F, ρ, M, Qd, Xd, gd, sl, ⟨h1, t⟩, p, w⟩ => ?_⟩⟩
  obtain ⟨v, e1, rv⟩ := sl.get i _ h1
  obtain ⟨rfl, hcF, rds⟩ := rv.toThk
  have hcZ : HZ c' = some (CodeO c' (X.env.qual ++ "<lambda>")) := gd.sub _ _ hcF
  refine wpAny_Call_Name_kw (thn ((pe_var (pos := p1) (i := i) hN hv hd hcd).run pinsZ sZ σZ HZ (fun v H1 => v = .ref f ∧ H1 = HZ) IZ ⟨.ref f, e1, rfl, rfl⟩) fun u s1 ⟨v, H1, I1, r1, q1⟩ => ?_)
  obtain ⟨ev, eH⟩ := q1
  subst ev
  rw [eH] at I1
  obtain rfl : u = Value.ref f := r1
  have kpF : KpO (frs X.stack) H s s1 := fun b o e1 e2 e3 => I1.base.keep b o e1 e2 e3 (fun z => nomatch (show b ∈ ([] : List Addr) from z))
  have of1 := kpF f _ hf hfn hfr
  refine PySem.W.callWith_F0 ⟨_, _, _, _, of1⟩ ?_
  have un : Un (frs X.stack) [] H HZ s.heap s1.heap := I1.base
  obtain ⟨⟨oc, vs2, t2, hoc, hdc, hvc⟩, _, _⟩ := I1.hok c' _ hcZ
  have hr := cZ.hr
  have rc : codeAny (model X.prog X.w) (X.A.deeper (envOfC qg sg s.heap.objs.size g cdg)) (.call (.ref f) ⟨[], []⟩) (CR (L2.CX X.prog X.w) (envOfC qg sg s.heap.objs.size g cdg :: X.stack) X.prog X.w HZ s1 Q (WE W σZ)) s1 := by
    refine PySem.W.kla_callFunE hr.room.depth of1 rfl L.co L.gen rfl ⟨c', oc, vs2, t2, rfl, hoc, hdc, hvc⟩ ?_
    obtain ⟨bs, hbs, hbr⟩ := hb s1 kpF
    refine hbr _ _ _ _ (wpAny_newFunctionEnv (fun y hy => (L.own y hy).1) hbs (fun h₁ hns hsb => ⟨I1.nolimit.fresh _ hsb, ?_⟩) L.kind)
    show codeAny _ _ (.expr body (lamEnv X scope s1.heap.objs.size f c')) _ _
    have kp : ∀ b o, s1.heap.get? b = some o → h₁.get? b = some o := fun b o e => hsb.extBut b o (Nat.ne_of_lt (Heap.lt_size e)) (Heap.get?_push_of_some _ e)
    have J : Inv (lamCx X (X.A.deeper (envOfC qg sg s.heap.objs.size g cdg)) (envOfC qg sg s.heap.objs.size g cdg :: X.stack) s1 HZ (WE W σZ) scope f c') [] σ HZ { s1 with heap := h₁, toks := s1.toks + bs.length } :=
      lam_startD I L I1.env0 hr.room.hd un hns kp
    have hq : lowE X.K cl (fun cls d _ H => WE W σZ cls d H) τ σ HZ Q := ⟨F, ρ0, M, Qd, _, gd, pk F rds, t, p, fun c ns es σ' H' F' ρ' M' dd sm g' s' ea q' => w c ns es σZ H' F' ρ M' dd sm g' (sl.mono sm) ea q'⟩
    refine PySem.W.kla_codeExpr (wpAny_mono ((hbody _ _ s1 HZ (WE W σZ) ⟨takes_of rfl rfl rfl rfl, hr.deeper _, passes_of rfl, rfl⟩).pe.run [] _ _ HZ Q J hq) (fun v s' hq => ?_) fun e s' hq => hq)
    obtain ⟨w', H', J', rv, q⟩ := hq
    exact ⟨w', H', J'.os, J'.bare, J'.base, J'.hok, rv, q⟩
  refine wpAny_call (codeAny_mono rc fun r s' hq => ?_)
  cases r with
  | error e => exact passAt cZ.tk σZ pinsZ HZ s1 e s' I1 hq
  | ok fl =>
    cases fl with
    | ret u => exact I1.after hq
    | next => exact False.elim hq
    | brk => exact False.elim hq
    | cont => exact False.elim hq
end
/-! ### a def that is given a thunk -/
def FnTG (cl : ClW) (P : Program) (w : World) (K : PySem.W.Frag) (mg : Str → Option Value) (base : Heap) (k : Nat) (g : Addr) (fd : FuncData) (a : Str) (spT : THD → THD) : Prop :=
  ∀ (A : Around) (outer : List PySem.Env) (s : Shared) (H : Hp) (args : Args) (f : Addr) (Q : VK) (E : XK) (d0 : D) (TH : THD) (F0 : Hp) (M : Mem) (Qd : DV) (Ed : DEK), RoomG (k + 1) A → Env0 P w K mg base A outer s H → BindsTo s fd args ([a].zip [.ref f]) → Good K cl F0 H M → Rep K cl F0 (.ref f) d0 →
    (∀ (Ng : List Str) (qg : Str) (sg : Scope) (cdg : Value) (Eg : XK) (W : WX) (pn : List (Addr × Obj)) (xe : Value → Shared → Prop) (p1 p2 : Pos), Cap ((cxOf (L2.CX P w) P w K mg base Ng qg sg g cdg A outer s H Eg).tr pn xe) W k → Ng[0]? = some a → Vis sg a →
      DE cl ((cxOf (L2.CX P w) P w K mg base Ng qg sg g cdg A outer s H Eg).tr pn xe) W (.Call (.Name a p1) [] [] p2) (dAct 0 d0 TH)) →
    spT TH M Qd Ed → Post K cl F0 Q Qd → EOk K cl F0 E Ed → codeAny (model P w) A (.call (.ref g) args) (CR (L2.CX P w) outer P w H s Q E) s
/-- the def x keeps the promise spT, whatever its thunk does -/
def FnTB (cl : ClW) (P : Program) (w : World) (K : PySem.W.Frag) (mg : Str → Option Value) (base : Heap) (k : Nat) (x a : Str) (spT : THD → THD) : Prop :=
  ∃ g fd, mg x = some (.ref g) ∧ PySem.W.keepIn K (.ref g) = true ∧ Binds K fd [a] [] ∧ FnTG cl P w K mg base k g fd a spT
section
variable {cl : ClW} {P : Program} {w : World} {K : PySem.W.Frag} {mg : Str → Option Value} {base : Heap} {k : Nat} {f : Addr} {x qual a : Str} {params : Arguments} {body : List Stmt} {scope : Scope} {fd : FuncData} {N : List Str} {spT : THD → THD} {t : D → THD → DTS}
theorem fn_dT (F : FunD K x qual params body scope [] [] f fd) (S : FnScope N [a] scope) (hN : N[0]? = some a) (hv : Vis scope a)
    (hbody : ∀ (cdv : Value) (A : Around) (outer : List PySem.Env) (s : Shared) (H : Hp) (E : XK) (d0 : D) (TH : THD), Cap (cxOf (L2.CX P w) P w K mg base N qual scope f cdv A outer s H E) (fun cls d _ H => E cls d H) k →
      (∀ (W : WX) (pn : List (Addr × Obj)) (xe : Value → Shared → Prop) (p1 p2 : Pos), Cap ((cxOf (L2.CX P w) P w K mg base N qual scope f cdv A outer s H E).tr pn xe) W k → DE cl ((cxOf (L2.CX P w) P w K mg base N qual scope f cdv A outer s H E).tr pn xe) W (.Call (.Name a p1) [] [] p2) (dAct 0 d0 TH)) →
      DSs cl (cxOf (L2.CX P w) P w K mg base N qual scope f cdv A outer s H E) (fun cls d _ H => E cls d H) body (t d0 TH))
    (hsp : ∀ d0 TH M Q E, spT TH M Q E → t d0 TH (dEnds Q E) (startD N [d0]) M) : FnTG cl P w K mg base k f fd a spT := by
  intro A outer s H args fa Q E d0 TH F0 M0 Qd Ed hr e0 hb g0 r0 act q0 p0 ep0
  obtain ⟨oc, od, dV, kV, doc, pm, an, cdv, ct, osl, rfl, lk, hcd, _, _⟩ := F.ex
  have hr' := hr.deeper (PyProof.Rows.envOfC qual scope s.heap.objs.size f cdv)
  have KX : K.In s.heap := e0.mod.kin.keeps fun b o e => (e0.bs b o e).1
  have lim : s.heap.NoLimit := e0.mod.nolimit.keeps fun b o e => (e0.bs b o e).1
  have hkind : ∀ y ∈ [a].zip [Value.ref fa], scope.names.lookup y.1 = some .local ∨ (scope.names.lookup y.1 = some .cell ∧ ((cellsFrom (s.heap.objs.size + 1) scope.names []).lookup y.1).isSome = true) := fun ⟨n, v⟩ hy => by
    rcases S.par n (List.of_mem_zip hy).1 with q | q
    · exact .inl q
    · exact .inr ⟨q, PySem.W.cellsFrom_some _ _ _ (.inl q)⟩
  refine codeAny_call_function hr.room.depth (KX _ _ lk) rfl S.co S.gen rfl (PySem.W.codeRec_of KX hcd) (hb _ _ _ _ ?_)
  refine wpAny_newFunctionEnv_cells S.kind hkind fun env he s1 x => ?_
  subst he
  refine ⟨lim.keeps x.toInCall.keep, codeAny_func ?_⟩
  have ht := hbody cdv A outer s H E d0 TH ⟨takes_of rfl rfl rfl rfl, hr', passes_of rfl, rfl⟩ fun W pn xe p1 p2 cZ => act N qual scope cdv E W pn xe p1 p2 cZ hN hv
  have rv : Vals [V.ref fa] [Value.ref fa] := .cons rfl .nil
  have I : Inv (cxOf (L2.CX P w) P w K mg base N qual scope f cdv A outer s H E) [] (L2.start N [V.ref fa]) H s1 := inv_start S hr.room.hd e0 rfl rv x
  have hq : lowS K cl (fun cls d _ H => E cls d H) (t d0 TH) { nx := fun _ H' => Q .non H', rt := Q } (L2.start N [V.ref fa]) H :=
    ⟨F0, startD N [d0], M0, dEnds Qd Ed, g0, slots_start N (.cons r0 .nil), hsp d0 TH M0 Qd Ed q0,
      ⟨fun σ' H' F' ρ' M' sm g' s' q' => p0 _ _ _ _ _ sm g' .non q', p0, fun _ _ _ _ _ _ _ _ q' => q', fun _ _ _ _ _ _ _ _ q' => q', fun c ns ds σ' H' F' ρ' M' dd sm g' s' ea q' => ep0 _ _ _ _ _ _ _ sm g' ea q'⟩⟩
  refine wpAny_mono (ht.pss.run [] s1 (L2.start N [V.ref fa]) H _ I hq) (fun fl s' hs => ?_) fun e s' hs => hs
  have fin : ∀ {σ' : L2.St} {H' : Hp} {v : V} {u : Value}, Inv (cxOf (L2.CX P w) P w K mg base N qual scope f cdv A outer s H E) [] σ' H' s' → RelV v u → Q v H' → CE outer P w H s Q u s' :=
    fun {σ' H' v u} J rv q => ⟨v, H', J.os, J.bare, J.base, J.hok, rv, q⟩
  cases fl with
  | ret u =>
    obtain ⟨v, σ', H', J, rv, q⟩ := hs
    exact fin J rv q
  | next =>
    obtain ⟨σ', H', J, q⟩ := hs
    exact fin (v := V.non) (u := Value.none) J rfl q
  | brk =>
    obtain ⟨_, _, _, q⟩ := hs
    exact False.elim q
  | cont =>
    obtain ⟨_, _, _, q⟩ := hs
    exact False.elim q
end
/-! ### x(lambda: e) -/
def dThk (spT : THD → THD) (τ : DTE) : DTE := fun ρ M Q X => spT (fun M' Q' E' => τ ρ M' Q' (fun c ns es _ M2 => E' c ns es M2)) M Q (fun c ns es M2 => X c ns es ρ M2)
theorem Good.code {K : PySem.W.Frag} {cl : ClW} {F H : Hp} {M : Mem} (g : Good K cl F H M) {c : Addr} {q : Str} (hc : H c = some (CodeO c q)) : Same F (upd F c (CodeO c q)) ∧ Good K cl (upd F c (CodeO c q)) H M := by
  have sm : Same F (upd F c (CodeO c q)) := fun b o e => by
    by_cases h : b = c
    · subst h
      have := g.sub _ _ e
      rw [hc] at this
      rw [upd_same]
      exact this
    · rw [upd_ne h]; exact e
  refine ⟨sm, fun b o e => ?_, fun b d h => ?_, g.tab, fun b ps e => ?_⟩
  · by_cases h : b = c
    · subst h
      rw [upd_same] at e
      rw [hc]
      exact e
    · rw [upd_ne h] at e
      exact g.sub _ _ e
  · obtain ⟨h1, h2⟩ := g.cell b d h
    obtain ⟨o, k1, _, k3⟩ := h2.plain
    have hb : b ≠ c := fun z => by
      rw [z, hc] at k1
      exact k3 _ _ (Option.some.inj k1).symm
    exact ⟨by rw [upd_ne hb]; exact h1, h2.mono sm fun o e => e⟩
  · by_cases h : b = c
    · subst h
      rw [upd_same] at e
      exact codeO_ne ps (Option.some.inj e)
    · rw [upd_ne h] at e
      exact g.noT b ps e
section
variable {cl : ClW} {X : Cx} {W : WX} {k : Nat} {x a : Str} {spT : THD → THD} {τ : DTE} {params : Arguments} {body : Expr} {scope : Scope} {cc P : Addr} {p pos lpos : Pos}
theorem d_lamcall (c : Cap X W (k + 2)) (G : FnTB cl X.prog X.w X.K X.mg X.base (k + 1) x a spT) (hg : Gl X x) (TB : TabB X.base X.mg cc P) (hcode : X.env.code = .ref cc) (hmT : (P, X.env.qual ++ "<lambda>") ∈ tabsOf cl) (hu : ∀ p ∈ tabsOf cl, p.1 = P → p.2 = X.env.qual ++ "<lambda>")
    (L : LamS2 X.N X.env.scope scope) (df : LamDf params body scope X.env)
    (hbody : ∀ (A : Around) (outer : List PySem.Env) (s : Shared) (H : Hp) (E : XK) (f c' : Addr), Cap (lamCx X A outer s H E scope f c') (fun cls d _ H => E cls d H) k → DE cl (lamCx X A outer s H E scope f c') (fun cls d _ H => E cls d H) body τ)
    (hdb : (x == ("__debug__" : Str)) = false := by decide) (hd : (a == ("__debug__" : Str)) = false := by decide) (hcd : (a == ("__classdict__" : Str)) = false := by decide) :
    DE cl X W (.Call (.Name x p) [.Lambda params body scope lpos] [] pos) (dThk spT τ) := by
  obtain ⟨g, fd, hm, hk, hbd, G⟩ := G
  refine ⟨⟨fun pins s σ H Q I ⟨F, ρ, M, Qd, Xd, gd, sl, t, pq, w⟩ => ?_⟩⟩
  refine wpAny_Call_Name_kw (ld_glob I hg hm ?_ hdb)
  refine PySem.W.callWith_K (h₀ := X.base) I.ok.mod.kin hk ?_ (by rfl) (by rfl)
  show wpAny _ _ (spliced ((false, eval (.Lambda params body scope lpos) X.env) :: backTo pos (starEach [] X.env))) _ _ s
  refine Calls.spliced_cons (lam_makeD I TB hcode hmT hu gd.tab df (L.has I.ok) fun f c' dV doc pm ctv H1 s' I1 eN T1 hf hfn hfr hco hbl => ?_)
  refine Calls.spliced_nil ⟨I1.kIn, ?_⟩
  obtain ⟨sm, g2⟩ := (gd.extN eN T1).code hco
  obtain ⟨vs, ds, rds, pk⟩ := slots_pack sl
  have rc := G X.A X.stack s' H1 ⟨[.ref f], []⟩ f Q (WE W σ) (.thk f c' (X.env.qual ++ "<lambda>") vs ds) (fun M' Q' E' => τ ρ M' Q' (fun c ns es _ M2 => E' c ns es M2)) _ M Qd (fun c ns es M2 => Xd c ns es ρ M2) c.hr I1.env0 (hbd s' [.ref f] I1.kIn rfl) g2 (.thk upd_same (rds.mono sm))
    (fun Ng qg sg cdg Eg W' pn xe p1 p2 cZ hN hv => d_act I1 L hf hfn hfr hbl pk cZ (fun A outer s H E cp => hbody A outer s H E f c' cp) hN hv hd hcd) t (pq.mono sm)
    (fun c ns ds' H' F' M' dd sm' g' ea q' => w c ns ds' σ H' F' ρ M' dd (sm.trans sm') g' (sl.mono (sm.trans sm')) ea q')
  refine wpAny_call (codeAny_mono rc fun r s2 hq => ?_)
  cases r with
  | error e => exact passAt c.tk σ pins H1 s' e s2 I1 hq
  | ok fl =>
    cases fl with
    | ret u => exact I1.after hq
    | next => exact False.elim hq
    | brk => exact False.elim hq
    | cont => exact False.elim hq
end
/-- a def's core, given a thunk -/
def FnTC (cl : ClW) (P : Program) (w : World) (K : PySem.W.Frag) (mg : Str → Option Value) (base : Heap) (k : Nat) (x qual : Str) (params : Arguments) (body : List Stmt) (scope : Scope) (f : Addr) (a : Str) (spT : THD → THD) : Prop :=
  ∃ fd, FunD K x qual params body scope [] [] f fd ∧ FnTG cl P w K mg base k f fd a spT
theorem FnTC.thk {cl : ClW} {P : Program} {w : World} {K : PySem.W.Frag} {mg : Str → Option Value} {base : Heap} {k : Nat} {x qual : Str} {params : Arguments} {body : List Stmt} {scope : Scope} {f : Addr} {a : Str} {spT : THD → THD}
    (C : FnTC cl P w K mg base k x qual params body scope f a spT) {y : Str} (hm : mg y = some (.ref f)) (hb : HBind x qual params body scope [a]) : FnTB cl P w K mg base k y a spT := by
  obtain ⟨fd, F, G⟩ := C
  exact ⟨f, fd, hm, F.kp, F.bindsN hb, G⟩
end DL

set_option Elab.async false
set_option linter.all false
set_option maxRecDepth 100000
set_option maxHeartbeats 4000000
set_option autoImplicit false
/-! min of three whole numbers -/
namespace DL
open PySem L2
theorem reps3 {K : PySem.W.Frag} {cl : ClW} {F : Hp} {M : Mem} {H : Hp} (g : Good K cl F H M) {xs : List V} {ds : List D} {d e' f' : D} (r : Reps K cl F xs ds) (e : ds.map (vw M) = [d, e', f']) : ∃ x y z, xs = [x, y, z] ∧ Vw K cl F H x d ∧ Vw K cl F H y e' ∧ Vw K cl F H z f' := by
  cases ds with
  | nil => cases e
  | cons d0 ds =>
    obtain ⟨e1, e2⟩ := List.cons.inj e
    obtain ⟨x, ws, rfl, r1, r2⟩ := r.inv
    obtain ⟨y, z, rfl, h1, h2⟩ := reps2 g r2 e2
    exact ⟨x, y, z, rfl, by rw [← e1]; exact vw_ok g r1, h1, h2⟩
def minF3 : List D → Option D
  | [.int i, .int j, .int k] => some (.int (min (min i j) k))
  | _ => none
theorem lc_min3 {K : PySem.W.Frag} {cl : ClW} : LCall K cl (rNuC3 nuMin3) minF3 := by
  intro F H M xs ds z Q Qd g r h p q
  generalize e : ds.map (vw M) = es at h
  unfold minF3 at h
  split at h
  · rename_i i j k
    cases h
    obtain ⟨x, y, z, rfl, h1, h2, h3⟩ := reps3 g r e
    obtain rfl := h1.int; obtain rfl := h2.int; obtain rfl := h3.int
    refine ⟨_, _, _, .int (min (min i j) k), rfl, ?_, p.val g (.int _) q⟩
    have two : ∀ a b : Int, nuMin2 (.int a) (.int b) = some (.int (min a b)) := fun a b => by
      show some (if decide (b < a) = true then V.int b else V.int a) = _
      by_cases h : b < a
      · rw [decide_eq_true h, if_pos rfl, Int.min_eq_right (by omega)]
      · rw [decide_eq_false h, if_neg (by simp), Int.min_eq_left (by omega)]
    show (nuMin2 (.int i) (.int j)).bind (fun m => nuMin2 m (.int k)) = _
    rw [two]
    exact two _ _
  · cases h
/-! ### repr of any plain data, dicts too -/
def reprA : List D → Option D
  | [.dK ks xs] => shG (.dK ks xs)
  | ds => reprF ds
section
variable {K : PySem.W.Frag} {cl : ClW} {X : Cx}
def rReprX (K : PySem.W.Frag) (cl : ClW) : List V → Hp → VK → Prop := fun xs H Q => ∃ a d p, xs = [.ref a] ∧ Rep K cl H (.ref a) d ∧ toPyX d = some p ∧ p.showable = true ∧ p.depth ≤ 100 ∧ p.shown.length ≤ sizeLine ∧ Q (.str p.shown) H
theorem call_reprX (sm : SmOk X.K) (un : X.A.units + 200 < cLine) (gd : X.A.guards = some []) : CallR X (.builtin "repr") (rReprX X.K cl) := by
  intro pins s σ H xs us Q I r ⟨a, d, p, e, hr, hp, hs, hd, hz, q⟩
  subst e
  obtain ⟨u, rfl, ru⟩ := vals1 r
  obtain ⟨as, rd, ns⟩ := reads_of I sm hr ru hp
  obtain rfl : u = Value.ref a := ru
  exact PySem.repr_of_reads' rd hs (fun _ => ns) gd (by omega) (fun _ _ e => e) (fun h' t tk kp => ⟨.str _, H, I.kept (t' := tk) kp, ⟨_, rfl⟩, q⟩) hz
theorem lc_reprA {R : List V → Hp → VK → Prop} (lc : LCall K cl R reprF) : LCall K cl (fun xs H Q => R xs H Q ∨ rReprX K cl xs H Q) reprA := by
  intro F H M xs ds z Q Qd g r h p q
  by_cases hk : ∃ ks ys, ds.map (vw M) = [.dK ks ys]
  · obtain ⟨ks, ys, e⟩ := hk
    rw [e] at h
    obtain ⟨v, rfl, hw⟩ := reps1 g r e
    obtain ⟨a, vs, rfl, h1, h0, h2⟩ := hw.dK g.sub
    obtain ⟨pd, e1, e2, e3, e4, rfl⟩ := shG_some (show shG (.dK ks ys) = some z from h)
    exact .inr ⟨a, _, pd, rfl, .dK h1 h0 (h2.mono g.sub), e1, e2, e3, e4, p.val g (.str _) q⟩
  · refine .inl (lc F H M xs ds z Q Qd g r ?_ p q)
    unfold reprA at h
    split at h
    · rename_i ks ys e
      exact absurd ⟨ks, ys, e⟩ hk
    · exact h
end
end DL

set_option Elab.async false
set_option linter.all false
set_option maxRecDepth 100000
set_option maxHeartbeats 4000000
set_option autoImplicit true
namespace LawProof
open PySem L2 DL FL

abbrev mtT0 : List ((Nat × Nat) × Bool) := [((29, 29), true), ((29, 17), true)]
abbrev isxT : List ((Nat × Nat) × Bool) := [((29, 29), true), ((29, 17), true)]
abbrev xcs : List Nat := [29]

theorem mem_letters {c : Nat} (h : isL c = true) : c ∈ ("abcdefghijklmnopqrstuvwxyz" : Str).cps.toList := by
  have h1 : c ∈ List.range' 97 26 := by simp [isL] at h; simp [List.mem_range'_1]; omega
  have h2 : ∀ c ∈ List.range' 97 26, c ∈ ("abcdefghijklmnopqrstuvwxyz" : Str).cps.toList := by decide +kernel
  exact h2 c h1
theorem mem_signs {c : Nat} (h : isS c = true) : c ∈ ("abcdefghijklmnopqrstuvwxyz0123456789" : Str).cps.toList := by
  have h1 : c ∈ List.range' 97 26 ++ List.range' 48 10 := by simp [isS, isL] at h; simp [List.mem_range'_1]; omega
  have h2 : ∀ c ∈ List.range' 97 26 ++ List.range' 48 10, c ∈ ("abcdefghijklmnopqrstuvwxyz0123456789" : Str).cps.toList := by decide +kernel
  exact h2 c h1

def sp_is_integer : SpD := fun ds M Q _ => ∃ d n, ds = [d] ∧ tyName (vw M d) = some n ∧ Q (.bl (n == "int")) M

abbrev N_is_integer : List Str := ["thing"]
def t_is_integer : DTS := (dRet (dAndV (dCB isiF (dCons (dVar 0) (dCons (dC (.ty "int")) dNil))) (dNotV (dCB isiF (dCons (dVar 0) (dCons (dC (.ty "bool")) dNil))))))

theorem pure_is_integer : ∀ ds M Q E, sp_is_integer ds M Q E → ds.length = 1 ∧ t_is_integer (dEnds Q E) (startD N_is_integer ds) M := by
  rintro ds M Q E ⟨d, n, rfl, h, q⟩
  refine ⟨rfl, ?_⟩
  have hn := tyName_mem h
  simp [t_is_integer, isiF, h]
  simp [tyNames] at hn
  rcases hn with rfl | rfl | rfl | rfl | rfl | rfl | rfl | rfl <;> simpa [tyNames, isTy] using q

def inF (i : Int) : Bool := decide (0 ≤ i) && decide (i ≤ 1000000000000000000000000000000)
/-- no free count -/
def BadF (d : D) : Prop := (∃ n, tyName d = some n ∧ n ≠ "int") ∨ ∃ i, d = .int i ∧ inF i = false
theorem BadF.ty {d : D} (h : BadF d) : ∃ n, tyName d = some n := by
  rcases h with ⟨n, h, _⟩ | ⟨i, rfl, _⟩
  · exact ⟨n, h⟩
  · exact ⟨_, rfl⟩
theorem ty_vw {d : D} {n : String} (h : tyName d = some n) (M : Mem) : vw M d = d := by cases d <;> first | rfl | cases h
def sp_check_free : SpD := fun ds M Q E => ∃ d, ds = [d] ∧ ((∃ i, d = .int i ∧ inF i = true ∧ Q .non M) ∨ (BadF d ∧ E 29 ["free"] [d] M))

abbrev N_check_free : List Str := ["free"]
def t_check_free : DTS := (dIf (dOr (dNot (dTest (dCall sp_is_integer [] (dCons (dVar 0) dNil)))) (dNot (dTest (dChain leD leD (dC (.int 0)) (dVar 0) (dC (.int 1000000000000000000000000000000)))))) (dRaise 29 ["free"] (dCons (dVar 0) dNil)) dNext)

theorem pure_check_free : ∀ ds M Q E, sp_check_free ds M Q E → ds.length = 1 ∧ t_check_free (dEnds Q E) (startD N_check_free ds) M := by
  rintro ds M Q E ⟨d, rfl, ⟨i, rfl, h, q⟩ | ⟨h, q⟩⟩
  · refine ⟨rfl, ?_⟩
    simp only [inF, Bool.and_eq_true, decide_eq_true_eq] at h
    refine ⟨_, rfl, .int i, "int", rfl, rfl, true, rfl, ?_⟩
    refine ⟨_, rfl, decide ((0 : Int) ≤ i), rfl, ?_⟩
    rw [decide_eq_true h.1]
    refine ⟨.bl (decide (i ≤ 1000000000000000000000000000000)), rfl, _, rfl, ?_⟩
    rw [decide_eq_true h.2]
    exact q
  · refine ⟨rfl, ?_⟩
    rcases h with ⟨n, hn, h0⟩ | ⟨i, rfl, h⟩
    · refine ⟨_, rfl, d, n, rfl, by rw [ty_vw hn]; exact hn, _, rfl, ?_⟩
      have : (n == "int") = false := by simpa using h0
      rw [this]
      exact ⟨_, rfl, rfl, q⟩
    · refine ⟨_, rfl, .int i, "int", rfl, rfl, true, rfl, ?_⟩
      simp only [inF, Bool.and_eq_false_iff, decide_eq_false_iff_not] at h
      refine ⟨_, rfl, decide ((0 : Int) ≤ i), rfl, ?_⟩
      by_cases h0 : (0 : Int) ≤ i
      · rw [decide_eq_true h0]
        refine ⟨.bl (decide (i ≤ 1000000000000000000000000000000)), rfl, _, rfl, ?_⟩
        rw [decide_eq_false (by omega)]
        exact ⟨_, rfl, rfl, q⟩
      · rw [decide_eq_false h0]
        exact ⟨_, rfl, _, rfl, rfl, q⟩

/-- how long a gap lasts -/
def lastN (n : Nat) : Nat := if h : n < 2 then 0 else lastN ((n - 2) / 3) + 1
termination_by n
decreasing_by omega
def lastI (i : Int) : Int := (lastN i.toNat : Int)
theorem lastI_small {i : Int} (h : i < 2) : lastI i = 0 := by
  unfold lastI
  rw [lastN, dif_pos (by omega)]
  rfl
theorem lastI_big {i : Int} (h : 2 ≤ i) : lastI i = lastI ((i - 2) / 3) + 1 := by
  unfold lastI
  rw [lastN, dif_neg (by omega)]
  have e : ((i - 2) / 3).toNat = (i.toNat - 2) / 3 := by omega
  rw [e]
  omega
theorem lastN_le : ∀ n : Nat, lastN n ≤ n := by
  intro n
  induction n using Nat.strongRecOn with
  | _ n ih =>
    by_cases h2 : n < 2
    · rw [lastN, dif_pos h2]; exact Nat.zero_le _
    · rw [lastN, dif_neg h2]
      have := ih ((n - 2) / 3) (by omega)
      omega
def sp_lasting : SpD := fun ds M Q E => ∃ d, ds = [d] ∧ ((∃ i, d = .int i ∧ inF i = true ∧ Q (.int (lastI i)) M) ∨ (BadF d ∧ E 29 ["free"] [d] M))

abbrev N_lasting : List Str := ["free", "found"]
def l_lasting_1 : DTS := (dSeq (dAsg (dOp fdivD (dOp subD (dVar 0) (dC (.int 2))) (dC (.int 3))) (gN 0))
    (dAug 1 augI (dC (.int 1))))
def l_lasting_2 : DTS := (dSeq (dWhile (dTest (dOp geD (dVar 0) (dC (.int 2)))) l_lasting_1)
    (dRet (dVar 1)))
def l_lasting_3 : DTS := (dSeq (dAsg (dC (.int 0)) (gN 1))
    l_lasting_2)
def t_lasting : DTS := (dSeq (dDrop (dCall sp_check_free [] (dCons (dVar 0) dNil)))
    l_lasting_3)

theorem pure_lasting : ∀ ds M Q E, sp_lasting ds M Q E → ds.length = 1 ∧ t_lasting (dEnds Q E) (startD N_lasting ds) M := by
  rintro ds M Q E ⟨d, rfl, ⟨i, rfl, h, q⟩ | ⟨h, q⟩⟩
  · refine ⟨rfl, ?_⟩
    refine ⟨_, rfl, _, rfl, .inl ⟨i, rfl, h, ?_⟩⟩
    have h0 : 0 ≤ i := by simp only [inF, Bool.and_eq_true, decide_eq_true_eq] at h; exact h.1
    show l_lasting_2 (dEnds Q E) [some (.int i), some (.int 0)] M
    refine ⟨fun m ρ M' => ∃ f k : Int, ρ = [some (.int f), some (.int k)] ∧ 0 ≤ f ∧ m = f.toNat ∧ k + lastI f = lastI i ∧ M' = M, ⟨_, i, 0, rfl, h0, rfl, by omega, rfl⟩, ?_⟩
    rintro m ρ M' ⟨f, k, rfl, hf, rfl, he, rfl⟩
    by_cases h2 : 2 ≤ f
    · simp [h2, l_lasting_1]
      refine ⟨fun ρ' M'' => ρ' = [some (.int ((f - 2) / 3)), some (.int (k + 1))] ∧ M'' = M', ?_, ?_⟩
      · rintro ρ' M'' ⟨rfl, rfl⟩
        refine ⟨_, ?_, _, _, rfl, by omega, rfl, ?_, rfl⟩
        · omega
        · rw [lastI_big h2] at he; omega
      · simp
    · simp [h2]
      rw [lastI_small (by omega)] at he
      have : k = lastI i := by omega
      rw [this]
      exact q
  · exact ⟨rfl, _, rfl, _, rfl, .inr ⟨h, q⟩⟩

def sp_placed : SpD := fun ds M Q E => ∃ d, ds = [d] ∧ ((∃ i, d = .int i ∧ inF i = true ∧ (i < 2 → Q .non M) ∧ (2 ≤ i → Q (.tup [.int ((i - 2) / 3), .int ((i - 2) / 3)]) M)) ∨ (BadF d ∧ E 29 ["free"] [d] M))

abbrev N_placed : List Str := ["free", "part"]
def l_placed_1 : DTS := (dSeq (dAsg (dOp fdivD (dOp subD (dVar 0) (dC (.int 2))) (dC (.int 3))) (gN 1))
    (dRet (dTup (dCons (dVar 1) (dCons (dVar 1) dNil)))))
def l_placed_2 : DTS := (dSeq (dIf (dTest (dOp ltD (dVar 0) (dC (.int 2)))) (dRet (dC .non)) dNext)
    l_placed_1)
def t_placed : DTS := (dSeq (dDrop (dCall sp_check_free [] (dCons (dVar 0) dNil)))
    l_placed_2)

theorem pure_placed : ∀ ds M Q E, sp_placed ds M Q E → ds.length = 1 ∧ t_placed (dEnds Q E) (startD N_placed ds) M := by
  rintro ds M Q E ⟨d, rfl, ⟨i, rfl, h, q1, q2⟩ | ⟨h, q⟩⟩
  · refine ⟨rfl, ?_⟩
    refine ⟨_, rfl, _, rfl, .inl ⟨i, rfl, h, ?_⟩⟩
    show l_placed_2 (dEnds Q E) [some (.int i), none] M
    by_cases h2 : i < 2
    · simp [l_placed_2, h2, q1 h2]
    · simp [l_placed_2, l_placed_1, h2, q2 (by omega)]
  · exact ⟨rfl, _, rfl, _, rfl, .inr ⟨h, q⟩⟩

end LawProof

set_option Elab.async false
set_option linter.all false
set_option maxRecDepth 100000
set_option maxHeartbeats 4000000
set_option autoImplicit true
namespace LawProof
open PySem L2 DL FL

def sp__law_rng : SpD := fun ds M Q _ => ∃ i : Int, ds = [.int i] ∧ ∀ r M', M r = none → Rn M' r → (∀ b, b ≠ r → M' b = M b) → Q (.ref r) M'

abbrev N__law_rng : List Str := ["_law_cell"]
def t__law_rng : DTS := (dRet (dLstM (dCons (dCB absF (dCons (dVar 0) dNil)) (dCons (dOp modD (dCB intF (dCons (dVar 0) dNil)) (dC (.int 2147483629))) (dCons (dC (.int 0)) dNil)))))

theorem pure__law_rng : ∀ ds M Q E, sp__law_rng ds M Q E → ds.length = 1 ∧ t__law_rng (dEnds Q E) (startD N__law_rng ds) M := by
  rintro ds M Q E ⟨i, rfl, q⟩
  refine ⟨rfl, ?_⟩
  simp (disch := first | (simp; done) | omega) [t__law_rng, dLstM]
  refine fun r hr => q r _ hr ⟨_, _, _, updM_same, ?_, ?_, ?_, ?_⟩ (fun b hb => updM_ne hb) <;> first | omega | (split <;> omega)

def sp__law_draw : SpD := fun ds M Q _ => ∃ (r : Addr) (n : Int), ds = [.ref r, .int n] ∧ Rn M r ∧ 0 < n ∧ n ≤ 10 ^ 30 ∧ ∀ k M', 0 ≤ k → k < n → RTo M M' r → Q (.int k) M'

abbrev N__law_draw : List Str := ["_law_rng_here", "_law_limit", "_law_digit", "_law_mixed"]
def t__law_draw : DTS := (dSeq (dIf (dTest (dOp geD (dOp ixA (dVar 0) (dC (.int 0))) (dOp powD (dC (.int 10)) (dC (.int 18))))) (dSeq (dAsg (dOp modD (dCB intF (dCons (dOp ixA (dVar 0) (dC (.int 0))) dNil)) (dVar 1)) (gN 2))
    (dSeq (dAsg (dOp fdivD (dOp ixA (dVar 0) (dC (.int 0))) (dVar 1)) (gSubL (dVar 0) (dC (.int 0))))
    (dRet (dVar 2)))) dNext)
    (dSeq (dAsg (dOp addD (dOp ixA (dVar 0) (dC (.int 2))) (dC (.int 1))) (gSubL (dVar 0) (dC (.int 2))))
    (dSeq (dAsg (dOp modD (dCB intF (dCons (dOp mulD (dOp addD (dOp addD (dOp ixA (dVar 0) (dC (.int 1))) (dOp mulD (dC (.int 7919)) (dOp ixA (dVar 0) (dC (.int 2))))) (dC (.int 1))) (dC (.int 48271))) dNil)) (dC (.int 2147483647))) (gN 3))
    (dSeq (dAsg (dOp modD (dCB intF (dCons (dOp mulD (dVar 3) (dOp addD (dOp fdivD (dVar 3) (dC (.int 1013))) (dC (.int 69621)))) dNil)) (dC (.int 2147483587))) (gN 3))
    (dRet (dOp modD (dCB intF (dCons (dOp modD (dCB intF (dCons (dOp addD (dOp fdivD (dVar 3) (dC (.int 7))) (dOp mulD (dOp modD (dCB intF (dCons (dVar 3) dNil)) (dC (.int 7919))) (dC (.int 40692)))) dNil)) (dC (.int 2147483399))) dNil)) (dVar 1)))))))

theorem pure__law_draw : ∀ ds M Q E, sp__law_draw ds M Q E → ds.length = 2 ∧ t__law_draw (dEnds Q E) (startD N__law_draw ds) M := by
  rintro ds M Q E ⟨r, n, rfl, ⟨a, b, c, hM, ha, hb, hb2, hc⟩, hn, hn2, q⟩
  refine ⟨rfl, ?_⟩
  by_cases ha2 : 1000000000000000000 ≤ a
  · simp (disch := first | (simp; done) | omega) [t__law_draw, vw_ref hM, ha2, hM, ixN]
    exact q _ _ (Int.emod_nonneg _ (by omega)) (Int.emod_lt_of_pos _ hn) (.put (Int.ediv_nonneg ha (by omega)) hb hb2 hc)
  · simp (disch := first | (simp; done) | omega) [t__law_draw, vw_ref hM, ha2, hM, ixN]
    exact q _ _ (Int.emod_nonneg _ (by omega)) (Int.emod_lt_of_pos _ hn) (.put ha hb hb2 (by omega))

def sp__law_pick : SpD := fun ds M Q _ => ∃ (r : Addr) (d : D) (xs : List D), ds = [.ref r, d] ∧ SeqOf d xs ∧ Rn M r ∧ xs ≠ [] ∧ xs.length < 1000 ∧ ∀ x M', x ∈ xs → RTo M M' r → Q x M'

abbrev N__law_pick : List Str := ["_law_rng_here", "_law_items"]
def t__law_pick : DTS := (dRet (dOp ixA (dVar 1) (dCall sp__law_draw [] (dCons (dVar 0) (dCons (dCB lenF (dCons (dVar 1) dNil)) dNil)))))

theorem pure__law_pick : ∀ ds M Q E, sp__law_pick ds M Q E → ds.length = 2 ∧ t__law_pick (dEnds Q E) (startD N__law_pick ds) M := by
  rintro ds M Q E ⟨r, d, xs, rfl, hd, hr, h0, h1, q⟩
  have hl : 0 < xs.length := List.length_pos_iff.mpr h0
  refine ⟨rfl, ?_⟩
  simp only [t__law_pick, dRet, dOp, dVar, dCall, dCons, dCB, dNil]
  refine ⟨_, rfl, _, rfl, _, rfl, _, by simpa [hd.vw] using hd.len, r, _, rfl, hr, by omega, by omega, fun k M' k0 k1 hM => ⟨xs[k.toNat]'(by omega), ?_, ?_⟩⟩
  · rw [hd.vw, vw_int, hd.ix, atI_at k0 k1, List.getElem?_eq_getElem]
  · exact q _ _ (List.getElem_mem _) hM

/-- the thunk raises NoCount of d -/
def sp__law_said : THD → THD := fun TH M Q _ => ∃ d z, (∀ M', vw M' d = d) ∧ reprA [d] = some z ∧ (∀ (Qt : DV) (Et : DEK), Et 29 ["free"] [d] M → TH M Qt Et) ∧ Q z M

abbrev N__law_said : List Str := ["_law_call", "e"]
def t__law_said (d0 : D) (TH : THD) : DTS := (dSeq (dTry mtT0 (dDrop (dAct 0 d0 TH)) (⟨29, some 1, fun x => (dRet (dCB reprA (dCons (dXf [29] "free" x (dVar 1)) dNil)))⟩ :: (⟨17, none, fun x => (dRet (dC (.str "other")))⟩ :: [])))
    (dRet (dC .non)))

theorem pure__law_said : ∀ d0 TH M Q E, sp__law_said TH M Q E → t__law_said d0 TH (dEnds Q E) (startD N__law_said [d0]) M := by
  rintro d0 TH M Q E ⟨d, z, hv, hz, ht, q⟩
  refine ⟨rfl, ht _ _ ⟨by simp, true, rfl, fun _ a dd ha => ?_, fun z => by cases z⟩⟩
  refine ⟨_, rfl, rfl, d, exc_fld (by decide) (by simp [lookN]), z, ?_, q⟩
  simp only [List.map_cons, List.map_nil, hv]
  exact hz

def sp__law_known : SpD := fun ds M Q _ => ds = [] ∧ ∀ M', Keep M M' → Q (.lst ((List.range 31).map fun i => D.int (lastI (i : Nat)))) M'

abbrev N__law_known : List Str := ["_law_found", "_law_free", "_law_best", "_law_before", "_law_inside"]
def l__law_known_1 : DTS := (dAsg (dCB maxF (dCons (dVar 2) (dCons (dOp addD (dC (.int 1)) (dCB minF3 (dCons (dOp ixA (dVar 0) (dVar 3)) (dCons (dOp ixA (dVar 0) (dVar 4)) (dCons (dOp ixA (dVar 0) (dOp subD (dOp subD (dOp subD (dVar 1) (dC (.int 2))) (dVar 3)) (dVar 4))) dNil))))) dNil))) (gN 2))
def l__law_known_2 : DTS := (dFor (iR1 (dOp subD (dOp subD (dVar 1) (dC (.int 1))) (dVar 3))) (gN 4) l__law_known_1)
def l__law_known_3 : DTS := (dSeq (dFor (iR1 (dOp subD (dVar 1) (dC (.int 1)))) (gN 3) l__law_known_2)
    (dDrop (dBM "list" φApp (dVar 0) (dCons (dVar 2) dNil))))
def l__law_known_4 : DTS := (dSeq (dAsg (dC (.int 0)) (gN 2))
    l__law_known_3)
def l__law_known_5 : DTS := (dSeq (dFor (iR2 (dC (.int 2)) (dC (.int 31))) (gN 1) l__law_known_4)
    (dRet (dFrz (dVar 0))))
def t__law_known : DTS := (dSeq (dAsg (dLstM (dCons (dC (.int 0)) (dCons (dC (.int 0)) dNil))) (gN 0))
    l__law_known_5)

/-- the best over what stands inside -/
def bestI (l : List Int) (f b n : Nat) (z : Int) : Int := (List.range n).foldl (fun z i => max z (1 + min (min (l.getD b 0) (l.getD i 0)) (l.getD (f - 2 - b - i) 0))) z
def bestB (l : List Int) (f n : Nat) : Int := (List.range n).foldl (fun z b => bestI l f b (f - 1 - b) z) 0
def knownL : Nat → List Int
  | 0 => [0, 0]
  | n + 1 => knownL n ++ [bestB (knownL n) (n + 2) (n + 1)]
theorem known_len : ∀ n, (knownL n).length = n + 2
  | 0 => rfl
  | n + 1 => by rw [knownL, List.length_append, known_len n]; rfl
def lastT (n : Nat) : Int := if n < 2 then 0 else if n < 8 then 1 else if n < 26 then 2 else 3
theorem last_tab {n : Nat} (h : n < 31) : lastI (n : Int) = lastT n := by
  have s : ∀ m : Nat, m < 2 → lastN m = 0 := fun m hm => by rw [lastN, dif_pos hm]
  have b : ∀ m : Nat, ¬ m < 2 → lastN m = lastN ((m - 2) / 3) + 1 := fun m hm => by rw [lastN, dif_neg hm]
  unfold lastI lastT
  rw [Int.toNat_natCast]
  by_cases h1 : n < 2
  · rw [if_pos h1, s n h1]; rfl
  · rw [if_neg h1, b n h1]
    by_cases h2 : n < 8
    · rw [if_pos h2, s _ (by omega)]; rfl
    · rw [if_neg h2, b _ (by omega)]
      by_cases h3 : n < 26
      · rw [if_pos h3, s _ (by omega)]; rfl
      · rw [if_neg h3, b _ (by omega), s _ (by omega)]; rfl
theorem known_all : knownL 29 = (List.range 31).map fun i => lastI (i : Nat) := by
  have st : ∀ n, n < 29 → bestB ((List.range (n + 2)).map lastT) (n + 2) (n + 1) = lastT (n + 2) := by decide +kernel
  have e : ∀ n, n ≤ 29 → knownL n = (List.range (n + 2)).map lastT := fun n => by
    induction n with
    | zero => intro _; rfl
    | succ n ih =>
      intro h
      rw [knownL, ih (by omega), st n (by omega), show n + 1 + 2 = (n + 2) + 1 by omega, List.range_succ (n := n + 2), List.map_append]
      rfl
  rw [e 29 (Nat.le_refl _)]
  exact List.map_congr_left fun i hi => (last_tab (List.mem_range.mp hi)).symm
theorem at_int {l : List Int} {k : Nat} (h : k < l.length) : atI (l.map D.int) (k : Int) = some (.int (l.getD k 0)) := by
  rw [atI_at (by omega) (by simpa using h), Int.toNat_natCast, List.getElem?_map, List.getD, List.getElem?_eq_getElem h]
  rfl
theorem max_if (a b : Int) : (if b > a then b else a) = max a b := by split <;> omega
section
variable {r : Addr} {l : List Int} {f b n : Nat} {z : Int} {M : Mem} {En : DEnds} {o3 o4 : Option D}
theorem lk_1 {i : Nat} (hr : M r = some (.lst (l.map D.int))) (hl : l.length = f) (hb : b + i + 2 ≤ f) (q : En.nx [some (.ref r), some (.int (f : Int)), some (.int (max z (1 + min (min (l.getD b 0) (l.getD i 0)) (l.getD (f - 2 - b - i) 0)))), some (.int (b : Int)), some (.int (i : Int))] M) :
    l__law_known_1 En [some (.ref r), some (.int (f : Int)), some (.int z), some (.int (b : Int)), some (.int (i : Int))] M := by
  have vr : vw M (.ref r) = .lst (l.map D.int) := vw_ref hr
  have ix : ∀ {k : Nat}, k < l.length → ixA (vw M (.ref r)) (vw M (.int (k : Int))) = some (.int (l.getD k 0)) := fun {k} hk => by
    rw [vr]
    exact at_int hk
  have e3 : ixA (vw M (.ref r)) (vw M (.int (((f : Int) - 2 - (b : Int)) - (i : Int)))) = some (.int (l.getD (f - 2 - b - i) 0)) := by
    rw [show ((f : Int) - 2 - (b : Int)) - (i : Int) = ((f - 2 - b - i : Nat) : Int) by omega]
    exact ix (by omega)
  refine ⟨_, rfl, _, rfl, _, rfl, _, ix (by omega), _, rfl, _, rfl, _, ix (by omega), _, rfl, _, rfl, _, rfl, _, rfl, _, rfl, _, rfl, _, rfl, _, e3, _, rfl, _, rfl, ?_⟩
  refine ⟨.int (max z (1 + min (min (l.getD b 0) (l.getD i 0)) (l.getD (f - 2 - b - i) 0))), ?_, q⟩
  show some (D.int (if _ > _ then _ else _)) = _
  rw [max_if]
theorem range_all {n : Nat} {f : Nat → D} {done rest : List D} {x : D} (h : (List.range n).map f = done ++ x :: rest) : done.length < n ∧ x = f done.length := range_at h
theorem lk_2 {v : Option D} (hr : M r = some (.lst (l.map D.int))) (hl : l.length = f) (hb : b + 1 < f) (q : ∀ o4, En.nx [some (.ref r), some (.int (f : Int)), some (.int (bestI l f b (f - 1 - b) z)), some (.int (b : Int)), o4] M) (hf : f ≤ 31) :
    l__law_known_2 En [some (.ref r), some (.int (f : Int)), some (.int z), some (.int (b : Int)), v] M := by
  refine ⟨_, rfl, .int ((f : Int) - 1), rfl, _, rfl, .int ((f : Int) - 1 - (b : Int)), rfl, _, rfl, by omega, by omega, ?_⟩
  rw [show ((f : Int) - 1 - (b : Int)).toNat = f - 1 - b by omega]
  refine forD_run _ (fun done ρ M1 => M1 = M ∧ ∃ o4, ρ = [some (.ref r), some (.int (f : Int)), some (.int (bestI l f b done.length z)), some (.int (b : Int)), o4]) ?_ ?_ ⟨rfl, _, rfl⟩
  · rintro done x rest ρ M1 Nx hx ⟨rfl, o4, rfl⟩ nx
    obtain ⟨hd, rfl⟩ := range_at hx
    refine lk_1 (i := done.length) hr hl (by omega) (nx _ _ ⟨rfl, some (.int (done.length : Int)), ?_⟩)
    rw [List.length_append, List.length_singleton]
    unfold bestI
    rw [List.range_succ, List.foldl_append]
    rfl
  · rintro ρ M1 ⟨rfl, o4, rfl⟩
    rw [List.length_map, List.length_range]
    exact q o4
theorem lk_4 {v2 v3 v4 : Option D} (hr : M r = some (.lst (l.map D.int))) (hl : l.length = f) (hf : f ≤ 31) (h2 : 2 ≤ f) (q : ∀ o2 o3 o4, En.nx [some (.ref r), some (.int (f : Int)), o2, o3, o4] (updM M r (.lst ((l ++ [bestB l f (f - 1)]).map D.int)))) :
    l__law_known_4 En [some (.ref r), some (.int (f : Int)), v2, v3, v4] M := by
  show l__law_known_3 En [some (.ref r), some (.int (f : Int)), some (.int 0), v3, v4] M
  refine ⟨_, rfl, .int ((f : Int) - 1), rfl, _, rfl, by omega, by omega, ?_⟩
  rw [show ((f : Int) - 1).toNat = f - 1 by omega]
  refine forD_run _ (fun done ρ M1 => M1 = M ∧ ∃ o3 o4, ρ = [some (.ref r), some (.int (f : Int)), some (.int (bestB l f done.length)), o3, o4]) ?_ ?_ ⟨rfl, _, _, rfl⟩
  · rintro done x rest ρ M1 Nx hx ⟨rfl, o3, o4, rfl⟩ nx
    obtain ⟨hd, rfl⟩ := range_at hx
    refine lk_2 (b := done.length) hr hl (by omega) (fun o4 => nx _ _ ⟨rfl, some (.int (done.length : Int)), o4, ?_⟩) hf
    rw [List.length_append, List.length_singleton]
    unfold bestB
    rw [List.range_succ, List.foldl_append]
    rfl
  · rintro ρ M1 ⟨rfl, o3, o4, rfl⟩
    rw [List.length_map, List.length_range]
    have vr : vw M1 (.ref r) = .lst (l.map D.int) := vw_ref hr
    refine ⟨_, rfl, by rw [vr]; rfl, _, rfl, r, l.map D.int, _, rfl, rfl, hr, by rw [size_line, List.length_map]; omega, ?_⟩
    have e : l.map D.int ++ [D.int (bestB l f (f - 1))] = (l ++ [bestB l f (f - 1)]).map D.int := by simp
    rw [e]
    exact q _ _ _
end
theorem pure__law_known : ∀ ds M Q E, sp__law_known ds M Q E → ds.length = 0 ∧ t__law_known (dEnds Q E) (startD N__law_known ds) M := by
  rintro ds M Q E ⟨rfl, q⟩
  refine ⟨rfl, by simp, fun r hr => ?_⟩
  show l__law_known_5 (dEnds Q E) [some (.ref r), none, none, none, none] (updM M r (.lst ((knownL 0).map D.int)))
  refine ⟨2, 31, rfl, rfl, ⟨by omega, by omega, by omega, by omega⟩, ?_⟩
  refine forD_run _ (fun done ρ M1 => M1 = updM M r (.lst ((knownL done.length).map D.int)) ∧ ∃ o1 o2 o3 o4, ρ = [some (.ref r), o1, o2, o3, o4]) ?_ ?_ ⟨rfl, _, _, _, _, rfl⟩
  · rintro done x rest ρ M1 Nx hx ⟨rfl, o1, o2, o3, o4, rfl⟩ nx
    obtain ⟨hd, rfl⟩ := range_at hx
    have hd' : done.length < 29 := hd
    have kl := known_len done.length
    show l__law_known_4 _ [some (.ref r), some (.int (2 + (done.length : Int))), o2, o3, o4] _
    rw [show (2 : Int) + (done.length : Int) = ((done.length + 2 : Nat) : Int) by omega]
    refine lk_4 (l := knownL done.length) updM_same kl (by omega) (by omega) fun o2 o3 o4 => nx _ _ ⟨?_, _, _, _, _, rfl⟩
    rw [updM_updM, List.length_append, List.length_singleton, knownL]
    rfl
  · rintro ρ M1 ⟨rfl, o1, o2, o3, o4, rfl⟩
    rw [List.length_map, List.length_range]
    refine ⟨_, rfl, ?_⟩
    show frz (.ref r) _ _
    simp only [frz, updM_same]
    rw [delM_updM hr]
    have := q M (Keep.refl M)
    rw [show (31 - 2 : Int).toNat = 29 from rfl, known_all, List.map_map]
    exact this

def sp__law_due : SpD := fun ds M Q _ => ∃ i : Int, ds = [.int i] ∧ 0 ≤ i ∧ Q (.int (lastI i)) M

abbrev N__law_due : List Str := ["_law_free", "_law_found"]
def l__law_due_1 : DTS := (dPar 0 1 (dCons (dOp fdivD (dOp subD (dVar 0) (dC (.int 2))) (dC (.int 3))) (dCons (dOp addD (dVar 1) (dC (.int 1))) dNil)))
def l__law_due_2 : DTS := (dSeq (dWhile (dTest (dOp geD (dVar 0) (dC (.int 2)))) l__law_due_1)
    (dRet (dVar 1)))
def t__law_due : DTS := (dSeq (dAsg (dC (.int 0)) (gN 1))
    l__law_due_2)

theorem pure__law_due : ∀ ds M Q E, sp__law_due ds M Q E → ds.length = 1 ∧ t__law_due (dEnds Q E) (startD N__law_due ds) M := by
  rintro ds M Q E ⟨i, rfl, h0, q⟩
  refine ⟨rfl, ?_⟩
  show l__law_due_2 (dEnds Q E) [some (.int i), some (.int 0)] M
  refine ⟨fun m ρ M' => ∃ f k : Int, ρ = [some (.int f), some (.int k)] ∧ 0 ≤ f ∧ m = f.toNat ∧ k + lastI f = lastI i ∧ M' = M, ⟨_, i, 0, rfl, h0, rfl, by omega, rfl⟩, ?_⟩
  rintro m ρ M' ⟨f, k, rfl, hf, rfl, he, rfl⟩
  by_cases h2 : 2 ≤ f
  · simp [h2, l__law_due_1]
    refine ⟨fun ρ' M'' => ρ' = [some (.int ((f - 2) / 3)), some (.int (k + 1))] ∧ M'' = M', ?_, ?_⟩
    · rintro ρ' M'' ⟨rfl, rfl⟩
      refine ⟨_, ?_, _, _, rfl, by omega, rfl, ?_, rfl⟩
      · omega
      · rw [lastI_big h2] at he; omega
    · simp
  · simp [h2]
    rw [lastI_small (by omega)] at he
    have : k = lastI i := by omega
    rw [this]
    exact q

end LawProof

set_option Elab.async false
set_option linter.all false
set_option maxRecDepth 100000
set_option maxHeartbeats 4000000
set_option autoImplicit true
namespace LawProof
open PySem L2 DL FL

def sp_law : SpD := fun ds M Q _ => ∃ ns : List Int, ds = [.lst (ns.map D.int)] ∧ ns.length ≤ 63 ∧ ∀ M', Q (.bl true) M'

abbrev N_law : List Str := ["_law_script", "_law_cell", "_law_rng_here", "_law_turn", "_law_edge", "_law_more", "_law_free", "_law_odd"]
def l_law_1 : DTS := (dSeq (dAsg (dCall sp__law_pick [] (dCons (dVar 2) (dCons (dLst (dCons (dUn negD (dC (.int 1))) (dCons (dOp addD (dOp powD (dC (.int 10)) (dC (.int 30))) (dC (.int 1))) (dCons (dC .non) (dCons (dC (.bl true)) (dCons (dC (.bl false)) (dCons (dC (.str "2")) (dCons (dLst (dCons (dC (.int 2)) dNil)) (dCons (dTup dNil) (dCons (dC (.dK [] [])) dNil)))))))))) dNil))) (gN 7))
    (dIf (dTest (dOp neD (dLst (dCons (dThk sp__law_said (dCall sp_lasting [] (dCons (dVar 7) dNil))) (dCons (dThk sp__law_said (dCall sp_placed [] (dCons (dVar 7) dNil))) dNil))) (dBin bRepD (dLstM (dCons (dCB reprA (dCons (dVar 7) dNil)) dNil)) (dC (.int 2))))) (dRet (dC (.bl false))) dNext))
def l_law_2 : DTS := (dSeq (dAsg (dCB minF (dCons (dOp powD (dC (.int 10)) (dC (.int 30))) (dCons (dVar 6) dNil))) (gN 6))
    (dIf (dOr (dTest (dOp neD (dCB reprF (dCons (dCall sp_lasting [] (dCons (dVar 6) dNil)) dNil)) (dCB reprF (dCons (dCall sp__law_due [] (dCons (dVar 6) dNil)) dNil)))) (dTest (dOp neD (dOp isNonD (dCall sp_placed [] (dCons (dVar 6) dNil)) (dC .non)) (dOp ltD (dVar 6) (dC (.int 2)))))) (dRet (dC (.bl false))) dNext))
def l_law_3 : DTS := (dSeq (dAsg (dCall sp__law_pick [] (dCons (dVar 2) (dCons (dLst (dCons (dVar 4) (dCons (dCB maxF (dCons (dC (.int 0)) (dCons (dOp subD (dVar 4) (dC (.int 1))) dNil))) (dCons (dOp addD (dVar 4) (dC (.int 1))) (dCons (dCall sp__law_draw [] (dCons (dVar 2) (dCons (dOp powD (dC (.int 10)) (dC (.int 9))) dNil))) (dCons (dOp powD (dC (.int 10)) (dC (.int 30))) dNil)))))) dNil))) (gN 6))
    l_law_2)
def l_law_4 : DTS := (dAsg (dOp addD (dOp mulD (dC (.int 3)) (dVar 4)) (dC (.int 2))) (gN 4))
def l_law_5 : DTS := (dSeq (dFor (iR1 (dCall sp__law_draw [] (dCons (dVar 2) (dCons (dC (.int 62)) dNil)))) (gN 5) l_law_4)
    l_law_3)
def l_law_6 : DTS := (dSeq (dAsg (dC (.int 0)) (gN 4))
    l_law_5)
def l_law_7 : DTS := (dSeq (dFor (iR1 (dC (.int 10))) (gN 3) l_law_6)
    l_law_1)
def l_law_8 : DTS := (dSeq (dAsg (dCall sp__law_rng [] (dCons (dVar 1) dNil)) (gN 2))
    l_law_7)
def l_law_9 : DTS := (dSeq (dFor (iS (dSl slD (dOp addD (dVar 0) (dLst (dCons (dC (.int 0)) dNil))) dNoPart (dPart (dC (.int 4))))) (gN 1) l_law_8)
    (dRet (dC (.bl true))))
def t_law : DTS := (dSeq (dIf (dTest (dOp neD (dLc (iR1 (dC (.int 31))) (gN 6) dYes (dCall sp_lasting [] (dCons (dVar 6) dNil)) [6]) (dCall sp__law_known [] dNil))) (dRet (dC (.bl false))) dNext)
    l_law_9)

theorem pickL {r : Addr} {xs : List D} {M : Mem} {Q : DV} {E : DEK} (hr : Rn M r) (h0 : xs ≠ []) (h1 : xs.length < 1000) (q : ∀ x M', x ∈ xs → RTo M M' r → Q x M') : sp__law_pick [.ref r, .lst xs] M Q E := ⟨r, _, xs, rfl, .inl rfl, hr, h0, h1, q⟩
theorem eqTs_self : ∀ l : List Int, eqTs (l.map D.int) (l.map D.int) = true
  | [] => by simp [eqTs]
  | a :: l => by
    rw [List.map_cons, eqTs, eqTs_self l]
    show ((a == a) && true) = true
    simp
theorem ne_self (M : Mem) (l : List Int) : neD (vw M (.lst (l.map D.int))) (vw M (.lst (l.map D.int))) = some (.bl false) := by
  have := neD_lst' (n := 3) (m := 3) (xs := l.map D.int) (ys := l.map D.int) (plDs_map fun _ _ => rfl) (plDs_map fun _ _ => rfl)
  rw [eqTs_self] at this
  exact this
theorem repr_int {i : Int} (h0 : 0 ≤ i) (h1 : i ≤ 1000000000000000000000000000000) : ∃ s, reprF [.int i] = some (.str s) := by
  obtain ⟨p, e1, e2, e3, e4⟩ := sh_int (i := i) (by omega) (by omega)
  obtain rfl : p = .int i := by simpa [toPyX] using e1.symm
  refine ⟨PyData.shown (.int i), ?_⟩
  have e5 : (PyData.int i).shown.length ≤ sizeLine := by rw [sizeLine_eq]; omega
  simp only [reprF, toPy]
  rw [if_pos]
  simp only [e2, Bool.true_and, Bool.and_eq_true, decide_eq_true_eq]
  exact ⟨by simp [SeqAt.shaped, PyData.canLay0, PyData.depth], e5⟩
theorem last_le {i : Int} (h0 : 0 ≤ i) : 0 ≤ lastI i ∧ lastI i ≤ i := by
  unfold lastI
  have := lastN_le i.toNat
  omega
/-- what is no free count -/
def Odd (d : D) : Prop := BadF d ∧ ∃ z : Str, reprA [d] = some (.str z) ∧ PyData.strOk z = true
theorem odd_of {d : D} (h1 : BadF d) (h2 : (match reprA [d] with | some (.str z) => PyData.strOk z | _ => false) = true) : Odd d := by
  refine ⟨h1, ?_⟩
  split at h2
  · exact ⟨_, by assumption, h2⟩
  · cases h2
theorem pow30 : powD (.int 10) (.int 30) = some (.int 1000000000000000000000000000000) := by rfl
section
variable {r : Addr} {M : Mem} {En : DEnds} {s cell : D} {o3 o4 o5 o6 o7 : Option D}
abbrev lwE (s cell : D) (r : Addr) (o3 o4 o5 o6 o7 : Option D) : DL.Env := [some s, some cell, some (.ref r), o3, o4, o5, o6, o7]
theorem law_1 (hr : Rn M r) (q : ∀ o7 M', En.nx (lwE s cell r o3 o4 o5 o6 o7) M') : l_law_1 En (lwE s cell r o3 o4 o5 o6 o7) M := by
  refine ⟨_, rfl, .int (-1), rfl, .int 1000000000000000000000000000000, pow30, .int 1000000000000000000000000000001, rfl, by simp, by simp, by simp, pickL (E := fun _ _ _ _ => True) hr (by simp) (by simp) fun d M1 hd t => ?_⟩
  obtain ⟨hb, z, hz, hzo⟩ : Odd d := by
    simp only [List.mem_cons, List.not_mem_nil, or_false] at hd
    rcases hd with rfl | rfl | rfl | rfl | rfl | rfl | rfl | rfl | rfl
    · exact odd_of (.inr ⟨_, rfl, by decide⟩) (by decide +kernel)
    · exact odd_of (.inr ⟨_, rfl, by decide⟩) (by decide +kernel)
    · exact odd_of (.inl ⟨_, rfl, by decide⟩) (by decide +kernel)
    · exact odd_of (.inl ⟨_, rfl, by decide⟩) (by decide +kernel)
    · exact odd_of (.inl ⟨_, rfl, by decide⟩) (by decide +kernel)
    · exact odd_of (.inl ⟨_, rfl, by decide⟩) (by decide +kernel)
    · exact odd_of (.inl ⟨_, rfl, by decide⟩) (by decide +kernel)
    · exact odd_of (.inl ⟨_, rfl, by decide⟩) (by decide +kernel)
    · exact odd_of (.inl ⟨_, rfl, by decide⟩) (by decide +kernel)
  obtain ⟨n, hn⟩ := hb.ty
  have hv : ∀ M', vw M' d = d := ty_vw hn
  refine ⟨d, .str z, hv, hz, fun Qt Et e => ⟨_, rfl, d, rfl, .inr ⟨hb, e⟩⟩, ?_⟩
  refine ⟨d, .str z, hv, hz, fun Qt Et e => ⟨_, rfl, d, rfl, .inr ⟨hb, e⟩⟩, ?_⟩
  refine ⟨by simp, _, rfl, .str z, ?_, by simp, fun a ha => ⟨a, _, 2, rfl, updM_same, rfl, by omega, by omega, by simp, ?_⟩⟩
  · simp only [List.map_cons, List.map_nil, hv]
    exact hz
  rw [delM_updM ha]
  refine ⟨.bl false, ?_, _, rfl, q _ _⟩
  have := neD_lst' (n := 3) (m := 3) (xs := [.str z, .str z]) (ys := [.str z, .str z]) (by simp [plDs, plD, hzo]) (by simp [plDs, plD, hzo])
  have e : eqTs [.str z, .str z] [.str z, .str z] = true := by
    show ((z == z) && ((z == z) && true)) = true
    simp
  rw [e] at this
  exact this
theorem law_2 {f : Int} (hf : 0 ≤ f) (q : ∀ o6, En.nx (lwE s cell r o3 o4 o5 o6 o7) M) : l_law_2 En (lwE s cell r o3 o4 o5 (some (.int f)) o7) M := by
  obtain ⟨m, hm, h0, h1⟩ : ∃ m : Int, (if f < 1000000000000000000000000000000 then f else 1000000000000000000000000000000) = m ∧ 0 ≤ m ∧ m ≤ 1000000000000000000000000000000 := ⟨_, rfl, by split <;> omega, by split <;> omega⟩
  have im : inF m = true := by simp [inF, h0, h1]
  obtain ⟨l0, l1⟩ := last_le h0
  obtain ⟨z, hz⟩ := repr_int l0 (by omega)
  refine ⟨.int 1000000000000000000000000000000, pow30, _, rfl, .int m, by rw [← hm]; rfl, ?_⟩
  refine ⟨_, rfl, .int m, rfl, .inl ⟨m, rfl, im, .str z, hz, _, rfl, m, rfl, h0, .str z, hz, .bl false, ?_, _, rfl, ?_⟩⟩
  · show some (D.bl (!(z == z))) = _
    simp
  · refine ⟨_, rfl, .int m, rfl, .inl ⟨m, rfl, im, fun h2 => ?_, fun h2 => ?_⟩⟩
    · refine ⟨.bl true, rfl, _, rfl, .bl (decide (m < 2)), rfl, .bl false, ?_, _, rfl, q _⟩
      rw [decide_eq_true h2]; rfl
    · refine ⟨.bl false, rfl, _, rfl, .bl (decide (m < 2)), rfl, .bl false, ?_, _, rfl, q _⟩
      rw [decide_eq_false (by omega)]; rfl
theorem law_6 (hr : Rn M r) (q : ∀ o4 o5 o6 M', RTo M M' r → En.nx (lwE s cell r o3 o4 o5 o6 o7) M') : l_law_6 En (lwE s cell r o3 o4 o5 o6 o7) M := by
  show l_law_5 En (lwE s cell r o3 (some (.int 0)) o5 o6 o7) M
  refine ⟨_, rfl, r, 62, rfl, hr, by omega, by omega, fun n M1 n0 n1 t1 => ⟨n, rfl, by omega, by omega, ?_⟩⟩
  refine forD_run _ (fun done ρ M2 => M2 = M1 ∧ ∃ (e : Int) (o5 : Option D), ρ = lwE s cell r o3 (some (.int e)) o5 o6 o7 ∧ 0 ≤ e) ?_ ?_ ⟨rfl, 0, _, rfl, by omega⟩
  · rintro done x rest ρ M2 Nx hx ⟨rfl, e, o5, rfl, he⟩ nx
    obtain ⟨hd, rfl⟩ := range_at hx
    exact ⟨_, rfl, .int (3 * e), rfl, .int (3 * e + 2), rfl, nx _ _ ⟨rfl, 3 * e + 2, _, rfl, by omega⟩⟩
  · rintro ρ M2 ⟨rfl, e, o5, rfl, he⟩
    show l_law_3 En (lwE s cell r o3 (some (.int e)) o5 o6 o7) M2
    refine ⟨_, rfl, _, rfl, _, rfl, .int (e - 1), rfl, .int (if e - 1 > 0 then e - 1 else 0), rfl, _, rfl, .int (e + 1), rfl, _, rfl, .int 1000000000, rfl, r, 1000000000, rfl, t1.ok, by omega, by omega, fun k M3 k0 k1 t2 => ⟨.int 1000000000000000000000000000000, pow30, by simp, ?_⟩⟩
    refine pickL (E := fun _ _ _ _ => True) t2.ok (by simp) (by simp) fun x M4 hx t3 => ?_
    obtain ⟨f, rfl, hf⟩ : ∃ f : Int, x = .int f ∧ 0 ≤ f := by
      simp only [List.mem_cons, List.not_mem_nil, or_false] at hx
      rcases hx with rfl | rfl | rfl | rfl | rfl
      · exact ⟨_, rfl, he⟩
      · exact ⟨_, rfl, by split <;> omega⟩
      · exact ⟨_, rfl, by omega⟩
      · exact ⟨_, rfl, k0⟩
      · exact ⟨_, rfl, by omega⟩
    exact law_2 hf fun o6 => q _ _ _ _ ((t1.trans t2).trans t3)
theorem law_8 {i : Int} {o2 : Option D} (q : ∀ r o3 o4 o5 o6 o7 M', En.nx (lwE s (.int i) r o3 o4 o5 o6 o7) M') : l_law_8 En [some s, some (.int i), o2, o3, o4, o5, o6, o7] M := by
  refine ⟨_, rfl, i, rfl, fun r M1 hr0 hr _ => ?_⟩
  refine ⟨10, rfl, by omega, by omega, ?_⟩
  refine forD_run _ (fun done ρ M2 => Rn M2 r ∧ ∃ o3 o4 o5 o6 o7, ρ = lwE s (.int i) r o3 o4 o5 o6 o7) ?_ ?_ ⟨hr, _, _, _, _, _, rfl⟩
  · rintro done x rest ρ M2 Nx hx ⟨hr2, o3, o4, o5, o6, o7, rfl⟩ nx
    exact law_6 hr2 fun o4 o5 o6 M' t => nx _ _ ⟨t.ok, _, _, _, _, _, rfl⟩
  · rintro ρ M2 ⟨hr2, o3, o4, o5, o6, o7, rfl⟩
    exact law_1 hr2 fun o7 M' => q _ _ _ _ _ _ _
end
theorem pure_law : ∀ ds M Q E, sp_law ds M Q E → ds.length = 1 ∧ t_law (dEnds Q E) (startD N_law ds) M := by
  rintro ds M Q E ⟨ns, rfl, hl, q⟩
  refine ⟨rfl, ?_⟩
  refine ⟨31, rfl, by omega, by omega, fun a ha => ?_⟩
  refine lcD_fn (fun x => match x with | .int i => some (.int (lastI i)) | _ => none) _ (by simp) ha (fun x hx M2 T _ hT => ?_) ?_
  · obtain ⟨j, hj, rfl⟩ := List.mem_map.mp hx
    have hj2 : j < 31 := by simpa using hj
    exact ⟨_, rfl, _, rfl, .inl ⟨_, rfl, by simp [inF]; omega, hT⟩⟩
  · refine ⟨rfl, fun M1 kp => ?_⟩
    have e1 : ((List.range (31 : Int).toNat).map fun (i : Nat) => D.int (i : Int)).filterMap (fun x => match x with | .int i => some (D.int (lastI i)) | _ => none) = ((List.range 31).map fun i => lastI (i : Nat)).map D.int := by
      rw [List.filterMap_map, List.map_map]
      show (List.range 31).filterMap (some ∘ fun (i : Nat) => D.int (lastI (i : Int))) = _
      rw [List.filterMap_eq_map]
      rfl
    have e2 : ((List.range 31).map fun i => D.int (lastI (i : Nat))) = ((List.range 31).map fun i => lastI (i : Nat)).map D.int := by rw [List.map_map]; rfl
    rw [e1, e2]
    refine ⟨_, ne_self _ _, _, rfl, ?_⟩
    refine ⟨_, rfl, by simp, _, cells_add ns hl, _, rfl, _, rfl, _, rfl, ?_⟩
    refine forD_run _ (fun done ρ M1 => ∃ o1 o2 o3 o4 o5 o6 o7, ρ = [some (.lst (ns.map D.int)), o1, o2, o3, o4, o5, o6, o7]) ?_ ?_ ⟨_, _, _, _, _, _, _, rfl⟩
    · rintro done x rest ρ M1 Nx hx ⟨o1, o2, o3, o4, o5, o6, o7, rfl⟩ nx
      have hm : x ∈ cutD (ns.map D.int ++ [D.int 0]) none (some 4) := by rw [hx]; simp
      obtain ⟨i, rfl⟩ := cells_int ns 4 x hm
      exact law_8 fun r o3 o4 o5 o6 o7 M' => nx _ _ ⟨_, _, _, _, _, _, _, rfl⟩
    · rintro ρ M1 ⟨o1, o2, o3, o4, o5, o6, o7, rfl⟩
      exact q M1

theorem law_sp : ∀ (ns : List Int) (M : Mem) (Qd : DV) (Ed : DEK), ns.length ≤ 63 → (∀ M', Qd (.bl true) M') → sp_law [.lst (ns.map D.int)] M Qd Ed := fun ns M Qd Ed hl q => ⟨ns, rfl, hl, q⟩

end LawProof

set_option Elab.async false
set_option linter.all false
set_option maxRecDepth 100000
set_option maxHeartbeats 4000000
set_option autoImplicit true
namespace LawProof
open PySem L2 DL
def top (i : Nat) : Stmt := PySem.Challenge.pw_forestrows_k44_how_long_a_gap_lasts.main.body.getD i (.Pass ⟨0, 0, 0, 0⟩)

def cl (K : PySem.W.Frag) : Nat → Addr
  | 17 => He.ga K "ForestError"
  | 29 => He.ga K "NoCount"
  | 1004 => tabD K ("law", none)
  | _ => 0
theorem tabs_cl {K : PySem.W.Frag} (nz : tabD K ("law", none) ≠ 0) : tabsOf (cl K) = [(tabD K ("law", none), ("law.<locals>.<lambda>" : Str))] := by
  simp [tabsOf, tabNames, cl, nz]
abbrev clw (K : PySem.W.Frag) (P : Program) (w : World) : ClW := ⟨cl K, P, w⟩

abbrev s_is_integer : Stmt := top 6
theorem sc_is_integer : FnScope N_is_integer ["thing"] (defScope s_is_integer) := ⟨rfl, rfl, rfl, by decide +kernel, rfl, by decide +kernel, by decide +kernel⟩
theorem hb_is_integer : HBind "is_integer" "is_integer" (defArgs s_is_integer) (defBody s_is_integer) (defScope s_is_integer) ["thing"] := fun _ _ _ _ _ _ us hl => match us, hl with | [_], _ => rfl

abbrev s_check_free : Stmt := top 8
theorem sc_check_free : FnScope N_check_free ["free"] (defScope s_check_free) := ⟨rfl, rfl, rfl, by decide +kernel, rfl, by decide +kernel, by decide +kernel⟩
theorem hb_check_free : HBind "check_free" "check_free" (defArgs s_check_free) (defBody s_check_free) (defScope s_check_free) ["free"] := fun _ _ _ _ _ _ us hl => match us, hl with | [_], _ => rfl

abbrev s_lasting : Stmt := top 9
theorem sc_lasting : FnScope N_lasting ["free"] (defScope s_lasting) := ⟨rfl, rfl, rfl, by decide +kernel, rfl, by decide +kernel, by decide +kernel⟩
theorem hb_lasting : HBind "lasting" "lasting" (defArgs s_lasting) (defBody s_lasting) (defScope s_lasting) ["free"] := fun _ _ _ _ _ _ us hl => match us, hl with | [_], _ => rfl

abbrev s_placed : Stmt := top 10
theorem sc_placed : FnScope N_placed ["free"] (defScope s_placed) := ⟨rfl, rfl, rfl, by decide +kernel, rfl, by decide +kernel, by decide +kernel⟩
theorem hb_placed : HBind "placed" "placed" (defArgs s_placed) (defBody s_placed) (defScope s_placed) ["free"] := fun _ _ _ _ _ _ us hl => match us, hl with | [_], _ => rfl

abbrev s__law_rng : Stmt := top 12
theorem sc__law_rng : FnScope N__law_rng ["_law_cell"] (defScope s__law_rng) := ⟨rfl, rfl, rfl, by decide +kernel, rfl, by decide +kernel, by decide +kernel⟩
theorem hb__law_rng : HBind "_law_rng" "_law_rng" (defArgs s__law_rng) (defBody s__law_rng) (defScope s__law_rng) ["_law_cell"] := fun _ _ _ _ _ _ us hl => match us, hl with | [_], _ => rfl

abbrev s__law_draw : Stmt := top 13
theorem sc__law_draw : FnScope N__law_draw ["_law_rng_here", "_law_limit"] (defScope s__law_draw) := ⟨rfl, rfl, rfl, by decide +kernel, rfl, by decide +kernel, by decide +kernel⟩
theorem hb__law_draw : HBind "_law_draw" "_law_draw" (defArgs s__law_draw) (defBody s__law_draw) (defScope s__law_draw) ["_law_rng_here", "_law_limit"] := fun _ _ _ _ _ _ us hl => match us, hl with | [_, _], _ => rfl

abbrev s__law_pick : Stmt := top 14
theorem sc__law_pick : FnScope N__law_pick ["_law_rng_here", "_law_items"] (defScope s__law_pick) := ⟨rfl, rfl, rfl, by decide +kernel, rfl, by decide +kernel, by decide +kernel⟩
theorem hb__law_pick : HBind "_law_pick" "_law_pick" (defArgs s__law_pick) (defBody s__law_pick) (defScope s__law_pick) ["_law_rng_here", "_law_items"] := fun _ _ _ _ _ _ us hl => match us, hl with | [_, _], _ => rfl

abbrev s__law_said : Stmt := top 15
theorem sc__law_said : FnScope N__law_said ["_law_call"] (defScope s__law_said) := ⟨rfl, rfl, rfl, by decide +kernel, rfl, by decide +kernel, by decide +kernel⟩
theorem hb__law_said : HBind "_law_said" "_law_said" (defArgs s__law_said) (defBody s__law_said) (defScope s__law_said) ["_law_call"] := fun _ _ _ _ _ _ us hl => match us, hl with | [_], _ => rfl

abbrev s__law_known : Stmt := top 16
theorem sc__law_known : FnScope N__law_known [] (defScope s__law_known) := ⟨rfl, rfl, rfl, by decide +kernel, rfl, by decide +kernel, by decide +kernel⟩
theorem hb__law_known : HBind "_law_known" "_law_known" (defArgs s__law_known) (defBody s__law_known) (defScope s__law_known) [] := fun _ _ _ _ _ _ us hl => match us, hl with | [], _ => rfl

abbrev s__law_due : Stmt := top 17
theorem sc__law_due : FnScope N__law_due ["_law_free"] (defScope s__law_due) := ⟨rfl, rfl, rfl, by decide +kernel, rfl, by decide +kernel, by decide +kernel⟩
theorem hb__law_due : HBind "_law_due" "_law_due" (defArgs s__law_due) (defBody s__law_due) (defScope s__law_due) ["_law_free"] := fun _ _ _ _ _ _ us hl => match us, hl with | [_], _ => rfl

abbrev s_law : Stmt := top 18
theorem sc_law : FnScope N_law ["_law_script"] (defScope s_law) := ⟨rfl, rfl, rfl, by decide +kernel, rfl, by decide +kernel, by decide +kernel⟩
theorem hb_law : HBind "law" "law" (defArgs s_law) (defBody s_law) (defScope s_law) ["_law_script"] := fun _ _ _ _ _ _ us hl => match us, hl with | [_], _ => rfl

abbrev s_NoCount___init__ : Stmt := inClass (top 3) 0
theorem hb_NoCount___init__ : HBind "__init__" "NoCount.__init__" (defArgs s_NoCount___init__) (defBody s_NoCount___init__) (defScope s_NoCount___init__) ["self", "free"] := fun _ _ _ _ _ _ us hl => match us, hl with | [_, _], _ => rfl

structure Tx (K : PySem.W.Frag) (mg : Str → Option Value) (base : Heap) : Prop where
  f_is_integer : ∃ fd, FunD K "is_integer" "is_integer" (defArgs s_is_integer) (defBody s_is_integer) (defScope s_is_integer) [] [] (He.fAd K ("is_integer", none)) fd
  f_check_free : ∃ fd, FunD K "check_free" "check_free" (defArgs s_check_free) (defBody s_check_free) (defScope s_check_free) [] [] (He.fAd K ("check_free", none)) fd
  f_lasting : ∃ fd, FunD K "lasting" "lasting" (defArgs s_lasting) (defBody s_lasting) (defScope s_lasting) [] [] (He.fAd K ("lasting", none)) fd
  f_placed : ∃ fd, FunD K "placed" "placed" (defArgs s_placed) (defBody s_placed) (defScope s_placed) [] [] (He.fAd K ("placed", none)) fd
  f__law_rng : ∃ fd, FunD K "_law_rng" "_law_rng" (defArgs s__law_rng) (defBody s__law_rng) (defScope s__law_rng) [] [] (He.fAd K ("_law_rng", none)) fd
  f__law_draw : ∃ fd, FunD K "_law_draw" "_law_draw" (defArgs s__law_draw) (defBody s__law_draw) (defScope s__law_draw) [] [] (He.fAd K ("_law_draw", none)) fd
  f__law_pick : ∃ fd, FunD K "_law_pick" "_law_pick" (defArgs s__law_pick) (defBody s__law_pick) (defScope s__law_pick) [] [] (He.fAd K ("_law_pick", none)) fd
  f__law_said : ∃ fd, FunD K "_law_said" "_law_said" (defArgs s__law_said) (defBody s__law_said) (defScope s__law_said) [] [] (He.fAd K ("_law_said", none)) fd
  f__law_known : ∃ fd, FunD K "_law_known" "_law_known" (defArgs s__law_known) (defBody s__law_known) (defScope s__law_known) [] [] (He.fAd K ("_law_known", none)) fd
  f__law_due : ∃ fd, FunD K "_law_due" "_law_due" (defArgs s__law_due) (defBody s__law_due) (defScope s__law_due) [] [] (He.fAd K ("_law_due", none)) fd
  f_law : ∃ fd, FunD K "law" "law" (defArgs s_law) (defBody s_law) (defScope s_law) [] [] (He.fAd K ("law", none)) fd
  f_NoCount____init__ : ∃ fd, FunD K "__init__" "NoCount.__init__" (defArgs s_NoCount___init__) (defBody s_NoCount___init__) (defScope s_NoCount___init__) [] [] (He.fAd K ("NoCount", some "__init__")) fd
  g_is_integer : mg "is_integer" = some (.ref (He.fAd K ("is_integer", none)))
  g_check_free : mg "check_free" = some (.ref (He.fAd K ("check_free", none)))
  g_lasting : mg "lasting" = some (.ref (He.fAd K ("lasting", none)))
  g_placed : mg "placed" = some (.ref (He.fAd K ("placed", none)))
  g__law_rng : mg "_law_rng" = some (.ref (He.fAd K ("_law_rng", none)))
  g__law_draw : mg "_law_draw" = some (.ref (He.fAd K ("_law_draw", none)))
  g__law_pick : mg "_law_pick" = some (.ref (He.fAd K ("_law_pick", none)))
  g__law_said : mg "_law_said" = some (.ref (He.fAd K ("_law_said", none)))
  g__law_known : mg "_law_known" = some (.ref (He.fAd K ("_law_known", none)))
  g__law_due : mg "_law_due" = some (.ref (He.fAd K ("_law_due", none)))
  g_law : mg "law" = some (.ref (He.fAd K ("law", none)))
  g_NoCount : mg "NoCount" = some (.ref (He.ga K "NoCount"))
  g_ForestError : mg "ForestError" = some (.ref (He.ga K "ForestError"))
  oex_NoCount : OexC K (He.ga K "NoCount")
  xn_NoCount : xnB K (He.ga K "NoCount") (He.fAd K ("NoCount", some "__init__")) ["free"] = true
  mt : MtOk K (cl K) mtT0
  sm : SmOk K
  xf_free : XfOk K (cl K) [29] "free"
  b_isinstance : mg "isinstance" = none
  b_int : mg "int" = none
  b_bool : mg "bool" = none
  b_abs : mg "abs" = none
  b_len : mg "len" = none
  b_repr : mg "repr" = none
  b_range : mg "range" = none
  b_max : mg "max" = none
  b_min : mg "min" = none
  c_MOST_VALUE : ∃ t, mg "MOST_VALUE" = some (.int 1000000000000000000000000000000 t)
  tk_law : ∃ h, TabK h K ("law", none)
  tb_law : LamX.TabB base mg (codeF K (He.fAd K ("law", none))) (tabD K ("law", none))

section
variable {P : Program} {w : World} {K : PySem.W.Frag} {mg : Str → Option Value} {base : Heap}

theorem x_NoCount (T : Tx K mg base) : ExcK P w K mg base "NoCount" (cl K 29) ["free"] := by
  obtain ⟨fd, F⟩ := T.f_NoCount____init__
  have z := xnB_ok T.xn_NoCount
  exact ⟨T.oex_NoCount, T.g_NoCount, He.fAd K ("NoCount", some "__init__"), fd, ["self", "free"], z.1, z.2.1, xinit1 T.oex_NoCount (z.2.2 "free" (by simp)) F ⟨rfl, rfl, rfl, by decide +kernel, rfl, by decide +kernel, by decide +kernel⟩, F.bindsN hb_NoCount___init__⟩

theorem core_is_integer (T : Tx K mg base) {f : Addr} (F : ∃ fd, FunD K "is_integer" "is_integer" (defArgs s_is_integer) (defBody s_is_integer) (defScope s_is_integer) [] [] f fd) : FnC (clw K P w) P w K mg base 1 "is_integer" "is_integer" (defArgs s_is_integer) (defBody s_is_integer) (defScope s_is_integer) f ["thing"] sp_is_integer := by
  refine fnC_of (k := 0) (t := t_is_integer) F sc_is_integer (fun cdv A outer s H E c => ?_) pure_is_integer
  exact (dss_one (ds_ret (d_andV (d_callB (call_isi.or (call_isiT.or call_isiK)) lc_isi rfl T.b_isinstance (by decide +kernel) (da_cons (d_var 0) (da_cons (d_ty rfl T.b_int (by decide +kernel)) da_nil))) (d_one (d_notV (d_callB (call_isi.or (call_isiT.or call_isiK)) lc_isi rfl T.b_isinstance (by decide +kernel) (da_cons (d_var 0) (da_cons (d_ty rfl T.b_bool (by decide +kernel)) da_nil))))))))

theorem core_check_free (T : Tx K mg base) {f : Addr} (F : ∃ fd, FunD K "check_free" "check_free" (defArgs s_check_free) (defBody s_check_free) (defScope s_check_free) [] [] f fd) : FnC (clw K P w) P w K mg base 3 "check_free" "check_free" (defArgs s_check_free) (defBody s_check_free) (defScope s_check_free) f ["free"] sp_check_free := by
  have G0 : FnB (clw K P w) P w K mg base 1 "is_integer" ["thing"] sp_is_integer := (core_is_integer T T.f_is_integer).fn T.g_is_integer hb_is_integer
  refine fnC_of (k := 2) (t := t_check_free) F sc_check_free (fun cdv A outer s H E c => ?_) pure_check_free
  exact (dss_one (ds_if (DW.dt (dw_or (d_tnot (d_val (d_fn c G0 (by decide) rfl (da_cons (d_var 0) da_nil)))) (dw_or1 (d_tnot (d_tchain op_le op_le (lop_cmp _) (lop_cmp _) d_int (d_var 0) (d_globI rfl T.c_MOST_VALUE)))))) (dss_one (ds_raise c (by decide) (x_NoCount T) (by decide) rfl (da_cons (d_var 0) da_nil))) dss_nil))

theorem core_lasting (T : Tx K mg base) {f : Addr} (F : ∃ fd, FunD K "lasting" "lasting" (defArgs s_lasting) (defBody s_lasting) (defScope s_lasting) [] [] f fd) : FnC (clw K P w) P w K mg base 4 "lasting" "lasting" (defArgs s_lasting) (defBody s_lasting) (defScope s_lasting) f ["free"] sp_lasting := by
  have G0 : FnB (clw K P w) P w K mg base 3 "check_free" ["free"] sp_check_free := (core_check_free T T.f_check_free).fn T.g_check_free hb_check_free
  refine fnC_of (k := 3) (t := t_lasting) F sc_lasting (fun cdv A outer s H E c => ?_) pure_lasting
  exact (dss_cons (ds_expr (d_fn c G0 (by decide) rfl (da_cons (d_var 0) da_nil)))
      (dss_cons (ds_set 1 sc_lasting.nd d_int)
      (dss_cons (ds_while c.po (d_tcmp op_ge (lop_cmp _) (d_var 0) d_int (nomark _)) (dss_cons (ds_set 0 sc_lasting.nd (d_op op_fdivW lop_fdiv (d_op op_sub lop_sub (d_var 0) d_int) d_int))
      (dss_one (ds_augAdd 1 sc_lasting.nd d_int))))
      (dss_one (ds_ret (d_var 1))))))

theorem core_placed (T : Tx K mg base) {f : Addr} (F : ∃ fd, FunD K "placed" "placed" (defArgs s_placed) (defBody s_placed) (defScope s_placed) [] [] f fd) : FnC (clw K P w) P w K mg base 4 "placed" "placed" (defArgs s_placed) (defBody s_placed) (defScope s_placed) f ["free"] sp_placed := by
  have G0 : FnB (clw K P w) P w K mg base 3 "check_free" ["free"] sp_check_free := (core_check_free T T.f_check_free).fn T.g_check_free hb_check_free
  refine fnC_of (k := 3) (t := t_placed) F sc_placed (fun cdv A outer s H E c => ?_) pure_placed
  exact (dss_cons (ds_expr (d_fn c G0 (by decide) rfl (da_cons (d_var 0) da_nil)))
      (dss_cons (ds_if (d_tcmp op_lt (lop_cmp _) (d_var 0) d_int (nomark _)) (dss_one (ds_ret d_non)) dss_nil)
      (dss_cons (ds_set 1 sc_placed.nd (d_op op_fdivW lop_fdiv (d_op op_sub lop_sub (d_var 0) d_int) d_int))
      (dss_one (ds_ret (d_tup (da_cons (d_var 1) (da_cons (d_var 1) da_nil))))))))

theorem core__law_rng (T : Tx K mg base) {f : Addr} (F : ∃ fd, FunD K "_law_rng" "_law_rng" (defArgs s__law_rng) (defBody s__law_rng) (defScope s__law_rng) [] [] f fd) : FnC (clw K P w) P w K mg base 1 "_law_rng" "_law_rng" (defArgs s__law_rng) (defBody s__law_rng) (defScope s__law_rng) f ["_law_cell"] sp__law_rng := by
  refine fnC_of (k := 0) (t := t__law_rng) F sc__law_rng (fun cdv A outer s H E c => ?_) pure__law_rng
  exact (dss_one (ds_ret (d_lstM (da_cons (d_callB call_abs lc_abs rfl T.b_abs (by decide +kernel) (da_cons (d_var 0) da_nil)) (da_cons (d_op op_mod lop_mod (d_callTy call_int1 lc_int rfl T.b_int (by decide +kernel) (da_cons (d_var 0) da_nil)) d_int) (da_cons d_int da_nil))))))

theorem core__law_draw (T : Tx K mg base) {f : Addr} (F : ∃ fd, FunD K "_law_draw" "_law_draw" (defArgs s__law_draw) (defBody s__law_draw) (defScope s__law_draw) [] [] f fd) : FnC (clw K P w) P w K mg base 1 "_law_draw" "_law_draw" (defArgs s__law_draw) (defBody s__law_draw) (defScope s__law_draw) f ["_law_rng_here", "_law_limit"] sp__law_draw := by
  refine fnC_of (k := 0) (t := t__law_draw) F sc__law_draw (fun cdv A outer s H E c => ?_) pure__law_draw
  exact (dss_cons (ds_if (d_tcmp op_ge (lop_cmp _) (d_ixA (RoomG.u1 c.hr) (d_var 0) d_int) (d_op op_pow lop_pow d_int d_int) (nomark _)) (dss_cons (ds_set 2 sc__law_draw.nd (d_op op_mod lop_mod (d_callTy call_int1 lc_int rfl T.b_int (by decide +kernel) (da_cons (d_ixA (RoomG.u1 c.hr) (d_var 0) d_int) da_nil)) (d_var 1)))
      (dss_cons (ds_asg (d_op op_fdivW lop_fdiv (d_ixA (RoomG.u1 c.hr) (d_var 0) d_int) (d_var 1)) (dg_subL (d_var 0) d_int))
      (dss_one (ds_ret (d_var 2))))) dss_nil)
      (dss_cons (ds_asg (d_op op_addAll lop_add (d_ixA (RoomG.u1 c.hr) (d_var 0) d_int) d_int) (dg_subL (d_var 0) d_int))
      (dss_cons (ds_set 3 sc__law_draw.nd (d_op op_mod lop_mod (d_callTy call_int1 lc_int rfl T.b_int (by decide +kernel) (da_cons (d_op op_mul lop_mul (d_op op_addAll lop_add (d_op op_addAll lop_add (d_ixA (RoomG.u1 c.hr) (d_var 0) d_int) (d_op op_mul lop_mul d_int (d_ixA (RoomG.u1 c.hr) (d_var 0) d_int))) d_int) d_int) da_nil)) d_int))
      (dss_cons (ds_set 3 sc__law_draw.nd (d_op op_mod lop_mod (d_callTy call_int1 lc_int rfl T.b_int (by decide +kernel) (da_cons (d_op op_mul lop_mul (d_var 3) (d_op op_addAll lop_add (d_op op_fdivW lop_fdiv (d_var 3) d_int) d_int)) da_nil)) d_int))
      (dss_one (ds_ret (d_op op_mod lop_mod (d_callTy call_int1 lc_int rfl T.b_int (by decide +kernel) (da_cons (d_op op_mod lop_mod (d_callTy call_int1 lc_int rfl T.b_int (by decide +kernel) (da_cons (d_op op_addAll lop_add (d_op op_fdivW lop_fdiv (d_var 3) d_int) (d_op op_mul lop_mul (d_op op_mod lop_mod (d_callTy call_int1 lc_int rfl T.b_int (by decide +kernel) (da_cons (d_var 3) da_nil)) d_int) d_int)) da_nil)) d_int) da_nil)) (d_var 1))))))))

theorem core__law_pick (T : Tx K mg base) {f : Addr} (F : ∃ fd, FunD K "_law_pick" "_law_pick" (defArgs s__law_pick) (defBody s__law_pick) (defScope s__law_pick) [] [] f fd) : FnC (clw K P w) P w K mg base 2 "_law_pick" "_law_pick" (defArgs s__law_pick) (defBody s__law_pick) (defScope s__law_pick) f ["_law_rng_here", "_law_items"] sp__law_pick := by
  have G0 : FnB (clw K P w) P w K mg base 1 "_law_draw" ["_law_rng_here", "_law_limit"] sp__law_draw := (core__law_draw T T.f__law_draw).fn T.g__law_draw hb__law_draw
  refine fnC_of (k := 1) (t := t__law_pick) F sc__law_pick (fun cdv A outer s H E c => ?_) pure__law_pick
  exact (dss_one (ds_ret (d_ixA (RoomG.u1 c.hr) (d_var 1) (d_fn c G0 (by decide) rfl (da_cons (d_var 0) (da_cons (d_callB call_len lc_len rfl T.b_len PySem.boot_len (da_cons (d_var 1) da_nil)) da_nil))))))

theorem core__law_said (T : Tx K mg base) {f : Addr} (F : ∃ fd, FunD K "_law_said" "_law_said" (defArgs s__law_said) (defBody s__law_said) (defScope s__law_said) [] [] f fd) : FnTC (clw K P w) P w K mg base 5 "_law_said" "_law_said" (defArgs s__law_said) (defBody s__law_said) (defScope s__law_said) f "_law_call" sp__law_said := by
  obtain ⟨fd, F⟩ := F
  refine ⟨fd, F, fn_dT (t := t__law_said) F sc__law_said rfl (Or.inl rfl) (fun cdv A outer s H E d0 TH c act => ?_) pure__law_said⟩
  exact (dss_cons (ds_try c T.mt rfl rfl (fun _ _ _ c1 => (dss_one (ds_expr (act _ _ _ _ _ c1)))) (.as (i := 1) (k := 29) sc__law_said.nd rfl rfl ⟨rfl, by decide, .inl T.g_NoCount⟩ (fun x a oe cls d pn hx hz hf => (dss_one (ds_ret (d_callB ((call_reprU (c.suite a ((a, oe) :: pn))).or (call_reprX T.sm (c.suite a ((a, oe) :: pn)).un (c.suite a ((a, oe) :: pn)).gd)) (lc_reprA lc_repr) rfl T.b_repr (by decide +kernel) (da_cons (d_xf T.xf_free hx hz hf (d_var 1)) da_nil))))) (.only (k := 17) ⟨rfl, by decide, .inl T.g_ForestError⟩ (fun x a oe cls d pn hx hz hf => (dss_one (ds_ret d_str))) .nil)))
      (dss_one (ds_ret d_non)))

theorem core__law_known (T : Tx K mg base) {f : Addr} (F : ∃ fd, FunD K "_law_known" "_law_known" (defArgs s__law_known) (defBody s__law_known) (defScope s__law_known) [] [] f fd) : FnC (clw K P w) P w K mg base 1 "_law_known" "_law_known" (defArgs s__law_known) (defBody s__law_known) (defScope s__law_known) f [] sp__law_known := by
  refine fnC_of (k := 0) (t := t__law_known) F sc__law_known (fun cdv A outer s H E c => ?_) pure__law_known
  exact (dss_cons (ds_set 0 sc__law_known.nd (d_lstM (da_cons d_int (da_cons d_int da_nil))))
      (dss_cons (ds_for c.po c.calm (di_range2 rfl T.b_range d_int d_int) (dg_name 1 sc__law_known.nd) (dss_cons (ds_set 2 sc__law_known.nd d_int)
      (dss_cons (ds_for c.po c.calm (di_range1 rfl T.b_range (d_op op_sub lop_sub (d_var 1) d_int)) (dg_name 3 sc__law_known.nd) (dss_one (ds_for c.po c.calm (di_range1 rfl T.b_range (d_op op_sub lop_sub (d_op op_sub lop_sub (d_var 1) d_int) (d_var 3))) (dg_name 4 sc__law_known.nd) (dss_one (ds_set 2 sc__law_known.nd (d_callB ((cr_max c.calm).or (call_max2 c.calm)) lc_max rfl T.b_max (by decide +kernel) (da_cons (d_var 2) (da_cons (d_op op_addAll lop_add d_int (d_callB (call_min3Nu c.calm) lc_min3 rfl T.b_min (by decide +kernel) (da_cons (d_ixA (RoomG.u1 c.hr) (d_var 0) (d_var 3)) (da_cons (d_ixA (RoomG.u1 c.hr) (d_var 0) (d_var 4)) (da_cons (d_ixA (RoomG.u1 c.hr) (d_var 0) (d_op op_sub lop_sub (d_op op_sub lop_sub (d_op op_sub lop_sub (d_var 1) d_int) (d_var 3)) (d_var 4))) da_nil))))) da_nil))))))))
      (dss_one (ds_expr (d_bm PySem.F.plainAttrs_list PySem.F.slot_list_append PySem.F.type_list_append mt_append lm_app (d_var 0) (da_cons (d_var 2) da_nil)))))))
      (dss_one (ds_ret (d_frz (d_var 0))))))

theorem core__law_due (T : Tx K mg base) {f : Addr} (F : ∃ fd, FunD K "_law_due" "_law_due" (defArgs s__law_due) (defBody s__law_due) (defScope s__law_due) [] [] f fd) : FnC (clw K P w) P w K mg base 1 "_law_due" "_law_due" (defArgs s__law_due) (defBody s__law_due) (defScope s__law_due) f ["_law_free"] sp__law_due := by
  refine fnC_of (k := 0) (t := t__law_due) F sc__law_due (fun cdv A outer s H E c => ?_) pure__law_due
  exact (dss_cons (ds_set 1 sc__law_due.nd d_int)
      (dss_cons (ds_while c.po (d_tcmp op_ge (lop_cmp _) (d_var 0) d_int (nomark _)) (dss_one (ds_par (i := 0) (j := 1) c.calm sc__law_due.nd (da_cons (d_op op_fdivW lop_fdiv (d_op op_sub lop_sub (d_var 0) d_int) d_int) (da_cons (d_op op_addAll lop_add (d_var 1) d_int) da_nil)))))
      (dss_one (ds_ret (d_var 1)))))

theorem core_law (T : Tx K mg base) (F : ∃ fd, FunD K "law" "law" (defArgs s_law) (defBody s_law) (defScope s_law) [] [] (He.fAd K ("law", none)) fd) : FnC (clw K P w) P w K mg base 7 "law" "law" (defArgs s_law) (defBody s_law) (defScope s_law) (He.fAd K ("law", none)) ["_law_script"] sp_law := by
  have G0 : FnTB (clw K P w) P w K mg base 5 "_law_said" "_law_call" sp__law_said := (core__law_said T T.f__law_said).thk T.g__law_said hb__law_said
  have G1 : FnB (clw K P w) P w K mg base 4 "placed" ["free"] sp_placed := (core_placed T T.f_placed).fn T.g_placed hb_placed
  have G2 : FnB (clw K P w) P w K mg base 4 "lasting" ["free"] sp_lasting := (core_lasting T T.f_lasting).fn T.g_lasting hb_lasting
  have G3 : FnB (clw K P w) P w K mg base 2 "_law_pick" ["_law_rng_here", "_law_items"] sp__law_pick := (core__law_pick T T.f__law_pick).fn T.g__law_pick hb__law_pick
  have G4 : FnB (clw K P w) P w K mg base 1 "_law_due" ["_law_free"] sp__law_due := (core__law_due T T.f__law_due).fn T.g__law_due hb__law_due
  have G5 : FnB (clw K P w) P w K mg base 1 "_law_draw" ["_law_rng_here", "_law_limit"] sp__law_draw := (core__law_draw T T.f__law_draw).fn T.g__law_draw hb__law_draw
  have G6 : FnB (clw K P w) P w K mg base 1 "_law_rng" ["_law_cell"] sp__law_rng := (core__law_rng T T.f__law_rng).fn T.g__law_rng hb__law_rng
  have G7 : FnB (clw K P w) P w K mg base 1 "_law_known" [] sp__law_known := (core__law_known T T.f__law_known).fn T.g__law_known hb__law_known
  obtain ⟨h, tk⟩ := T.tk_law
  have tb := T.tb_law
  have tc := tabs_cl tk.nz
  refine fnC_ofT (k := 6) (t := t_law) tk F sc_law (fun A outer s H E c => ?_) pure_law
  have hmT : (tabD K ("law", none), ((cxOf (L2.CX P w) P w K mg base N_law "law" (defScope s_law) (He.fAd K ("law", none)) (.ref (codeF K (He.fAd K ("law", none)))) A outer s H E).env.qual ++ "<lambda>" : Str)) ∈ tabsOf (cl K) := by
    rw [tc]; exact List.mem_singleton.mpr (Prod.ext rfl (show ("law" ++ ".<locals>." ++ "<lambda>" : Str) = "law.<locals>.<lambda>" by decide +kernel))
  have hu : ∀ p ∈ tabsOf (cl K), p.1 = tabD K ("law", none) → p.2 = ((cxOf (L2.CX P w) P w K mg base N_law "law" (defScope s_law) (He.fAd K ("law", none)) (.ref (codeF K (He.fAd K ("law", none)))) A outer s H E).env.qual ++ "<lambda>" : Str) := fun p hp _ => by
    rw [tc] at hp; rw [List.mem_singleton.mp hp]; exact (show ("law.<locals>.<lambda>" : Str) = "law" ++ ".<locals>." ++ "<lambda>" by decide +kernel)
  exact (dss_cons (ds_if (d_tcmp (op_neA c.hr.room.units) lop_ne (d_lc (own := [("_law_free", 6)]) c.calm sc_law.nd (di_range1 rfl T.b_range d_int) (blkOk_by (own := [("_law_free", 6)]) (N := N_law) (sc := defScope s_law) (by decide +kernel)) (fun _ _ _ _ _ => (dg_name 6 sc_law.nd)) (fun _ _ _ _ _ => dts_nil) (fun _ _ _ _ _ => (d_fn c.blk G2 (by decide) rfl (da_cons (d_var 6) da_nil)))) (d_fn0 c G7 (by decide) rfl) (nomark _)) (dss_one (ds_ret d_bl)) dss_nil)
      (dss_cons (ds_for c.po c.calm (di_seq (d_slice (d_op op_addAll lop_add (d_var 0) (d_lst (da_cons d_int da_nil))) do_none (do_some d_int))) (dg_name 1 sc_law.nd) (dss_cons (ds_set 2 sc_law.nd (d_fn c G6 (by decide) rfl (da_cons (d_var 1) da_nil)))
      (dss_cons (ds_for c.po c.calm (di_range1 rfl T.b_range d_int) (dg_name 3 sc_law.nd) (dss_cons (ds_set 4 sc_law.nd d_int)
      (dss_cons (ds_for c.po c.calm (di_range1 rfl T.b_range (d_fn c G5 (by decide) rfl (da_cons (d_var 2) (da_cons d_int da_nil)))) (dg_name 5 sc_law.nd) (dss_one (ds_set 4 sc_law.nd (d_op op_addAll lop_add (d_op op_mul lop_mul d_int (d_var 4)) d_int))))
      (dss_cons (ds_set 6 sc_law.nd (d_fn c G3 (by decide) rfl (da_cons (d_var 2) (da_cons (d_lst (da_cons (d_var 4) (da_cons (d_callB ((cr_max c.calm).or (call_max2 c.calm)) lc_max rfl T.b_max (by decide +kernel) (da_cons d_int (da_cons (d_op op_sub lop_sub (d_var 4) d_int) da_nil))) (da_cons (d_op op_addAll lop_add (d_var 4) d_int) (da_cons (d_fn c G5 (by decide) rfl (da_cons (d_var 2) (da_cons (d_op op_pow lop_pow d_int d_int) da_nil))) (da_cons (d_op op_pow lop_pow d_int d_int) da_nil)))))) da_nil))))
      (dss_cons (ds_set 6 sc_law.nd (d_callB ((cr_min c.calm).or (call_min2 c.calm)) lc_min rfl T.b_min (by decide +kernel) (da_cons (d_op op_pow lop_pow d_int d_int) (da_cons (d_var 6) da_nil))))
      (dss_one (ds_if (DW.dt (dw_or (d_tcmp (op_neA c.hr.room.units) lop_ne (d_callB (call_repr c.hr) lc_repr rfl T.b_repr (by decide +kernel) (da_cons (d_fn c G2 (by decide) rfl (da_cons (d_var 6) da_nil)) da_nil)) (d_callB (call_repr c.hr) lc_repr rfl T.b_repr (by decide +kernel) (da_cons (d_fn c G4 (by decide) rfl (da_cons (d_var 6) da_nil)) da_nil)) (nomark _)) (dw_or1 (d_tcmp (op_neA c.hr.room.units) lop_ne (d_cmp op_isN lop_isN (d_fn c G1 (by decide) rfl (da_cons (d_var 6) da_nil)) d_non (nomark _)) (d_cmp op_lt (lop_cmp _) (d_var 6) d_int (nomark _)) (nomark _))))) (dss_one (ds_ret d_bl)) dss_nil)))))))
      (dss_cons (ds_set 7 sc_law.nd (d_fn c G3 (by decide) rfl (da_cons (d_var 2) (da_cons (d_lst (da_cons (d_un un_neg lun_neg d_int) (da_cons (d_op op_addAll lop_add (d_op op_pow lop_pow d_int d_int) d_int) (da_cons d_non (da_cons d_bl (da_cons d_bl (da_cons d_str (da_cons (d_lst (da_cons d_int da_nil)) (da_cons (d_tup da_nil) (da_cons d_dict0 da_nil)))))))))) da_nil))))
      (dss_one (ds_if (d_tcmp (op_neA c.hr.room.units) lop_ne (d_lst (da_cons (d_lamcall (c.mono (by decide)) G0 rfl tb rfl hmT hu (lamS2_by (show lamSB2 N_law (defScope s_law) _ = true by decide +kernel)) (.no rfl (fun _ _ _ _ _ => rfl)) (fun _ _ _ _ _ _ _ cL => (d_fn cL G2 (by decide) rfl (da_cons (d_var 7) da_nil)))) (da_cons (d_lamcall (c.mono (by decide)) G0 rfl tb rfl hmT hu (lamS2_by (show lamSB2 N_law (defScope s_law) _ = true by decide +kernel)) (.one "_law_a" _ _ _ rfl rfl (fun _ _ _ _ _ _ _ _ => ⟨_, rfl, rfl⟩)) (fun _ _ _ _ _ _ _ cL => (d_fn cL G1 (by decide) rfl (da_cons (d_var 7) da_nil)))) da_nil))) (d_bin bin_repD (d_lstM (da_cons (d_callB ((call_repr c.hr).or (call_reprX T.sm (by have := c.hr.room.un; omega) c.hr.gd)) (lc_reprA lc_repr) rfl T.b_repr (by decide +kernel) (da_cons (d_var 7) da_nil)) da_nil)) d_int) (nomark _)) (dss_one (ds_ret d_bl)) dss_nil))))))
      (dss_one (ds_ret d_bl))))

end
end LawProof

set_option Elab.async false
set_option linter.all false
set_option maxRecDepth 100000
set_option maxHeartbeats 4000000
set_option autoImplicit true
namespace LawProof
open PySem L2 DL
def d_is_integer : He.DefD := ⟨("is_integer", none), "is_integer", "is_integer", defArgs s_is_integer, defBody s_is_integer, defScope s_is_integer, [], []⟩
def d_check_free : He.DefD := ⟨("check_free", none), "check_free", "check_free", defArgs s_check_free, defBody s_check_free, defScope s_check_free, [], []⟩
def d_lasting : He.DefD := ⟨("lasting", none), "lasting", "lasting", defArgs s_lasting, defBody s_lasting, defScope s_lasting, [], []⟩
def d_placed : He.DefD := ⟨("placed", none), "placed", "placed", defArgs s_placed, defBody s_placed, defScope s_placed, [], []⟩
def d__law_rng : He.DefD := ⟨("_law_rng", none), "_law_rng", "_law_rng", defArgs s__law_rng, defBody s__law_rng, defScope s__law_rng, [], []⟩
def d__law_draw : He.DefD := ⟨("_law_draw", none), "_law_draw", "_law_draw", defArgs s__law_draw, defBody s__law_draw, defScope s__law_draw, [], []⟩
def d__law_pick : He.DefD := ⟨("_law_pick", none), "_law_pick", "_law_pick", defArgs s__law_pick, defBody s__law_pick, defScope s__law_pick, [], []⟩
def d__law_said : He.DefD := ⟨("_law_said", none), "_law_said", "_law_said", defArgs s__law_said, defBody s__law_said, defScope s__law_said, [], []⟩
def d__law_known : He.DefD := ⟨("_law_known", none), "_law_known", "_law_known", defArgs s__law_known, defBody s__law_known, defScope s__law_known, [], []⟩
def d__law_due : He.DefD := ⟨("_law_due", none), "_law_due", "_law_due", defArgs s__law_due, defBody s__law_due, defScope s__law_due, [], []⟩
def d_law : He.DefD := ⟨("law", none), "law", "law", defArgs s_law, defBody s_law, defScope s_law, [], []⟩
def d_NoCount____init__ : He.DefD := ⟨("NoCount", some "__init__"), "__init__", "NoCount.__init__", defArgs s_NoCount___init__, defBody s_NoCount___init__, defScope s_NoCount___init__, [], []⟩
def fn : List He.DefD := [d_is_integer, d_check_free, d_lasting, d_placed, d__law_rng, d__law_draw, d__law_pick, d__law_said, d__law_known, d__law_due, d_law, d_NoCount____init__]
def fa : List He.Fa := [.glo "is_integer", .glo "check_free", .glo "lasting", .glo "placed", .glo "_law_rng", .glo "_law_draw", .glo "_law_pick", .glo "_law_said", .glo "_law_known", .glo "_law_due", .glo "law", .glo "NoCount", .glo "ForestError", .free "isinstance", .free "int", .free "bool", .free "abs", .free "len", .free "repr", .free "range", .free "max", .free "min", .int "MOST_VALUE" 1000000000000000000000000000000]
def ex (K : PySem.W.Frag) : Bool := oexB K (He.ga K "NoCount") && (xnB K (He.ga K "NoCount") (He.fAd K ("NoCount", some "__init__")) ["free"] && (mtB K (cl K) mtT0 && (smB K && (xfOkB K (cl K) [29] "free" && true))))
theorem ex_0 {K : PySem.W.Frag} (h : ex K = true) : oexB K (He.ga K "NoCount") = true := (He.ba h).1
theorem ex_1 {K : PySem.W.Frag} (h : ex K = true) : xnB K (He.ga K "NoCount") (He.fAd K ("NoCount", some "__init__")) ["free"] = true := (He.ba (He.ba h).2).1
theorem ex_2 {K : PySem.W.Frag} (h : ex K = true) : mtB K (cl K) mtT0 = true := (He.ba (He.ba (He.ba h).2).2).1
theorem ex_3 {K : PySem.W.Frag} (h : ex K = true) : smB K = true := (He.ba (He.ba (He.ba (He.ba h).2).2).2).1
theorem ex_4 {K : PySem.W.Frag} (h : ex K = true) : xfOkB K (cl K) [29] "free" = true := (He.ba (He.ba (He.ba (He.ba (He.ba h).2).2).2).2).1
abbrev R : PySem.W.OpenRow := PySem.W.OpenLaw.row PySem.Challenge.rw_forestrows_k44_how_long_a_gap_lasts
def ts : List (Str × Option Str) := [("law", none)]
abbrev hk : PySem.W.Hook := DL.hookT 4000 ts fa fn ex
abbrev ob (s : PySem.W.SharedT) : He.AlD × (Bool × Bool) := DL.obsT 4000 ts fa fn ex (HandSHeadRun.getT s)
theorem ob_eq (s : PySem.W.SharedT) : ob s = hk.obs s.abs := DL.obsT_eq (HandSHeadRun.getT_eq s)
def loose : List PySem.Str := (["_wall", "__name__", "ForestError", "NoCount", "MOST_VALUE", "is_integer", "check_free", "lasting", "placed", "_law_rng", "_law_draw", "_law_pick", "_law_said", "_law_known", "_law_due"] : List PySem.Str)
abbrev vq : Program := PySem.W.view R.prog [18]
open PySem PySem.W PySem.Calls PyProof.Rows in
theorem run1 (w : World) (os : OsState) : (HandSHeadRun.endF (HandSHeadRun.stepQ (HandSHeadRun.denQ HandSHeadRun.tabQ) R.prog w) 20000 R.prog w os).map (fun s => (HandSHeadRun.looksF R.prog (boot_heap w.params) s.abs, HandSHeadRun.seenQ vq loose (importedModules R.prog.main.body) (fun s => PySem.W.xlAt vq [] s && PySem.W.recOk R.toRowW.records s) s.abs)) = some (true, PySem.W.openGood vq loose) := by
  kernel_rfl
theorem run2 (w : World) (os : OsState) : (HandSHeadRun.endF (HandSHeadRun.stepQ (HandSHeadRun.denQ HandSHeadRun.tabQ) R.prog w) 20000 R.prog w os).map (fun s => fa.all fun f => f.ok (cutTab (He.frG (HandSHeadRun.getT s) (List.range 4000)) ts)) = some true := by
  kernel_rfl
theorem run3 (w : World) (os : OsState) : (HandSHeadRun.endF (HandSHeadRun.stepQ (HandSHeadRun.denQ HandSHeadRun.tabQ) R.prog w) 20000 R.prog w os).map (fun s => (fn.all fun d => d.ok (cutTab (He.frG (HandSHeadRun.getT s) (List.range 4000)) ts), fn.map fun d => He.fnW (cutTab (He.frG (HandSHeadRun.getT s) (List.range 4000)) ts) d.at_)) = some (true, fn.map He.DefD.val) := by
  kernel_rfl
theorem run4 (w : World) (os : OsState) : (HandSHeadRun.endF (HandSHeadRun.stepQ (HandSHeadRun.denQ HandSHeadRun.tabQ) R.prog w) 20000 R.prog w os).map (fun s => (ex (cutTab (He.frG (HandSHeadRun.getT s) (List.range 4000)) ts), ts.all (tabOk (He.frG (HandSHeadRun.getT s) (List.range 4000)) (cutTab (He.frG (HandSHeadRun.getT s) (List.range 4000)) ts)))) = some (true, true) := by
  kernel_rfl
theorem run (w : World) : HandSHeadRun.RunEq R vq hk ob 20000 loose w := DL.runT_of (run1 w) (run2 w) (run3 w) (run4 w)
theorem tx_of {K : PySem.W.Frag} {h : Heap} {mg : Str → Option Value} (X : K.In h) (G : h.Ns mainGlobals mg) (c : He.SaysD fa fn K) (e : ex K = true) (tk_law : ∃ h, TabK h K ("law", none)) (tb_law : LamX.TabB base mg (codeF K (He.fAd K ("law", none))) (tabD K ("law", none))) : Tx K mg base :=
  { f_is_integer := c.def_ 0 (d := d_is_integer) rfl,
    f_check_free := c.def_ 1 (d := d_check_free) rfl,
    f_lasting := c.def_ 2 (d := d_lasting) rfl,
    f_placed := c.def_ 3 (d := d_placed) rfl,
    f__law_rng := c.def_ 4 (d := d__law_rng) rfl,
    f__law_draw := c.def_ 5 (d := d__law_draw) rfl,
    f__law_pick := c.def_ 6 (d := d__law_pick) rfl,
    f__law_said := c.def_ 7 (d := d__law_said) rfl,
    f__law_known := c.def_ 8 (d := d__law_known) rfl,
    f__law_due := c.def_ 9 (d := d__law_due) rfl,
    f_law := c.def_ 10 (d := d_law) rfl,
    f_NoCount____init__ := c.def_ 11 (d := d_NoCount____init__) rfl,
    g_is_integer := He.glo_ok X G (c.fact 0 (f := .glo "is_integer") rfl),
    g_check_free := He.glo_ok X G (c.fact 1 (f := .glo "check_free") rfl),
    g_lasting := He.glo_ok X G (c.fact 2 (f := .glo "lasting") rfl),
    g_placed := He.glo_ok X G (c.fact 3 (f := .glo "placed") rfl),
    g__law_rng := He.glo_ok X G (c.fact 4 (f := .glo "_law_rng") rfl),
    g__law_draw := He.glo_ok X G (c.fact 5 (f := .glo "_law_draw") rfl),
    g__law_pick := He.glo_ok X G (c.fact 6 (f := .glo "_law_pick") rfl),
    g__law_said := He.glo_ok X G (c.fact 7 (f := .glo "_law_said") rfl),
    g__law_known := He.glo_ok X G (c.fact 8 (f := .glo "_law_known") rfl),
    g__law_due := He.glo_ok X G (c.fact 9 (f := .glo "_law_due") rfl),
    g_law := He.glo_ok X G (c.fact 10 (f := .glo "law") rfl),
    g_NoCount := He.glo_ok X G (c.fact 11 (f := .glo "NoCount") rfl),
    g_ForestError := He.glo_ok X G (c.fact 12 (f := .glo "ForestError") rfl),
    oex_NoCount := oexB_ok (ex_0 e),
    xn_NoCount := ex_1 e,
    mt := mtB_ok (ex_2 e),
    sm := smB_ok (ex_3 e),
    xf_free := xfOkB_ok (ex_4 e),
    b_isinstance := He.free_ok X G (c.fact 13 (f := .free "isinstance") rfl),
    b_int := He.free_ok X G (c.fact 14 (f := .free "int") rfl),
    b_bool := He.free_ok X G (c.fact 15 (f := .free "bool") rfl),
    b_abs := He.free_ok X G (c.fact 16 (f := .free "abs") rfl),
    b_len := He.free_ok X G (c.fact 17 (f := .free "len") rfl),
    b_repr := He.free_ok X G (c.fact 18 (f := .free "repr") rfl),
    b_range := He.free_ok X G (c.fact 19 (f := .free "range") rfl),
    b_max := He.free_ok X G (c.fact 20 (f := .free "max") rfl),
    b_min := He.free_ok X G (c.fact 21 (f := .free "min") rfl),
    c_MOST_VALUE := He.int_ok X G (c.fact 22 (f := .int "MOST_VALUE" 1000000000000000000000000000000) rfl),
    tk_law := tk_law,
    tb_law := tb_law }
end LawProof
open PySem PySem.W PySem.Calls PyProof.Rows
set_option maxRecDepth 100000 in
set_option maxHeartbeats 0 in
theorem PySem.Challenge.cw_forestrows_k44_how_long_a_gap_lasts_holds : PySem.Challenge.rw_forestrows_k44_how_long_a_gap_lasts.Holds := by
  w_on; o_law
  refine HandSHeadRun.head_any (r := OpenLaw.row PySem.Challenge.rw_forestrows_k44_how_long_a_gap_lasts) (q := view (OpenLaw.row PySem.Challenge.rw_forestrows_k44_how_long_a_gap_lasts).prog [18]) (H := LawProof.hk) (ob := LawProof.ob) (M := 20000) (loose := LawProof.loose) (d := HandSHeadRun.topDef (OpenLaw.row PySem.Challenge.rw_forestrows_k44_how_long_a_gap_lasts).prog 18) (kwd := []) LawProof.ob_eq
    (by kernel_rfl) (fun s => by kernel_rfl) LawProof.run (by kernel_rfl) (by kernel_rfl) (by kernel_rfl) (by rfl) (by first | assumption | decide +kernel) (by decide +kernel) ⟨rfl, rfl, rfl, rfl, rfl, by decide +kernel⟩ ?hw ?hc
  case hw => w_witness2
  case hc =>
    refine DL.walk_DT (l := PySem.Challenge.rw_forestrows_k44_how_long_a_gap_lasts) (n := 63) (k := 7) (x := "_law_script") rfl (by decide) (by kernel_rfl) ⟨⟨rfl, by decide, by decide⟩, rfl⟩ ?F
    intro w mg fa h Y G hmg0
    obtain ⟨K0, KX0, c1, c2, c3⟩ := Y
    have KX := DL.cut_in (ts := LawProof.ts) KX0
    have tk : ∀ d ∈ LawProof.ts, DL.TabK h (DL.cutTab K0 LawProof.ts) d := fun d hd => DL.tabK_of KX0 (List.all_eq_true.mp c3 d hd)
    generalize DL.cutTab K0 LawProof.ts = K at KX c1 c2 tk
    have hmg : mg ("law" : PySem.Str) = some (.ref fa) := by
      have e : (HandSHeadRun.topDef (OpenLaw.row PySem.Challenge.rw_forestrows_k44_how_long_a_gap_lasts).prog 18).name = ("law" : PySem.Str) := by kernel_rfl
      rw [← e]
      exact hmg0
    have tk0 := tk ("law", none) (List.mem_singleton.mpr rfl)
    refine ⟨LawProof.clw K PySem.Challenge.rw_forestrows_k44_how_long_a_gap_lasts.prog w, K, LawProof.sp_law, DL.csOf K LawProof.ts, fun q hq => ?_, KX, DL.tabs_at KX tk, LawProof.law_sp, fun base KB NB TBs => ?_⟩
    · have hq : q ∈ DL.tabsOf (LawProof.cl K) := hq
      rw [LawProof.tabs_cl tk0.nz] at hq
      rw [List.mem_singleton.mp hq]
      exact List.mem_singleton.mpr rfl
    have T := LawProof.tx_of KB NB c1 c2 ⟨h, tk0⟩ (TBs _ (List.mem_singleton.mpr rfl))
    have e := hmg.symm.trans T.g_law
    cases e
    obtain ⟨f, fd2, h1, h2, h3, h4⟩ := (LawProof.core_law (P := PySem.Challenge.rw_forestrows_k44_how_long_a_gap_lasts.prog) (w := w) (base := base) T T.f_law).fn T.g_law LawProof.hb_law
    have e1 := h1.symm.trans T.g_law
    cases e1
    exact ⟨fd2, h3, h4⟩
